import PyProof.Rows.All
import Wide.All
import OpenK.AllK
import Wide.FinOn
import HandS.ForMost
import HandS.ForExc
import HandS.Defaults
import HandS.HeadEnd
import HandS.HeadHook1
import HandS.HeadHook2
import HandS.Head0
import HandS.Head1
import HandS.Head2
import HandS.ReCall
import HandS.Replace
import HandS.Codes
import HandS.Deep
import HandS.DictComp
import HandS.ClsMeth
import HandS.SetKeys
import HandS.NoneIn
import HandS.TupAny
import HandS.TupLe
import HandS.Small
import HandS.CallSlots
import HandS.Property
import HandS.Style
import HandS.IsInst
import HandS.SortInts
import HandS.Zip
import KE.GoesMore
import HandS.Strs
import HandS.HeadNt
import PySem.Challenge.RW_windowpicks_k44_edits_known_by_hand
set_option Elab.async false
set_option linter.all false
set_option maxRecDepth 100000
/-! A0: plain data D, its footprint in an abstract heap, the steps of heaps. -/
namespace Wpk
open PySem PySem.Spec PyProof.Rows L2

/-- plain data; the flag of a list, a dict, an instance: it is owned, may still be changed -/
inductive D where
  | non | bl (b : Bool) | int (i : Int) | str (s : List Nat)
  | tup (xs : List D) | lst (m : Bool) (xs : List D)
  | dct (m t : Bool) (ks : List D) (vs : List D)
  | ins (m : Bool) (c : Nat) (fs : List Str) (vs : List D)
  | ty (n : String) | cls (c : Nat) | fn (f : Nat)
  | ksq (xs : List D)
  deriving Inhabited

mutual
/-- nothing of it may be changed any more -/
def frz : D → D
  | .tup xs => .tup (frzL xs)
  | .ksq xs => .ksq (frzL xs)
  | .lst _ xs => .lst false (frzL xs)
  | .dct _ t ks vs => .dct false t ks (frzL vs)
  | .ins _ c fs vs => .ins false c fs (frzL vs)
  | d => d
def frzL : List D → List D
  | [] => []
  | d :: ds => frz d :: frzL ds
end
mutual
def isF : D → Bool
  | .tup xs => isFL xs
  | .ksq xs => isFL xs
  | .lst m xs => !m && isFL xs
  | .dct m _ _ vs => !m && isFL vs
  | .ins m _ _ vs => !m && isFL vs
  | _ => true
def isFL : List D → Bool
  | [] => true
  | d :: ds => isF d && isFL ds
end
theorem frzL_map : ∀ xs : List D, frzL xs = xs.map frz
  | [] => rfl
  | x :: xs => by rw [frzL, frzL_map xs]; rfl
theorem isFL_all : ∀ xs : List D, isFL xs = xs.all isF
  | [] => rfl
  | x :: xs => by rw [isFL, isFL_all xs]; rfl
mutual
theorem frz_isF : ∀ d : D, isF d = true → frz d = d
  | .tup xs, h => by
    rw [isF] at h
    rw [frz, frzL_isF xs h]
  | .ksq xs, h => by
    rw [isF] at h
    rw [frz, frzL_isF xs h]
  | .lst m xs, h => by
    rw [isF, Bool.and_eq_true, Bool.not_eq_true'] at h
    rw [frz, frzL_isF xs h.2, h.1]
  | .dct m t ks vs, h => by
    rw [isF, Bool.and_eq_true, Bool.not_eq_true'] at h
    rw [frz, frzL_isF vs h.2, h.1]
  | .ins m c fs vs, h => by
    rw [isF, Bool.and_eq_true, Bool.not_eq_true'] at h
    rw [frz, frzL_isF vs h.2, h.1]
  | .non, _ | .bl _, _ | .int _, _ | .str _, _ | .ty _, _ | .cls _, _ | .fn _, _ => rfl
theorem frzL_isF : ∀ ds : List D, isFL ds = true → frzL ds = ds
  | [], _ => rfl
  | d :: ds, h => by
    rw [isFL, Bool.and_eq_true] at h
    rw [frzL, frz_isF d h.1, frzL_isF ds h.2]
end
mutual
theorem isF_frz : ∀ d : D, isF (frz d) = true
  | .tup xs => by rw [frz, isF]; exact isFL_frz xs
  | .ksq xs => by rw [frz, isF]; exact isFL_frz xs
  | .lst m xs => by rw [frz, isF, isFL_frz xs]; rfl
  | .dct m t ks vs => by rw [frz, isF, isFL_frz vs]; rfl
  | .ins m c fs vs => by rw [frz, isF, isFL_frz vs]; rfl
  | .non | .bl _ | .int _ | .str _ | .ty _ | .cls _ | .fn _ => rfl
theorem isFL_frz : ∀ ds : List D, isFL (frzL ds) = true
  | [] => rfl
  | d :: ds => by rw [frzL, isFL, isF_frz d, isFL_frz ds]; rfl
end

/-- where the program's things stand -/
structure Wd where
  K : PySem.W.Frag
  cA : Nat → Addr
  fA : Nat → Addr

def sOf (s : List Nat) : Str := ⟨s.toArray⟩
def keyD : D → Option Key
  | .int i => some (.inl i)
  | .str s => some (.inr (sOf s))
  | _ => none
def keyT : D → Option (List Key)
  | .tup xs => xs.mapM keyD
  | _ => none
/-- what a dict's object is -/
def DHO (t : Bool) (ks : List D) (us : List V) (o : HO) : Prop :=
  if t = true then ∃ keys : List (List Key), ks.map keyT = keys.map some ∧ keys.length = us.length ∧ o = .dT (keys.zip us)
  else ∃ keys : List Key, ks.map keyD = keys.map some ∧ keys.length = us.length ∧ o = .dK (keys.zip us)

mutual
/-- v is the data d: what is frozen of it stands in G, what is owned at the places F in H -/
def Ow (W : Wd) (G H : Hp) : D → List Addr → V → Prop
  | .non, F, v => F = [] ∧ v = .non
  | .bl b, F, v => F = [] ∧ v = .bl b
  | .int i, F, v => F = [] ∧ v = .int i
  | .str s, F, v => F = [] ∧ v = .str (sOf s)
  | .ty n, F, v => F = [] ∧ v = .ty n
  | .cls c, F, v => F = [] ∧ v = .ref (W.cA c)
  | .fn f, F, v => F = [] ∧ v = .ref (W.fA f)
  | .tup xs, F, v => F = [] ∧ ∃ a vs, v = .ref a ∧ SqT W.K G a vs ∧ OwL W G H xs [] vs
  | .ksq xs, F, v => F = [] ∧ ∃ a vs, v = .ref a ∧ SqL W.K G a vs ∧ OwL W G H xs [] vs
  | .lst m xs, F, v => if m = true then ∃ a vs F', v = .ref a ∧ F = a :: F' ∧ G a = none ∧ H a = some (.lst vs) ∧ OwL W G H xs F' vs
      else F = [] ∧ ∃ a vs, v = .ref a ∧ Rd G a (.lst vs) ∧ OwL W G H xs [] vs
  | .dct m t ks xs, F, v => if m = true then ∃ a vs F' o, v = .ref a ∧ F = a :: F' ∧ G a = none ∧ H a = some o ∧ DHO t ks vs o ∧ OwL W G H xs F' vs
      else F = [] ∧ ∃ a vs o, v = .ref a ∧ Rd G a o ∧ DHO t ks vs o ∧ OwL W G H xs [] vs
  | .ins m c fs xs, F, v => if m = true then ∃ a dx vs F', v = .ref a ∧ F = a :: F' ∧ G a = none ∧ H a = some (.ins (W.cA c) dx (fs.zip vs)) ∧ fs.length = vs.length ∧ OwL W G H xs F' vs
      else F = [] ∧ ∃ a dx vs, v = .ref a ∧ G a = some (.ins (W.cA c) dx (fs.zip vs)) ∧ fs.length = vs.length ∧ OwL W G H xs [] vs
def OwL (W : Wd) (G H : Hp) : List D → List Addr → List V → Prop
  | [], F, vs => F = [] ∧ vs = []
  | d :: ds, F, vs => ∃ F1 F2 v vs', F = F1 ++ F2 ∧ vs = v :: vs' ∧ Ow W G H d F1 v ∧ OwL W G H ds F2 vs'
end

section
variable {W : Wd} {G G' H H' : Hp}
def isFrz : HO → Bool
  | .frz _ _ => true
  | _ => false
def isDk : HO → Bool
  | .dK _ => true
  | .dT _ => true
  | _ => false
/-- the same, but for dicts that are held as they are -/
def Sm (G H : Hp) : Prop := ∀ b o, G b = some o → H b = some o ∨ (isDk o = true ∧ ∃ x, H b = some (.frz x o))
theorem Sm.refl {G : Hp} : Sm G G := fun _ _ z => .inl z
theorem Sm.trans {G H K : Hp} (a : Sm G H) (b : Sm H K) : Sm G K := fun c o h => by
  rcases a c o h with z | ⟨d, x, z⟩
  · exact b c o z
  · rcases b c _ z with z | ⟨d', _⟩
    · exact .inr ⟨d, x, z⟩
    · cases d'
theorem Sm.of {G H : Hp} (s : ∀ b o, G b = some o → H b = some o) : Sm G H := fun b o h => .inl (s b o h)
theorem Sm.at {G H : Hp} (s : Sm G H) {b : Addr} {o : HO} (h : G b = some o) : ∃ o', H b = some o' := by
  rcases s b o h with z | ⟨_, x, z⟩
  · exact ⟨_, z⟩
  · exact ⟨_, z⟩
theorem Sm.free {G H : Hp} (s : Sm G H) {b : Addr} (h : H b = none) : G b = none := by
  cases e : G b with
  | none => rfl
  | some o =>
    obtain ⟨o', z⟩ := s.at e
    rw [h] at z
    cases z
/-- what may be read of the one may be read of the other -/
structure Le (G G' : Hp) : Prop where
  rd : ∀ b o, isFrz o = false → Rd G b o → Rd G' b o
  ins : ∀ b c dx fs, G b = some (.ins c dx fs) → G' b = some (.ins c dx fs)
theorem le_of (s : Sm G G') : Le G G' := ⟨fun b o nf h => by
    rcases h with h | ⟨x, h⟩
    · rcases s b o h with z | ⟨_, y, z⟩
      · exact .inl z
      · exact .inr ⟨y, z⟩
    · rcases s b _ h with z | ⟨d, _⟩
      · exact .inr ⟨x, z⟩
      · exact absurd d (by simp [isDk]), fun b c dx fs h => by
    rcases s b _ h with z | ⟨d, _⟩
    · exact z
    · exact absurd d (by simp [isDk])⟩
theorem Le.sqT {a : Addr} {vs : List V} (s : Le G G') (h : SqT W.K G a vs) : SqT W.K G' a vs := by
  rcases h with h | h
  · exact .inl (s.rd _ _ rfl h)
  · exact .inr h
theorem Le.sqL {a : Addr} {vs : List V} (s : Le G G') (h : SqL W.K G a vs) : SqL W.K G' a vs := by
  rcases h with h | h
  · exact .inl (s.rd _ _ rfl h)
  · exact .inr h
theorem DHO.nf {t : Bool} {ks : List D} {us : List V} {o : HO} (h : DHO t ks us o) : isFrz o = false := by
  unfold DHO at h
  split at h
  · obtain ⟨_, _, _, rfl⟩ := h; rfl
  · obtain ⟨_, _, _, rfl⟩ := h; rfl
mutual
/-- the frame: nothing that it leans on has changed -/
theorem Ow.fram (s : Le G G') : ∀ {d : D} {F : List Addr} {v : V}, Ow W G H d F v → (∀ b ∈ F, G' b = none ∧ H' b = H b) → Ow W G' H' d F v
  | .non, _, _, h, _ | .bl _, _, _, h, _ | .int _, _, _, h, _ | .str _, _, _, h, _ | .ty _, _, _, h, _ | .cls _, _, _, h, _ | .fn _, _, _, h, _ => h
  | .tup xs, F, v, h, k => by
    obtain ⟨e, a, vs, e2, q, l⟩ := h
    exact ⟨e, a, vs, e2, s.sqT q, OwL.fram s l (fun b z => nomatch z)⟩
  | .ksq xs, F, v, h, k => by
    obtain ⟨e, a, vs, e2, q, l⟩ := h
    exact ⟨e, a, vs, e2, s.sqL q, OwL.fram s l (fun b z => nomatch z)⟩
  | .lst true xs, F, v, h, k => by
    obtain ⟨a, vs, F', e, e2, g, hh, l⟩ := h
    subst e2
    exact ⟨a, vs, F', e, rfl, (k a (by simp)).1, (k a (by simp)).2.trans hh, OwL.fram s l fun b z => k b (by simp [z])⟩
  | .lst false xs, F, v, h, k => by
    obtain ⟨e, a, vs, e2, q, l⟩ := h
    exact ⟨e, a, vs, e2, s.rd _ _ rfl q, OwL.fram s l (fun b z => nomatch z)⟩
  | .dct true t ks xs, F, v, h, k => by
    obtain ⟨a, vs, F', o, e, e2, g, hh, dd, l⟩ := h
    subst e2
    exact ⟨a, vs, F', o, e, rfl, (k a (by simp)).1, (k a (by simp)).2.trans hh, dd, OwL.fram s l fun b z => k b (by simp [z])⟩
  | .dct false t ks xs, F, v, h, k => by
    obtain ⟨e, a, vs, o, e2, q, dd, l⟩ := h
    exact ⟨e, a, vs, o, e2, s.rd _ _ dd.nf q, dd, OwL.fram s l (fun b z => nomatch z)⟩
  | .ins true c fs xs, F, v, h, k => by
    obtain ⟨a, dx, vs, F', e, e2, g, hh, dd, l⟩ := h
    subst e2
    exact ⟨a, dx, vs, F', e, rfl, (k a (by simp)).1, (k a (by simp)).2.trans hh, dd, OwL.fram s l fun b z => k b (by simp [z])⟩
  | .ins false c fs xs, F, v, h, k => by
    obtain ⟨e, a, dx, vs, e2, q, dd, l⟩ := h
    exact ⟨e, a, dx, vs, e2, s.ins _ _ _ _ q, dd, OwL.fram s l (fun b z => nomatch z)⟩
theorem OwL.fram (s : Le G G') : ∀ {ds : List D} {F : List Addr} {vs : List V}, OwL W G H ds F vs → (∀ b ∈ F, G' b = none ∧ H' b = H b) → OwL W G' H' ds F vs
  | [], _, _, h, _ => h
  | d :: ds, F, vs, h, k => by
    obtain ⟨F1, F2, v, vs', e, e2, h1, h2⟩ := h
    subst e
    exact ⟨F1, F2, v, vs', rfl, e2, Ow.fram s h1 fun b z => k b (by simp [z]), OwL.fram s h2 fun b z => k b (by simp [z])⟩
end
theorem Ow.frame (s : Sm G G') {d : D} {F : List Addr} {v : V} (h : Ow W G H d F v) (k : ∀ b ∈ F, G' b = none ∧ H' b = H b) : Ow W G' H' d F v := Ow.fram (le_of s) h k
theorem OwL.frame (s : Sm G G') {d : List D} {F : List Addr} {v : List V} (h : OwL W G H d F v) (k : ∀ b ∈ F, G' b = none ∧ H' b = H b) : OwL W G' H' d F v := OwL.fram (le_of s) h k
mutual
theorem Ow.mem : ∀ {d : D} {F : List Addr} {v : V}, Ow W G H d F v → ∀ b ∈ F, G b = none ∧ ∃ o, H b = some o
  | .non, _, _, h | .bl _, _, _, h | .int _, _, _, h | .str _, _, _, h | .ty _, _, _, h | .cls _, _, _, h | .fn _, _, _, h => by
    intro b hb
    rw [h.1] at hb
    exact nomatch hb
  | .tup xs, F, v, h => by
    intro b hb
    rw [h.1] at hb
    exact nomatch hb
  | .ksq xs, F, v, h => by
    intro b hb
    rw [h.1] at hb
    exact nomatch hb
  | .lst true xs, F, v, h => by
    obtain ⟨a, vs, F', e, e2, g, hh, l⟩ := h
    intro b hb
    subst e2
    rcases List.mem_cons.mp hb with e | hb
    · subst e; exact ⟨g, _, hh⟩
    · exact OwL.mem l b hb
  | .lst false xs, F, v, h => by
    intro b hb
    rw [h.1] at hb
    exact nomatch hb
  | .dct true t ks xs, F, v, h => by
    obtain ⟨a, vs, F', o, e, e2, g, hh, dd, l⟩ := h
    intro b hb
    subst e2
    rcases List.mem_cons.mp hb with e | hb
    · subst e; exact ⟨g, _, hh⟩
    · exact OwL.mem l b hb
  | .dct false t ks xs, F, v, h => by
    intro b hb
    rw [h.1] at hb
    exact nomatch hb
  | .ins true c fs xs, F, v, h => by
    obtain ⟨a, dx, vs, F', e, e2, g, hh, dd, l⟩ := h
    intro b hb
    subst e2
    rcases List.mem_cons.mp hb with e | hb
    · subst e; exact ⟨g, _, hh⟩
    · exact OwL.mem l b hb
  | .ins false c fs xs, F, v, h => by
    intro b hb
    rw [h.1] at hb
    exact nomatch hb
theorem OwL.mem : ∀ {ds : List D} {F : List Addr} {vs : List V}, OwL W G H ds F vs → ∀ b ∈ F, G b = none ∧ ∃ o, H b = some o
  | [], _, _, h => by
    intro b hb
    rw [h.1] at hb
    exact nomatch hb
  | d :: ds, F, vs, h => by
    obtain ⟨F1, F2, v, vs', e, e2, h1, h2⟩ := h
    intro b hb
    subst e
    rcases List.mem_append.mp hb with hb | hb
    · exact Ow.mem h1 b hb
    · exact OwL.mem h2 b hb
end
mutual
/-- frozen: its places go over to G' -/
theorem Ow.frz (s : Sm G G') : ∀ {d : D} {F : List Addr} {v : V}, Ow W G H d F v → (∀ b ∈ F, G' b = H b) → Ow W G' H' (Wpk.frz d) [] v
  | .non, _, _, h, _ | .bl _, _, _, h, _ | .int _, _, _, h, _ | .str _, _, _, h, _ | .ty _, _, _, h, _ | .cls _, _, _, h, _ | .fn _, _, _, h, _ => ⟨rfl, h.2⟩
  | .tup xs, F, v, h, k => by
    obtain ⟨e, a, vs, e2, q, l⟩ := h
    exact ⟨rfl, a, vs, e2, (le_of s).sqT q, OwL.frz s l (fun b z => nomatch z)⟩
  | .ksq xs, F, v, h, k => by
    obtain ⟨e, a, vs, e2, q, l⟩ := h
    exact ⟨rfl, a, vs, e2, (le_of s).sqL q, OwL.frz s l (fun b z => nomatch z)⟩
  | .lst true xs, F, v, h, k => by
    obtain ⟨a, vs, F', e, e2, g, hh, l⟩ := h
    subst e2
    exact ⟨rfl, a, vs, e, Rd.of ((k a (by simp)).trans hh), OwL.frz s l fun b z => k b (by simp [z])⟩
  | .lst false xs, F, v, h, k => by
    obtain ⟨e, a, vs, e2, q, l⟩ := h
    exact ⟨rfl, a, vs, e2, (le_of s).rd _ _ rfl q, OwL.frz s l (fun b z => nomatch z)⟩
  | .dct true t ks xs, F, v, h, k => by
    obtain ⟨a, vs, F', o, e, e2, g, hh, dd, l⟩ := h
    subst e2
    exact ⟨rfl, a, vs, o, e, Rd.of ((k a (by simp)).trans hh), dd, OwL.frz s l fun b z => k b (by simp [z])⟩
  | .dct false t ks xs, F, v, h, k => by
    obtain ⟨e, a, vs, o, e2, q, dd, l⟩ := h
    exact ⟨rfl, a, vs, o, e2, (le_of s).rd _ _ dd.nf q, dd, OwL.frz s l (fun b z => nomatch z)⟩
  | .ins true c fs xs, F, v, h, k => by
    obtain ⟨a, dx, vs, F', e, e2, g, hh, dd, l⟩ := h
    subst e2
    exact ⟨rfl, a, dx, vs, e, (k a (by simp)).trans hh, dd, OwL.frz s l fun b z => k b (by simp [z])⟩
  | .ins false c fs xs, F, v, h, k => by
    obtain ⟨e, a, dx, vs, e2, q, dd, l⟩ := h
    exact ⟨rfl, a, dx, vs, e2, (le_of s).ins _ _ _ _ q, dd, OwL.frz s l (fun b z => nomatch z)⟩
theorem OwL.frz (s : Sm G G') : ∀ {ds : List D} {F : List Addr} {vs : List V}, OwL W G H ds F vs → (∀ b ∈ F, G' b = H b) → OwL W G' H' (frzL ds) [] vs
  | [], _, _, h, _ => ⟨rfl, h.2⟩
  | d :: ds, F, vs, h, k => by
    obtain ⟨F1, F2, v, vs', e, e2, h1, h2⟩ := h
    subst e
    exact ⟨[], [], v, vs', rfl, e2, Ow.frz s h1 fun b z => k b (by simp [z]), OwL.frz s h2 fun b z => k b (by simp [z])⟩
end
/-- what is frozen has no places -/
theorem Ow.nil_of : ∀ {d : D} {F : List Addr} {v : V}, Ow W G H d F v → isF d = true → F = [] := by
  intro d F v h hf
  cases d with
  | lst m xs =>
    cases m with
    | true => rw [isF] at hf; cases hf
    | false => exact h.1
  | dct m t ks xs =>
    cases m with
    | true => rw [isF] at hf; cases hf
    | false => exact h.1
  | ins m c fs xs =>
    cases m with
    | true => rw [isF] at hf; cases hf
    | false => exact h.1
  | _ => exact h.1
theorem OwL.nil_of : ∀ {ds : List D} {F : List Addr} {vs : List V}, OwL W G H ds F vs → isFL ds = true → F = []
  | [], _, _, h, _ => h.1
  | d :: ds, F, vs, h, hf => by
    obtain ⟨F1, F2, v, vs', e, e2, h1, h2⟩ := h
    rw [isFL, Bool.and_eq_true] at hf
    rw [e, h1.nil_of hf.1, h2.nil_of hf.2]
    rfl
theorem Ow.keep {d : D} {v : V} (h : Ow W G H d [] v) (s : Sm G G') : Ow W G' H' d [] v := h.frame s fun b z => nomatch z
theorem OwL.keep {ds : List D} {vs : List V} (h : OwL W G H ds [] vs) (s : Sm G G') : OwL W G' H' ds [] vs := h.frame s fun b z => nomatch z
theorem OwL.length : ∀ {ds : List D} {F : List Addr} {vs : List V}, OwL W G H ds F vs → vs.length = ds.length
  | [], _, _, h => by rw [h.2]; rfl
  | d :: ds, F, vs, h => by
    obtain ⟨F1, F2, v, vs', e, e2, h1, h2⟩ := h
    rw [e2, List.length_cons, List.length_cons, h2.length]
theorem OwL.get : ∀ {ds : List D} {vs : List V} {i : Nat} {d : D}, OwL W G H ds [] vs → ds[i]? = some d → ∃ v, vs[i]? = some v ∧ Ow W G H d [] v
  | [], _, _, _, _, e => by simp at e
  | x :: ds, vs, i, d, h, e => by
    obtain ⟨F1, F2, v, vs', e1, e2, h1, h2⟩ := h
    obtain ⟨rfl, rfl⟩ := List.append_eq_nil_iff.mp e1.symm
    subst e2
    cases i with
    | zero =>
      simp at e
      subst e
      exact ⟨v, rfl, h1⟩
    | succ i =>
      simp at e
      obtain ⟨w, q1, q2⟩ := OwL.get h2 e
      exact ⟨w, by simpa using q1, q2⟩
/-- the child at i, and what is left when it is set -/
theorem OwL.cut : ∀ {ds : List D} {F : List Addr} {vs : List V} {i : Nat} {d : D}, OwL W G H ds F vs → ds[i]? = some d →
    ∃ A Fi B v, F = A ++ Fi ++ B ∧ vs[i]? = some v ∧ Ow W G H d Fi v ∧
      ∀ {G' H' : Hp} {d' : D} {v' : V} {F' : List Addr}, Sm G G' → (∀ b ∈ A ++ B, G' b = none ∧ H' b = H b) → Ow W G' H' d' F' v' → OwL W G' H' (ds.set i d') (A ++ F' ++ B) (vs.set i v')
  | [], _, _, _, _, _, e => by simp at e
  | x :: ds, F, vs, i, d, h, e => by
    obtain ⟨F1, F2, v, vs', e1, e2, h1, h2⟩ := h
    subst e1; subst e2
    cases i with
    | zero =>
      simp at e
      subst e
      refine ⟨[], F1, F2, v, rfl, rfl, h1, fun {G' H' d' v' F'} s k o => ?_⟩
      exact ⟨F', F2, v', vs', rfl, rfl, o, h2.frame s fun b z => k b (by simpa using z)⟩
    | succ i =>
      simp at e
      obtain ⟨A, Fi, B, w, e3, q1, q2, q3⟩ := OwL.cut h2 e
      subst e3
      refine ⟨F1 ++ A, Fi, B, w, by simp, by simpa using q1, q2, fun {G' H' d' v' F'} s k o => ?_⟩
      refine ⟨F1, A ++ F' ++ B, v, vs'.set i v', by simp, rfl, h1.frame s fun b z => k b (by simp [z]), q3 s (fun b z => k b ?_) o⟩
      rcases List.mem_append.mp z with z | z <;> simp [z]
theorem OwL.app : ∀ {ds es : List D} {F1 F2 : List Addr} {vs ws : List V}, OwL W G H ds F1 vs → OwL W G H es F2 ws → OwL W G H (ds ++ es) (F1 ++ F2) (vs ++ ws)
  | [], _, _, _, _, _, h, k => by
    obtain ⟨rfl, rfl⟩ := h
    exact k
  | d :: ds, es, _, F2, _, ws, h, k => by
    obtain ⟨A, B, v, vs', rfl, rfl, h1, h2⟩ := h
    exact ⟨A, B ++ F2, v, vs' ++ ws, by simp, rfl, h1, h2.app k⟩
theorem OwL.one {d : D} {F : List Addr} {v : V} (h : Ow W G H d F v) : OwL W G H [d] F [v] := ⟨F, [], v, [], by simp, rfl, h, rfl, rfl⟩

/-! ### slots -/
def EnvR (W : Wd) (G H : Hp) : List (Option D) → List Addr → L2.St → Prop
  | [], F, σ => F = [] ∧ σ = []
  | none :: env, F, σ => ∃ x σ', σ = x :: σ' ∧ EnvR W G H env F σ'
  | some d :: env, F, σ => ∃ F1 F2 v σ', F = F1 ++ F2 ∧ σ = some v :: σ' ∧ Ow W G H d F1 v ∧ EnvR W G H env F2 σ'
theorem EnvR.len : ∀ {env : List (Option D)} {F : List Addr} {σ : L2.St}, EnvR W G H env F σ → σ.length = env.length
  | [], _, _, h => by rw [h.2]; rfl
  | none :: env, F, σ, h => by
    obtain ⟨x, σ', rfl, h⟩ := h
    rw [List.length_cons, List.length_cons, h.len]
  | some d :: env, F, σ, h => by
    obtain ⟨F1, F2, v, σ', _, rfl, _, h⟩ := h
    rw [List.length_cons, List.length_cons, h.len]
theorem EnvR.fram (s : Le G G') : ∀ {env : List (Option D)} {F : List Addr} {σ : L2.St}, EnvR W G H env F σ → (∀ b ∈ F, G' b = none ∧ H' b = H b) → EnvR W G' H' env F σ
  | [], _, _, h, _ => h
  | none :: env, F, σ, h, k => by
    obtain ⟨x, σ', e, h⟩ := h
    exact ⟨x, σ', e, h.fram s k⟩
  | some d :: env, F, σ, h, k => by
    obtain ⟨F1, F2, v, σ', e, e2, h1, h2⟩ := h
    subst e
    exact ⟨F1, F2, v, σ', rfl, e2, h1.fram s fun b z => k b (by simp [z]), h2.fram s fun b z => k b (by simp [z])⟩
theorem EnvR.frame (s : Sm G G') {env : List (Option D)} {F : List Addr} {σ : L2.St} (h : EnvR W G H env F σ) (k : ∀ b ∈ F, G' b = none ∧ H' b = H b) : EnvR W G' H' env F σ := EnvR.fram (le_of s) h k
theorem EnvR.mem : ∀ {env : List (Option D)} {F : List Addr} {σ : L2.St}, EnvR W G H env F σ → ∀ b ∈ F, G b = none ∧ ∃ o, H b = some o
  | [], _, _, h => by
    intro b hb
    rw [h.1] at hb
    exact nomatch hb
  | none :: env, F, σ, h => by
    obtain ⟨x, σ', e, h⟩ := h
    exact h.mem
  | some d :: env, F, σ, h => by
    obtain ⟨F1, F2, v, σ', e, e2, h1, h2⟩ := h
    intro b hb
    subst e
    rcases List.mem_append.mp hb with hb | hb
    · exact h1.mem b hb
    · exact h2.mem b hb
/-- the slot at i, and what may stand there -/
theorem EnvR.cut : ∀ {env : List (Option D)} {F : List Addr} {σ : L2.St} {i : Nat} {od : Option D}, EnvR W G H env F σ → env[i]? = some od →
    ∃ A Fi B, F = A ++ Fi ++ B ∧ (match od with | some d => ∃ v, σ[i]? = some (some v) ∧ Ow W G H d Fi v | none => Fi = []) ∧
      (∀ {G' H' : Hp}, Sm G G' → (∀ b ∈ A ++ B, G' b = none ∧ H' b = H b) → EnvR W G' H' (env.set i none) (A ++ B) σ ∧
        ∀ {d' : D} {v' : V} {F' : List Addr}, Ow W G' H' d' F' v' → EnvR W G' H' (env.set i (some d')) (A ++ F' ++ B) (σ.set i (some v')))
  | [], _, _, _, _, _, e => by simp at e
  | none :: env, F, σ, i, od, h, e => by
    obtain ⟨x, σ', rfl, h⟩ := h
    cases i with
    | zero =>
      simp at e
      subst e
      refine ⟨[], [], F, rfl, rfl, fun {G' H'} s k => ⟨⟨x, σ', rfl, h.frame s k⟩, fun {d' v' F'} o => ⟨F', F, v', σ', rfl, rfl, o, h.frame s k⟩⟩⟩
    | succ i =>
      simp at e
      obtain ⟨A, Fi, B, e3, q1, q2⟩ := EnvR.cut h e
      refine ⟨A, Fi, B, e3, ?_, fun {G' H'} s k => ⟨⟨x, σ', rfl, (q2 s k).1⟩, fun {d' v' F'} o => ⟨x, σ'.set i (some v'), rfl, (q2 s k).2 o⟩⟩⟩
      cases od with
      | none => exact q1
      | some d => simpa using q1
  | some d :: env, F, σ, i, od, h, e => by
    obtain ⟨F1, F2, v, σ', rfl, rfl, h1, h2⟩ := h
    cases i with
    | zero =>
      simp at e
      subst e
      refine ⟨[], F1, F2, rfl, ⟨v, rfl, h1⟩, fun {G' H'} s k => ⟨⟨some v, σ', rfl, h2.frame s k⟩, fun {d' v' F'} o => ⟨F', F2, v', σ', rfl, rfl, o, h2.frame s k⟩⟩⟩
    | succ i =>
      simp at e
      obtain ⟨A, Fi, B, e3, q1, q2⟩ := EnvR.cut h2 e
      subst e3
      refine ⟨F1 ++ A, Fi, B, by simp, ?_, fun {G' H'} s k => ?_⟩
      · cases od with
        | none => exact q1
        | some d => simpa using q1
      · have k1 : ∀ b ∈ F1, G' b = none ∧ H' b = H b := fun b z => k b (by simp [z])
        have k2 : ∀ b ∈ A ++ B, G' b = none ∧ H' b = H b := fun b z => k b (by rcases List.mem_append.mp z with z | z <;> simp [z])
        exact ⟨⟨F1, A ++ B, v, σ', by simp, rfl, h1.frame s k1, (q2 s k2).1⟩, fun {d' v' F'} o => ⟨F1, A ++ F' ++ B, v, σ'.set i (some v'), by simp, rfl, h1.frame s k1, (q2 s k2).2 o⟩⟩
end

/-! ### steps of heaps -/
/-- from what is owned at F to what is owned at F' -/
structure Stp (F : List Addr) (G H : Hp) (F' : List Addr) (G' H' : Hp) : Prop where
  sg : Sm G G'
  sh : Sm G' H'
  nd : F'.Nodup
  nw : ∀ b ∈ F', b ∈ F ∨ H b = none
  fr : ∀ b o, H b = some o → G b = none → b ∉ F → H' b = some o
  th : ∀ b, H b ≠ none → b ∉ F → H' b ≠ none
  ng : ∀ b, G b = none → b ∉ F → H b ≠ none → G' b = none
section
variable {F F1 F2 F' R : List Addr} {G G1 G2 G' H H1 H2 H' : Hp}
theorem Stp.refl (s : Sm G H) (nd : F.Nodup) : Stp F G H F G H := ⟨Sm.refl, s, nd, fun _ h => .inl h, fun _ _ h _ _ => h, fun _ h _ => h, fun _ h _ _ => h⟩
theorem Stp.trans (a : Stp F G H F1 G1 H1) (b : Stp F1 G1 H1 F2 G2 H2) : Stp F G H F2 G2 H2 := by
  have out : ∀ c, c ∉ F → H c ≠ none → c ∉ F1 := fun c h1 h2 h3 => (a.nw c h3).elim h1 h2
  refine ⟨a.sg.trans b.sg, b.sh, b.nd, fun c hc => ?_, fun c o h g h1 => ?_, fun c h h1 => b.th c (a.th c h h1) (out c h1 h), fun c h h1 h2 => b.ng c (a.ng c h h1 h2) (out c h1 h2) (a.th c h2 h1)⟩
  · rcases b.nw c hc with h | h
    · exact a.nw c h
    · by_cases hF : c ∈ F
      · exact .inl hF
      · refine .inr ?_
        cases e : H c with
        | none => rfl
        | some o => exact absurd h (a.th c (by rw [e]; exact fun z => nomatch z) hF)
  · have hn : H c ≠ none := by rw [h]; exact fun z => nomatch z
    exact b.fr c o (a.fr c o h g h1) (a.ng c g h1 hn) (out c h1 hn)
/-- what stands beside -/
theorem Stp.beside (a : Stp F G H F' G' H') (nd : R.Nodup) (h : ∀ b ∈ R, G b = none ∧ b ∉ F ∧ H b ≠ none) : Stp (F ++ R) G H (F' ++ R) G' H' := by
  refine ⟨a.sg, a.sh, ?_, fun b hb => ?_, fun b o e g n => a.fr b o e g fun z => n (List.mem_append_left _ z), fun b k n => a.th b k fun z => n (List.mem_append_left _ z), fun b e n k => a.ng b e (fun z => n (List.mem_append_left _ z)) k⟩
  · refine List.nodup_append.mpr ⟨a.nd, nd, fun x hx y hy e => ?_⟩
    subst e
    exact (a.nw x hx).elim (h x hy).2.1 (h x hy).2.2
  · rcases List.mem_append.mp hb with hb | hb
    · rcases a.nw b hb with z | z
      · exact .inl (List.mem_append_left _ z)
      · exact .inr z
    · exact .inl (List.mem_append_right _ hb)
theorem Stp.kept (a : Stp F G H F' G' H') {b : Addr} (h : G b = none) (n : b ∉ F) (k : H b ≠ none) : G' b = none ∧ H' b = H b := by
  refine ⟨a.ng b h n k, ?_⟩
  cases e : H b with
  | none => exact absurd e k
  | some o => exact a.fr b o e h n
/-- other lists of the same places -/
theorem Stp.perm (a : Stp F G H F' G' H') {E E' : List Addr} (h : ∀ b, b ∈ F → b ∈ E) (h' : ∀ b ∈ E', b ∈ F') (nd : E'.Nodup) : Stp E G H E' G' H' :=
  ⟨a.sg, a.sh, nd, fun b hb => (a.nw b (h' b hb)).elim (fun z => .inl (h b z)) .inr, fun b o e g n => a.fr b o e g fun z => n (h b z), fun b k n => a.th b k fun z => n (h b z), fun b e n k => a.ng b e (fun z => n (h b z)) k⟩
theorem Sm.upd {p : Addr} {o : HO} (s : Sm G H) (gp : G p = none) : Sm G (L2.upd H p o) := fun b x h => by
  have ne : b ≠ p := fun e => by rw [e, gp] at h; cases h
  rw [upd_ne ne]
  exact s b x h
/-- a new object -/
theorem Stp.new {p : Addr} {o : HO} (s : Sm G H) (hp : H p = none) : Stp [] G H [p] G (upd H p o) := by
  have gp : G p = none := s.free hp
  refine ⟨Sm.refl, s.upd gp, by simp, fun b hb => ?_, fun b x h _ _ => ?_, fun b h _ => ?_, fun _ h _ _ => h⟩
  · have e : b = p := by simpa using hb
    subst e
    exact .inr hp
  · rw [upd_ne (ne_of_none h hp)]; exact h
  · have ne : b ≠ p := fun e => by rw [e] at h; exact h hp
    rw [upd_ne ne]; exact h
/-- what is owned is changed -/
theorem Stp.write {p : Addr} {o : HO} (s : Sm G H) (gp : G p = none) : Stp [p] G H [p] G (upd H p o) := by
  refine ⟨Sm.refl, s.upd gp, by simp, fun b hb => .inl hb, fun b x h _ n => ?_, fun b h n => ?_, fun _ h _ _ => h⟩
  · rw [upd_ne (fun e => n (by simp [e]))]; exact h
  · rw [upd_ne (fun e => n (by simp [e]))]; exact h
/-- frozen -/
def addG (G H : Hp) (F : List Addr) : Hp := fun b => if b ∈ F then H b else G b
theorem addG_in {b : Addr} (h : b ∈ F) : addG G H F b = H b := if_pos h
theorem addG_out {b : Addr} (h : b ∉ F) : addG G H F b = G b := if_neg h
theorem addG_same (s : Sm G H) : Sm G (addG G H F) := fun b o h => by
  by_cases hb : b ∈ F
  · rw [addG_in hb]; exact s b o h
  · rw [addG_out hb]; exact .inl h
theorem addG_sub (s : Sm G H) : Sm (addG G H F) H := fun b o h => by
  by_cases hb : b ∈ F
  · rw [addG_in hb] at h; exact .inl h
  · rw [addG_out hb] at h; exact s b o h
theorem Stp.freeze (s : Sm G H) : Stp F G H [] (addG G H F) H :=
  ⟨addG_same s, addG_sub s, List.nodup_nil, (fun _ h => nomatch h), fun _ _ h _ _ => h, fun _ h _ => h, fun b h n _ => (addG_out n).trans h⟩
end
end Wpk
set_option Elab.async false
set_option linter.all false
set_option maxRecDepth 100000
/-! B0: what the small language T means, over plain data. -/
namespace Wpk
open PySem

/-- the greatest length that is let here -/
abbrev LN : Nat := 100000

abbrev Env := List (Option D)
structure Exn where
  c : Nat
  fs : List Str
  vs : List D
inductive R (α : Type) where
  | ok (a : α) (e : Env) | exc (x : Exn) (e : Env) | no
def R.bind {α β : Type} (r : R α) (f : α → Env → R β) : R β :=
  match r with
  | .ok a e => f a e
  | .exc x e => .exc x e
  | .no => .no
def R.of {α : Type} (o : Option α) (e : Env) : R α :=
  match o with
  | some a => .ok a e
  | none => .no

def owned : D → Bool
  | .lst m _ => m
  | .dct m _ _ _ => m
  | .ins m _ _ _ => m
  | _ => false
def Env.get (e : Env) (i : Nat) : Option D := (e[i]?).join
def Env.put (e : Env) (i : Nat) (d : D) : Env := e.set i (some d)
def Env.del (e : Env) (i : Nat) : Env := e.set i none

/-- an operand: a value, or a slot that is looked at -/
inductive Od where
  | val (d : D) | slot (i : Nat)
def Od.res (e : Env) : Od → Option D
  | .val d => some d
  | .slot i => Env.get e i
def resL (e : Env) : List Od → Option (List D)
  | [] => some []
  | o :: os => match o.res e, resL e os with
    | some d, some ds => some (d :: ds)
    | _, _ => none

/-! ### operations on data -/
mutual
/-- deep equality -/
def eqD : D → D → Bool
  | .non, .non => true
  | .bl a, .bl b => a == b
  | .bl a, .int j => (if a then 1 else 0) == j
  | .int i, .bl b => i == (if b then 1 else 0)
  | .int i, .int j => i == j
  | .str x, .str y => x == y
  | .lst _ xs, .lst _ ys => eqDL xs ys
  | .tup xs, .tup ys => eqDL xs ys
  | _, _ => false
def eqDL : List D → List D → Bool
  | [], [] => true
  | x :: xs, y :: ys => eqD x y && eqDL xs ys
  | _, _ => false
end
mutual
/-- data that can be compared: of depth n at most -/
def shp : Nat → D → Bool
  | _, .non => true
  | _, .bl _ => true
  | _, .int _ => true
  | _, .str s => s.all (fun c => decide (c < 1114112))
  | 0, _ => false
  | n + 1, .lst _ xs => shpL n xs
  | n + 1, .tup xs => shpL n xs
  | _, _ => false
def shpL : Nat → List D → Bool
  | _, [] => true
  | n, x :: xs => shp n x && shpL n xs
end
def flatD : D → Bool
  | .non => true
  | .bl _ => true
  | .int _ => true
  | .str _ => true
  | _ => false
/-- two ints within an operation -/
def opI (o : Operator) (i j : Int) : Option D :=
  match o with
  | .Add => some (.int (i + j))
  | .Sub => some (.int (i - j))
  | .Mult => if (-18446744073709551616 < i ∧ i < 18446744073709551616) ∨ (-18446744073709551616 < j ∧ j < 18446744073709551616) then some (.int (i * j)) else none
  | .FloorDiv => if 0 < j ∧ j < 1073741824 then some (.int (i / j)) else none
  | .Mod => if 0 < j then some (.int (i % j)) else none
  | .Pow => if 0 ≤ j ∧ j ≤ 1000000 ∧ i.natAbs < 18446744073709551616 then some (.int (i ^ j.toNat)) else none
  | .LShift => if 0 ≤ j ∧ j ≤ 1000000 ∧ i.natAbs < 18446744073709551616 then some (.int (i * 2 ^ j.toNat)) else none
  | .RShift => if 0 ≤ j then some (.int (i / 2 ^ j.toNat)) else none
  | .BitAnd => some (.int (Builtin.bitAnd i j))
  | .BitOr => some (.int (Builtin.bitOr i j))
  | _ => none
def rep (n : Nat) (s : List Nat) : List Nat := match n with
  | 0 => []
  | n + 1 => s ++ rep n s
def opD (o : Operator) (a b : D) : Option D :=
  match a, b with
  | .int i, .int j => opI o i j
  | .str x, .str y => match o with
    | .Add => if x.length + y.length ≤ LN then some (.str (x ++ y)) else none
    | _ => none
  | .lst _ xs, .lst _ ys => match o with
    | .Add => if xs.length + ys.length ≤ LN ∧ isFL xs = true ∧ isFL ys = true then some (.lst true (xs ++ ys)) else none
    | _ => none
  | .tup xs, .tup ys => match o with
    | .Add => if xs.length + ys.length ≤ LN then some (.tup (xs ++ ys)) else none
    | _ => none
  | .lst m xs, .int k => match o with
    | .Mult => if m = true ∧ xs.length * k.toNat ≤ LN ∧ (-9223372036854775808 ≤ k ∧ k < 9223372036854775808) ∧ isFL xs = true then some (.lst true (List.replicate k.toNat xs).flatten) else none
    | _ => none
  | .str x, .int k => match o with
    | .Mult => if x.length * k.toNat ≤ LN ∧ (-9223372036854775808 ≤ k ∧ k < 9223372036854775808) then some (.str (List.replicate k.toNat x).flatten) else none
    | _ => none
  | _, _ => none
/-- keys of dicts: ints, texts -/
def isKy : D → Bool
  | .int _ => true
  | .str _ => true
  | _ => false
def eqK : D → D → Bool
  | .int i, .int j => i == j
  | .str a, .str b => a == b
  | _, _ => false
def hasK (ks : List D) (k : D) : Bool := ks.any fun k' => eqK k' k
def getK : List D → List D → D → Option D
  | k' :: ks, v :: vs, k => if eqK k' k then some v else getK ks vs k
  | _, _, _ => none
def setK : List D → List D → D → D → List D
  | k' :: ks, v' :: vs, k, v => (if eqK k' k then v else v') :: setK ks vs k v
  | _, vs, _, _ => vs
def putD (ks vs : List D) (k v : D) : D := if hasK ks k then .dct true false ks (setK ks vs k v) else .dct true false (ks ++ [k]) (vs ++ [v])
def inD (x : D) (ys : List D) : Bool := ys.any fun y => eqD y x
def cmpD0 (o : CmpOp) (a b : D) : Option Bool :=
  match o, a, b with
  | .Lt, .int i, .int j => some (decide (i < j))
  | .LtE, .int i, .int j => some (decide (i ≤ j))
  | .Gt, .int i, .int j => some (decide (j < i))
  | .GtE, .int i, .int j => some (decide (j ≤ i))
  | .Is, a, .non => some (match a with | .non => true | _ => false)
  | .IsNot, a, .non => some (match a with | .non => false | _ => true)
  | .Eq, a, b => if shp 60 a && shp 60 b then some (eqD a b) else none
  | .NotEq, a, b => if shp 60 a && shp 60 b then some (!eqD a b) else none
  | .In, x, .lst _ ys => if shp 60 x && shpL 60 ys then some (inD x ys) else none
  | .NotIn, x, .lst _ ys => if shp 60 x && shpL 60 ys then some (!inD x ys) else none
  | .In, x, .tup ys => if flatD x && ys.all flatD then some (inD x ys) else none
  | .NotIn, x, .tup ys => if flatD x && ys.all flatD then some (!inD x ys) else none
  | .In, .str [c], .str s => some (s.contains c)
  | .NotIn, .str [c], .str s => some (!s.contains c)
  | _, _, _ => none
/-- bools, by identity -/
def isBB (o : CmpOp) (a b : D) : Option Bool := match o, a, b with
  | .Is, .bl p, .bl q => some (decide (p = q))
  | .IsNot, .bl p, .bl q => some (!decide (p = q))
  | .Eq, .str p, .str q => some (p == q)
  | .NotEq, .str p, .str q => some (!(p == q))
  | _, _, _ => none
def cmpD1 (o : CmpOp) (a b : D) : Option Bool := match isBB o a b with
  | some k => some k
  | none => cmpD0 o a b
def cmpD (o : CmpOp) (a b : D) : Option Bool :=
  match o, b with
  | .In, .dct _ false ks _ => if isKy a then some (hasK ks a) else none
  | .NotIn, .dct _ false ks _ => if isKy a then some (!hasK ks a) else none
  | _, _ => cmpD1 o a b
def truD : D → Option Bool
  | .non => some false
  | .bl b => some b
  | .int i => some (i != 0)
  | .str s => if s.length ≤ LN then some (!s.isEmpty) else none
  | .lst _ xs => some (!xs.isEmpty)
  | .tup xs => some (!xs.isEmpty)
  | _ => none
def idxD (o : D) (i : D) : Option D :=
  match o, i with
  | .lst _ xs, .int k => L2.atI xs k
  | .tup xs, .int k => L2.atI xs k
  | .ksq xs, .int k => L2.atI xs k
  | .str s, .int k => if s.length ≤ LN then (L2.atI s k).map fun c => .str [c] else none
  | _, _ => none
def cutL {α : Type} (xs : List α) (lo hi : Option Int) : List α := (xs.drop (HT.sIx xs.length 0 lo)).take (HT.sIx xs.length xs.length hi - HT.sIx xs.length 0 lo)
def slcD (o : D) (lo hi : Option Int) : Option D :=
  match o with
  | .str s => if s.length ≤ LN then some (.str (cutL s lo hi)) else none
  | .lst _ xs => if isFL xs then some (.lst true (cutL xs lo hi)) else none
  | .ksq xs => some (.lst true (cutL xs lo hi))
  | .tup xs => some (.tup (cutL xs lo hi))
  | _ => none

/-- the places of xs[lo:hi:st] -/
def idxS (lo hi : Option Int) (st : Int) (n : Nat) : List Nat := Builtin.Str.strSliceIndices lo hi st n
def stepL {α : Type} (xs : List α) (lo hi : Option Int) (st : Int) : List α := (idxS lo hi st xs.length).filterMap (xs[·]?)
def slsD (o : D) (lo hi : Option Int) (st : Int) : Option D := if decide (st = 0) || decide (st = 1) then none else
  match o with
  | .str s => if s.length ≤ LN then some (.str (stepL s lo hi st)) else none
  | .lst _ xs => if isFL xs then some (.lst true (stepL xs lo hi st)) else none
  | _ => none

/-- built-ins, by values -/
inductive Bi where
  | len | abs | int | str | repr | min | max | sum | all | any | sorted | list | tuple | set | isinst (ts : List String) | bool
def lenD : D → Option Nat
  | .str s => if s.length ≤ LN then some s.length else none
  | .lst _ xs => some xs.length
  | .tup xs => some xs.length
  | .ksq xs => some xs.length
  | .dct _ t ks _ => if t then none else some ks.length
  | _ => none
def intsOf : List D → Option (List Int)
  | [] => some []
  | .int i :: ds => (intsOf ds).map (i :: ·)
  | _ => none
def boolsOf : List D → Option (List Bool)
  | [] => some []
  | .bl i :: ds => (boolsOf ds).map (i :: ·)
  | _ => none
def biD (b : Bi) (ds : List D) : Option D :=
  match b, ds with
  | .len, [d] => (lenD d).map fun n => .int n
  | .abs, [.int i] => some (.int (if i < 0 then -i else i))
  | .int, [.int i] => some (.int i)
  | .int, [.bl k] => some (.int (if k then 1 else 0))
  | .min, [.int i, .int j] => some (.int (if j < i then j else i))
  | .max, [.int i, .int j] => some (.int (if j > i then j else i))
  | .sum, [.lst _ xs] => (intsOf xs).map fun is => .int is.sum
  | .all, [.lst _ xs] => (boolsOf xs).map fun bs => .bl (bs.all id)
  | .any, [.lst _ xs] => (boolsOf xs).map fun bs => .bl (bs.any id)
  | .list, [.lst _ xs] => if isFL xs then some (.lst true xs) else none
  | .list, [.tup xs] => some (.lst true xs)
  | .list, [.str s] => if s.length ≤ LN then some (.lst true (s.map fun c => .str [c])) else none
  | .list, [.ksq xs] => some (.lst true xs)
  | .tuple, [.lst _ xs] => if isFL xs then some (.tup xs) else none
  | .tuple, [.tup xs] => some (.tup xs)
  | _, _ => none
/-- methods of built-in types that change nothing -/
inductive Mb where
  | join | split | index
def strsOf : List D → Option (List (List Nat))
  | [] => some []
  | .str s :: ds => (strsOf ds).map (s :: ·)
  | _ => none
def joinD (a : List Nat) (xs : List D) : Option D := match strsOf xs with
  | some ss => if (ss.map (·.length)).sum + ss.length * a.length ≤ 16777216 then some (.str (TL.joinL a ss)) else none
  | none => none
def idxOf (y : D) : List D → Option Nat
  | [] => none
  | z :: zs => if eqD z y then some 0 else (idxOf y zs).map (· + 1)
def mtD (m : Mb) (o : D) (ds : List D) : Option D :=
  match m, o, ds with
  | .join, .str a, [.lst _ xs] => joinD a xs
  | .join, .str a, [.tup xs] => joinD a xs
  | .split, .str a, [.str b] => if b.isEmpty = false ∧ (b.all fun x => decide (x < 256)) = true ∧ a.length + 2 ≤ LN then some (.lst true ((TL.spl b 0 [] a).map .str)) else none
  | .index, .lst _ ys, [y] => if flatD y && ys.all flatD then (idxOf y ys).map fun n => .int n else none
  | .index, .str a, [.str b] => (match Builtin.Str.occurrences (sOf a) (sOf b) 0 a.length 1 with
    | i :: _ => some (.int i)
    | [] => none)
  | _, _, _ => none
def mbT : Mb → List String
  | .join => ["str"]
  | .split => ["str"]
  | .index => ["list", "str"]
/-- the built-in type of data -/
def tyD : D → Option String
  | .str _ => some "str"
  | .lst _ _ => some "list"
  | .dct _ _ _ _ => some "dict"
  | _ => none
/-- methods that change the object of a slot -/
inductive Mu where
  | ext | pop
def muT : Mu → List String
  | .ext => ["list"]
  | .pop => ["list"]
def mutD (u : Mu) (o : D) (ds : List D) : Option (D × D) :=
  match u, o, ds with
  | .ext, .lst true xs, [.lst true zs] => if xs.length + zs.length ≤ LN then some (.lst true (xs ++ zs), .non) else none
  | .pop, .lst true xs, [] => (match xs[xs.length - 1]? with
    | some y => if isF y then some (.lst true xs.dropLast, y) else none
    | none => none)
  | .pop, .lst true xs, [.int i] => (match L2.ixN xs.length i with
    | some k => (match xs[k]? with
      | some y => if isF y ∧ -9223372036854775808 ≤ i ∧ i < 9223372036854775808 then some (.lst true (xs.eraseIdx k), y) else none
      | none => none)
    | none => none)
  | _, _, _ => none

/-! ### further built-ins -/
inductive Bi2 where
  | isi | repr | str | int | sorted | minL | maxL | lenSet | sortSet | dictL | zipL | rngL | rngT
def ofS (z : Str) : List Nat := z.cps.toList
def tyNm : D → Option String
  | .non => some "NoneType"
  | .bl _ => some "bool"
  | .int _ => some "int"
  | .str _ => some "str"
  | .lst _ _ => some "list"
  | .ksq _ => some "list"
  | .tup _ => some "tuple"
  | .dct _ false _ _ => some "dict"
  | _ => none
def okTys : List String := ["int", "bool", "str", "list", "tuple", "dict"]
def isTy (a b : String) : Bool := a == b || (a == "bool" && b == "int")
def isTys (a : String) : List D → Option Bool
  | [] => some false
  | .ty b :: ts => if okTys.contains b then (if isTy a b then some true else isTys a ts) else none
  | _ => none
def isiD : List D → Option D
  | [x, .ty b] => (match tyNm x with
    | some a => if okTys.contains b then some (.bl (isTy a b)) else none
    | none => none)
  | [x, .tup ts] => (match tyNm x with
    | some a => (isTys a ts).map .bl
    | none => none)
  | _ => none
def isTyD : D → Bool
  | .ty _ => true
  | _ => false
def strD : List D → Option D
  | [.int i] => if i.natAbs.log2 < 1920 then some (.str (ofS (Str.ofString (toString i)))) else none
  | [.str s] => some (.str s)
  | _ => none
mutual
def toPD : D → PyData
  | .bl b => .bool b
  | .int i => .int i
  | .str s => .str (sOf s)
  | .lst _ xs => .list (toPDs xs)
  | .tup xs => .tuple (toPDs xs)
  | _ => .none
def toPDs : List D → List PyData
  | [] => []
  | x :: xs => toPD x :: toPDs xs
end
/-- a list or a tuple is shown -/
def reprC (d : D) : Option D := if shp 60 d && (toPD d).showable && decide ((toPD d).shown.length ≤ LN) then some (.str (ofS (toPD d).shown)) else none
def reprD : List D → Option D
  | [.int i] => if i.natAbs.log2 < 1920 then some (.str (ofS (Str.ofString (toString i)))) else none
  | [.bl b] => some (.str (ofS (Str.ofString (if b then "True" else "False"))))
  | [.non] => some (.str (ofS (Str.ofString "None")))
  | [.str s] => if (reprText (sOf s)).length ≤ LN then some (.str (ofS (reprText (sOf s)))) else none
  | [.lst m xs] => reprC (.lst m xs)
  | [.tup xs] => reprC (.tup xs)
  | _ => none
def int2D : List D → Option D
  | [.int i] => some (.int i)
  | [.bl k] => some (.int (if k then 1 else 0))
  | [.str s] => (match PySem.intText? (sOf s) with
    | some n => if s.length ≤ 640 then some (.int n) else none
    | none => none)
  | _ => none
def insI (i : Int) : List Int → List Int
  | [] => [i]
  | j :: js => if i ≤ j then i :: j :: js else j :: insI i js
def srtI : List Int → List Int
  | [] => []
  | i :: is => insI i (srtI is)
/-- texts by their signs -/
def ltS : List Nat → List Nat → Bool
  | _, [] => false
  | [], _ :: _ => true
  | a :: as, b :: bs => decide (a < b) || (a == b && ltS as bs)
def insS (x : List Nat) : List (List Nat) → List (List Nat)
  | [] => [x]
  | y :: ys => if ltS y x then y :: insS x ys else x :: y :: ys
def srtS : List (List Nat) → List (List Nat)
  | [] => []
  | x :: xs => insS x (srtS xs)
def sortedL (xs : List D) : Option D := match intsOf xs with
  | some is => some (.lst true ((srtI is).map .int))
  | none => (match strsOf xs with
    | some ss => some (.lst true ((srtS ss).map .str))
    | none => none)
def sortedD : List D → Option D
  | [.lst _ xs] => sortedL xs
  | [.tup xs] => sortedL xs
  | _ => none
def minOf : Int → List Int → Int
  | i, [] => i
  | i, j :: js => minOf (if j < i then j else i) js
def maxOf : Int → List Int → Int
  | i, [] => i
  | i, j :: js => maxOf (if i < j then j else i) js
def minLD : List D → Option D
  | [.lst _ xs] => (match intsOf xs with
    | some (i :: is) => some (.int (minOf i is))
    | _ => none)
  | _ => none
def maxLD : List D → Option D
  | [.lst _ xs] => (match intsOf xs with
    | some (i :: is) => some (.int (maxOf i is))
    | _ => none)
  | _ => none
/-- texts, each once, as they are met -/
def dedStep (acc : List (List Nat)) (s : List Nat) : List (List Nat) := if acc.contains s then acc else acc ++ [s]
def dedS (ss : List (List Nat)) : List (List Nat) := ss.foldl dedStep []
def lenSetL (xs : List D) : Option D := match strsOf xs with
  | some ss => if ss.length ≤ 4000 then some (.int (dedS ss).length) else none
  | none => none
def lenSetD : List D → Option D
  | [.lst _ xs] => lenSetL xs
  | [.tup xs] => lenSetL xs
  | _ => none
/-- ints, each once, as they are met -/
def dedI (is : List Int) : List Int := is.foldl (fun acc i => if acc.contains i then acc else acc ++ [i]) []
/-- sorted(set(xs)) -/
def sortSetL (xs : List D) : Option D := match intsOf xs with
  | some is => if is.length ≤ 4000 then some (.lst true ((srtI (dedI is)).map .int)) else none
  | none => (match strsOf xs with
    | some ss => if ss.length ≤ 4000 then some (.lst true ((srtS (dedS ss)).map .str)) else none
    | none => none)
def sortSetD : List D → Option D
  | [.lst _ xs] => sortSetL xs
  | [.tup xs] => sortSetL xs
  | _ => none
/-- one more pair of a dict; what is owned is stored under a new key alone -/
def putP (ks vs : List D) (k d : D) : Option (List D × List D) := if isKy k then (if hasK ks k then (if isF d then some (ks, setK ks vs k d) else none) else some (ks ++ [k], vs ++ [d])) else none
def putPs : List D × List D → List (D × D) → Option (List D × List D)
  | q, [] => some q
  | q, p :: ps => (putP q.1 q.2 p.1 p.2).bind fun q' => putPs q' ps
def pairsOf : List D → Option (List (D × D))
  | [] => some []
  | .tup [k, v] :: ds => if isF v then (pairsOf ds).map ((k, v) :: ·) else none
  | _ => none
/-- dict(xs), xs a list of pairs -/
def dictD : List D → Option D
  | [.lst _ xs] => (match pairsOf xs with
    | some ps => (match putPs ([], []) ps with
      | some q => some (.dct true false q.1 q.2)
      | none => none)
    | none => none)
  | _ => none
/-- list(zip(xs, ys)) -/
def zipD : List D → Option D
  | [.lst _ xs, .lst _ ys] => if isFL xs && isFL ys then some (.lst true ((xs.zip ys).map fun p => .tup [p.1, p.2])) else none
  | [.str s, .lst _ ys] => if isFL ys then some (.lst true (((s.map fun c => D.str [c]).zip ys).map fun p => .tup [p.1, p.2])) else none
  | _ => none
/-- list(range(..)) -/
def rngL : List D → Option (List D)
  | [.int j] => if j ≤ LN then some ((List.range j.toNat).map fun (i : Nat) => .int i) else none
  | [.int i, .int j] => if j - i ≤ LN ∧ -4611686018427387904 ≤ i ∧ j < 4611686018427387904 then some ((List.range (j - i).toNat).map fun (k : Nat) => .int (i + k)) else none
  | [.int i, .int j, .int c] => if 0 < c ∧ j - i ≤ LN ∧ -4611686018427387904 ≤ i ∧ j < 4611686018427387904 ∧ c < 1073741824 then some ((List.range ((j - i + c - 1) / c).toNat).map fun (k : Nat) => .int (i + k * c)) else none
  | _ => none
def bi2D : Bi2 → List D → Option D
  | .isi => isiD
  | .repr => reprD
  | .str => strD
  | .int => int2D
  | .sorted => sortedD
  | .minL => minLD
  | .maxL => maxLD
  | .lenSet => lenSetD
  | .sortSet => sortSetD
  | .dictL => dictD
  | .zipL => zipD
  | .rngL => fun ds => (rngL ds).map (.lst true)
  | .rngT => fun ds => (rngL ds).map .tup
/-- what is walked -/
inductive It where
  | plain | range | enum | zip | items | values

inductive T where
  | stk | var (i : Nat) | cst (d : D) | gl (i : Nat)
  | op (o : Operator) (a b : T) | cmp (o : CmpOp) (a b : T) | chn (o o' : CmpOp) (a b c : T)
  | neg (a : T) | nt (a : T) | an (a b : T) | orr (a b : T) | ite (c a b : T)
  | call (f : Nat) (as : T)
  | bi (b : Bi) (as : T) | bi2 (b : Bi2) (as : T)
  | idx (o i : T) | slc (o lo hi : T) | sls (o lo hi st : T)
  | tupD (as : T) | lstD (as : T)
  | lc (vs : List Nat) (tg : T) (k : It) (it c e : T)
  | lc2 (vs vs' : List Nat) (tg : T) (k : It) (it : T) (tg' : T) (k' : It) (it' c e : T)
  | dc (vs : List Nat) (tg : T) (k : It) (it c ek ev : T)
  | app (i : Nat) (e : T)
  | mt (m : Mb) (o as : T) | mut (u : Mu) (i : Nat) (as : T)
  | fld (cs : List Nat) (f : Str) (o : T) | prp (c f : Nat) (o : T) | meth (c f : Nat) (m : Str) (o as : T) | mk (c f : Nat) (as : T) | mkV (i : Nat) (tb : List (Nat × Nat)) (as : T) | fill (as : T) (ds : List D) | fz (x : T)
  | nil | cons (a r : T)
  | pk (i : Nat) | ov (e : T)
  | yes | tv (e : T) | tnt (a : T) | tan (a b : T) | tor (a b : T)
  | tName (i : Nat) | tTup (ts : T)
  | sfld (cs : List Nat) (i : Nat) (f : Str) (e : T)
  | asg (tg e : T) | par (is : List Nat) (as : T) | aug (i : Nat) (o : Operator) (e : T) | sub (i : Nat) (j e : T)
  | ex (e : T) | ret (e : T) | retV (i : Nat) | retN
  | ifS (c a b : T) | forS (tg : T) (k : It) (it body : T) | whl (c body : T)
  | brk | cnt | pas | seq (a b : T)
  deriving Inhabited

/-- how a statement ends -/
inductive Fl where
  | nx | rt (d : D) | bk | ct

/-- the program's tables -/
structure Pg where
  gl : Nat → Option D

section
variable (L : List Nat)
mutual
/-- a target is bound; L: slots that may not be bound anew -/
def bindT : T → D → Env → Option Env
  | .tName i, d, e => if L.contains i || decide (e.length ≤ i) then none else some (Env.put e i d)
  | .tTup ts, .tup ds, e => bindTs ts ds e
  | .tTup ts, .lst _ ds, e => if isFL ds then bindTs ts ds e else none
  | _, _, _ => none
def bindTs : T → List D → Env → Option Env
  | .nil, [], e => some e
  | .cons t ts, d :: ds, e => (bindT t d e).bind fun e1 => bindTs ts ds e1
  | _, _, _ => none
end
end
/-- the slots of a target -/
def slotsT : T → List Nat
  | .tName i => [i]
  | .tTup ts => slotsT ts
  | .cons t ts => slotsT t ++ slotsT ts
  | _ => []

/-- the arguments of a call: what is owned is lent -/
def lend : List Od → Env → Option (List D × Env)
  | [], e => some ([], e)
  | .val d :: os, e => (lend os e).map fun p => (frz d :: p.1, p.2)
  | .slot i :: os, e => match Env.get e i with
    | none => none
    | some d => (lend os (if owned d then Env.del e i else e)).map fun p => (d :: p.1, p.2)
/-- what was lent is put back -/
def back : List Od → List D → List (Option D) → Env → Option Env
  | [], _, _, e => some e
  | .val _ :: os, _ :: ds, _ :: fs, e => back os ds fs e
  | .slot i :: os, d :: ds, f :: fs, e =>
    if owned d then match f with
      | some d' => back os ds fs (Env.put e i d')
      | none => none
    else back os ds fs e
  | _, _, _, _ => none
def doCall (call : Nat → List D → R D) (f : Nat) (os : List Od) (e : Env) : R D :=
  match lend os e with
  | none => .no
  | some (ds, e1) => match call f ds with
    | .ok d fs => R.of ((back os ds fs e1).map fun e2 => (d, e2)) e1 |>.bind fun p _ => .ok p.1 p.2
    | .exc x fs => match back os ds fs e1 with
      | some e2 => .exc x e2
      | none => .no
    | .no => .no

/-- the items of what is walked -/
def itemsD0 (k : It) (ds : List D) : Option (List D) :=
  match k, ds with
  | .plain, [.lst _ xs] => if isFL xs then some xs else none
  | .plain, [.tup xs] => some xs
  | .plain, [.ksq xs] => some xs
  | .plain, [.str s] => some (s.map fun c => .str [c])
  | .range, [.int j] => if -4611686018427387904 ≤ j ∧ j < 4611686018427387904 then some ((List.range j.toNat).map fun (i : Nat) => .int i) else none
  | .range, [.int i, .int j] => if (-4611686018427387904 ≤ i ∧ i < 4611686018427387904) ∧ (-4611686018427387904 ≤ j ∧ j < 4611686018427387904) then some ((List.range (j - i).toNat).map fun (k : Nat) => .int (i + k)) else none
  | .enum, [.lst _ xs] => if isFL xs then some (xs.zipIdx.map fun p => .tup [.int p.2, p.1]) else none
  | .enum, [.str s] => some (s.zipIdx.map fun p => .tup [.int p.2, .str [p.1]])
  | .zip, [.lst _ xs, .lst _ ys] => if isFL xs && isFL ys then some ((xs.zip ys).map fun p => .tup [p.1, p.2]) else none
  | .zip, [.tup xs, .tup ys] => some ((xs.zip ys).map fun p => .tup [p.1, p.2])
  | _, _ => none

/-- .. of dicts too -/
def itemsD (k : It) (ds : List D) : Option (List D) :=
  match k with
  | .plain => (match ds with
    | [.dct _ false ks vs] => if isFL vs then some ks else none
    | ds => itemsD0 .plain ds)
  | .items => (match ds with
    | [.dct _ false ks vs] => if isFL vs then some ((ks.zip vs).map fun p => .tup [p.1, p.2]) else none
    | _ => none)
  | .values => (match ds with
    | [.dct _ false _ vs] => if isFL vs then some vs else none
    | _ => none)
  | k => itemsD0 k ds
/-- a loop over items -/
def loopF (body : D → Env → R Fl) : List D → Env → R Fl
  | [], e => .ok .nx e
  | x :: xs, e => (body x e).bind fun f e1 => match f with
    | .nx => loopF body xs e1
    | .ct => loopF body xs e1
    | .bk => .ok .nx e1
    | .rt d => .ok (.rt d) e1
/-- a loop of a comprehension: what each item brings -/
def loopC (body : D → Env → R (List D)) : List D → Env → R (List D)
  | [], e => .ok [] e
  | x :: xs, e => (body x e).bind fun ys e1 => (loopC body xs e1).bind fun zs e2 => .ok (ys ++ zs) e2
def loopW (test : Env → R Bool) (body : Env → R Fl) : Nat → Env → R Fl
  | 0, _ => .no
  | n + 1, e => (test e).bind fun b e1 => if b then (body e1).bind fun f e2 => (match f with
      | .nx => loopW test body n e2
      | .ct => loopW test body n e2
      | .bk => .ok .nx e2
      | .rt d => .ok (.rt d) e2) else .ok .nx e1
/-- slots of a block's own, forgotten, put back -/
def wipeE (e : Env) : List Nat → Env
  | [] => e
  | v :: vs => (wipeE e vs).set v none
def backE (e0 e : Env) : List Nat → Env
  | [] => e
  | v :: vs => (backE e0 e vs).set v (e0[v]?).join
/-- nothing that is owned stands in these slots -/
def freeS (e : Env) (vs : List Nat) : Bool := vs.all fun v => match Env.get e v with
  | some d => !owned d
  | none => true
/-- no exception -/
def R.nox {α : Type} (r : R α) : R α := match r with
  | .exc _ _ => .no
  | r => r
/-- one item of a comprehension -/
def stepC (vs : List Nat) (b : D → Env → Option Env) (c : Env → R Bool) (x : Env → R D) (d : D) (e : Env) : R (List D) := match b d e with
  | some e3 => (c e3).bind fun k e4 => if k then (x e4).bind fun y e5 => .ok [y] (wipeE e5 vs) else .ok [] (wipeE e4 vs)
  | none => .no
def semLc (vs : List Nat) (mi : Env → R (List D)) (b : D → Env → Option Env) (c : Env → R Bool) (x : Env → R D) : Env → R D := fun e => (mi e).bind fun is e1 =>
  if freeS e1 vs then (loopC (stepC vs b c x) is (wipeE e1 vs)).nox.bind fun ys e6 => if ys.length ≤ LN then .ok (.lst true ys) (backE e1 e6 vs) else .no else .no
/-- one item of the outer walk -/
def stepC2 (vs vs' : List Nat) (b : D → Env → Option Env) (mi' : Env → R (List D)) (b' : D → Env → Option Env) (c : Env → R Bool) (x : Env → R D) (d : D) (e : Env) : R (List D) := match b d e with
  | some e3 => (mi' e3).bind fun is' e4 => if freeS e4 vs' then (loopC (stepC vs' b' c x) is' (wipeE e4 vs')).bind fun ys e9 => .ok ys (wipeE e9 vs) else .no
  | none => .no
def semLc2 (vs vs' : List Nat) (mi : Env → R (List D)) (b : D → Env → Option Env) (mi' : Env → R (List D)) (b' : D → Env → Option Env) (c : Env → R Bool) (x : Env → R D) : Env → R D := fun e => (mi e).bind fun is e1 =>
  if freeS e1 vs then (loopC (stepC2 vs vs' b mi' b' c x) is (wipeE e1 vs)).nox.bind fun ys e6 => if ys.length ≤ LN then .ok (.lst true ys) (backE e1 e6 vs) else .no else .no
/-- a dict comprehension: pairs -/
def stepP (vs : List Nat) (b : D → Env → Option Env) (c : Env → R Bool) (x z : Env → R D) (d : D) (e : Env) : R (List (D × D)) := match b d e with
  | some e3 => (c e3).bind fun k e4 => if k then (x e4).bind fun y e5 => (z e5).bind fun w e6 => .ok [(y, w)] (wipeE e6 vs) else .ok [] (wipeE e4 vs)
  | none => .no
def loopP (body : D → Env → R (List (D × D))) : List D → Env → R (List (D × D))
  | [], e => .ok [] e
  | x :: xs, e => (body x e).bind fun ys e1 => (loopP body xs e1).bind fun zs e2 => .ok (ys ++ zs) e2
def semDc (vs : List Nat) (mi : Env → R (List D)) (b : D → Env → Option Env) (c : Env → R Bool) (x z : Env → R D) : Env → R D := fun e => (mi e).bind fun is e1 =>
  if freeS e1 vs then (loopP (stepP vs b c x z) is (wipeE e1 vs)).nox.bind fun ps e6 => if ps.length ≤ LN then (match putPs ([], []) ps with | some q => .ok (.dct true false q.1 q.2) (backE e1 e6 vs) | none => .no) else .no else .no
/-- the items of what is walked, from values -/
def semIt0 (k : It) (m : Env → R (List D)) : Env → R (List D) := fun e => (m e).bind fun ds e1 => R.of (itemsD0 k ds) e1
def semIt (k : It) (m : Env → R (List D)) : Env → R (List D) := fun e => (m e).bind fun ds e1 => R.of (itemsD k ds) e1

/-! ### meanings -/
def sem2 (g : D → D → Option D) (m1 m2 : Env → R Od) : Env → R D := fun e => (m1 e).bind fun x e1 => (m2 e1).bind fun y e2 => match x.res e2, y.res e2 with
  | some p, some q => R.of (g p q) e2
  | _, _ => .no
def semVar (i : Nat) : Env → R D := fun e => match Env.get e i with
  | some d => if owned d then .ok (frz d) (Env.put e i (frz d)) else .ok d e
  | none => .no
/-- a name that is looked at -/
def semPk (i : Nat) : Env → R Od := fun e => match Env.get e i with
  | some _ => .ok (.slot i) e
  | none => .no
def semTv (m : Env → R D) : Env → R Bool := fun e => (m e).bind fun d e1 => R.of (truD d) e1
/-- a comparison as a test -/
def semTc (o : CmpOp) (m1 m2 : Env → R Od) : Env → R Bool := fun e => (m1 e).bind fun x e1 => (m2 e1).bind fun y e2 => match x.res e2, y.res e2 with
  | some p, some q => R.of (cmpD o p q) e2
  | _, _ => .no
def semTnt (m : Env → R Bool) : Env → R Bool := fun e => (m e).bind fun b e1 => .ok (!b) e1
def semTan (m1 m2 : Env → R Bool) : Env → R Bool := fun e => (m1 e).bind fun k e1 => if k then m2 e1 else .ok false e1
def semTor (m1 m2 : Env → R Bool) : Env → R Bool := fun e => (m1 e).bind fun k e1 => if k then .ok true e1 else m2 e1
def semNeg (m : Env → R D) : Env → R D := fun e => (m e).bind fun d e1 => match d with
  | .int i => .ok (.int (-i)) e1
  | _ => .no
/-- not x as a value: x a bool -/
def semNot (m : Env → R D) : Env → R D := fun e => (m e).bind fun d e1 => match d with
  | .bl b => .ok (.bl (!b)) e1
  | _ => .no
def semAn (m1 m2 : Env → R D) : Env → R D := fun e => (m1 e).bind fun d e1 => match d with
  | .bl true => m2 e1
  | .bl false => .ok (.bl false) e1
  | _ => .no
def semOrr (m1 m2 : Env → R D) : Env → R D := fun e => (m1 e).bind fun d e1 => match d with
  | .bl true => .ok (.bl true) e1
  | .bl false => m2 e1
  | _ => .no
def semIte (c : Env → R Bool) (m1 m2 : Env → R D) : Env → R D := fun e => (c e).bind fun k e1 => if k then m1 e1 else m2 e1
def semVn : Env → R (List D) := fun e => .ok [] e
def semVc (m : Env → R D) (r : Env → R (List D)) : Env → R (List D) := fun e => (m e).bind fun x e1 => (r e1).bind fun xs e2 => .ok (x :: xs) e2
def semOn : Env → R (List Od) := fun e => .ok [] e
def semOc (m : Env → R Od) (r : Env → R (List Od)) : Env → R (List Od) := fun e => (m e).bind fun x e1 => (r e1).bind fun xs e2 => .ok (x :: xs) e2
def semLst (m : Env → R (List D)) : Env → R D := fun e => (m e).bind fun ds e1 => if ds.length ≤ LN then .ok (.lst true ds) e1 else .no
def semTup (m : Env → R (List D)) : Env → R D := fun e => (m e).bind fun ds e1 => if ds.length ≤ LN then .ok (.tup (frzL ds)) e1 else .no
def idxG (a b : D) : Option D := match idxD a b with
  | some d => if isF d then some d else none
  | none => none
/-- a subscript, of dicts too -/
def idxF (a b : D) : Option D := match a with
  | .dct _ false ks vs => if isKy b then (match getK ks vs b with
    | some d => if isF d then some d else none
    | none => none) else none
  | a => idxG a b
def semL0 : Env → R (Option Int) := fun e => .ok none e
def semL1 (m : Env → R D) : Env → R (Option Int) := fun e => (m e).bind fun d e1 => match d with
  | .int i => .ok (some i) e1
  | _ => .no
def semSlc (m : Env → R Od) (lo hi : Env → R (Option Int)) : Env → R D := fun e => (m e).bind fun x e1 => (lo e1).bind fun l e2 => (hi e2).bind fun h e3 => match x.res e3 with
  | some p => R.of (slcD p l h) e3
  | none => .no
def semSls (m : Env → R Od) (lo hi st : Env → R (Option Int)) : Env → R D := fun e => (m e).bind fun x e1 => (lo e1).bind fun l e2 => (hi e2).bind fun h e3 => (st e3).bind fun t e4 => match t, x.res e4 with
  | some t, some p => R.of (slsD p l h t) e4
  | _, _ => .no
def semBi (g : List D → Option D) (m : Env → R (List Od)) : Env → R D := fun e => (m e).bind fun os e1 => match resL e1 os with
  | some ds => R.of (g ds) e1
  | none => .no
def semSeq (m1 m2 : Env → R Fl) : Env → R Fl := fun e => (m1 e).bind fun f e1 => match f with
  | .nx => m2 e1
  | f => .ok f e1
def semIf (c : Env → R Bool) (m1 m2 : Env → R Fl) : Env → R Fl := fun e => (c e).bind fun k e1 => if k then m1 e1 else m2 e1
def semEx (m : Env → R D) : Env → R Fl := fun e => (m e).bind fun _ e1 => .ok .nx e1
def semRet (m : Env → R D) : Env → R Fl := fun e => (m e).bind fun d e1 => .ok (.rt d) e1
/-- return x of a name: what is owned goes with it -/
def semRetV (L : List Nat) (i : Nat) : Env → R Fl := fun e => match Env.get e i with
  | some d => if owned d then (if L.contains i then .ok (.rt (frz d)) (Env.put e i (frz d)) else .ok (.rt d) (Env.del e i)) else .ok (.rt d) e
  | none => .no
def semAsg (b : D → Env → Option Env) (m : Env → R D) : Env → R Fl := fun e => (m e).bind fun d e1 => (R.of (b d e1) e1).bind fun e2 _ => .ok .nx e2
def semFor (mi : Env → R (List D)) (b : D → Env → Option Env) (mb : Env → R Fl) : Env → R Fl := fun e => (mi e).bind fun is e1 => loopF (fun d e2 => (R.of (b d e2) e2).bind fun e3 _ => mb e3) is e1
abbrev cmpG1 (o : CmpOp) : D → D → Option D := fun a b => (cmpD1 o a b).map .bl
abbrev cmpG0 (o : CmpOp) : D → D → Option D := fun a b => (cmpD0 o a b).map .bl
abbrev cmpG (o : CmpOp) : D → D → Option D := fun a b => (cmpD o a b).map .bl
def semOv (m : Env → R D) : Env → R Od := fun e => (m e).bind fun d e1 => .ok (.val d) e1
def semCall (run : Nat → List D → R D) (f : Nat) (m : Env → R (List Od)) : Env → R D := fun e => (m e).bind fun os e1 => doCall run f os e1
def semStk {α : Type} : Env → R α := fun _ => .no
def semChn (o o' : CmpOp) (m1 m2 m3 : Env → R Od) : Env → R D := fun e => (m1 e).bind fun x e1 => (m2 e1).bind fun y e2 => match x.res e2, y.res e2 with
  | some p, some q => (R.of (cmpD o p q) e2).bind fun k e3 => if k then (m3 e3).bind fun z e4 => (match y.res e4, z.res e4 with
      | some q, some r => R.of (cmpG o' q r) e4
      | _, _ => .no) else .ok (.bl false) e3
  | _, _ => .no
/-- x.append(e) of a slot -/
def semApp (i : Nat) (m : Env → R D) : Env → R D := fun e => match Env.get e i with
  | some (.lst true _) => (m e).bind fun d e1 => (match Env.get e1 i with
    | some (.lst true xs) => if xs.length < LN then .ok .non (Env.put e1 i (.lst true (xs ++ [d]))) else .no
    | _ => .no)
  | _ => .no
/-- o.m(..) -/
def semMt (ts : List String) (g : D → List D → Option D) (m : Env → R Od) (as : Env → R (List Od)) : Env → R D := fun e => (m e).bind fun o e1 => match (o.res e1).bind tyD with
  | some T => if ts.contains T then (as e1).bind fun os e2 => (match o.res e2, resL e2 os with
    | some d, some ds => if tyD d = some T then R.of (g d ds) e2 else .no
    | _, _ => .no) else .no
  | none => .no
/-- x.m(..) that changes x -/
def semMut (ts : List String) (g : D → List D → Option (D × D)) (i : Nat) (m : Env → R (List D)) : Env → R D := fun e => match Env.get e i with
  | some d0 => (match tyD d0 with
    | some T => if ts.contains T && owned d0 then (m e).bind fun ds e1 => (match Env.get e1 i with
      | some d1 => if owned d1 = true ∧ tyD d1 = some T then (R.of (g d1 ds) e1).bind fun q e2 => .ok q.2 (Env.put e2 i q.1) else .no
      | none => .no) else .no
    | none => .no)
  | none => .no
/-- values bound to slots, one after another -/
def bindP (L : List Nat) : List Nat → List D → Env → Option Env
  | [], [], e => some e
  | i :: is, d :: ds, e => if L.contains i || decide (e.length ≤ i) then none else bindP L is ds (Env.put e i d)
  | _, _, _ => none
def semPar (L : List Nat) (is : List Nat) (m : Env → R (List D)) : Env → R Fl := fun e => (m e).bind fun ds e1 => (R.of (bindP L is ds e1) e1).bind fun e2 _ => .ok .nx e2
def augOk : Operator → Bool
  | .Add => true
  | .Sub => true
  | .BitOr => true
  | .BitAnd => true
  | _ => false
def augD (o : Operator) (a b : D) : Option D := if augOk o then (match a with
  | .int _ => opD o a b
  | .str _ => opD o a b
  | _ => none) else none
def semAug (L : List Nat) (i : Nat) (o : Operator) (m : Env → R D) : Env → R Fl := fun e => match Env.get e i with
  | some a => if owned a || L.contains i then .no else (m e).bind fun d e1 => (R.of (augD o a d) e1).bind fun r e2 => .ok .nx (Env.put e2 i r)
  | none => .no
/-- x[j] = d of a slot, a list -/
def setD (o k d : D) : Option D := match o, k with
  | .lst true xs, .int n => match L2.ixN xs.length n with
    | some m => some (.lst true (xs.set m d))
    | none => none
  | .dct true false ks vs, k => if isKy k && isF d && decide (ks.length < LN) then some (putD ks vs k d) else none
  | _, _ => none
def semSub (i : Nat) (j m : Env → R D) : Env → R Fl := fun e => (m e).bind fun d e1 => match Env.get e1 i with
  | some _ => (j e1).bind fun k e2 => (match Env.get e2 i with
    | some o => (R.of (setD o k d) e2).bind fun o' e3 => .ok .nx (Env.put e3 i o')
    | none => .no)
  | none => .no

/-! ### instances of the program's own classes -/
def getF : List Str → List D → Str → Option D
  | g :: fs, v :: vs, f => if f = g then some v else getF fs vs f
  | _, _, _ => none
def putFs : List Str → List D → Str → D → List Str × List D
  | g :: fs, v :: vs, f, d => if g = f then (g :: fs, d :: vs) else (g :: (putFs fs vs f d).1, v :: (putFs fs vs f d).2)
  | _, _, f, d => ([f], [d])
def fldD (cs : List Nat) (f : Str) : D → Option D
  | .ins _ c fs vs => if cs.contains c then (match getF fs vs f with
    | some d => if isF d then some d else none
    | none => none) else none
  | _ => none
def semFld (cs : List Nat) (f : Str) (m : Env → R Od) : Env → R D := fun e => (m e).bind fun o e1 => match o.res e1 with
  | some d => R.of (fldD cs f d) e1
  | none => .no
/-- an instance of this class without an attribute of the name -/
def isIns (c : Nat) (m : Str) : D → Bool
  | .ins _ c' fs _ => c' == c && !fs.contains m
  | _ => false
def isInc (c : Nat) : D → Bool
  | .ins _ c' _ _ => c' == c
  | _ => false
def semPrp (run : Nat → List D → R D) (c f : Nat) (m : Env → R Od) : Env → R D := fun e => (m e).bind fun o e1 => match o.res e1 with
  | some d => if isInc c d then (doCall run f [o] e1).nox else .no
  | none => .no
def semMeth (run : Nat → List D → R D) (c f : Nat) (nm : Str) (m : Env → R Od) (as : Env → R (List Od)) : Env → R D := fun e => (m e).bind fun o e1 => match o.res e1 with
  | some d => if isIns c nm d then (as e1).bind fun os e2 => doCall run f (o :: os) e2 else .no
  | none => .no
/-- a new instance, its __init__ -/
def doMake (run : Nat → List D → R D) (c f : Nat) (os : List Od) (e : Env) : R D :=
  match lend os e with
  | none => .no
  | some (ds, e1) => match run f (.ins true c [] [] :: ds) with
    | .ok .non (some d :: fs) => (match back os ds fs e1 with
      | some e2 => .ok d e2
      | none => .no)
    | .ok _ _ => .no
    | .exc x fs => (match back os ds fs.tail e1 with
      | some e2 => .exc x e2
      | none => .no)
    | .no => .no
def semMk (run : Nat → List D → R D) (c f : Nat) (m : Env → R (List Od)) : Env → R D := fun e => (m e).bind fun os e1 => doMake run c f os e1
/-- what a slot's class makes -/
def semMkV (run : Nat → List D → R D) (i : Nat) (tb : List (Nat × Nat)) (m : Env → R (List Od)) : Env → R D := fun e => match Env.get e i with
  | some (.cls c) => (match tb.lookup c with
    | some f => semMk run c f m e
    | none => .no)
  | _ => .no
/-- arguments that are filled in behind -/
def semFill (m : Env → R (List Od)) (ds : List D) : Env → R (List Od) := fun e => (m e).bind fun os e1 => .ok (os ++ ds.map Od.val) e1
/-- a value, frozen at once -/
def semFz (m : Env → R D) : Env → R D := fun e => (m e).bind fun d e1 => .ok (frz d) e1
/-- self.f = e -/
def semSfld (cs : List Nat) (i : Nat) (f : Str) (m : Env → R D) : Env → R Fl := fun e => (m e).bind fun d e1 => match Env.get e1 i with
  | some (.ins true c fs vs) => if cs.contains c && decide (fs.length < 1000) && decide (fs.length = vs.length) then .ok .nx (Env.put e1 i (.ins true c (putFs fs vs f d).1 (putFs fs vs f d).2)) else .no
  | _ => .no

section
variable (P : Pg) (call : Nat → List D → R D) (fu : Nat) (L : List Nat)
mutual
def evE : T → Env → R D
  | .var i, e => semVar i e
  | .cst d, e => .ok d e
  | .gl i, e => R.of (P.gl i) e
  | .op o a b, e => sem2 (opD o) (evO a) (evO b) e
  | .cmp o a b, e => sem2 (cmpG o) (evO a) (evO b) e
  | .chn o o' a b c, e => semChn o o' (evO a) (evO b) (evO c) e
  | .neg a, e => semNeg (evE a) e
  | .nt a, e => semNot (evE a) e
  | .an a b, e => semAn (evE a) (evE b) e
  | .orr a b, e => semOrr (evE a) (evE b) e
  | .ite c a b, e => semIte (evT c) (evE a) (evE b) e
  | .call f as, e => semCall call f (evOs as) e
  | .bi b as, e => semBi (biD b) (evOs as) e
  | .bi2 b as, e => semBi (bi2D b) (evOs as) e
  | .idx o i, e => sem2 idxF (evO o) (evO i) e
  | .slc o lo hi, e => semSlc (evO o) (evL lo) (evL hi) e
  | .sls o lo hi st, e => semSls (evO o) (evL lo) (evL hi) (evL st) e
  | .tupD as, e => semTup (evVs as) e
  | .lstD as, e => semLst (evVs as) e
  | .lc vs tg k it c x, e => semLc vs (semIt k (evVs it)) (bindT [] tg) (evT c) (evE x) e
  | .lc2 vs vs' tg k it tg' k' it' c x, e => semLc2 vs vs' (semIt k (evVs it)) (bindT [] tg) (semIt k' (evVs it')) (bindT [] tg') (evT c) (evE x) e
  | .dc vs tg k it c x z, e => semDc vs (semIt k (evVs it)) (bindT [] tg) (evT c) (evE x) (evE z) e
  | .app i x, e => semApp i (evE x) e
  | .mt m o as, e => semMt (mbT m) (mtD m) (evO o) (evOs as) e
  | .mut u i as, e => semMut (muT u) (mutD u) i (evVs as) e
  | .fld cs f o, e => semFld cs f (evO o) e
  | .prp c f o, e => semPrp call c f (evO o) e
  | .meth c f m o as, e => semMeth call c f m (evO o) (evOs as) e
  | .mk c f as, e => semMk call c f (evOs as) e
  | .mkV i tb as, e => semMkV call i tb (evOs as) e
  | .fz x, e => semFz (evE x) e
  | _, _ => .no
/-- an operand -/
def evO : T → Env → R Od
  | .pk i, e => semPk i e
  | .ov x, e => semOv (evE x) e
  | _, _ => .no
def evOs : T → Env → R (List Od)
  | .nil, e => semOn e
  | .cons a r, e => semOc (evO a) (evOs r) e
  | .fill as ds, e => semFill (evOs as) ds e
  | _, _ => .no
/-- values, one after another -/
def evVs : T → Env → R (List D)
  | .nil, e => semVn e
  | .cons a r, e => semVc (evE a) (evVs r) e
  | _, _ => .no
/-- a slice's end -/
def evL : T → Env → R (Option Int)
  | .nil, e => semL0 e
  | .ov x, e => semL1 (evE x) e
  | _, _ => .no
def evT : T → Env → R Bool
  | .tv x, e => semTv (evE x) e
  | .tnt a, e => semTnt (evT a) e
  | .tan a b, e => semTan (evT a) (evT b) e
  | .tor a b, e => semTor (evT a) (evT b) e
  | .yes, e => .ok true e
  | _, _ => .no
end
def evS : T → Env → R Fl
  | .asg tg x, e => semAsg (bindT L tg) (evE P call x) e
  | .par is as, e => semPar L is (evVs P call as) e
  | .aug i o x, e => semAug L i o (evE P call x) e
  | .sfld cs i f x, e => semSfld cs i f (evE P call x) e
  | .sub i j x, e => semSub i (evE P call j) (evE P call x) e
  | .ex x, e => semEx (evE P call x) e
  | .ret x, e => semRet (evE P call x) e
  | .retV i, e => semRetV L i e
  | .retN, e => .ok (.rt .non) e
  | .ifS c a b, e => semIf (evT P call c) (evS a) (evS b) e
  | .forS tg k it body, e => semFor (semIt k (evVs P call it)) (bindT L tg) (evS body) e
  | .whl c body, e => loopW (evT P call c) (evS body) fu e
  | .brk, e => .ok .bk e
  | .cnt, e => .ok .ct e
  | .pas, e => .ok .nx e
  | .seq a b, e => semSeq (evS a) (evS b) e
  | _, _ => .no
end

structure Fd where
  np : Nat
  ns : Nat
  body : T
def ownL : List D → Nat → List Nat
  | [], _ => []
  | d :: ds, i => if owned d then i :: ownL ds (i + 1) else ownL ds (i + 1)
def finals : List D → Env → List (Option D)
  | d :: ds, x :: e => (if owned d then x else none) :: finals ds e
  | _, _ => []
def finR (ds : List D) (r : R Fl) : R D :=
  match r with
  | .ok .nx e => .ok .non (finals ds e)
  | .ok (.rt d) e => .ok d (finals ds e)
  | .ok _ _ => .no
  | .exc x e => .exc x (finals ds e)
  | .no => .no
/-- a def's run, calls k deep at most -/
def runF (P : Pg) (fns : List Fd) (fu : Nat) : Nat → Nat → List D → R D
  | 0, _, _ => .no
  | k + 1, f, ds => match fns[f]? with
    | none => .no
    | some fd => if ds.length = fd.np ∧ fd.np ≤ fd.ns then
        finR ds (evS P (runF P fns fu k) fu (ownL ds 0) fd.body (ds.map some ++ List.replicate (fd.ns - ds.length) none))
      else .no
end Wpk
set_option Elab.async false
set_option linter.all false
set_option maxRecDepth 100000
/-! C0: readings by a plain meaning (Env → R D), and how they go together. -/
namespace Wpk
open PySem PySem.Spec PyProof.Rows L2

/-- what an exception is -/
def ExR (W : Wd) (G H : Hp) (x : Exn) (cls : Value) (dx : Option Addr) : Prop :=
  cls = .ref (W.cA x.c) ∧ ((x.fs = [] ∧ dx = none) ∨ ∃ p vs, dx = some p ∧ H p = some (.xd (x.fs.zip vs)) ∧ x.fs.length = vs.length ∧ OwL W G H x.vs [] vs)
def XPost (W : Wd) (Wx : WX) (σ : L2.St) (F : List Addr) (G H : Hp) (x : Exn) (e : Env) : Prop :=
  ∀ G' H' F' cls dx, Stp F G H F' G' H' → EnvR W G' H' e F' σ → ExR W G' H' x cls dx → Wx cls dx σ H'
abbrev Rp (α β : Type) := Hp → Hp → α → List Addr → β → Prop
/-- behind a meaning's result -/
def Post {α β : Type} (rp : Rp α β) (W : Wd) (Wx : WX) (σ : L2.St) (F : List Addr) (G H : Hp) (Q : β → Hp → Prop) : R α → Prop
  | .ok a e => ∀ v G' H' F' Fv, Stp F G H (F' ++ Fv) G' H' → EnvR W G' H' e F' σ → rp G' H' a Fv v → Q v H'
  | .exc x e => XPost W Wx σ F G H x e
  | .no => False
/-- the state at hand -/
structure Sta (W : Wd) (G H : Hp) (e : Env) (F : List Addr) (σ : L2.St) : Prop where
  sub : Sm G H
  nd : F.Nodup
  env : EnvR W G H e F σ
def Rd1 {α β : Type} (rp : Rp α β) (W : Wd) (Wx : WX) (m : Env → R α) : L2.St → Hp → (β → Hp → Prop) → Prop := fun σ H Q =>
  ∃ e G F, Sta W G H e F σ ∧ Post rp W Wx σ F G H Q (m e)
def rD (W : Wd) : Rp D V := fun G H d F v => Ow W G H d F v
def rO (W : Wd) (σ : L2.St) : Rp Od V := fun G H o F v => match o with
  | .val d => Ow W G H d F v
  | .slot i => F = [] ∧ σ[i]? = some (some v)
def rOs (W : Wd) (σ : L2.St) : Rp (List Od) (List V) := fun G H os F vs => match os with
  | [] => F = [] ∧ vs = []
  | o :: os => ∃ F1 F2 v vs', F = F1 ++ F2 ∧ vs = v :: vs' ∧ rO W σ G H o F1 v ∧ rOs W σ G H os F2 vs'
def rDs (W : Wd) : Rp (List D) (List V) := fun G H d F v => OwL W G H d F v
def rB : Rp Bool Bool := fun _ _ b F v => F = [] ∧ v = b
def rL : Rp (Option Int) (Option Int) := fun _ _ b F v => F = [] ∧ v = b
/-- readings -/
def tE (W : Wd) (Wx : WX) (m : Env → R D) : TE := Rd1 (rD W) W Wx m
def tO (W : Wd) (Wx : WX) (m : Env → R Od) : TE := fun σ => Rd1 (rO W σ) W Wx m σ
def tTs (W : Wd) (Wx : WX) (m : Env → R Bool) : TT := Rd1 rB W Wx m
def tOs (W : Wd) (Wx : WX) (m : Env → R (List Od)) : TA := fun σ => Rd1 (rOs W σ) W Wx m σ
def tVs (W : Wd) (Wx : WX) (m : Env → R (List D)) : TA := Rd1 (rDs W) W Wx m

section
variable {X : Cx} {W : Wd} {Wx : WX} {σ : L2.St} {G G1 G2 H H1 H2 : Hp} {F F1 F2 Fa Fb : List Addr} {e e1 : Env}
theorem PE.imp {t t' : TE} {x : Expr} (h : PE X x t) (k : ∀ σ H Q, t' σ H Q → t σ H Q) : PE X x t' := ⟨fun pins s σ H Q I q => h.run pins s σ H Q I (k _ _ _ q)⟩
theorem PT.imp {t t' : TT} {x : Expr} (h : PT X x t) (k : ∀ σ H Q, t' σ H Q → t σ H Q) : PT X x t' := ⟨fun pins s σ H Q I q => h.run pins s σ H Q I (k _ _ _ q)⟩
theorem PA.imp {t t' : TA} {x : List Expr} (h : PA X x t) (k : ∀ σ H Q, t' σ H Q → t σ H Q) : PA X x t' := ⟨fun pos pins s σ H Q I q => h.run pos pins s σ H Q I (k _ _ _ q)⟩
theorem PS.imp {t t' : TS} {x : Stmt} (h : PS X x t) (k : ∀ D σ H, t' D σ H → t D σ H) : PS X x t' := ⟨fun pins s σ H D I q => h.run pins s σ H D I (k _ _ _ q)⟩
theorem PSs.imp {t t' : TS} {x : List Stmt} (h : PSs X x t) (k : ∀ D σ H, t' D σ H → t D σ H) : PSs X x t' := ⟨fun pins s σ H D I q => h.run pins s σ H D I (k _ _ _ q)⟩
theorem OpR.imp {f : Value → Value → Sem Value} {r r' : R2} (h : OpR X f r) (k : ∀ x y H Q, r' x y H Q → r x y H Q) : OpR X f r' := fun pins s σ H x y v u Q I rx ry q => h pins s σ H x y v u Q I rx ry (k _ _ _ _ q)

/-- two steps, what the first one made stands beside -/
theorem Stp.two (S1 : Stp F G H (F1 ++ Fa) G1 H1) (S2 : Stp F1 G1 H1 (F2 ++ Fb) G2 H2) (ha : ∀ b ∈ Fa, G1 b = none ∧ ∃ o, H1 b = some o) :
    Stp F G H (F2 ++ Fb ++ Fa) G2 H2 ∧ ∀ b ∈ Fa, G2 b = none ∧ H2 b = H1 b := by
  obtain ⟨_, nA, dj⟩ := List.nodup_append.mp S1.nd
  have k : ∀ b ∈ Fa, G1 b = none ∧ b ∉ F1 ∧ H1 b ≠ none := fun b hb => ⟨(ha b hb).1, fun z => dj b z b hb rfl, fun z => by obtain ⟨o, q⟩ := (ha b hb).2; rw [z] at q; cases q⟩
  exact ⟨S1.trans (S2.beside nA k), fun b hb => S2.kept (k b hb).1 (k b hb).2.1 (k b hb).2.2⟩
theorem Stp.left (S : Stp F G H (F1 ++ Fa) G1 H1) : F1.Nodup := (List.nodup_append.mp S.nd).1
theorem Stp.drop (S : Stp F G H (F1 ++ Fa) G1 H1) : Stp F G H F1 G1 H1 := S.perm (fun _ h => h) (fun _ h => List.mem_append_left _ h) S.left
theorem Stp.sta (S : Stp F G H (F1 ++ Fa) G1 H1) (E : EnvR W G1 H1 e F1 σ) : Sta W G1 H1 e F1 σ := ⟨S.sh, S.left, E⟩
theorem XPost.step {x : Exn} (S : Stp F G H (F1 ++ Fa) G1 H1) (ha : ∀ b ∈ Fa, G1 b = none ∧ ∃ o, H1 b = some o) (h : XPost W Wx σ F G H x e) : XPost W Wx σ F1 G1 H1 x e := fun G' H' F' cls dx S2 E r => by
  have S2' : Stp F1 G1 H1 (F' ++ []) G' H' := by rw [List.append_nil]; exact S2
  have S3 := (Stp.two S S2' ha).1
  rw [List.append_nil] at S3
  exact h G' H' F' cls dx S3.drop E r
theorem rO.mem {o : Od} {v : V} (h : rO W σ G H o Fa v) : ∀ b ∈ Fa, G b = none ∧ ∃ x, H b = some x := by
  cases o with
  | val d => exact Ow.mem h
  | slot i =>
    intro b hb
    rw [h.1] at hb
    exact nomatch hb
theorem rO.frame {o : Od} {v : V} (h : rO W σ G H o Fa v) (s : Sm G G1) (k : ∀ b ∈ Fa, G1 b = none ∧ H1 b = H b) : rO W σ G1 H1 o Fa v := by
  cases o with
  | val d => exact Ow.frame s h k
  | slot i => exact h
/-- what an operand is then -/
theorem rO.view {o : Od} {v : V} {d : D} (h : rO W σ G H o Fa v) (E : EnvR W G H e F σ) (r : o.res e = some d) : ∃ F0, Ow W G H d F0 v ∧ ∀ b ∈ F0, b ∈ Fa ∨ b ∈ F := by
  cases o with
  | val d' =>
    have r' : some d' = some d := r
    cases r'
    exact ⟨Fa, h, fun b hb => .inl hb⟩
  | slot i =>
    have r' : (e[i]?).join = some d := r
    have r2 : e[i]? = some (some d) := by
      cases q : e[i]? with
      | none => rw [q] at r'; cases r'
      | some od => rw [q] at r'; cases od with
        | none => cases r'
        | some d' => cases r'; rfl
    obtain ⟨A, Fi, B, rfl, ⟨v', q1, q2⟩, _⟩ := E.cut r2
    rw [h.2] at q1
    cases q1
    exact ⟨Fi, q2, fun b hb => .inr (by simp [hb])⟩

/-! ### binding meanings -/
theorem Post.go {α β γ δ : Type} {ra : Rp α β} {rc : Rp γ δ} {Q : δ → Hp → Prop} {m : R α} {k : α → Env → R γ} {Q1 : β → Hp → Prop}
    (h : Post rc W Wx σ F G H Q (m.bind k)) (S : Stp F G H (F1 ++ Fa) G1 H1) (ha : ∀ b ∈ Fa, G1 b = none ∧ ∃ o, H1 b = some o)
    (q : ∀ a e2 v G2 H2 F2 Fb, Post rc W Wx σ F G H Q (k a e2) → Stp F1 G1 H1 (F2 ++ Fb) G2 H2 → EnvR W G2 H2 e2 F2 σ → ra G2 H2 a Fb v → Q1 v H2) : Post ra W Wx σ F1 G1 H1 Q1 m := by
  cases m with
  | ok a e1 => exact fun v G2 H2 F2 Fb S2 E2 r2 => q a e1 v G2 H2 F2 Fb h S2 E2 r2
  | exc x e1 => exact XPost.step S ha h
  | no => exact h
theorem Sta.refl (S : Sta W G H e F σ) : Stp F G H (F ++ []) G H := by rw [List.append_nil]; exact Stp.refl S.sub S.nd
theorem nomem {P : Addr → Prop} : ∀ b ∈ ([] : List Addr), P b := fun b hb => nomatch hb
/-- a new value, all else as it was -/
def Nw (W : Wd) (G H : Hp) (d : D) (Q : VK) : Prop := ∀ v G' H' Fv, Stp [] G H Fv G' H' → Ow W G' H' d Fv v → Q v H'
theorem EnvR.after {Fv : List Addr} {G' H' : Hp} (E : EnvR W G H e F σ) (S : Stp [] G H Fv G' H') : EnvR W G' H' e F σ :=
  E.frame S.sg fun b hb => S.kept (E.mem b hb).1 (fun z => nomatch z) (fun z => by obtain ⟨o, q⟩ := (E.mem b hb).2; rw [z] at q; cases q)
theorem Stp.plus {Fv : List Addr} {G' H' : Hp} (S : Stp F G H F1 G1 H1) (E : EnvR W G1 H1 e F1 σ) (S2 : Stp [] G1 H1 Fv G' H') : Stp F G H (F1 ++ Fv) G' H' := by
  have k : ∀ b ∈ F1, G1 b = none ∧ b ∉ ([] : List Addr) ∧ H1 b ≠ none := fun b hb => ⟨(E.mem b hb).1, (fun z => nomatch z), fun z => by obtain ⟨o, q⟩ := (E.mem b hb).2; rw [z] at q; cases q⟩
  have S3 := S.trans ((S2.beside S.nd k).perm (E := F1) (E' := F1 ++ Fv) (fun b hb => by simpa using hb) (fun b hb => by simpa [or_comm] using hb) (List.perm_append_comm.nodup_iff.mp (S2.beside S.nd k).nd))
  exact S3
theorem Post.fin {d : D} {Q : VK} (h : Post (rD W) W Wx σ F G H Q (.ok d e)) (S : Stp F G H F1 G1 H1) (E : EnvR W G1 H1 e F1 σ) : Nw W G1 H1 d Q := fun v G' H' Fv S2 o =>
  h v G' H' F1 Fv (S.plus E S2) (E.after S2) o

/-! ### operations on two values -/
def rP2 (W : Wd) (g : D → D → Option D) : R2 := fun x y H Q => ∃ G d1 d2 d F1 F2, Sm G H ∧ Ow W G H d1 F1 x ∧ Ow W G H d2 F2 y ∧ g d1 d2 = some d ∧ Nw W G H d Q
theorem sem2_read {g : D → D → Option D} {m1 m2 : Env → R Od} {H : Hp} {Q : VK} (h : tE W Wx (sem2 g m1 m2) σ H Q) : tOp (rP2 W g) (tO W Wx m1) (tO W Wx m2) σ H Q := by
  obtain ⟨e, G, F, S, p⟩ := h
  refine ⟨e, G, F, S, p.go S.refl nomem fun x e1 v1 G1 H1 F1 Fa p1 S1 E1 r1 => ⟨e1, G1, F1, S1.sta E1, p1.go S1 r1.mem fun y e2 v2 G2 H2 F2 Fb p2 S2 E2 r2 => ?_⟩⟩
  obtain ⟨S3, k3⟩ := Stp.two S1 S2 r1.mem
  have r1' := r1.frame S2.sg k3
  cases c1 : x.res e2 with
  | none => rw [c1] at p2; exact p2.elim
  | some d1 =>
    cases c2 : y.res e2 with
    | none => rw [c1, c2] at p2; exact p2.elim
    | some d2 =>
      rw [c1, c2] at p2
      obtain ⟨Fx, o1, _⟩ := r1'.view E2 c1
      obtain ⟨Fy, o2, _⟩ := r2.view E2 c2
      cases c3 : g d1 d2 with
      | none =>
        have p3 : Post (rD W) W Wx σ F G H Q (R.of (g d1 d2) e2) := p2
        rw [c3] at p3
        exact p3.elim
      | some d =>
        have p3 : Post (rD W) W Wx σ F G H Q (R.of (g d1 d2) e2) := p2
        rw [c3] at p3
        exact ⟨G2, d1, d2, d, Fx, Fy, S2.sh, o1, o2, c3, p3.fin S3.drop.drop E2⟩
theorem pe_op2 {o : Operator} {g : D → D → Option D} {a b : Expr} {m1 m2 : Env → R Od} {pos : Pos} (ho : OpR X (binaryOp o) (rP2 W g)) (ha : PE X a (tO W Wx m1)) (hb : PE X b (tO W Wx m2)) :
    PE X (.BinOp a o b pos) (tE W Wx (sem2 g m1 m2)) := PE.imp (pe_op ho ha hb) fun _ _ _ h => sem2_read h
theorem pe_cmp2 {o : CmpOp} {g : D → D → Option D} {a b : Expr} {m1 m2 : Env → R Od} {pos : Pos} (ho : OpR X (compareOp o) (rP2 W g)) (ha : PE X a (tO W Wx m1)) (hb : PE X b (tO W Wx m2)) (hm : behindInMarks o b = false) :
    PE X (.Compare a [o] [b] pos) (tE W Wx (sem2 g m1 m2)) := PE.imp (pe_cmpR ho ha hb hm) fun _ _ _ h => sem2_read h
end
end Wpk
set_option Elab.async false
set_option linter.all false
set_option maxRecDepth 100000
/-! P1: the operations on data are those of the machine. -/
namespace Wpk
open PySem PySem.Spec PyProof.Rows L2
theorem sz {n : Nat} (h : n ≤ LN) : n ≤ sizeLine := Nat.le_trans h (by decide)
theorem szlt {n : Nat} (h : n < LN) : n < sizeLine := Nat.lt_of_lt_of_le h (by decide)
section
variable {X : Cx} {W : Wd} {G H : Hp} {Q : VK} {F : List Addr} {v : V}
theorem Nw.now {d : D} (h : Nw W G H d Q) (s : Sm G H) (o : Ow W G H d [] v) : Q v H := h v G H [] (Stp.refl s List.nodup_nil) o
theorem Nw.int {i : Int} (h : Nw W G H (.int i) Q) (s : Sm G H) : Q (.int i) H := h.now s ⟨rfl, rfl⟩
theorem Nw.bl {i : Bool} (h : Nw W G H (.bl i) Q) (s : Sm G H) : Q (.bl i) H := h.now s ⟨rfl, rfl⟩
theorem Nw.str {i : List Nat} (h : Nw W G H (.str i) Q) (s : Sm G H) : Q (.str (sOf i)) H := h.now s ⟨rfl, rfl⟩
theorem Nw.lst {ds : List D} {vs : List V} (h : Nw W G H (.lst true ds) Q) (s : Sm G H) (o : OwL W G H ds [] vs) {p : Addr} (hp : H p = none) : Q (.ref p) (upd H p (.lst vs)) := by
  refine h (.ref p) G (upd H p (.lst vs)) [p] (Stp.new s hp) ⟨p, vs, [], rfl, rfl, s.free hp, upd_same, o.keep Sm.refl⟩
theorem upd_same_of {o : HO} {p : Addr} (s : Sm G H) (hp : H p = none) : Sm G (upd H p o) := s.upd (s.free hp)
theorem Nw.tup {ds : List D} {vs : List V} (h : Nw W G H (.tup ds) Q) (s : Sm G H) (o : OwL W G H ds [] vs) {p : Addr} (hp : H p = none) : Q (.ref p) (upd H p (.tup vs)) := by
  have S1 := Stp.new (o := .tup vs) s hp
  have S2 := Stp.freeze (F := [p]) (S1.sh)
  refine h (.ref p) (addG G (upd H p (.tup vs)) [p]) (upd H p (.tup vs)) [] (S1.trans S2) ⟨rfl, p, vs, rfl, SqT.of ?_, o.keep S2.sg⟩
  rw [addG_in (by simp)]
  exact upd_same
theorem Ow.int {i : Int} (o : Ow W G H (.int i) F v) : v = .int i := o.2
theorem Ow.str {i : List Nat} (o : Ow W G H (.str i) F v) : v = .str (sOf i) := o.2
theorem sOf_app (a b : List Nat) : sOf a ++ sOf b = sOf (a ++ b) := by
  show (⟨a.toArray ++ b.toArray⟩ : Str) = ⟨(a ++ b).toArray⟩
  simp
theorem sOf_len (a : List Nat) : (sOf a).length = a.length := by
  show a.toArray.size = a.length
  simp
theorem sOf_inj {a b : List Nat} (h : sOf a = sOf b) : a = b := by
  have := congrArg (fun s : Str => s.cps.toList) h
  simpa [sOf] using this
/-- the list as it may be read -/
theorem Ow.rdL {m : Bool} {xs : List D} (s : Sm G H) (o : Ow W G H (.lst m xs) F v) : ∃ a vs F', v = .ref a ∧ Rd H a (.lst vs) ∧ OwL W G H xs F' vs := by
  cases m with
  | true =>
    obtain ⟨a, vs, F', e, _, _, hh, l⟩ := o
    exact ⟨a, vs, F', e, .inl hh, l⟩
  | false =>
    obtain ⟨_, a, vs, e, q, l⟩ := o
    exact ⟨a, vs, [], e, (le_of s).rd _ _ rfl q, l⟩
theorem Ow.sqL {m : Bool} {xs : List D} (s : Sm G H) (o : Ow W G H (.lst m xs) F v) : ∃ a vs F', v = .ref a ∧ SqL W.K H a vs ∧ OwL W G H xs F' vs := by
  obtain ⟨a, vs, F', e, q, l⟩ := o.rdL s
  exact ⟨a, vs, F', e, .inl q, l⟩
theorem Ow.sqK {xs : List D} (s : Sm G H) (o : Ow W G H (.ksq xs) F v) : ∃ a vs, v = .ref a ∧ SqL W.K H a vs ∧ OwL W G H xs [] vs := by
  obtain ⟨_, a, vs, e, q, l⟩ := o
  exact ⟨a, vs, e, (le_of s).sqL q, l⟩
theorem Ow.sqT {xs : List D} (s : Sm G H) (o : Ow W G H (.tup xs) F v) : ∃ a vs, v = .ref a ∧ SqT W.K H a vs ∧ OwL W G H xs [] vs := by
  obtain ⟨_, a, vs, e, q, l⟩ := o
  exact ⟨a, vs, e, (le_of s).sqT q, l⟩
theorem OwL.fz {ds : List D} {vs : List V} (o : OwL W G H ds F vs) (h : isFL ds = true) : OwL W G H ds [] vs := by
  have e := o.nil_of h
  subst e
  exact o
theorem lst_there {pins : List (Addr × Obj)} {σ : L2.St} {s : Shared} {a : Addr} {xs : List V} (I : Inv X pins σ H s) (h : Rd H a (.lst xs)) : xs.length ≤ sizeLine ∧ ∃ its n, Vals xs its ∧ xs.length = its.length ∧ s.heap.get? a = some { cls := .type "list", data := .seq its.toArray n } := by
  obtain ⟨z, its, n, r, e⟩ := h.ok I.hok
  exact ⟨z, its, n, r, r.length, e⟩
def rCatR : R2 := fun x y H Q => ∃ l b xs zs, x = .ref l ∧ y = .ref b ∧ Rd H l (.lst xs) ∧ Rd H b (.lst zs) ∧ xs.length + zs.length ≤ sizeLine ∧ ∀ p, H p = none → Q (.ref p) (upd H p (.lst (xs ++ zs)))
theorem op_catR : OpR X (binaryOp .Add) rCatR := by
  intro pins s σ H x y v u Q I rx ry h
  obtain ⟨l, b, xs, zs, rfl, rfl, hH, hB, hz, q⟩ := h
  cases rx
  cases ry
  obtain ⟨z, its, n, r, hl, e⟩ := lst_there I hH
  obtain ⟨z2, its2, n2, r2, hl2, e2⟩ := lst_there I hB
  refine PySem.P.add_list e e2 ?_ (by rw [List.size_toArray, List.size_toArray]; omega)
  have ea : its.toArray ++ its2.toArray = (its ++ its2).toArray := by simp
  rw [ea]
  exact ⟨.ref _, _, I.lnew (t' := s.toks) (r.append r2) (by rw [List.length_append]; omega), rfl, q _ I.fresh⟩

/-! ### two ints -/
theorem opI_ok {o : Operator} (go : ∀ i j d, opI o i j = some d → ∃ k, d = .int k)
    (ok : OpR X (binaryOp o) (fun x y H Q => ∃ i j d, x = .int i ∧ y = .int j ∧ opI o i j = some d ∧ ∀ k, d = .int k → Q (.int k) H)) :
    OpR X (binaryOp o) (fun x y H Q => ∃ G i j d F1 F2, Sm G H ∧ Ow W G H (.int i) F1 x ∧ Ow W G H (.int j) F2 y ∧ opI o i j = some d ∧ Nw W G H d Q) := OpR.imp ok fun x y H Q ⟨G, i, j, d, F1, F2, s, o1, o2, e, n⟩ => ⟨i, j, d, o1.2, o2.2, e, fun k ek => by subst ek; exact n.int s⟩
abbrev rII (o : Operator) : R2 := fun x y H Q => ∃ i j d, x = .int i ∧ y = .int j ∧ opI o i j = some d ∧ ∀ k, d = .int k → Q (.int k) H
theorem ii_ok : ∀ o : Operator, OpR X (binaryOp o) (rII o)
  | .Add => OpR.imp op_add fun x y H Q ⟨i, j, d, e1, e2, e, q⟩ => ⟨i, j, e1, e2, by cases e; exact q _ rfl⟩
  | .Sub => OpR.imp op_sub fun x y H Q ⟨i, j, d, e1, e2, e, q⟩ => ⟨i, j, e1, e2, by cases e; exact q _ rfl⟩
  | .Mult => OpR.imp op_mul fun x y H Q ⟨i, j, d, e1, e2, e, q⟩ => by
    unfold opI at e
    dsimp only at e
    split at e
    · rename_i c
      cases e
      exact ⟨i, j, e1, e2, c, q _ rfl⟩
    · cases e
  | .FloorDiv => OpR.imp op_fdiv fun x y H Q ⟨i, j, d, e1, e2, e, q⟩ => by
    unfold opI at e
    dsimp only at e
    split at e
    · rename_i c
      cases e
      exact ⟨i, j, e1, e2, c, q _ rfl⟩
    · cases e
  | .Mod => OpR.imp op_mod fun x y H Q ⟨i, j, d, e1, e2, e, q⟩ => by
    unfold opI at e
    dsimp only at e
    split at e
    · rename_i c
      cases e
      exact ⟨i, j, e1, e2, c, q _ rfl⟩
    · cases e
  | .Pow => OpR.imp op_pow fun x y H Q ⟨i, j, d, e1, e2, e, q⟩ => by
    unfold opI at e
    dsimp only at e
    split at e
    · rename_i c
      cases e
      exact ⟨i, j, e1, e2, c, q _ rfl⟩
    · cases e
  | .LShift => OpR.imp op_shl fun x y H Q ⟨i, j, d, e1, e2, e, q⟩ => by
    unfold opI at e
    dsimp only at e
    split at e
    · rename_i c
      cases e
      exact ⟨i, j, e1, e2, c, q _ rfl⟩
    · cases e
  | .RShift => OpR.imp op_shr fun x y H Q ⟨i, j, d, e1, e2, e, q⟩ => by
    unfold opI at e
    dsimp only at e
    split at e
    · rename_i c
      cases e
      exact ⟨i, j, e1, e2, c, q _ rfl⟩
    · cases e
  | .BitAnd => OpR.imp op_and fun x y H Q ⟨i, j, d, e1, e2, e, q⟩ => ⟨i, j, e1, e2, by cases e; exact q _ rfl⟩
  | .BitOr => OpR.imp op_or fun x y H Q ⟨i, j, d, e1, e2, e, q⟩ => ⟨i, j, e1, e2, by cases e; exact q _ rfl⟩
  | .BitXor => fun _ _ _ _ _ _ _ _ _ _ _ _ ⟨i, j, d, e1, e2, e, q⟩ => nomatch e
  | .MatMult => fun _ _ _ _ _ _ _ _ _ _ _ _ ⟨i, j, d, e1, e2, e, q⟩ => nomatch e
  | .Div => fun _ _ _ _ _ _ _ _ _ _ _ _ ⟨i, j, d, e1, e2, e, q⟩ => nomatch e
theorem opI_int {o : Operator} {i j : Int} {d : D} (h : opI o i j = some d) : ∃ k, d = .int k := by
  unfold opI at h
  cases o <;> dsimp only at h <;> first
    | (cases h; exact ⟨_, rfl⟩)
    | (split at h
       · cases h; exact ⟨_, rfl⟩
       · cases h)
    | cases h
theorem tl_no {n : Nat} (h : n ≤ sizeLine) : Builtin.Str.tooLong n = false := decide_eq_false (by show ¬ n > sizeLine; omega)
theorem rep_flat {α : Type} (a : Array α) : ∀ (n : Nat) (acc : Array α), (List.replicate n a).foldl (· ++ ·) acc = acc ++ (List.replicate n a.toList).flatten.toArray
  | 0, acc => by simp
  | n + 1, acc => by
    rw [List.replicate_succ, List.foldl_cons, rep_flat a n, List.replicate_succ, List.flatten_cons, Array.append_assoc]
    congr 1
    apply Array.ext'
    simp
theorem OwL.rep {ds : List D} {vs : List V} (h : OwL W G H ds [] vs) : ∀ n : Nat, OwL W G H (List.replicate n ds).flatten [] (List.replicate n vs).flatten
  | 0 => ⟨rfl, rfl⟩
  | n + 1 => by
    rw [List.replicate_succ, List.replicate_succ, List.flatten_cons, List.flatten_cons]
    have z := OwL.app h (OwL.rep h n)
    exact z
theorem opD_ok (hK : X.K = W.K) (o : Operator) : OpR X (binaryOp o) (rP2 W (opD o)) := by
  intro pins s σ H x y v u Q I rx ry h
  obtain ⟨G, d1, d2, d, F1, F2, sub, o1, o2, hg, nw⟩ := h
  cases d1 with
  | int i =>
    cases d2 with
    | int j =>
      obtain ⟨k, rfl⟩ := opI_int (o := o) (i := i) (j := j) hg
      refine ii_ok o pins s σ H x y v u Q I rx ry ⟨i, j, _, o1.2, o2.2, hg, fun k' e => ?_⟩
      cases e
      exact nw.int sub
    | _ => exact nomatch hg
  | str a =>
    cases d2 with
    | str b =>
      cases o with
      | Add =>
        have hg' : (if a.length + b.length ≤ LN then some (D.str (a ++ b)) else none) = some d := hg
        split at hg'
        · rename_i c
          cases hg'
          refine op_add_str pins s σ H x y v u Q I rx ry ⟨sOf a, sOf b, o1.2, o2.2, by rw [sOf_len, sOf_len]; exact sz c, ?_⟩
          rw [sOf_app]
          exact nw.str sub
        · cases hg'
      | _ => exact nomatch hg
    | int k =>
      cases o with
      | Mult =>
        have hg' : (if a.length * k.toNat ≤ LN ∧ (-9223372036854775808 ≤ k ∧ k < 9223372036854775808) then some (D.str (List.replicate k.toNat a).flatten) else none) = some d := hg
        split at hg'
        · rename_i c
          cases hg'
          obtain ⟨c1, c2⟩ := c
          obtain ⟨_, rfl⟩ := o1
          obtain ⟨_, rfl⟩ := o2
          obtain ⟨t, rfl⟩ := rx
          obtain ⟨t', rfl⟩ := ry
          have ln : (sOf a).length * k.toNat ≤ sizeLine := by rw [sOf_len]; exact sz c1
          have d1 : (decide (k < -(2 ^ 63 : Int)) || decide (k ≥ 2 ^ 63)) = false := by
            rw [decide_eq_false (by omega), decide_eq_false (by omega)]; rfl
          refine PySem.P.mul_str d1 (fun h1 h2 => ?_) (fun h1 h2 => ?_) ?_
          · have hk : 1 ≤ k := by omega
            have hb : ((sOf a).length : Int) * k ≤ 100000 := by
              have := c1
              rw [← sOf_len] at this
              have e : ((((sOf a).length * k.toNat : Nat)) : Int) = ((sOf a).length : Int) * k := by
                rw [Int.natCast_mul, Int.toNat_of_nonneg (by omega)]
              rw [← e]
              have : ((sOf a).length * k.toNat) ≤ 100000 := this
              omega
            have : ((sOf a).length : Int) ≤ (2 ^ 63 - 1) / k := by
              refine (Int.le_ediv_iff_mul_le (by omega)).mpr ?_
              omega
            omega
          · exact tl_no ln
          · by_cases h1 : k < 1
            · rw [if_pos h1]
              refine ⟨by decide, .str (sOf []), H, I.tok _, ⟨_, rfl⟩, ?_⟩
              have e0 : k.toNat = 0 := by omega
              rw [e0] at nw
              exact nw.str sub
            · rw [if_neg h1]
              by_cases h2 : (k == 1 || (sOf a).length == 0) = true
              · rw [if_pos h2]
                have ee : (List.replicate k.toNat a).flatten = a := by
                  rw [Bool.or_eq_true] at h2
                  rcases h2 with h2 | h2
                  · have : k = 1 := by simpa using h2
                    subst this
                    simp
                  · have : a = [] := by
                      have z : (sOf a).length = 0 := by simpa using h2
                      rw [sOf_len] at z
                      exact List.length_eq_zero_iff.mp z
                    subst this
                    simp
                rw [ee] at nw
                exact ⟨.str (sOf a), H, I, ⟨_, rfl⟩, nw.str sub⟩
              · rw [if_neg h2]
                have e2 : (List.replicate k.toNat (sOf a).cps).foldl (· ++ ·) #[] = (sOf (List.replicate k.toNat a).flatten).cps := by
                  rw [rep_flat]
                  simp [sOf]
                rw [e2]
                have ll : (sOf (List.replicate k.toNat a).flatten).length ≤ sizeLine := by
                  rw [sOf_len]
                  simp only [List.length_flatten, List.map_replicate, List.sum_replicate_nat]
                  rw [Nat.mul_comm]
                  exact sz c1
                refine ⟨ll, .str (sOf (List.replicate k.toNat a).flatten), H, I.tok _, ⟨_, rfl⟩, nw.str sub⟩
        · cases hg'
      | _ => exact nomatch hg
    | _ => exact nomatch hg
  | lst m xs =>
    cases d2 with
    | lst m' ys =>
      cases o with
      | Add =>
        have hg' : (if xs.length + ys.length ≤ LN ∧ isFL xs = true ∧ isFL ys = true then some (D.lst true (xs ++ ys)) else none) = some d := hg
        split at hg'
        · rename_i c
          cases hg'
          obtain ⟨a, vs, F1', e1, q1, l1⟩ := o1.rdL sub
          obtain ⟨b, ws, F2', e2, q2, l2⟩ := o2.rdL sub
          have l1' := l1.fz c.2.1
          have l2' := l2.fz c.2.2
          refine op_catR pins s σ H x y v u Q I rx ry ⟨a, b, vs, ws, e1, e2, q1, q2, by rw [l1.length, l2.length]; exact sz c.1, fun p hp => nw.lst sub ?_ hp⟩
          exact l1'.app l2'
        · cases hg'
      | _ => exact nomatch hg
    | int k =>
      cases o with
      | Mult =>
        have hg' : (if m = true ∧ xs.length * k.toNat ≤ LN ∧ (-9223372036854775808 ≤ k ∧ k < 9223372036854775808) ∧ isFL xs = true then some (D.lst true (List.replicate k.toNat xs).flatten) else none) = some d := hg
        split at hg'
        · rename_i c
          cases hg'
          obtain ⟨hm, c1, c2, c3⟩ := c
          subst hm
          obtain ⟨a, vs, F1', e1, e2, ga, hh, l1⟩ := o1
          refine op_rep pins s σ H x y v u Q I rx ry ⟨a, k, vs, e1, o2.2, hh, by omega, by omega, by rw [l1.length]; exact sz c1, fun p hp => nw.lst sub ?_ hp⟩
          exact (l1.fz c3).rep _
        · cases hg'
      | _ => exact nomatch hg
    | _ => exact nomatch hg
  | tup xs =>
    cases d2 with
    | tup ys =>
      cases o with
      | Add =>
        have hg' : (if xs.length + ys.length ≤ LN then some (D.tup (xs ++ ys)) else none) = some d := hg
        split at hg'
        · rename_i c
          cases hg'
          obtain ⟨a, vs, e1, q1, l1⟩ := o1.sqT sub
          obtain ⟨b, ws, e2, q2, l2⟩ := o2.sqT sub
          refine op_catA pins s σ H x y v u Q I rx ry ⟨a, b, vs, ws, e1, e2, by rw [hK]; exact q1, by rw [hK]; exact q2, by rw [l1.length, l2.length]; exact sz c, fun h0 => ?_, fun _ h0 => ?_, fun _ _ p hp => nw.tup sub (l1.app l2) hp⟩
          · subst h0
            have ex : xs = [] := List.length_eq_zero_iff.mp (by rw [← l1.length]; rfl)
            subst ex
            rw [← e2]
            exact nw.now sub (by obtain ⟨_, z⟩ := o2; exact ⟨rfl, z⟩)
          · subst h0
            have ey : ys = [] := List.length_eq_zero_iff.mp (by rw [← l2.length]; rfl)
            subst ey
            rw [List.append_nil] at nw
            rw [← e1]
            exact nw.now sub (by obtain ⟨_, z⟩ := o1; exact ⟨rfl, z⟩)
        · cases hg'
      | _ => exact nomatch hg
    | _ => exact nomatch hg
  | _ => exact nomatch hg
end
end Wpk
set_option Elab.async false
set_option linter.all false
set_option maxRecDepth 100000
/-! P2: comparisons of data are those of the machine. -/
namespace Wpk
open PySem PySem.Spec PyProof.Rows L2
section
variable {X : Cx} {W : Wd} {G H : Hp} {Q : VK} {F : List Addr} {v : V}
theorem sOf_eq (a b : List Nat) : (sOf a == sOf b) = (a == b) := by
  by_cases h : a = b
  · subst h; simp
  · have : sOf a ≠ sOf b := fun e => h (sOf_inj e)
    rw [beq_eq_false_iff_ne.mpr h, beq_eq_false_iff_ne.mpr this]
mutual
theorem eqv_toPD : ∀ (n m : Nat) (a b : D), shp n a = true → shp m b = true → PyData.eqv (toPD a) (toPD b) = eqD a b
  | n, m, .non, b, ha, hb => by cases b <;> first | rfl | (cases m <;> cases hb)
  | n, m, .bl k, b, ha, hb => by cases b <;> first | rfl | (cases m <;> cases hb)
  | n, m, .int k, b, ha, hb => by cases b <;> first | rfl | (cases m <;> cases hb)
  | n, m, .str k, b, ha, hb => by
    cases b <;> first | rfl | (cases m <;> cases hb) | skip
    exact sOf_eq _ _
  | n + 1, m, .lst k xs, b, ha, hb => by
    cases b with
    | lst k' ys =>
      cases m with
      | zero => cases hb
      | succ m => exact eqv_toPDs n m xs ys ha hb
    | _ => first | rfl | (cases m <;> cases hb)
  | n + 1, m, .tup xs, b, ha, hb => by
    cases b with
    | tup ys =>
      cases m with
      | zero => cases hb
      | succ m => exact eqv_toPDs n m xs ys ha hb
    | _ => first | rfl | (cases m <;> cases hb)
  | 0, _, .lst _ _, _, ha, _ => nomatch ha
  | 0, _, .tup _, _, ha, _ => nomatch ha
  | 0, _, .dct _ _ _ _, _, ha, _ => nomatch ha
  | n + 1, _, .dct _ _ _ _, _, ha, _ => nomatch ha
  | 0, _, .ins _ _ _ _, _, ha, _ => nomatch ha
  | n + 1, _, .ins _ _ _ _, _, ha, _ => nomatch ha
  | 0, _, .ty _, _, ha, _ => nomatch ha
  | n + 1, _, .ty _, _, ha, _ => nomatch ha
  | 0, _, .cls _, _, ha, _ => nomatch ha
  | n + 1, _, .cls _, _, ha, _ => nomatch ha
  | 0, _, .fn _, _, ha, _ => nomatch ha
  | n + 1, _, .fn _, _, ha, _ => nomatch ha
  | 0, _, .ksq _, _, ha, _ => nomatch ha
  | n + 1, _, .ksq _, _, ha, _ => nomatch ha
theorem eqv_toPDs : ∀ (n m : Nat) (a b : List D), shpL n a = true → shpL m b = true → PyData.eqvAll (toPDs a) (toPDs b) = eqDL a b
  | n, m, [], [], _, _ => rfl
  | n, m, [], y :: ys, _, _ => rfl
  | n, m, x :: xs, [], _, _ => rfl
  | n, m, x :: xs, y :: ys, ha, hb => by
    rw [shpL, Bool.and_eq_true] at ha hb
    show (PyData.eqv (toPD x) (toPD y) && PyData.eqvAll (toPDs xs) (toPDs ys)) = (eqD x y && eqDL xs ys)
    rw [eqv_toPD n m x y ha.1 hb.1, eqv_toPDs n m xs ys ha.2 hb.2]
end
theorem strOk_sOf {s : List Nat} (h : s.all (fun c => decide (c < 1114112)) = true) : PyData.strOk (sOf s) = true := by
  show s.toArray.all (fun c => decide (c < 1114112)) = true
  simpa using h
mutual
theorem lay_toPD : ∀ (n : Nat) (a : D), shp n a = true → PyData.canLay0 (toPD a) = true ∧ (toPD a).depth ≤ n
  | n, .non, _ => ⟨rfl, Nat.zero_le _⟩
  | n, .bl _, _ => ⟨rfl, Nat.zero_le _⟩
  | n, .int _, _ => ⟨rfl, Nat.zero_le _⟩
  | n, .str s, h => ⟨strOk_sOf (by cases n <;> exact h), Nat.zero_le _⟩
  | n + 1, .lst _ xs, h => ⟨(lay_toPDs n xs h).1, Nat.succ_le_succ (lay_toPDs n xs h).2⟩
  | n + 1, .tup xs, h => ⟨(lay_toPDs n xs h).1, Nat.succ_le_succ (lay_toPDs n xs h).2⟩
  | 0, .lst _ _, ha => nomatch ha
  | 0, .tup _, ha => nomatch ha
  | 0, .dct _ _ _ _, ha => nomatch ha
  | n + 1, .dct _ _ _ _, ha => nomatch ha
  | 0, .ins _ _ _ _, ha => nomatch ha
  | n + 1, .ins _ _ _ _, ha => nomatch ha
  | 0, .ty _, ha => nomatch ha
  | n + 1, .ty _, ha => nomatch ha
  | 0, .cls _, ha => nomatch ha
  | n + 1, .cls _, ha => nomatch ha
  | 0, .fn _, ha => nomatch ha
  | n + 1, .fn _, ha => nomatch ha
  | 0, .ksq _, ha => nomatch ha
  | n + 1, .ksq _, ha => nomatch ha
theorem lay_toPDs : ∀ (n : Nat) (a : List D), shpL n a = true → PyData.canLayAll0 (toPDs a) = true ∧ PyData.depthAll (toPDs a) ≤ n
  | n, [], _ => ⟨rfl, Nat.zero_le _⟩
  | n, x :: xs, h => by
    rw [shpL, Bool.and_eq_true] at h
    have h1 := lay_toPD n x h.1
    have h2 := lay_toPDs n xs h.2
    refine ⟨?_, Nat.max_le.mpr ⟨h1.2, h2.2⟩⟩
    show (PyData.canLay0 (toPD x) && PyData.canLayAll0 (toPDs xs)) = true
    rw [h1.1, h2.1]
    rfl
end
theorem shaped_toPD {n : Nat} {a : D} (h : shp n a = true) (hn : n ≤ 64) : SeqAt.shaped (toPD a) = true := by
  have := lay_toPD n a h
  unfold SeqAt.shaped
  rw [this.1, decide_eq_true (Nat.le_trans this.2 hn)]
  rfl
theorem shaped_toPDs {n : Nat} {a : List D} (h : shpL n a = true) (hn : n + 1 ≤ 64) : SeqAt.shaped (.list (toPDs a)) = true := by
  have := lay_toPDs n a h
  unfold SeqAt.shaped
  have e1 : PyData.canLay0 (.list (toPDs a)) = true := this.1
  have e2 : PyData.depth (.list (toPDs a)) ≤ 64 := Nat.le_trans (Nat.succ_le_succ this.2) hn
  rw [e1, decide_eq_true e2]
  rfl
mutual
theorem Ow.dp (s : Sm G H) : ∀ {n : Nat} {d : D} {F : List Addr} {v : V}, Ow W G H d F v → shp n d = true → Dp W.K H v (toPD d)
  | n, .non, _, _, h, _ => by obtain ⟨_, rfl⟩ := h; exact .non
  | n, .bl b, _, _, h, _ => by obtain ⟨_, rfl⟩ := h; exact .bl b
  | n, .int b, _, _, h, _ => by obtain ⟨_, rfl⟩ := h; exact .int b
  | n, .str b, _, _, h, _ => by obtain ⟨_, rfl⟩ := h; exact .str _
  | n + 1, .lst m xs, F, v, h, k => by
    obtain ⟨a, vs, F', rfl, q, l⟩ := h.sqL s
    exact .lst q (OwL.dp s l k)
  | n + 1, .tup xs, F, v, h, k => by
    obtain ⟨a, vs, rfl, q, l⟩ := h.sqT s
    exact .tup q (OwL.dp s l k)
  | 0, .lst _ _, _, _, _, ha => nomatch ha
  | 0, .tup _, _, _, _, ha => nomatch ha
  | 0, .dct _ _ _ _, _, _, _, ha => nomatch ha
  | n + 1, .dct _ _ _ _, _, _, _, ha => nomatch ha
  | 0, .ins _ _ _ _, _, _, _, ha => nomatch ha
  | n + 1, .ins _ _ _ _, _, _, _, ha => nomatch ha
  | 0, .ty _, _, _, _, ha => nomatch ha
  | n + 1, .ty _, _, _, _, ha => nomatch ha
  | 0, .cls _, _, _, _, ha => nomatch ha
  | n + 1, .cls _, _, _, _, ha => nomatch ha
  | 0, .fn _, _, _, _, ha => nomatch ha
  | n + 1, .fn _, _, _, _, ha => nomatch ha
  | 0, .ksq _, _, _, _, ha => nomatch ha
  | n + 1, .ksq _, _, _, _, ha => nomatch ha
theorem OwL.dp (s : Sm G H) : ∀ {n : Nat} {ds : List D} {F : List Addr} {vs : List V}, OwL W G H ds F vs → shpL n ds = true → DpAll W.K H vs (toPDs ds)
  | n, [], _, _, h, _ => by obtain ⟨_, rfl⟩ := h; exact .nil
  | n, d :: ds, _, _, h, k => by
    obtain ⟨F1, F2, v, vs', _, rfl, h1, h2⟩ := h
    rw [shpL, Bool.and_eq_true] at k
    exact .cons (Ow.dp s h1 k.1) (OwL.dp s h2 k.2)
end
theorem any_toPDs {n m : Nat} {x : D} (hx : shp m x = true) : ∀ {ys : List D}, shpL n ys = true → ((toPDs ys).any fun z => PyData.eqv z (toPD x)) = inD x ys
  | [], _ => rfl
  | y :: ys, h => by
    rw [shpL, Bool.and_eq_true] at h
    show (PyData.eqv (toPD y) (toPD x) || (toPDs ys).any fun z => PyData.eqv z (toPD x)) = (eqD y x || inD x ys)
    rw [eqv_toPD n m y x h.1 hx, any_toPDs hx h.2]
theorem OwL.flat : ∀ {ds : List D} {F : List Addr} {vs : List V}, OwL W G H ds F vs → ds.all flatD = true → vs.all flatV = true
  | [], _, _, h, _ => by obtain ⟨_, rfl⟩ := h; rfl
  | d :: ds, _, _, h, k => by
    obtain ⟨F1, F2, v, vs', _, rfl, h1, h2⟩ := h
    rw [List.all_cons, Bool.and_eq_true] at k
    rw [List.all_cons, OwL.flat h2 k.2]
    cases d <;> first | (cases k.1; done) | (obtain ⟨_, rfl⟩ := h1; rfl)
theorem Ow.flat {d : D} (o : Ow W G H d F v) (h : flatD d = true) : flatV v = true := by
  cases d <;> first | (cases h; done) | (obtain ⟨_, rfl⟩ := o; rfl)
theorem eqV_flat {F' : List Addr} {a b : D} {x y : V} (o : Ow W G H a F x) (o' : Ow W G H b F' y) (ha : flatD a = true) (hb : flatD b = true) : eqV x y = eqD a b := by
  cases a <;> first
    | (cases ha; done)
    | (obtain ⟨_, rfl⟩ := o
       cases b <;> first
         | (cases hb; done)
         | (obtain ⟨_, rfl⟩ := o'; first | rfl | exact sOf_eq _ _))
theorem inV_flat {a : D} {x : V} (o : Ow W G H a F x) (ha : flatD a = true) : ∀ {ds : List D} {F' : List Addr} {vs : List V}, OwL W G H ds F' vs → ds.all flatD = true → inV x vs = inD a ds
  | [], _, _, h, _ => by obtain ⟨_, rfl⟩ := h; rfl
  | d :: ds, _, _, h, k => by
    obtain ⟨F1, F2, v, vs', _, rfl, h1, h2⟩ := h
    rw [List.all_cons, Bool.and_eq_true] at k
    show (eqV v x || inV x vs') = (eqD d a || inD a ds)
    rw [eqV_flat h1 o k.1 ha, inV_flat o ha h2 k.2]
def isNon : D → Bool
  | .non => true
  | _ => false
theorem non_iff {d : D} (o : Ow W G H d F v) : decide (v = .non) = isNon d := by
  cases d with
  | non => obtain ⟨_, rfl⟩ := o; rfl
  | bl _ => obtain ⟨_, rfl⟩ := o; rfl
  | int _ => obtain ⟨_, rfl⟩ := o; rfl
  | str _ => obtain ⟨_, rfl⟩ := o; rfl
  | ty _ => obtain ⟨_, rfl⟩ := o; rfl
  | cls _ => obtain ⟨_, rfl⟩ := o; rfl
  | fn _ => obtain ⟨_, rfl⟩ := o; rfl
  | tup _ => obtain ⟨_, a, vs, rfl, _⟩ := o; rfl
  | ksq _ => obtain ⟨_, a, vs, rfl, _⟩ := o; rfl
  | lst m _ => cases m with
    | true => obtain ⟨a, vs, F', rfl, _⟩ := o; rfl
    | false => obtain ⟨_, a, vs, rfl, _⟩ := o; rfl
  | dct m _ _ _ => cases m with
    | true => obtain ⟨a, vs, F', o', rfl, _⟩ := o; rfl
    | false => obtain ⟨_, a, vs, o', rfl, _⟩ := o; rfl
  | ins m _ _ _ => cases m with
    | true => obtain ⟨a, dx, vs, F', rfl, _⟩ := o; rfl
    | false => obtain ⟨_, a, dx, vs, rfl, _⟩ := o; rfl

theorem map_bl {o : Option Bool} {d : D} (h : o.map D.bl = some d) : ∃ b, o = some b ∧ d = .bl b := by
  cases o with
  | none => cases h
  | some b => cases h; exact ⟨b, rfl, rfl⟩
theorem cmp_ints {o : CmpOp} {p : Int → Int → Bool} (ok : OpR X (compareOp o) (rI0 fun i j => .bl (p i j))) (hg : ∀ a b k, cmpD0 o a b = some k → ∃ i j, a = .int i ∧ b = .int j ∧ k = p i j) : OpR X (compareOp o) (rP2 W (cmpG0 o)) := by
  refine OpR.imp ok fun x y H Q ⟨G, d1, d2, d, F1, F2, sub, o1, o2, h, nw⟩ => ?_
  obtain ⟨b, hc, hd⟩ := map_bl h
  subst hd
  replace h := hc
  obtain ⟨i, j, rfl, rfl, rfl⟩ := hg _ _ _ h
  exact ⟨i, j, o1.2, o2.2, nw.bl sub⟩
theorem cmp_eq (hK : X.K = W.K) (hu : X.A.units + 64 < cLine) : OpR X (compareOp .Eq) (rP2 W (cmpG0 .Eq)) := by
  refine OpR.imp (op_eqD hu) fun x y H Q ⟨G, d1, d2, d, F1, F2, sub, o1, o2, h, nw⟩ => ?_
  obtain ⟨b, hc, hd⟩ := map_bl h
  subst hd
  replace h := hc
  have h' : (if (shp 60 d1 && shp 60 d2) = true then some (eqD d1 d2) else none) = some b := by
    cases d1 <;> cases d2 <;> exact h
  split at h'
  · rename_i c
    rw [Bool.and_eq_true] at c
    cases h'
    refine ⟨toPD d1, toPD d2, ?_, ?_, shaped_toPD c.1 (by decide), shaped_toPD c.2 (by decide), ?_⟩
    · rw [hK]; exact o1.dp sub c.1
    · rw [hK]; exact o2.dp sub c.2
    · rw [eqv_toPD 60 60 _ _ c.1 c.2]; exact nw.bl sub
  · cases h'
theorem cmp_ne (hK : X.K = W.K) (hu : X.A.units + 64 < cLine) : OpR X (compareOp .NotEq) (rP2 W (cmpG0 .NotEq)) := by
  refine OpR.imp (op_neD hu) fun x y H Q ⟨G, d1, d2, d, F1, F2, sub, o1, o2, h, nw⟩ => ?_
  obtain ⟨b, hc, hd⟩ := map_bl h
  subst hd
  replace h := hc
  have h' : (if (shp 60 d1 && shp 60 d2) = true then some (!eqD d1 d2) else none) = some b := by
    cases d1 <;> cases d2 <;> exact h
  split at h'
  · rename_i c
    rw [Bool.and_eq_true] at c
    cases h'
    refine ⟨toPD d1, toPD d2, ?_, ?_, shaped_toPD c.1 (by decide), shaped_toPD c.2 (by decide), ?_⟩
    · rw [hK]; exact o1.dp sub c.1
    · rw [hK]; exact o2.dp sub c.2
    · rw [eqv_toPD 60 60 _ _ c.1 c.2]; exact nw.bl sub
  · cases h'
theorem cmp_is : OpR X (compareOp .Is) (rP2 W (cmpG0 .Is)) := by
  refine OpR.imp op_isN fun x y H Q ⟨G, d1, d2, d, F1, F2, sub, o1, o2, h, nw⟩ => ?_
  obtain ⟨b, hc, hd⟩ := map_bl h
  subst hd
  replace h := hc
  cases d2 with
  | non =>
    refine ⟨o2.2, ?_⟩
    rw [non_iff o1]
    have h' : some (isNon d1) = some b := by cases d1 <;> exact h
    rw [Option.some.inj h']
    exact nw.bl sub
  | _ => cases d1 <;> exact nomatch h
theorem cmp_isnot : OpR X (compareOp .IsNot) (rP2 W (cmpG0 .IsNot)) := by
  refine OpR.imp op_notN fun x y H Q ⟨G, d1, d2, d, F1, F2, sub, o1, o2, h, nw⟩ => ?_
  obtain ⟨b, hc, hd⟩ := map_bl h
  subst hd
  replace h := hc
  cases d2 with
  | non =>
    refine ⟨o2.2, ?_⟩
    rw [non_iff o1]
    have h' : some (!isNon d1) = some b := by cases d1 <;> exact h
    rw [Option.some.inj h']
    exact nw.bl sub
  | _ => cases d1 <;> exact nomatch h
theorem contains_sOf (c : Nat) (s : List Nat) : decide (c ∈ (sOf s).cps.toList) = s.contains c := by
  show decide (c ∈ s.toArray.toList) = s.contains c
  simp
theorem cmp_in (hK : X.K = W.K) (hu : X.A.units + 65 < cLine) : OpR X (compareOp .In) (rP2 W (cmpG0 .In)) := by
  intro pins s σ H x y v u Q I rx ry h
  obtain ⟨G, d1, d2, d, F1, F2, sub, o1, o2, h, nw⟩ := h
  obtain ⟨b, hc, hd⟩ := map_bl h
  subst hd
  replace h := hc
  cases d2 with
  | lst m ys =>
    have h' : (if (shp 60 d1 && shpL 60 ys) = true then some (inD d1 ys) else none) = some b := by cases d1 <;> exact h
    split at h'
    · rename_i c
      rw [Bool.and_eq_true] at c
      cases h'
      refine op_inD hu pins s σ H x y v u Q I rx ry ⟨toPD d1, toPDs ys, ?_, ?_, shaped_toPD c.1 (by decide), shaped_toPDs c.2 (by decide), ?_⟩
      · rw [hK]; exact o1.dp sub c.1
      · rw [hK]; exact o2.dp (n := 61) sub c.2
      · rw [any_toPDs c.1 c.2]; exact nw.bl sub
    · cases h'
  | tup ys =>
    have h' : (if (flatD d1 && ys.all flatD) = true then some (inD d1 ys) else none) = some b := by cases d1 <;> exact h
    split at h'
    · rename_i c
      rw [Bool.and_eq_true] at c
      cases h'
      obtain ⟨a, vs, rfl, q, l⟩ := o2.sqT sub
      refine op_in_seq pins s σ H x _ v u Q I rx ry ⟨a, vs, rfl, .inr (by rw [hK]; exact q), o1.flat c.1, l.flat c.2, ?_⟩
      show Q (.bl (inV x vs)) H
      rw [inV_flat o1 c.1 l c.2]
      exact nw.bl sub
    · cases h'
  | str z =>
    cases d1 with
    | str w =>
      match w, h, o1 with
      | [c], h, o1 =>
        have h' : some (z.contains c) = some b := h
        cases h'
        refine op_in_sign pins s σ H x y v u Q I rx ry ⟨c, sOf z, o1.2, o2.2, ?_⟩
        rw [contains_sOf]
        exact nw.bl sub
      | [], h, _ => exact nomatch h
      | _ :: _ :: _, h, _ => exact nomatch h
    | _ => exact nomatch h
  | _ => cases d1 <;> exact nomatch h
theorem cmp_notin (hK : X.K = W.K) (hu : X.A.units + 65 < cLine) : OpR X (compareOp .NotIn) (rP2 W (cmpG0 .NotIn)) := by
  intro pins s σ H x y v u Q I rx ry h
  obtain ⟨G, d1, d2, d, F1, F2, sub, o1, o2, h, nw⟩ := h
  obtain ⟨b, hc, hd⟩ := map_bl h
  subst hd
  replace h := hc
  cases d2 with
  | lst m ys =>
    have h' : (if (shp 60 d1 && shpL 60 ys) = true then some (!inD d1 ys) else none) = some b := by cases d1 <;> exact h
    split at h'
    · rename_i c
      rw [Bool.and_eq_true] at c
      cases h'
      refine op_notInD hu pins s σ H x y v u Q I rx ry ⟨toPD d1, toPDs ys, ?_, ?_, shaped_toPD c.1 (by decide), shaped_toPDs c.2 (by decide), ?_⟩
      · rw [hK]; exact o1.dp sub c.1
      · rw [hK]; exact o2.dp (n := 61) sub c.2
      · rw [any_toPDs c.1 c.2]; exact nw.bl sub
    · cases h'
  | tup ys =>
    have h' : (if (flatD d1 && ys.all flatD) = true then some (!inD d1 ys) else none) = some b := by cases d1 <;> exact h
    split at h'
    · rename_i c
      rw [Bool.and_eq_true] at c
      cases h'
      obtain ⟨a, vs, rfl, q, l⟩ := o2.sqT sub
      refine op_notIn_seq pins s σ H x _ v u Q I rx ry ⟨a, vs, rfl, .inr (by rw [hK]; exact q), o1.flat c.1, l.flat c.2, ?_⟩
      show Q (.bl (!inV x vs)) H
      rw [inV_flat o1 c.1 l c.2]
      exact nw.bl sub
    · cases h'
  | str z =>
    cases d1 with
    | str w =>
      match w, h, o1 with
      | [c], h, o1 =>
        have h' : some (!z.contains c) = some b := h
        cases h'
        refine op_notIn_sign pins s σ H x y v u Q I rx ry ⟨c, sOf z, o1.2, o2.2, ?_⟩
        rw [contains_sOf]
        exact nw.bl sub
      | [], h, _ => exact nomatch h
      | _ :: _ :: _, h, _ => exact nomatch h
    | _ => exact nomatch h
  | _ => cases d1 <;> exact nomatch h
theorem cmpD0_ok (hK : X.K = W.K) (hu : X.A.units + 65 < cLine) : ∀ o : CmpOp, OpR X (compareOp o) (rP2 W (cmpG0 o))
  | .Lt => cmp_ints op_lt fun a b k h => by cases a <;> cases b <;> first | (cases h; done) | (cases h; exact ⟨_, _, rfl, rfl, rfl⟩)
  | .LtE => cmp_ints op_le fun a b k h => by cases a <;> cases b <;> first | (cases h; done) | (cases h; exact ⟨_, _, rfl, rfl, rfl⟩)
  | .Gt => cmp_ints op_gt fun a b k h => by cases a <;> cases b <;> first | (cases h; done) | (cases h; exact ⟨_, _, rfl, rfl, rfl⟩)
  | .GtE => cmp_ints op_ge fun a b k h => by cases a <;> cases b <;> first | (cases h; done) | (cases h; exact ⟨_, _, rfl, rfl, rfl⟩)
  | .Eq => cmp_eq hK (by omega)
  | .NotEq => cmp_ne hK (by omega)
  | .Is => cmp_is
  | .IsNot => cmp_isnot
  | .In => cmp_in hK hu
  | .NotIn => cmp_notin hK hu
theorem str_dec (a b : List Nat) : decide (V.str (sOf a) = V.str (sOf b)) = (a == b) := by
  by_cases h : a = b
  · subst h
    rw [decide_eq_true rfl]
    exact (beq_self_eq_true a).symm
  · have h2 : ¬ V.str (sOf a) = V.str (sOf b) := fun z => h (sOf_inj (V.str.inj z))
    rw [decide_eq_false h2]
    exact (beq_eq_false_iff_ne.mpr h).symm
theorem cmpD1_ok (hK : X.K = W.K) (hu : X.A.units + 65 < cLine) (o : CmpOp) : OpR X (compareOp o) (rP2 W (cmpG1 o)) := by
  intro pins s σ H x y v u Q I rx ry h
  obtain ⟨G, d1, d2, d, F1, F2, sub, o1, o2, hg, nw⟩ := h
  cases c : isBB o d1 d2 with
  | none =>
    refine cmpD0_ok hK hu o pins s σ H x y v u Q I rx ry ⟨G, d1, d2, d, F1, F2, sub, o1, o2, ?_, nw⟩
    have e : cmpD1 o d1 d2 = cmpD0 o d1 d2 := by unfold cmpD1; rw [c]
    rw [← hg]
    show (cmpD0 o d1 d2).map _ = (cmpD1 o d1 d2).map _
    rw [e]
  | some k =>
    have e : cmpD1 o d1 d2 = some k := by unfold cmpD1; rw [c]
    have hg' : (cmpD1 o d1 d2).map D.bl = some d := hg
    rw [e] at hg'
    cases hg'
    unfold isBB at c
    split at c
    · cases c
      exact op_is_bl pins s σ H x y v u Q I rx ry ⟨_, _, o1.2, o2.2, nw.bl sub⟩
    · cases c
      exact op_isnot_bl pins s σ H x y v u Q I rx ry ⟨_, _, o1.2, o2.2, nw.bl sub⟩
    · cases c
      obtain ⟨_, rfl⟩ := o1
      obtain ⟨_, rfl⟩ := o2
      refine op_eq pins s σ H _ _ v u Q I rx ry ⟨rfl, ?_⟩
      rw [str_dec]
      exact nw.bl sub
    · cases c
      obtain ⟨_, rfl⟩ := o1
      obtain ⟨_, rfl⟩ := o2
      refine op_ne pins s σ H _ _ v u Q I rx ry ⟨rfl, ?_⟩
      rw [str_dec]
      exact nw.bl sub
    · cases c
end
end Wpk
set_option Elab.async false
set_option linter.all false
set_option maxRecDepth 100000
set_option maxHeartbeats 1000000
/-! P7: dicts by their data. -/
namespace Wpk
open PySem PySem.Spec PyProof.Rows L2
section
variable {X : Cx} {L : List Nat} {W : Wd} {Wx : WX} {σ : L2.St} {G G1 G' H H1 H' : Hp} {F F1 Fa : List Addr} {e : Env} {v : V} {Q : VK}
theorem eqK_iff {a b : D} {k l : Key} (ha : keyD a = some k) (hb : keyD b = some l) : eqK a b = decide (k = l) := by
  cases a with
  | int i =>
    cases ha
    cases b with
    | int j =>
      cases hb
      by_cases e : i = j
      · subst e; simp [eqK]
      · have : ¬ (Sum.inl i : Key) = Sum.inl j := fun z => e (Sum.inl.inj z)
        rw [decide_eq_false this]
        show (i == j) = false
        simpa using e
    | str s =>
      cases hb
      rw [decide_eq_false (fun z => nomatch z)]
      rfl
    | _ => cases hb
  | str s =>
    cases ha
    cases b with
    | int j =>
      cases hb
      rw [decide_eq_false (fun z => nomatch z)]
      rfl
    | str t =>
      cases hb
      by_cases e : s = t
      · subst e; simp [eqK]
      · have : ¬ (Sum.inr (sOf s) : Key) = Sum.inr (sOf t) := fun z => e (sOf_inj (Sum.inr.inj z))
        rw [decide_eq_false this]
        show (s == t) = false
        simpa using e
    | _ => cases hb
  | _ => cases ha
theorem keyD_of {k : D} (h : isKy k = true) : ∃ x, keyD k = some x := by
  cases k with
  | int i => exact ⟨_, rfl⟩
  | str s => exact ⟨_, rfl⟩
  | _ => cases h
theorem key_val {k : D} {x : Key} (h : keyD k = some x) (o : Ow W G H k F v) : v = kV x := by
  cases k with
  | int i => cases h; exact o.2
  | str s => cases h; exact o.2
  | _ => cases h
/-- the value at a key -/
theorem get_ok {k : D} {x : Key} (hk : keyD k = some x) : ∀ {ks vs : List D} {keys : List Key} {us : List V} {F : List Addr}, ks.map keyD = keys.map some → keys.length = us.length → OwL W G H vs F us →
    (∀ d, getK ks vs k = some d → isF d = true → ∃ u, valV (keys.zip us) x = some u ∧ Ow W G H d [] u) ∧ (hasK ks k = (valV (keys.zip us) x).isSome)
  | [], vs, keys, us, F, h1, h2, o => by
    cases keys with
    | nil => exact ⟨(fun d z => nomatch z), rfl⟩
    | cons _ _ => cases h1
  | k' :: ks, vs, keys, us, F, h1, h2, o => by
    cases keys with
    | nil => cases h1
    | cons y keys =>
      rw [List.map_cons, List.map_cons] at h1
      obtain ⟨e1, e2⟩ := List.cons.inj h1
      cases us with
      | nil => cases h2
      | cons u us =>
        cases vs with
        | nil => exact absurd o.2 (fun z => nomatch z)
        | cons d0 vs =>
          obtain ⟨F1, F2, u', us', eF, eU, o1, o2⟩ := o
          cases eU
          have ih := get_ok hk (ks := ks) (vs := vs) (keys := keys) (us := us) e2 (by simpa using h2) o2
          have eq := eqK_iff e1 hk
          by_cases c : y = x
          · have z : valV ((y :: keys).zip (u :: us)) x = some u := valV_pos (p := (y, u)) c
            rw [decide_eq_true c] at eq
            refine ⟨fun d hg hf => ?_, ?_⟩
            · have hg' : (if eqK k' k = true then some d0 else getK ks vs k) = some d := hg
              rw [if_pos eq] at hg'
              cases hg'
              have en := o1.nil_of hf
              subst en
              exact ⟨u, z, o1⟩
            · rw [z]
              show (eqK k' k || hasK ks k) = true
              rw [eq]
              rfl
          · have z : valV ((y :: keys).zip (u :: us)) x = valV (keys.zip us) x := valV_neg (p := (y, u)) c
            rw [decide_eq_false c] at eq
            refine ⟨fun d hg hf => ?_, ?_⟩
            · have hg' : (if eqK k' k = true then some d0 else getK ks vs k) = some d := hg
              rw [if_neg (by rw [eq]; exact fun q => nomatch q)] at hg'
              rw [z]
              exact ih.1 d hg' hf
            · rw [z, ← ih.2]
              show (eqK k' k || hasK ks k) = hasK ks k
              rw [eq]
              rfl
/-- a store at a key that is there -/
theorem set_ok_at {k d : D} {x : Key} {u : V} (hk : keyD k = some x) (od : Ow W G H d [] u) : ∀ {ks vs : List D} {keys : List Key} {us : List V} {F : List Addr}, ks.map keyD = keys.map some → keys.length = us.length → OwL W G H vs F us →
    ∃ us' F', (keys.zip us).map (fun kv => if kv.1 = x then (kv.1, u) else kv) = keys.zip us' ∧ us'.length = us.length ∧ F'.Sublist F ∧ OwL W G H (setK ks vs k d) F' us'
  | [], vs, keys, us, F, h1, h2, o => by
    cases keys with
    | nil =>
      cases us with
      | nil => exact ⟨[], F, rfl, rfl, List.Sublist.refl F, o⟩
      | cons _ _ => cases h2
    | cons _ _ => cases h1
  | k' :: ks, vs, keys, us, F, h1, h2, o => by
    cases keys with
    | nil => cases h1
    | cons y keys =>
      rw [List.map_cons, List.map_cons] at h1
      obtain ⟨e1, e2⟩ := List.cons.inj h1
      cases us with
      | nil => cases h2
      | cons w us =>
        cases vs with
        | nil => exact absurd o.2 (fun z => nomatch z)
        | cons d0 vs =>
          obtain ⟨F1, F2, w', us', eF, eU, o1, o2⟩ := o
          cases eU
          obtain ⟨us2, F3, q1, q2, q3, q4⟩ := set_ok_at hk od (ks := ks) (vs := vs) (keys := keys) (us := us) e2 (by simpa using h2) o2
          have eq := eqK_iff e1 hk
          by_cases c : y = x
          · rw [decide_eq_true c] at eq
            refine ⟨u :: us2, F3, ?_, by rw [List.length_cons, List.length_cons, q2], ?_, ?_⟩
            · show (if y = x then (y, u) else (y, w)) :: (keys.zip us).map _ = (y, u) :: keys.zip us2
              rw [if_pos c, q1]
            · rw [eF]
              exact q3.trans (List.sublist_append_right F1 F2)
            · have es : setK (k' :: ks) (d0 :: vs) k d = d :: setK ks vs k d := by
                show (if eqK k' k = true then d else d0) :: setK ks vs k d = _
                rw [if_pos eq]
              rw [es]
              exact ⟨[], F3, u, us2, rfl, rfl, od, q4⟩
          · rw [decide_eq_false c] at eq
            refine ⟨w :: us2, F1 ++ F3, ?_, by rw [List.length_cons, List.length_cons, q2], ?_, ?_⟩
            · show (if y = x then (y, u) else (y, w)) :: (keys.zip us).map _ = (y, w) :: keys.zip us2
              rw [if_neg c, q1]
            · rw [eF]
              exact List.Sublist.append (List.Sublist.refl F1) q3
            · have es : setK (k' :: ks) (d0 :: vs) k d = d0 :: setK ks vs k d := by
                show (if eqK k' k = true then d else d0) :: setK ks vs k d = _
                rw [if_neg (by rw [eq]; exact fun q => nomatch q)]
              rw [es]
              exact ⟨F1, F3, w, us2, rfl, rfl, o1, q4⟩
theorem zip_snoc {keys : List Key} {us : List V} (h : keys.length = us.length) (x : Key) (u : V) : keys.zip us ++ [(x, u)] = (keys ++ [x]).zip (us ++ [u]) := by
  rw [List.zip_append h]
  rfl
/-- a dict behind a store -/
theorem put_ok {k d : D} {x : Key} {u : V} (hk : keyD k = some x) (od : Ow W G H d [] u) {ks vs : List D} {keys : List Key} {us : List V} {F : List Addr} (h1 : ks.map keyD = keys.map some) (h2 : keys.length = us.length) (o : OwL W G H vs F us) :
    ∃ (ks' vs' : List D) (keys' : List Key) (us' : List V) (F' : List Addr), putD ks vs k d = .dct true false ks' vs' ∧ putK (keys.zip us) x u = keys'.zip us' ∧ ks'.map keyD = keys'.map some ∧ keys'.length = us'.length ∧ F'.Sublist F ∧ OwL W G H vs' F' us' := by
  have hh := (get_ok hk h1 h2 o).2
  cases c : hasK ks k with
  | true =>
    rw [c] at hh
    obtain ⟨us', F', q1, q2, q3, q4⟩ := set_ok_at hk od h1 h2 o
    refine ⟨ks, setK ks vs k d, keys, us', F', ?_, ?_, h1, by rw [q2, h2], q3, q4⟩
    · unfold putD; rw [if_pos c]
    · unfold putK
      rw [valV_any, ← hh, if_pos rfl, q1]
  | false =>
    rw [c] at hh
    refine ⟨ks ++ [k], vs ++ [d], keys ++ [x], us ++ [u], F ++ [], ?_, ?_, ?_, ?_, by rw [List.append_nil]; exact List.Sublist.refl F, o.app (OwL.one od)⟩
    · unfold putD; rw [if_neg (by rw [c]; exact fun z => nomatch z)]
    · unfold putK
      rw [valV_any, ← hh, if_neg (fun z => nomatch z)]
      exact zip_snoc h2 x u
    · rw [List.map_append, List.map_append, h1, List.map_cons, hk]
      rfl
    · rw [List.length_append, List.length_append, h2]
      rfl
theorem Ow.rdD {m t : Bool} {ks xs : List D} (s : Sm G H) (o : Ow W G H (.dct m t ks xs) F v) : ∃ a vs F' ho, v = .ref a ∧ Rd H a ho ∧ DHO t ks vs ho ∧ OwL W G H xs F' vs := by
  cases m with
  | true =>
    obtain ⟨a, vs, F', ho, e, _, _, hh, dd, l⟩ := o
    exact ⟨a, vs, F', ho, e, .inl hh, dd, l⟩
  | false =>
    obtain ⟨_, a, vs, ho, e, q, dd, l⟩ := o
    exact ⟨a, vs, [], ho, e, (le_of s).rd _ _ dd.nf q, dd, l⟩
theorem DHO.k {ks : List D} {us : List V} {ho : HO} (h : DHO false ks us ho) : ∃ keys : List Key, ks.map keyD = keys.map some ∧ keys.length = us.length ∧ ho = .dK (keys.zip us) := h
/-! ### in -/
theorem op_dinE (hu : X.A.units + 1 < cLine) : OpR X (compareOp .In) (fun x y H Q => ∃ a r, y = .ref a ∧ DGet H a x r ∧ Q (.bl r.isSome) H) := fun pins s σ H x y v u Q I rx ry ⟨a, r, ey, g, q⟩ => by
  subst ey
  cases ry
  exact d_in hu I g rx fun s' I' => ⟨.bl r.isSome, H, I', rfl, q⟩
theorem op_dniE (hu : X.A.units + 1 < cLine) : OpR X (compareOp .NotIn) (fun x y H Q => ∃ a r, y = .ref a ∧ DGet H a x r ∧ Q (.bl (!r.isSome)) H) := fun pins s σ H x y v u Q I rx ry ⟨a, r, ey, g, q⟩ => by
  subst ey
  cases ry
  exact d_notIn hu I g rx fun s' I' => ⟨.bl (!r.isSome), H, I', rfl, q⟩
theorem OpR.or2 {f : Value → Value → Sem Value} {r r' : R2} (h : OpR X f r) (h' : OpR X f r') : OpR X f (fun x y H Q => r x y H Q ∨ r' x y H Q) := fun pins s σ H x y v u Q I rx ry q => q.elim (h pins s σ H x y v u Q I rx ry) (h' pins s σ H x y v u Q I rx ry)
theorem in_view {m : Bool} {ks vs : List D} {k : D} {x y : V} {F1 F2 : List Addr} (sub : Sm G H) (hk : isKy k = true) (o1 : Ow W G H k F1 x) (o2 : Ow W G H (.dct m false ks vs) F2 y) : ∃ a r, y = .ref a ∧ DGet H a x r ∧ hasK ks k = r.isSome := by
  obtain ⟨a, us, F', ho, rfl, q, dd, l⟩ := o2.rdD sub
  obtain ⟨keys, e1, e2, rfl⟩ := dd.k
  obtain ⟨key, ek⟩ := keyD_of hk
  have ev := key_val ek o1
  subst ev
  exact ⟨a, valV (keys.zip us) key, rfl, .inl ⟨_, key, q, rfl, rfl⟩, (get_ok ek e1 e2 l).2⟩
theorem cmpD_ok (hK : X.K = W.K) (hu : X.A.units + 65 < cLine) (o : CmpOp) : OpR X (compareOp o) (rP2 W (cmpG o)) := by
  have base := cmpD1_ok (W := W) hK hu o
  by_cases hi : o = .In
  · subst hi
    refine OpR.imp (OpR.or2 base (op_dinE (by omega))) fun x y H Q ⟨G, d1, d2, d, F1, F2, sub, o1, o2, h, nw⟩ => ?_
    cases d2 with
    | dct m t ks vs =>
      cases t with
      | false =>
        obtain ⟨b, c, rfl⟩ := map_bl h
        have c' : (if isKy d1 = true then some (hasK ks d1) else none) = some b := c
        split at c'
        · rename_i hk
          cases c'
          obtain ⟨a, r, e, g, eq⟩ := in_view sub hk o1 o2
          refine .inr ⟨a, r, e, g, ?_⟩
          rw [← eq]
          exact nw.bl sub
        · cases c'
      | true => exact .inl ⟨G, d1, _, d, F1, F2, sub, o1, o2, h, nw⟩
    | _ => exact .inl ⟨G, d1, _, d, F1, F2, sub, o1, o2, h, nw⟩
  · by_cases hn : o = .NotIn
    · subst hn
      refine OpR.imp (OpR.or2 base (op_dniE (by omega))) fun x y H Q ⟨G, d1, d2, d, F1, F2, sub, o1, o2, h, nw⟩ => ?_
      cases d2 with
      | dct m t ks vs =>
        cases t with
        | false =>
          obtain ⟨b, c, rfl⟩ := map_bl h
          have c' : (if isKy d1 = true then some (!hasK ks d1) else none) = some b := c
          split at c'
          · rename_i hk
            cases c'
            obtain ⟨a, r, e, g, eq⟩ := in_view sub hk o1 o2
            refine .inr ⟨a, r, e, g, ?_⟩
            rw [← eq]
            exact nw.bl sub
          · cases c'
        | true => exact .inl ⟨G, d1, _, d, F1, F2, sub, o1, o2, h, nw⟩
      | _ => exact .inl ⟨G, d1, _, d, F1, F2, sub, o1, o2, h, nw⟩
    · have e : cmpG (o) = cmpG1 o := by
        funext a b
        have : cmpD o a b = cmpD1 o a b := by
          cases o <;> first | rfl | exact absurd rfl hi | exact absurd rfl hn
        show (cmpD o a b).map _ = (cmpD1 o a b).map _
        rw [this]
      rw [e]
      exact base
end
end Wpk
set_option Elab.async false
set_option linter.all false
set_option maxRecDepth 100000
/-! C1: expressions without calls. -/
namespace Wpk
open PySem PySem.Spec PyProof.Rows L2
section
variable {X : Cx} {W : Wd} {Wx : WX} {σ : L2.St} {G G1 G2 G' H H1 H2 H' : Hp} {F F1 F2 Fa Fb Fv : List Addr} {e e1 : Env} {Q : VK} {v : V}
theorem get_some {i : Nat} {d : D} (h : Env.get e i = some d) : e[i]? = some (some d) := by
  have h' : (e[i]?).join = some d := h
  cases q : e[i]? with
  | none => rw [q] at h'; cases h'
  | some od => rw [q] at h'; cases od with
    | none => cases h'
    | some d' => cases h'; rfl
theorem Ow.nil_owned {d : D} (o : Ow W G H d F v) (h : owned d = false) : F = [] := by
  cases d with
  | lst m xs =>
    cases m with
    | true => cases h
    | false => exact o.1
  | dct m t ks xs =>
    cases m with
    | true => cases h
    | false => exact o.1
  | ins m c fs xs =>
    cases m with
    | true => cases h
    | false => exact o.1
  | _ => exact o.1
theorem put_same {i : Nat} {d : D} (h : e[i]? = some (some d)) : e.set i (some d) = e := by
  apply List.ext_getElem?
  intro j
  by_cases hj : i = j
  · subst hj
    obtain ⟨hl, he⟩ := List.getElem?_eq_some_iff.mp h
    rw [List.getElem?_set_self hl, h]
  · rw [List.getElem?_set_ne hj]
theorem set_same {i : Nat} (h : σ[i]? = some (some v)) : σ.set i (some v) = σ := by
  apply List.ext_getElem?
  intro j
  by_cases hj : i = j
  · subst hj
    obtain ⟨hl, he⟩ := List.getElem?_eq_some_iff.mp h
    rw [List.getElem?_set_self hl, h]
  · rw [List.getElem?_set_ne hj]

/-! ### names, constants -/
theorem var_read {i : Nat} (h : tE W Wx (semVar i) σ H Q) : tVar i σ H Q := by
  obtain ⟨e, G, F, S, p⟩ := h
  unfold semVar at p
  cases c : Env.get e i with
  | none => rw [c] at p; exact p.elim
  | some d =>
    rw [c] at p
    dsimp only at p
    obtain ⟨A, Fi, B, rfl, ⟨v, q1, q2⟩, q3⟩ := S.env.cut (get_some c)
    refine ⟨v, q1, ?_⟩
    cases hO : owned d with
    | false =>
      rw [hO, if_neg Bool.false_ne_true] at p
      have e0 := q2.nil_owned hO
      subst e0
      exact p v G H (A ++ [] ++ B) [] (by rw [List.append_nil (A ++ [] ++ B)]; exact Stp.refl S.sub S.nd) S.env q2
    | true =>
      rw [hO, if_pos rfl] at p
      have S1 : Stp (A ++ Fi ++ B) G H (A ++ B) (addG G H Fi) H := by
        have z := Stp.freeze (F := Fi) S.sub
        have nd := S.nd
        have nAB : (A ++ B).Nodup := by
          refine List.Nodup.sublist ?_ nd
          exact List.Sublist.append (List.sublist_append_left A Fi) (List.Sublist.refl B)
        have k : ∀ b ∈ A ++ B, G b = none ∧ b ∉ Fi ∧ H b ≠ none := fun b hb => by
          have hm : b ∈ A ++ Fi ++ B := by rcases List.mem_append.mp hb with z | z <;> simp [z]
          refine ⟨(S.env.mem b hm).1, fun hi => ?_, fun z => by obtain ⟨o, q⟩ := (S.env.mem b hm).2; rw [z] at q; cases q⟩
          rw [List.append_assoc] at nd
          obtain ⟨_, n2, n3⟩ := List.nodup_append.mp nd
          rcases List.mem_append.mp hb with z | z
          · exact n3 b z b (List.mem_append_left _ hi) rfl
          · exact (List.nodup_append.mp n2).2.2 b hi b z rfl
        refine (z.beside nAB k).perm (fun b hb => ?_) (fun b hb => hb) nAB
        rcases List.mem_append.mp hb with z | z
        · simp [z]
        · rcases List.mem_append.mp z with z | z <;> simp [z]
      have kk : ∀ b ∈ A ++ B, addG G H Fi b = none ∧ H b = H b := fun b hb => by
        have hm : b ∈ A ++ Fi ++ B := by rcases List.mem_append.mp hb with z | z <;> simp [z]
        have nd := S.nd
        rw [List.append_assoc] at nd
        obtain ⟨_, n2, n3⟩ := List.nodup_append.mp nd
        have hi : b ∉ Fi := fun hi => by
          rcases List.mem_append.mp hb with z | z
          · exact n3 b z b (List.mem_append_left _ hi) rfl
          · exact (List.nodup_append.mp n2).2.2 b hi b z rfl
        exact ⟨(addG_out hi).trans (S.env.mem b hm).1, rfl⟩
      have of : Ow W (addG G H Fi) H (frz d) [] v := q2.frz (addG_same S.sub) fun b hb => addG_in hb
      have E2 := (q3 (addG_same S.sub) kk).2 of
      rw [set_same q1] at E2
      have E3 : EnvR W (addG G H Fi) H (Env.put e i (frz d)) (A ++ B) σ := by
        have : A ++ [] ++ B = A ++ B := by simp
        rw [← this]
        exact E2
      exact p v _ H (A ++ B) [] (by rw [List.append_nil]; exact S1) E3 of
theorem pe_varE {i : Nat} {x : Str} {pos : Pos} (hN : X.N[i]? = some x) (hv : Vis X.env.scope x) (hd : (x == ("__debug__" : Str)) = false) (hcd : (x == ("__classdict__" : Str)) = false) : PE X (.Name x pos) (tE W Wx (semVar i)) :=
  PE.imp (pe_var hN hv hd hcd) fun _ _ _ h => var_read h
theorem pe_pk {i : Nat} {x : Str} {pos : Pos} (hN : X.N[i]? = some x) (hv : Vis X.env.scope x) (hd : (x == ("__debug__" : Str)) = false) (hcd : (x == ("__classdict__" : Str)) = false) : PE X (.Name x pos) (tO W Wx (semPk i)) :=
  PE.imp (pe_var hN hv hd hcd) fun σ H Q ⟨e, G, F, S, p⟩ => by
    unfold semPk at p
    cases c : Env.get e i with
    | none => rw [c] at p; exact p.elim
    | some d =>
      rw [c] at p
      obtain ⟨A, Fi, B, _, ⟨v, q1, q2⟩, q3⟩ := S.env.cut (get_some c)
      exact ⟨v, q1, p v G H F [] S.refl S.env ⟨rfl, q1⟩⟩
theorem ov_read {m : Env → R D} (h : tO W Wx (fun e => (m e).bind fun d e1 => .ok (.val d) e1) σ H Q) : tE W Wx m σ H Q := by
  obtain ⟨e, G, F, S, p⟩ := h
  exact ⟨e, G, F, S, p.go S.refl nomem fun d e2 v G2 H2 F2 Fb p2 S2 E2 r2 => p2 v G2 H2 F2 Fb S2 E2 r2⟩
theorem pe_ov {m : Env → R D} {x : Expr} (h : PE X x (tE W Wx m)) : PE X x (tO W Wx (fun e => (m e).bind fun d e1 => .ok (.val d) e1)) := PE.imp h fun _ _ _ h => ov_read h
/-- a value that hangs on nothing -/
theorem pe_flat {d : D} {v : V} {x : Expr} (h : PE X x (tC v)) (o : ∀ G H, Ow W G H d [] v) : PE X x (tE W Wx (fun e => .ok d e)) :=
  PE.imp h fun σ H Q ⟨e, G, F, S, p⟩ => p v G H F [] S.refl S.env (o G H)

/-! ### tests -/
theorem Post.of {α β : Type} {rp : Rp α β} {Q : β → Hp → Prop} {o : Option α} (h : Post rp W Wx σ F G H Q (R.of o e)) : ∃ a, o = some a ∧ Post rp W Wx σ F G H Q (.ok a e) := by
  cases o with
  | none => exact h.elim
  | some a => exact ⟨a, rfl, h⟩
theorem Post.finB {b : Bool} {Q : Bool → Hp → Prop} (h : Post rB W Wx σ F G H Q (.ok b e)) (S : Stp F G H F1 G1 H1) (E : EnvR W G1 H1 e F1 σ) : Q b H1 :=
  h b G1 H1 F1 [] (by rw [List.append_nil]; exact S) E ⟨rfl, rfl⟩
theorem Ow.tru {d : D} {k : Bool} (hK : X.K = W.K) (s : Sm G H) (o : Ow W G H d F v) (h : truD d = some k) : TruV X.K v H k := by
  cases d with
  | non => obtain ⟨_, rfl⟩ := o; cases h; rfl
  | bl b => obtain ⟨_, rfl⟩ := o; cases h; rfl
  | int b => obtain ⟨_, rfl⟩ := o; cases h; rfl
  | str b =>
    obtain ⟨_, rfl⟩ := o
    have h' : (if b.length ≤ LN then some (!b.isEmpty) else none) = some k := h
    split at h'
    · rename_i c
      cases h'
      refine ⟨by rw [sOf_len]; exact sz c, ?_⟩
      rw [sOf_len]
      cases b with
      | nil => rfl
      | cons x xs =>
        show true = _
        rw [List.length_cons]
        have : ((xs.length + 1 : Nat) : Int) ≠ 0 := by omega
        exact (bne_iff_ne.mpr this).symm
    · cases h'
  | lst m xs =>
    obtain ⟨a, vs, F', rfl, q, l⟩ := o.sqL s
    cases h
    refine .inl ⟨vs, by rw [hK]; exact q, ?_⟩
    have := l.length
    cases vs <;> cases xs <;> first | rfl | cases this
  | tup xs =>
    obtain ⟨a, vs, rfl, q, l⟩ := o.sqT s
    cases h
    refine .inr (.inl ⟨vs, by rw [hK]; exact q, ?_⟩)
    have := l.length
    cases vs <;> cases xs <;> first | rfl | cases this
  | _ => exact nomatch h
theorem pt_tv {m : Env → R D} {x : Expr} (hK : X.K = W.K) (h : PE X x (tE W Wx m)) (he : ∀ whole, isTrue x X.env whole = (do let v ← whole; standAt x.pos; holding [v] (truthy v))) : PT X x (tTs W Wx (semTv m)) :=
  PT.imp (pt_truth h he) fun σ H Q ⟨e, G, F, S, p⟩ => ⟨e, G, F, S, p.go S.refl nomem fun d e2 v G2 H2 F2 Fb p2 S2 E2 r2 => by
    obtain ⟨k, hk, p3⟩ := p2.of
    exact ⟨k, r2.tru hK S2.sh hk, p3.finB S2.drop E2⟩⟩
theorem semTc_eq (o : CmpOp) (m1 m2 : Env → R Od) : semTv (sem2 (cmpG o) m1 m2) = semTc o m1 m2 := by
  funext e
  unfold semTv sem2 semTc
  cases m1 e with
  | no => rfl
  | exc x e1 => rfl
  | ok x e1 =>
    show (((m2 e1).bind _).bind _) = (m2 e1).bind _
    cases m2 e1 with
    | no => rfl
    | exc x e1 => rfl
    | ok y e2 =>
      show R.bind (match x.res e2, y.res e2 with | some p, some q => R.of (cmpG o p q) e2 | _, _ => R.no) _ = (match x.res e2, y.res e2 with | some p, some q => R.of (cmpD o p q) e2 | _, _ => R.no)
      cases x.res e2 with
      | none => rfl
      | some p =>
        cases y.res e2 with
        | none => rfl
        | some q =>
          show R.bind (R.of ((cmpD o p q).map D.bl) e2) _ = R.of (cmpD o p q) e2
          cases cmpD o p q <;> rfl
theorem semTc_read {o : CmpOp} {m1 m2 : Env → R Od} {H : Hp} {Q : Bool → Hp → Prop} (h : tTs W Wx (semTc o m1 m2) σ H Q) : tOp (rP2 W (cmpG o)) (tO W Wx m1) (tO W Wx m2) σ H (fun x H' => ∃ k, x = .bl k ∧ Q k H') := by
  obtain ⟨e, G, F, S, p⟩ := h
  refine ⟨e, G, F, S, p.go S.refl nomem fun x e1 v1 G1 H1 F1 Fa p1 S1 E1 r1 => ⟨e1, G1, F1, S1.sta E1, p1.go S1 r1.mem fun y e2 v2 G2 H2 F2 Fb p2 S2 E2 r2 => ?_⟩⟩
  obtain ⟨S3, k3⟩ := Stp.two S1 S2 r1.mem
  have r1' := r1.frame S2.sg k3
  cases c1 : x.res e2 with
  | none => rw [c1] at p2; exact p2.elim
  | some d1 =>
    cases c2 : y.res e2 with
    | none => rw [c1, c2] at p2; exact p2.elim
    | some d2 =>
      rw [c1, c2] at p2
      obtain ⟨Fx, o1, _⟩ := r1'.view E2 c1
      obtain ⟨Fy, o2, _⟩ := r2.view E2 c2
      obtain ⟨k, c3, p3⟩ := Post.of (o := cmpD o d1 d2) p2
      refine ⟨G2, d1, d2, .bl k, Fx, Fy, S2.sh, o1, o2, by rw [cmpG, c3]; rfl, fun v G' H' Fv S4 o4 => ?_⟩
      obtain ⟨_, rfl⟩ := o4
      exact ⟨k, rfl, p3.finB (S3.drop.drop.trans (by
        have e0 : Fv = [] := by assumption
        subst e0
        have := (Stp.refl S2.sh S3.drop.drop.nd).plus E2 S4
        rw [List.append_nil] at this
        exact this)) (E2.after S4)⟩
theorem pt_cmpE {o : CmpOp} {a b : Expr} {m1 m2 : Env → R Od} {pos : Pos} (ho : OpR X (compareOp o) (rP2 W (cmpG o))) (ha : PE X a (tO W Wx m1)) (hb : PE X b (tO W Wx m2)) (hm : behindInMarks o b = false) :
    PT X (.Compare a [o] [b] pos) (tTs W Wx (semTv (sem2 (cmpG o) m1 m2))) := by
  rw [semTc_eq]
  exact PT.imp (pt_cmpR ho ha hb hm) fun σ H Q h => semTc_read h
theorem rB.mem {b : Bool} {k : Bool} (h : rB G H b Fa k) : ∀ b ∈ Fa, G b = none ∧ ∃ x, H b = some x := by
  rw [h.1]; exact nomem
theorem pt_tnt {m : Env → R Bool} {x : Expr} {pos : Pos} (h : PT X x (tTs W Wx m)) : PT X (.UnaryOp .Not x pos) (tTs W Wx (semTnt m)) :=
  PT.imp (pt_not h) fun σ H Q ⟨e, G, F, S, p⟩ => ⟨e, G, F, S, p.go S.refl nomem fun b e2 v G2 H2 F2 Fb p2 S2 E2 r2 => by
    obtain ⟨_, rfl⟩ := r2
    exact p2.finB S2.drop E2⟩
/-- a meaning from a later state on -/
theorem Post.later {α β : Type} {rp : Rp α β} {Q : β → Hp → Prop} {r : R α} (h : Post rp W Wx σ F G H Q r) (S : Stp F G H F1 G1 H1) : Post rp W Wx σ F1 G1 H1 Q r := by
  cases r with
  | ok a e => exact fun v G' H' F' Fv S2 E r => h v G' H' F' Fv (S.trans S2) E r
  | exc x e => exact fun G' H' F' cls dx S2 E r => h G' H' F' cls dx (S.trans S2) E r
  | no => exact h
theorem rd_later {α β : Type} {rp : Rp α β} {Q : β → Hp → Prop} {m : Env → R α} (h : Post rp W Wx σ F G H Q (m e)) (S : Stp F G H F1 G1 H1) (E : EnvR W G1 H1 e F1 σ) : Rd1 rp W Wx m σ H1 Q :=
  ⟨e, G1, F1, ⟨S.sh, S.nd, E⟩, h.later S⟩
theorem tan_read {m1 m2 : Env → R Bool} {Q : Bool → Hp → Prop} (h : tTs W Wx (semTan m1 m2) σ H Q) : tAnd (tTs W Wx m1) (tTs W Wx m2) σ H Q := by
  obtain ⟨e, G, F, S, p⟩ := h
  refine ⟨e, G, F, S, p.go S.refl nomem fun b e2 v G2 H2 F2 Fb p2 S2 E2 r2 => ?_⟩
  obtain ⟨_, rfl⟩ := r2
  cases v with
  | true => exact iteT (rd_later (m := m2) p2 S2.drop E2)
  | false => exact iteF (p2.finB S2.drop E2)
theorem tor_read {m1 m2 : Env → R Bool} {Q : Bool → Hp → Prop} (h : tTs W Wx (semTor m1 m2) σ H Q) : tOr (tTs W Wx m1) (tTs W Wx m2) σ H Q := by
  obtain ⟨e, G, F, S, p⟩ := h
  refine ⟨e, G, F, S, p.go S.refl nomem fun b e2 v G2 H2 F2 Fb p2 S2 E2 r2 => ?_⟩
  obtain ⟨_, rfl⟩ := r2
  cases v with
  | true => exact iteT (p2.finB S2.drop E2)
  | false => exact iteF (rd_later (m := m2) p2 S2.drop E2)
theorem PW.imp {t t' : TT} {x : Expr} (h : PW X x t) (k : ∀ σ H Q, t' σ H Q → t σ H Q) : PW X x t' := ⟨fun wh pins s σ H Q I q => h.run wh pins s σ H Q I (k _ _ _ q)⟩
theorem pw_tan {m1 m2 : Env → R Bool} {a b : Expr} {rest : List Expr} {pos : Pos} (ha : PT X a (tTs W Wx m1)) (hb : PW X (.BoolOp .And (b :: rest) pos) (tTs W Wx m2)) : PW X (.BoolOp .And (a :: b :: rest) pos) (tTs W Wx (semTan m1 m2)) := PW.imp (pw_and ha hb) fun _ _ _ h => tan_read h
theorem pw_tor {m1 m2 : Env → R Bool} {a b : Expr} {rest : List Expr} {pos : Pos} (ha : PT X a (tTs W Wx m1)) (hb : PW X (.BoolOp .Or (b :: rest) pos) (tTs W Wx m2)) : PW X (.BoolOp .Or (a :: b :: rest) pos) (tTs W Wx (semTor m1 m2)) := PW.imp (pw_or ha hb) fun _ _ _ h => tor_read h

/-! ### small expressions -/
theorem pe_negE {m : Env → R D} {x : Expr} {pos : Pos} (h : PE X x (tE W Wx m)) : PE X (.UnaryOp .USub x pos) (tE W Wx (semNeg m)) :=
  PE.imp (pe_un un_neg h) fun σ H Q ⟨e, G, F, S, p⟩ => ⟨e, G, F, S, p.go S.refl nomem fun d e2 v G2 H2 F2 Fb p2 S2 E2 r2 => by
    cases d with
    | int i => exact ⟨i, r2.2, (p2.fin S2.drop E2).int S2.sh⟩
    | _ => exact p2.elim⟩
theorem pe_notE {m : Env → R D} {x : Expr} {pos : Pos} (h : PE X x (tE W Wx m)) : PE X (.UnaryOp .Not x pos) (tE W Wx (semNot m)) :=
  PE.imp (pe_not h) fun σ H Q ⟨e, G, F, S, p⟩ => ⟨e, G, F, S, p.go S.refl nomem fun d e2 v G2 H2 F2 Fb p2 S2 E2 r2 => by
    cases d with
    | bl i => exact ⟨i, r2.2, (p2.fin S2.drop E2).bl S2.sh⟩
    | _ => exact p2.elim⟩
theorem an_read {m1 m2 : Env → R D} (h : tE W Wx (semAn m1 m2) σ H Q) : tAndV (tE W Wx m1) (tE W Wx m2) σ H Q := by
  obtain ⟨e, G, F, S, p⟩ := h
  refine ⟨e, G, F, S, p.go S.refl nomem fun d e2 v G2 H2 F2 Fb p2 S2 E2 r2 => ?_⟩
  cases d with
  | bl i =>
    refine ⟨i, r2.2, ?_⟩
    cases i with
    | true => exact iteT (rd_later (m := m2) p2 S2.drop E2)
    | false => exact iteF ((p2.fin S2.drop E2).bl S2.sh)
  | _ => exact p2.elim
theorem orr_read {m1 m2 : Env → R D} (h : tE W Wx (semOrr m1 m2) σ H Q) : tOrV (tE W Wx m1) (tE W Wx m2) σ H Q := by
  obtain ⟨e, G, F, S, p⟩ := h
  refine ⟨e, G, F, S, p.go S.refl nomem fun d e2 v G2 H2 F2 Fb p2 S2 E2 r2 => ?_⟩
  cases d with
  | bl i =>
    refine ⟨i, r2.2, ?_⟩
    cases i with
    | true => exact iteT ((p2.fin S2.drop E2).bl S2.sh)
    | false => exact iteF (rd_later (m := m2) p2 S2.drop E2)
  | _ => exact p2.elim
theorem pe_anE {m1 m2 : Env → R D} {a b : Expr} {rest : List Expr} {pos : Pos} (ha : PE X a (tE W Wx m1)) (hb : PE X (.BoolOp .And (b :: rest) pos) (tE W Wx m2)) : PE X (.BoolOp .And (a :: b :: rest) pos) (tE W Wx (semAn m1 m2)) := PE.imp (pe_and ha hb) fun _ _ _ h => an_read h
theorem pe_orrE {m1 m2 : Env → R D} {a b : Expr} {rest : List Expr} {pos : Pos} (ha : PE X a (tE W Wx m1)) (hb : PE X (.BoolOp .Or (b :: rest) pos) (tE W Wx m2)) : PE X (.BoolOp .Or (a :: b :: rest) pos) (tE W Wx (semOrr m1 m2)) := PE.imp (pe_or ha hb) fun _ _ _ h => orr_read h
theorem pe_iteE {c : Env → R Bool} {m1 m2 : Env → R D} {t a b : Expr} {pos : Pos} (hc : PT X t (tTs W Wx c)) (ha : PE X a (tE W Wx m1)) (hb : PE X b (tE W Wx m2)) : PE X (.IfExp t a b pos) (tE W Wx (semIte c m1 m2)) :=
  PE.imp (pe_ifExp hc ha hb) fun σ H Q ⟨e, G, F, S, p⟩ => ⟨e, G, F, S, p.go S.refl nomem fun b e2 v G2 H2 F2 Fb p2 S2 E2 r2 => by
    obtain ⟨_, rfl⟩ := r2
    cases v with
    | true => exact iteT (rd_later (m := m1) p2 S2.drop E2)
    | false => exact iteF (rd_later (m := m2) p2 S2.drop E2)⟩
end
end Wpk
set_option Elab.async false
set_option linter.all false
set_option maxRecDepth 100000
/-! C2: lists of values and operands, displays, subscripts, slices, built-ins. -/
namespace Wpk
open PySem PySem.Spec PyProof.Rows L2
section
variable {X : Cx} {W : Wd} {Wx : WX} {σ : L2.St} {G G1 G2 G' H H1 H2 H' : Hp} {F F1 F2 Fa Fb Fv : List Addr} {e e1 : Env} {Q : VK} {v : V}
theorem Stp.swap (S : Stp F G H (F2 ++ Fb ++ Fa) G2 H2) : Stp F G H (F2 ++ (Fa ++ Fb)) G2 H2 := by
  refine S.perm (fun _ h => h) (fun b hb => ?_) ?_
  · rcases List.mem_append.mp hb with h | h
    · simp [h]
    · rcases List.mem_append.mp h with h | h <;> simp [h]
  · refine (List.Perm.nodup_iff ?_).mp S.nd
    rw [List.append_assoc]
    exact List.Perm.append_left F2 List.perm_append_comm

/-! ### lists -/
theorem pa_vn : PA X [] (tVs W Wx semVn) := PA.imp pa_nil fun σ H Q ⟨e, G, F, S, p⟩ => p [] G H F [] S.refl S.env ⟨rfl, rfl⟩
theorem vc_read {m : Env → R D} {r : Env → R (List D)} {Q : List V → Hp → Prop} (h : tVs W Wx (semVc m r) σ H Q) : tCons (tE W Wx m) (tVs W Wx r) σ H Q := by
  obtain ⟨e, G, F, S, p⟩ := h
  refine ⟨e, G, F, S, p.go S.refl nomem fun x e1 v1 G1 H1 F1 Fa p1 S1 E1 r1 => ⟨e1, G1, F1, S1.sta E1, p1.go S1 (Ow.mem r1) fun y e2 v2 G2 H2 F2 Fb p2 S2 E2 r2 => ?_⟩⟩
  obtain ⟨S3, k3⟩ := Stp.two S1 S2 (Ow.mem r1)
  exact p2 (v1 :: v2) G2 H2 F2 (Fa ++ Fb) S3.swap E2 ⟨Fa, Fb, v1, v2, rfl, rfl, Ow.frame S2.sg r1 k3, r2⟩
theorem pa_vc {x : Expr} {xs : List Expr} {m : Env → R D} {r : Env → R (List D)} (h : PE X x (tE W Wx m)) (k : PA X xs (tVs W Wx r)) (hs : starEach (x :: xs) X.env = (false, eval x X.env) :: starEach xs X.env) : PA X (x :: xs) (tVs W Wx (semVc m r)) :=
  PA.imp (pa_cons h k hs) fun _ _ _ h => vc_read h
theorem pa_on : PA X [] (tOs W Wx semOn) := PA.imp pa_nil fun σ H Q ⟨e, G, F, S, p⟩ => p [] G H F [] S.refl S.env (by simp [rOs])
theorem oc_read {m : Env → R Od} {r : Env → R (List Od)} {Q : List V → Hp → Prop} (h : tOs W Wx (semOc m r) σ H Q) : tCons (tO W Wx m) (tOs W Wx r) σ H Q := by
  obtain ⟨e, G, F, S, p⟩ := h
  refine ⟨e, G, F, S, p.go S.refl nomem fun x e1 v1 G1 H1 F1 Fa p1 S1 E1 r1 => ⟨e1, G1, F1, S1.sta E1, p1.go S1 (rO.mem r1) fun y e2 v2 G2 H2 F2 Fb p2 S2 E2 r2 => ?_⟩⟩
  obtain ⟨S3, k3⟩ := Stp.two S1 S2 (rO.mem r1)
  exact p2 (v1 :: v2) G2 H2 F2 (Fa ++ Fb) S3.swap E2 (by rw [rOs]; exact ⟨Fa, Fb, v1, v2, rfl, rfl, rO.frame r1 S2.sg k3, r2⟩)
theorem pa_oc {x : Expr} {xs : List Expr} {m : Env → R Od} {r : Env → R (List Od)} (h : PE X x (tO W Wx m)) (k : PA X xs (tOs W Wx r)) (hs : starEach (x :: xs) X.env = (false, eval x X.env) :: starEach xs X.env) : PA X (x :: xs) (tOs W Wx (semOc m r)) :=
  PA.imp (pa_cons h k hs) fun _ _ _ h => oc_read h
/-- what operands are -/
theorem rOs.view : ∀ {os : List Od} {Fa : List Addr} {vs : List V} {ds : List D}, rOs W σ G H os Fa vs → EnvR W G H e F σ → resL e os = some ds → Paired (fun v d => ∃ F0, Ow W G H d F0 v) vs ds
  | [], Fa, vs, ds, h, E, r => by
    rw [rOs] at h
    obtain ⟨_, rfl⟩ := h
    cases r
    exact .nil
  | o :: os, Fa, vs, ds, h, E, r => by
    rw [rOs] at h
    obtain ⟨F1, F2, v, vs', rfl, rfl, h1, h2⟩ := h
    unfold resL at r
    cases c1 : o.res e with
    | none => rw [c1] at r; cases r
    | some d =>
      cases c2 : resL e os with
      | none => rw [c1, c2] at r; cases r
      | some ds' =>
        rw [c1, c2] at r
        cases r
        obtain ⟨F0, o0, _⟩ := h1.view E c1
        exact .cons ⟨F0, o0⟩ (rOs.view h2 E c2)

/-! ### displays -/
theorem OwL.mem' {ds : List D} {vs : List V} (h : OwL W G H ds Fa vs) : ∀ b ∈ Fa, G b = none ∧ ∃ o, H b = some o := h.mem
/-- a new list that holds what is owned -/
theorem Stp.hold {p : Addr} {o : HO} (S : Stp F G H (F1 ++ Fa) G1 H1) (hp : H1 p = none) (ha : ∀ b ∈ F1 ++ Fa, G1 b = none ∧ ∃ x, H1 b = some x) : Stp F G H (F1 ++ (p :: Fa)) G1 (upd H1 p o) ∧ ∀ b ∈ F1 ++ Fa, G1 b = none ∧ upd H1 p o b = H1 b := by
  have k : ∀ b ∈ F1 ++ Fa, G1 b = none ∧ b ∉ ([] : List Addr) ∧ H1 b ≠ none := fun b hb => ⟨(ha b hb).1, (fun z => nomatch z), fun z => by obtain ⟨o, q⟩ := (ha b hb).2; rw [z] at q; cases q⟩
  have S2 := (Stp.new (o := o) S.sh hp).beside S.nd k
  refine ⟨S.trans (S2.perm (fun b hb => by simpa using hb) (fun b hb => ?_) ?_), fun b hb => ⟨(ha b hb).1, ?_⟩⟩
  · simp only [List.mem_append, List.mem_cons] at hb ⊢
    rcases hb with h | h | h
    · simp [h]
    · simp [h]
    · simp [h]
  · refine (List.Perm.nodup_iff ?_).mp S2.nd
    show (p :: (F1 ++ Fa)).Perm (F1 ++ (p :: Fa))
    exact List.perm_middle.symm
  · obtain ⟨x, hx⟩ := (ha b hb).2
    exact upd_ne (ne_of_none hx hp)
theorem both_mem {ds : List D} {vs : List V} (E : EnvR W G H e F σ) (o : OwL W G H ds Fa vs) : ∀ b ∈ F ++ Fa, G b = none ∧ ∃ x, H b = some x := fun b hb => (List.mem_append.mp hb).elim (E.mem b) (o.mem b)
theorem lst_read {m : Env → R (List D)} (h : tE W Wx (semLst m) σ H Q) : tLst (tVs W Wx m) σ H Q := by
  obtain ⟨e, G, F, S, p⟩ := h
  refine ⟨e, G, F, S, p.go S.refl nomem fun ds e1 vs G1 H1 F1 Fa p1 S1 E1 r1 => ?_⟩
  by_cases c : ds.length ≤ LN
  · rw [if_pos c] at p1
    refine ⟨by rw [OwL.length r1]; exact sz c, fun q hq => ?_⟩
    obtain ⟨S2, k2⟩ := Stp.hold (o := .lst vs) S1 hq (both_mem E1 r1)
    exact p1 (.ref q) G1 _ F1 (q :: Fa) S2 (E1.frame Sm.refl fun b hb => k2 b (List.mem_append_left _ hb)) ⟨q, vs, Fa, rfl, rfl, S1.sh.free hq, upd_same, OwL.frame Sm.refl r1 fun b hb => k2 b (List.mem_append_right _ hb)⟩
  · rw [if_neg c] at p1
    exact p1.elim
theorem pe_lstE {xs : List Expr} {m : Env → R (List D)} {pos : Pos} (h : PA X xs (tVs W Wx m)) : PE X (.List xs pos) (tE W Wx (semLst m)) := PE.imp (pe_lst h) fun _ _ _ h => lst_read h
theorem tup_read {m : Env → R (List D)} (h : tE W Wx (semTup m) σ H Q) : tTup (tVs W Wx m) σ H Q := by
  obtain ⟨e, G, F, S, p⟩ := h
  refine ⟨e, G, F, S, p.go S.refl nomem fun ds e1 vs G1 H1 F1 Fa p1 S1 E1 r1 => ?_⟩
  by_cases c : ds.length ≤ LN
  · rw [if_pos c] at p1
    refine ⟨by rw [OwL.length r1]; exact sz c, fun q hq => ?_⟩
    obtain ⟨S2, k2⟩ := Stp.hold (o := .tup vs) S1 hq (both_mem E1 r1)
    -- freeze the tuple and all it holds
    have nd2 := S2.nd
    have gq : G1 q = none := S1.sh.free hq
    have r1' : OwL W G1 (upd H1 q (.tup vs)) ds Fa vs := OwL.frame Sm.refl r1 fun b hb => k2 b (List.mem_append_right _ hb)
    have E1' : EnvR W G1 (upd H1 q (.tup vs)) e1 F1 σ := E1.frame Sm.refl fun b hb => k2 b (List.mem_append_left _ hb)
    have z := Stp.freeze (F := q :: Fa) S2.sh
    have dj := (List.nodup_append.mp nd2).2.2
    have kk : ∀ b ∈ F1, G1 b = none ∧ b ∉ q :: Fa ∧ upd H1 q (.tup vs) b ≠ none := fun b hb => ⟨(E1.mem b hb).1, fun hi => dj b hb b hi rfl, fun z => by obtain ⟨o, q'⟩ := (E1'.mem b hb).2; rw [z] at q'; cases q'⟩
    have S3 : Stp (F1 ++ (q :: Fa)) G1 (upd H1 q (.tup vs)) (F1 ++ []) (addG G1 (upd H1 q (.tup vs)) (q :: Fa)) (upd H1 q (.tup vs)) := by
      refine (z.beside S2.left kk).perm (fun b hb => ?_) (fun b hb => by simpa using hb) (by rw [List.append_nil]; exact S2.left)
      rw [List.mem_append] at hb ⊢
      exact hb.symm
    refine p1 (.ref q) _ _ F1 [] (S2.trans S3) (E1'.frame z.sg fun b hb => ⟨(addG_out (kk b hb).2.1).trans (kk b hb).1, rfl⟩) ⟨rfl, q, vs, rfl, SqT.of ?_, OwL.frz z.sg r1' fun b hb => addG_in (List.mem_cons_of_mem _ hb)⟩
    rw [addG_in (by simp)]
    exact upd_same
  · rw [if_neg c] at p1
    exact p1.elim
theorem pe_tupE {xs : List Expr} {m : Env → R (List D)} {k : Nat} {pos : Pos} (h : PA X xs (tVs W Wx m)) : PE X (.Tuple xs k pos) (tE W Wx (semTup m)) := PE.imp (pe_tup h) fun _ _ _ h => tup_read h

/-! ### subscripts -/
theorem IxR.imp {r r' : R2} (h : IxR X r) (k : ∀ x y H Q, r' x y H Q → r x y H Q) : IxR X r' := fun value slice pins s σ H x y v u Q I rx ry q hs => h value slice pins s σ H x y v u Q I rx ry (k _ _ _ _ q) hs
theorem atI_get {α : Type} {xs : List α} {i : Int} {x : α} (h : atI xs i = some x) : ∃ j, ixN xs.length i = some j ∧ xs[j]? = some x := by
  unfold atI at h
  cases c : ixN xs.length i with
  | none => rw [c] at h; cases h
  | some j => rw [c] at h; exact ⟨j, rfl, h⟩
theorem OwL.child {ds : List D} {vs : List V} {i : Int} {d : D} (o : OwL W G H ds F vs) (h : atI ds i = some d) (hf : isF d = true) : ∃ v, atI vs i = some v ∧ Ow W G H d [] v := by
  obtain ⟨j, c1, c2⟩ := atI_get h
  obtain ⟨A, Fi, B, v, _, q1, q2, _⟩ := o.cut c2
  have e0 := q2.nil_of hf
  subst e0
  refine ⟨v, ?_, q2⟩
  unfold atI
  rw [o.length, c1]
  exact q1
theorem ix_ok (hK : X.K = W.K) : IxR X (rP2 W idxG) := by
  refine IxR.imp ix_seq fun x y H Q ⟨G, d1, d2, d, F1, F2, sub, o1, o2, h, nw⟩ => ?_
  unfold idxG at h
  cases c : idxD d1 d2 with
  | none => rw [c] at h; cases h
  | some d' =>
    rw [c] at h
    dsimp only at h
    by_cases hf : isF d' = true
    · rw [if_pos hf] at h
      cases h
      cases d1 with
      | lst m xs =>
        cases d2 with
        | int i =>
          obtain ⟨a, vs, F', rfl, q, l⟩ := o1.sqL sub
          obtain ⟨v, hv, ov⟩ := l.child c hf
          exact .inl ⟨a, vs, i, v, rfl, o2.2, by rw [hK]; exact q, hv, nw.now sub ov⟩
        | _ => exact nomatch c
      | ksq xs =>
        cases d2 with
        | int i =>
          obtain ⟨a, vs, rfl, q, l⟩ := o1.sqK sub
          obtain ⟨v, hv, ov⟩ := l.child c hf
          exact .inl ⟨a, vs, i, v, rfl, o2.2, by rw [hK]; exact q, hv, nw.now sub ov⟩
        | _ => exact nomatch c
      | tup xs =>
        cases d2 with
        | int i =>
          obtain ⟨a, vs, rfl, q, l⟩ := o1.sqT sub
          obtain ⟨v, hv, ov⟩ := l.child c hf
          exact .inr (.inl ⟨a, vs, i, v, rfl, o2.2, by rw [hK]; exact q, hv, nw.now sub ov⟩)
        | _ => exact nomatch c
      | str z =>
        cases d2 with
        | int i =>
          have c' : (if z.length ≤ LN then (atI z i).map (fun c => D.str [c]) else none) = some d := c
          split at c'
          · rename_i hz
            cases hc : atI z i with
            | none => rw [hc] at c'; cases c'
            | some k =>
              rw [hc] at c'
              cases c'
              refine .inr (.inr ⟨sOf z, i, k, o1.2, o2.2, by rw [sOf_len]; exact sz hz, ?_, nw.str sub⟩)
              show atI z.toArray.toList i = some k
              rw [List.toList_toArray]
              exact hc
          · cases c'
        | _ => exact nomatch c
      | _ => cases d2 <;> exact nomatch c
    · rw [if_neg hf] at h
      cases h
theorem pe_ixE {a b : Expr} {m1 m2 : Env → R Od} {pos : Pos} (hK : X.K = W.K) (ha : PE X a (tO W Wx m1)) (hb : PE X b (tO W Wx m2)) (hs : PlainIx b) : PE X (.Subscript a b pos) (tE W Wx (sem2 idxG m1 m2)) :=
  PE.imp (pe_ix (ix_ok hK) ha hb hs) fun _ _ _ h => sem2_read h

/-! ### slices -/
theorem OwL.cutv {ds : List D} {vs : List V} (o : OwL W G H ds [] vs) (n k : Nat) : OwL W G H ((ds.drop n).take k) [] ((vs.drop n).take k) := by
  have dr : ∀ (n : Nat) (ds : List D) (vs : List V), OwL W G H ds [] vs → OwL W G H (ds.drop n) [] (vs.drop n) := by
    intro n
    induction n with
    | zero => intro ds vs o; exact o
    | succ n ih =>
      intro ds vs o
      cases ds with
      | nil => obtain ⟨_, rfl⟩ := o; exact ⟨rfl, rfl⟩
      | cons d ds =>
        obtain ⟨A, B, v, vs', e1, rfl, h1, h2⟩ := o
        obtain ⟨rfl, rfl⟩ := List.append_eq_nil_iff.mp e1.symm
        exact ih ds vs' h2
  have tk : ∀ (n : Nat) (ds : List D) (vs : List V), OwL W G H ds [] vs → OwL W G H (ds.take n) [] (vs.take n) := by
    intro n
    induction n with
    | zero => intro ds vs o; exact ⟨rfl, rfl⟩
    | succ n ih =>
      intro ds vs o
      cases ds with
      | nil => obtain ⟨_, rfl⟩ := o; exact ⟨rfl, rfl⟩
      | cons d ds =>
        obtain ⟨A, B, v, vs', e1, rfl, h1, h2⟩ := o
        obtain ⟨rfl, rfl⟩ := List.append_eq_nil_iff.mp e1.symm
        exact ⟨[], [], v, vs'.take n, rfl, rfl, h1, ih ds vs' h2⟩
  exact tk k _ _ (dr n _ _ o)
def rSl (W : Wd) : V → Option Int → Option Int → Hp → VK → Prop := fun x lo hi H Q => ∃ G d1 d F1, Sm G H ∧ Ow W G H d1 F1 x ∧ slcD d1 lo hi = some d ∧ Nw W G H d Q
theorem SlR.imp {r r' : V → Option Int → Option Int → Hp → VK → Prop} (h : SlR X r) (k : ∀ x lo hi H Q, r' x lo hi H Q → r x lo hi H Q) : SlR X r' :=
  fun pins s σ H x v vl vu lo hi sl Q I rx hs pl pu q => h pins s σ H x v vl vu lo hi sl Q I rx hs pl pu (k _ _ _ _ _ q)
theorem sl_ok (hK : X.K = W.K) : SlR X (rSl W) := by
  refine SlR.imp ((sl_list.or sl_str).or sl_tupA) fun x lo hi H Q ⟨G, d1, d, F1, sub, o1, h, nw⟩ => ?_
  cases d1 with
  | lst m xs =>
    have h' : (if isFL xs = true then some (D.lst true (cutL xs lo hi)) else none) = some d := h
    split at h'
    · rename_i c
      cases h'
      obtain ⟨a, vs, F', rfl, q, l⟩ := o1.sqL sub
      refine .inl (.inl ⟨a, vs, rfl, by rw [hK]; exact q, fun p hp => nw.lst sub ?_ hp⟩)
      unfold cutV cutL
      rw [l.length]
      exact (l.fz c).cutv _ _
    · cases h'
  | ksq xs =>
    cases h
    obtain ⟨a, vs, rfl, q, l⟩ := o1.sqK sub
    refine .inl (.inl ⟨a, vs, rfl, by rw [hK]; exact q, fun p hp => nw.lst sub ?_ hp⟩)
    unfold cutV cutL
    rw [l.length]
    exact l.cutv _ _
  | str z =>
    have h' : (if z.length ≤ LN then some (D.str (cutL z lo hi)) else none) = some d := h
    split at h'
    · rename_i c
      cases h'
      refine .inl (.inr ⟨sOf z, o1.2, by rw [sOf_len]; exact sz c, ?_⟩)
      have e : cutS (sOf z) lo hi = sOf (cutL z lo hi) := by
        unfold cutS cutL
        rw [sOf_len]
        show (⟨_⟩ : Str) = sOf _
        unfold sOf
        rw [List.toList_toArray]
      rw [e]
      exact nw.str sub
    · cases h'
  | tup xs =>
    cases h
    obtain ⟨a, vs, ev, q, l⟩ := o1.sqT sub
    refine .inr ⟨a, vs, ev, by rw [hK]; exact q, fun hw => ?_, fun _ p hp => nw.tup sub ?_ hp⟩
    · rw [l.length] at hw
      have e0 : cutL xs lo hi = xs := by
        unfold cutL
        rw [hw.1, hw.2]
        simp
      rw [e0] at nw
      rw [← ev]
      exact nw.now sub (by obtain ⟨_, z⟩ := o1; exact ⟨rfl, z⟩)
    · unfold cutV cutL
      rw [l.length]
      exact l.cutv _ _
  | _ => exact nomatch h
def tLm (W : Wd) (Wx : WX) (m : Env → R (Option Int)) : TO := Rd1 rL W Wx m
theorem PO.imp {t t' : TO} {x : Option Expr} (h : PO X x t) (k : ∀ σ H Q, t' σ H Q → t σ H Q) : PO X x t' := ⟨fun pins s σ H Q I q => h.run pins s σ H Q I (k _ _ _ q)⟩
theorem po_l0 : PO X none (tLm W Wx semL0) := PO.imp po_none fun σ H Q ⟨e, G, F, S, p⟩ => p none G H F [] S.refl S.env ⟨rfl, rfl⟩
theorem po_l1 {m : Env → R D} {x : Expr} (h : PE X x (tE W Wx m)) : PO X (some x) (tLm W Wx (semL1 m)) :=
  PO.imp (po_some h) fun σ H Q ⟨e, G, F, S, p⟩ => ⟨e, G, F, S, p.go S.refl nomem fun d e2 v G2 H2 F2 Fb p2 S2 E2 r2 => by
    cases d with
    | int i => exact ⟨i, r2.2, p2 (some i) G2 H2 F2 [] (by rw [List.append_nil]; exact S2.drop) E2 ⟨rfl, rfl⟩⟩
    | _ => exact p2.elim⟩
theorem rL.mem {b k : Option Int} (h : rL G H b Fa k) : ∀ b ∈ Fa, G b = none ∧ ∃ x, H b = some x := by
  rw [h.1]; exact nomem
theorem pe_slcE {x : Expr} {lo hi : Option Expr} {m : Env → R Od} {ml mh : Env → R (Option Int)} {p2 pos : Pos} (hK : X.K = W.K) (hx : PE X x (tO W Wx m)) (hl : PO X lo (tLm W Wx ml)) (hh : PO X hi (tLm W Wx mh)) :
    PE X (.Subscript x (.Slice lo hi none p2) pos) (tE W Wx (semSlc m ml mh)) := by
  refine PE.imp (pe_slice (sl_ok hK) hx hl hh) fun σ H Q ⟨e, G, F, S, p⟩ => ?_
  refine ⟨e, G, F, S, p.go S.refl nomem fun x e1 v1 G1 H1 F1 Fa p1 S1 E1 r1 => ⟨e1, G1, F1, S1.sta E1, p1.go S1 (rO.mem r1) fun l e2 l' G2 H2 F2 Fb p2 S2 E2 r2 => ?_⟩⟩
  obtain ⟨e0, rfl⟩ := r2
  subst e0
  obtain ⟨S12, k12⟩ := Stp.two S1 S2 (rO.mem r1)
  rw [List.append_nil] at S12
  have r1' := rO.frame r1 S2.sg k12
  refine ⟨e2, G2, F2, S12.sta E2, p2.go S12 (rO.mem r1') fun h e3 h' G3 H3 F3 Fc p3 S3 E3 r3 => ?_⟩
  obtain ⟨e0, rfl⟩ := r3
  subst e0
  obtain ⟨S13, k13⟩ := Stp.two S12 S3 (rO.mem r1')
  have r1'' := rO.frame r1' S3.sg k13
  cases c1 : x.res e3 with
  | none => rw [c1] at p3; exact p3.elim
  | some d1 =>
    rw [c1] at p3
    obtain ⟨Fx, o1, _⟩ := r1''.view E3 c1
    obtain ⟨d, c3, p4⟩ := Post.of (o := slcD d1 l' h') p3
    exact ⟨G3, d1, d, Fx, S3.sh, o1, c3, p4.fin S13.drop.drop E3⟩

/-! ### built-ins -/
def rPs (W : Wd) (g : List D → Option D) : List V → Hp → VK → Prop := fun vs H Q => ∃ G ds d, Sm G H ∧ Paired (fun v d => ∃ F0, Ow W G H d F0 v) vs ds ∧ g ds = some d ∧ Nw W G H d Q
theorem bi_read {g : List D → Option D} {m : Env → R (List Od)} (h : tE W Wx (semBi g m) σ H Q) : tCB (rPs W g) (tOs W Wx m) σ H Q := by
  obtain ⟨e, G, F, S, p⟩ := h
  refine ⟨e, G, F, S, p.go S.refl nomem fun os e1 vs G1 H1 F1 Fa p1 S1 E1 r1 => ?_⟩
  cases c : resL e1 os with
  | none => rw [c] at p1; exact p1.elim
  | some ds =>
    rw [c] at p1
    obtain ⟨d, c3, p4⟩ := Post.of (o := g ds) p1
    exact ⟨G1, ds, d, S1.sh, rOs.view r1 E1 c, c3, p4.fin S1.drop E1⟩
theorem CallR.imp {f : Value} {r r' : List V → Hp → VK → Prop} (h : CallR X f r) (k : ∀ x H Q, r' x H Q → r x H Q) : CallR X f r' := fun pins s σ H xs us Q I rv q => h pins s σ H xs us Q I rv (k _ _ _ q)
end
end Wpk
set_option Elab.async false
set_option linter.all false
set_option maxRecDepth 100000
/-! C3: statements. -/
namespace Wpk
open PySem PySem.Spec PyProof.Rows L2
/-- the slots of L are kept -/
def Kp (L : List Nat) (σ σ' : L2.St) : Prop := σ'.length = σ.length ∧ ∀ i ∈ L, σ'[i]? = σ[i]?
theorem Kp.refl {L : List Nat} {σ : L2.St} : Kp L σ σ := ⟨rfl, fun _ _ => rfl⟩
theorem Kp.trans {L : List Nat} {σ σ1 σ2 : L2.St} (a : Kp L σ σ1) (b : Kp L σ1 σ2) : Kp L σ σ2 := ⟨b.1.trans a.1, fun i hi => (b.2 i hi).trans (a.2 i hi)⟩
def PostS (L : List Nat) (W : Wd) (Wx : WX) (σ : L2.St) (F : List Addr) (G H : Hp) (Z : Ends) : R Fl → Prop
  | .ok .nx e => ∀ σ' G' H' F', Stp F G H F' G' H' → EnvR W G' H' e F' σ' → Kp L σ σ' → Z.nx σ' H'
  | .ok .bk e => ∀ σ' G' H' F', Stp F G H F' G' H' → EnvR W G' H' e F' σ' → Kp L σ σ' → Z.bk σ' H'
  | .ok .ct e => ∀ σ' G' H' F', Stp F G H F' G' H' → EnvR W G' H' e F' σ' → Kp L σ σ' → Z.ct σ' H'
  | .ok (.rt d) e => ∀ v σ' G' H' F' Fv, Stp F G H (F' ++ Fv) G' H' → EnvR W G' H' e F' σ' → Kp L σ σ' → Ow W G' H' d Fv v → Z.rt v H'
  | .exc x e => ∀ σ' G' H' F' cls dx, Stp F G H F' G' H' → EnvR W G' H' e F' σ' → Kp L σ σ' → ExR W G' H' x cls dx → Wx cls dx σ' H'
  | .no => False
def tSm (L : List Nat) (W : Wd) (Wx : WX) (m : Env → R Fl) : TS := fun Z σ H => ∃ e G F, Sta W G H e F σ ∧ PostS L W Wx σ F G H Z (m e)
section
variable {X : Cx} {L : List Nat} {W : Wd} {Wx : WX} {σ σ1 σ' : L2.St} {G G1 G2 G' H H1 H2 H' : Hp} {F F1 F2 Fa Fb Fv : List Addr} {e e1 : Env} {Z : Ends} {v : V}
theorem PostS.later {r : R Fl} (h : PostS L W Wx σ F G H Z r) (S : Stp F G H F1 G1 H1) (k : Kp L σ σ1) : PostS L W Wx σ1 F1 G1 H1 Z r := by
  cases r with
  | ok f e =>
    cases f with
    | nx => exact fun σ' G' H' F' S2 E k2 => h σ' G' H' F' (S.trans S2) E (k.trans k2)
    | bk => exact fun σ' G' H' F' S2 E k2 => h σ' G' H' F' (S.trans S2) E (k.trans k2)
    | ct => exact fun σ' G' H' F' S2 E k2 => h σ' G' H' F' (S.trans S2) E (k.trans k2)
    | rt d => exact fun v σ' G' H' F' Fv S2 E k2 o => h v σ' G' H' F' Fv (S.trans S2) E (k.trans k2) o
  | exc x e => exact fun σ' G' H' F' cls dx S2 E k2 r => h σ' G' H' F' cls dx (S.trans S2) E (k.trans k2) r
  | no => exact h
theorem sm_later {m : Env → R Fl} (h : PostS L W Wx σ F G H Z (m e)) (S : Stp F G H F1 G1 H1) (E : EnvR W G1 H1 e F1 σ1) (k : Kp L σ σ1) : tSm L W Wx m Z σ1 H1 := ⟨e, G1, F1, ⟨S.sh, S.nd, E⟩, h.later S k⟩
/-- an expression within a statement -/
theorem PostS.go {α β : Type} {ra : Rp α β} {m : R α} {k : α → Env → R Fl} {Q1 : β → Hp → Prop} (h : PostS L W Wx σ F G H Z (m.bind k)) (S : Stp F G H (F1 ++ Fa) G1 H1) (ha : ∀ b ∈ Fa, G1 b = none ∧ ∃ o, H1 b = some o)
    (q : ∀ a e2 v G2 H2 F2 Fb, PostS L W Wx σ F G H Z (k a e2) → Stp F1 G1 H1 (F2 ++ Fb) G2 H2 → EnvR W G2 H2 e2 F2 σ → ra G2 H2 a Fb v → Q1 v H2) : Post ra W Wx σ F1 G1 H1 Q1 m := by
  cases m with
  | ok a e1 => exact fun v G2 H2 F2 Fb S2 E2 r2 => q a e1 v G2 H2 F2 Fb h S2 E2 r2
  | exc x e1 =>
    intro G' H' F' cls dx S2 E r
    have S2' : Stp F1 G1 H1 (F' ++ []) G' H' := by rw [List.append_nil]; exact S2
    have S3 := (Stp.two S S2' ha).1
    rw [List.append_nil] at S3
    exact h σ G' H' F' cls dx S3.drop E Kp.refl r
  | no => exact h
theorem PostS.of {α : Type} {o : Option α} {k : α → Env → R Fl} (h : PostS L W Wx σ F G H Z ((R.of o e).bind k)) : ∃ a, o = some a ∧ PostS L W Wx σ F G H Z (k a e) := by
  cases o with
  | none => exact h.elim
  | some a => exact ⟨a, rfl, h⟩

/-! ### blocks, if, small statements -/
theorem pss_seq {st : Stmt} {rest : List Stmt} {m1 m2 : Env → R Fl} (h1 : PS X st (tSm L W Wx m1)) (h2 : PSs X rest (tSm L W Wx m2)) : PSs X (st :: rest) (tSm L W Wx (semSeq m1 m2)) := by
  refine PSs.imp (pss_cons h1 h2) fun Z σ H ⟨e, G, F, S, p⟩ => ⟨e, G, F, S, ?_⟩
  unfold semSeq at p
  cases c : m1 e with
  | no => rw [c] at p; exact p
  | exc x e1 => rw [c] at p; exact p
  | ok f e1 =>
    rw [c] at p
    cases f with
    | nx => exact fun σ' G' H' F' S2 E k2 => sm_later (m := m2) p S2 E k2
    | bk => exact p
    | ct => exact p
    | rt d => exact p
theorem pss_oneE {st : Stmt} {m : Env → R Fl} (h : PS X st (tSm L W Wx m)) : PSs X [st] (tSm L W Wx m) := PSs.imp (pss_one h) fun _ _ _ h => h
theorem pss_nilE : PSs X [] (tSm L W Wx (fun e => .ok .nx e)) := PSs.imp pss_nil fun Z σ H ⟨e, G, F, S, p⟩ => p σ G H F (Stp.refl S.sub S.nd) S.env Kp.refl
theorem ps_passE {pos : Pos} : PS X (.Pass pos) (tSm L W Wx (fun e => .ok .nx e)) := PS.imp ps_pass fun Z σ H ⟨e, G, F, S, p⟩ => p σ G H F (Stp.refl S.sub S.nd) S.env Kp.refl
theorem ps_brkE {pos : Pos} : PS X (.Break pos) (tSm L W Wx (fun e => .ok .bk e)) := PS.imp ps_break fun Z σ H ⟨e, G, F, S, p⟩ => p σ G H F (Stp.refl S.sub S.nd) S.env Kp.refl
theorem ps_cntE {pos : Pos} : PS X (.Continue pos) (tSm L W Wx (fun e => .ok .ct e)) := PS.imp ps_continue fun Z σ H ⟨e, G, F, S, p⟩ => p σ G H F (Stp.refl S.sub S.nd) S.env Kp.refl
theorem ps_ifE {t : Expr} {a b : List Stmt} {c : Env → R Bool} {m1 m2 : Env → R Fl} {pos : Pos} (hc : PT X t (tTs W Wx c)) (ha : PSs X a (tSm L W Wx m1)) (hb : PSs X b (tSm L W Wx m2)) : PS X (.If t a b pos) (tSm L W Wx (semIf c m1 m2)) := by
  refine PS.imp (ps_if hc ha hb) fun Z σ H ⟨e, G, F, S, p⟩ => ⟨e, G, F, S, p.go S.refl nomem fun b e2 v G2 H2 F2 Fb p2 S2 E2 r2 => ?_⟩
  obtain ⟨_, rfl⟩ := r2
  cases v with
  | true => exact iteT (sm_later (m := m1) p2 S2.drop E2 Kp.refl)
  | false => exact iteF (sm_later (m := m2) p2 S2.drop E2 Kp.refl)
theorem ps_exE {x : Expr} {m : Env → R D} {pos : Pos} (h : PE X x (tE W Wx m)) (hs : swapsWith x none pos.line X.env = pure false) : PS X (.Expr x pos) (tSm L W Wx (semEx m)) :=
  PS.imp (ps_expr h hs) fun Z σ H ⟨e, G, F, S, p⟩ => ⟨e, G, F, S, p.go S.refl nomem fun d e2 v G2 H2 F2 Fb p2 S2 E2 r2 => p2 σ G2 H2 F2 S2.drop E2 Kp.refl⟩
theorem ps_retE {x : Expr} {m : Env → R D} {pos : Pos} (h : PE X x (tE W Wx m)) : PS X (.Return (some x) pos) (tSm L W Wx (semRet m)) :=
  PS.imp (ps_ret h) fun Z σ H ⟨e, G, F, S, p⟩ => ⟨e, G, F, S, p.go S.refl nomem fun d e2 v G2 H2 F2 Fb p2 S2 E2 r2 => p2 v σ G2 H2 F2 Fb S2 E2 Kp.refl r2⟩
theorem ps_retNE {pos : Pos} : PS X (.Return none pos) (tSm L W Wx (fun e => .ok (.rt .non) e)) := PS.imp ps_retN fun Z σ H ⟨e, G, F, S, p⟩ => p .non σ G H F [] S.refl S.env Kp.refl ⟨rfl, rfl⟩
theorem ps_retVE {i : Nat} {x : Str} {pos pos' : Pos} (hN : X.N[i]? = some x) (hv : Vis X.env.scope x) (hd : (x == ("__debug__" : Str)) = false) (hcd : (x == ("__classdict__" : Str)) = false) : PS X (.Return (some (.Name x pos)) pos') (tSm L W Wx (semRetV L i)) := by
  refine PS.imp (ps_ret (pe_var hN hv hd hcd)) fun Z σ H ⟨e, G, F, S, p⟩ => ?_
  by_cases hm : (∃ d, Env.get e i = some d ∧ owned d = true ∧ L.contains i = false)
  · obtain ⟨d, c, ho, hl⟩ := hm
    unfold semRetV at p
    rw [c] at p
    dsimp only at p
    rw [ho, hl, if_pos rfl, if_neg Bool.false_ne_true] at p
    obtain ⟨A, Fi, B, rfl, ⟨v, q1, q2⟩, q3⟩ := S.env.cut (get_some c)
    refine ⟨v, q1, p v σ G H (A ++ B) Fi ?_ ?_ Kp.refl q2⟩
    · refine (Stp.refl S.sub S.nd).perm (fun _ h => h) (fun b hb => ?_) ?_
      · simp only [List.mem_append] at hb ⊢
        rcases hb with (h | h) | h <;> simp [h]
      · refine (List.Perm.nodup_iff ?_).mp S.nd
        rw [List.append_assoc, List.append_assoc]
        exact List.Perm.append_left A List.perm_append_comm
    · exact (q3 Sm.refl fun b hb => ⟨(S.env.mem b (by rcases List.mem_append.mp hb with z | z <;> simp [z])).1, rfl⟩).1
  · have hp : tE W Wx (semVar i) σ H (fun v H' => Z.rt v H') := by
      refine ⟨e, G, F, S, ?_⟩
      unfold semVar
      unfold semRetV at p
      cases c : Env.get e i with
      | none => rw [c] at p; exact p.elim
      | some d =>
        rw [c] at p
        dsimp only at p ⊢
        cases ho : owned d with
        | false =>
          rw [ho, if_neg Bool.false_ne_true] at p
          rw [if_neg Bool.false_ne_true]
          exact fun v G' H' F' Fv S2 E o => p v σ G' H' F' Fv S2 E Kp.refl o
        | true =>
          have hl : L.contains i = true := by
            cases hl : L.contains i with
            | true => rfl
            | false => exact absurd ⟨d, c, ho, hl⟩ hm
          rw [ho, hl, if_pos rfl, if_pos rfl] at p
          rw [if_pos rfl]
          exact fun v G' H' F' Fv S2 E o => p v σ G' H' F' Fv S2 E Kp.refl o
    exact var_read hp

/-! ### targets -/
def tGm (L : List Nat) (B : List Nat) (W : Wd) (b : D → Env → Option Env) : TG := fun v σ H Q => ∃ e d G F Fv, Sta W G H e F σ ∧ (F ++ Fv).Nodup ∧ Ow W G H d Fv v ∧
  ∃ e', b d e = some e' ∧ ∀ σ' G' H' F', Stp (F ++ Fv) G H F' G' H' → EnvR W G' H' e' F' σ' → Kp L σ σ' → σ'.length = σ.length → (∀ i, i ∉ B → σ'[i]? = σ[i]?) → Q σ' H'
theorem PG.imp {t t' : TG} {x : Expr} (h : PG X x t) (k : ∀ v σ H Q, t' v σ H Q → t v σ H Q) : PG X x t' := ⟨fun pins s σ H v u Q I r q => h.run pins s σ H v u Q I r (k _ _ _ _ q)⟩
theorem EnvR.lt {i : Nat} (E : EnvR W G H e F σ) (h : ¬ e.length ≤ i) : i < σ.length := by rw [E.len]; omega
/-- a slot is bound anew -/
theorem bind_slot {d : D} {i : Nat} (S : Sta W G H e F σ) (nd : (F ++ Fv).Nodup) (o : Ow W G H d Fv v) (hl : ¬ e.length ≤ i) :
    ∃ F', Stp (F ++ Fv) G H F' G H ∧ EnvR W G H (Env.put e i d) F' (σ.set i (some v)) := by
  obtain ⟨od, c⟩ : ∃ od, e[i]? = some od := ⟨_, List.getElem?_eq_getElem (by omega)⟩
  obtain ⟨A, Fi, B, rfl, _, q3⟩ := S.env.cut c
  refine ⟨A ++ Fv ++ B, ?_, (q3 Sm.refl fun b hb => ⟨(S.env.mem b (by rcases List.mem_append.mp hb with z | z <;> simp [z])).1, rfl⟩).2 o⟩
  refine (Stp.refl S.sub nd).perm (fun _ h => h) (fun b hb => ?_) ?_
  · simp only [List.mem_append] at hb ⊢
    rcases hb with (h | h) | h <;> simp [h]
  · have s1 : (A ++ B ++ Fv).Sublist (A ++ Fi ++ B ++ Fv) := (List.Sublist.append (List.sublist_append_left A Fi) (List.Sublist.refl B)).append (List.Sublist.refl Fv)
    refine (List.Perm.nodup_iff ?_).mp (nd.sublist s1)
    rw [List.append_assoc, List.append_assoc]
    exact List.Perm.append_left A List.perm_append_comm
theorem pg_nameE {i : Nat} {x : Str} {pos : Pos} (hN : X.N.Nodup) (hi : X.N[i]? = some x) (hx : Loc X.env.scope x) (hf : X.fn x = true ∨ X.env.scope.names.lookup x = some .local) : PG X (.Name x pos) (tGm L [i] W (bindT L (.tName i))) := by
  refine PG.imp (pg_name hN hi hx hf) fun v σ H Q ⟨e, d, G, F, Fv, S, nd, o, e', c, q⟩ => ?_
  have c' : (if L.contains i || decide (e.length ≤ i) then none else some (Env.put e i d)) = some e' := c
  split at c'
  · cases c'
  · rename_i h
    cases c'
    rw [Bool.or_eq_true, not_or] at h
    have hl : ¬ e.length ≤ i := fun z => h.2 (decide_eq_true z)
    obtain ⟨F', S2, E2⟩ := bind_slot S nd o hl
    refine q _ G H F' S2 E2 ⟨by simp, fun j hj => ?_⟩ (by simp) fun j hj => ?_
    · have : i ≠ j := fun z => h.1 (by rw [z]; exact List.elem_eq_true_of_mem hj)
      rw [List.getElem?_set_ne this]
    · rw [List.getElem?_set_ne (fun z => hj (by simp [z]))]

/-! ### assignments -/
theorem asg_read {b : D → Env → Option Env} {m : Env → R D} {B : List Nat} {te : TE} (h : tSm L W Wx (semAsg b m) Z σ H) (k : ∀ Q, tE W Wx m σ H Q → te σ H Q) : tAsg te (tGm L B W b) Z σ H := by
  obtain ⟨e, G, F, S, p⟩ := h
  refine k _ ⟨e, G, F, S, p.go S.refl nomem fun d e2 v G2 H2 F2 Fb p2 S2 E2 r2 => ?_⟩
  obtain ⟨e3, c, p3⟩ := p2.of
  exact ⟨e2, d, G2, F2, Fb, S2.sta E2, S2.nd, r2, e3, c, fun σ' G' H' F' S3 E3 k3 _ _ => p3 σ' G' H' F' (S2.trans S3) E3 k3⟩
theorem PG.gName {i : Nat} {x : Str} {pos : Pos} {g : TG} (h : PG X (.Name x pos) g) : PG X (.Name x pos) g := h
theorem gname_of {i : Nat} {Q : L2.St → Hp → Prop} (h : tGm L [i] W (bindT L (.tName i)) v σ H Q) : gName i v σ H Q := by
  obtain ⟨e, d, G, F, Fv, S, nd, o, e', c, q⟩ := h
  have c' : (if L.contains i || decide (e.length ≤ i) then none else some (Env.put e i d)) = some e' := c
  split at c'
  · cases c'
  · rename_i h
    cases c'
    rw [Bool.or_eq_true, not_or] at h
    have hl : ¬ e.length ≤ i := fun z => h.2 (decide_eq_true z)
    obtain ⟨F', S2, E2⟩ := bind_slot S nd o hl
    refine q _ G H F' S2 E2 ⟨by simp, fun j hj => ?_⟩ (by simp) fun j hj => ?_
    · have : i ≠ j := fun z => h.1 (by rw [z]; exact List.elem_eq_true_of_mem hj)
      rw [List.getElem?_set_ne this]
    · rw [List.getElem?_set_ne (fun z => hj (by simp [z]))]
theorem ps_setE {i : Nat} {x : Str} {y : Expr} {m : Env → R D} {pos pos' : Pos} (hN : X.N.Nodup) (hi : X.N[i]? = some x) (hx : Loc X.env.scope x) (hf : X.fn x = true ∨ X.env.scope.names.lookup x = some .local) (h : PE X y (tE W Wx m)) (hs : swapsWith y (some (.Name x pos')) pos.line X.env = pure false) :
    PS X (.Assign [.Name x pos'] y pos) (tSm L W Wx (semAsg (bindT L (.tName i)) m)) :=
  PS.imp (ps_set hN hi hx h hs hf) fun Z σ H h => by
    have z := asg_read (B := [i]) (te := tE W Wx m) h (fun _ q => q)
    obtain ⟨e, G, F, S, p⟩ := z
    exact ⟨e, G, F, S, by
      cases c : m e with
      | no => rw [c] at p; exact p
      | exc x e1 => rw [c] at p; exact p
      | ok d e1 => rw [c] at p; exact fun v G' H' F' Fv S2 E o => gname_of (p v G' H' F' Fv S2 E o)⟩
end
end Wpk
set_option Elab.async false
set_option linter.all false
set_option maxRecDepth 100000
/-! C4: targets that are tuples, loops. -/
namespace Wpk
open PySem PySem.Spec PyProof.Rows L2
section
variable {X : Cx} {L : List Nat} {W : Wd} {Wx : WX} {σ σ1 σ' : L2.St} {G G1 G2 G' H H1 H2 H' : Hp} {F F1 F2 Fa Fb Fv : List Addr} {e e1 : Env} {Z : Ends} {v : V}

/-! ### tuples of targets -/
def tGs (L : List Nat) (B : List Nat) (W : Wd) (b : List D → Env → Option Env) : TGs := fun vs σ H Q => ∃ e ds G F, Sta W G H e F σ ∧ OwL W G H ds [] vs ∧
  ∃ e', b ds e = some e' ∧ ∀ σ' G' H' F', Stp F G H F' G' H' → EnvR W G' H' e' F' σ' → Kp L σ σ' → σ'.length = σ.length → (∀ i, i ∉ B → σ'[i]? = σ[i]?) → Q σ' H'
theorem PGs.imp {t t' : TGs} {xs : List Expr} (h : PGs X xs t) (k : ∀ v σ H Q, t' v σ H Q → t v σ H Q) : PGs X xs t' := ⟨fun pins s σ H v u Q I r q => h.run pins s σ H v u Q I r (k _ _ _ _ q)⟩
theorem pgs_nilE : PGs X [] (tGs L [] W (bindTs L .nil)) := PGs.imp pgs_nil fun vs σ H Q ⟨e, ds, G, F, S, o, e', c, q⟩ => by
  cases ds with
  | nil =>
    obtain ⟨_, rfl⟩ := o
    cases c
    exact ⟨rfl, q σ G H F (Stp.refl S.sub S.nd) S.env Kp.refl rfl fun _ _ => rfl⟩
  | cons d ds => cases c
theorem pgs_consE {x : Expr} {xs : List Expr} {t ts : T} {B B' : List Nat} (h : PG X x (tGm L B W (bindT L t))) (k : PGs X xs (tGs L B' W (bindTs L ts)))
    (hs : (assignEach (x :: xs) X.env).map (·.2) = assign x X.env :: (assignEach xs X.env).map (·.2)) : PGs X (x :: xs) (tGs L (B ++ B') W (bindTs L (.cons t ts))) := by
  refine PGs.imp (pgs_cons h k hs) fun vs σ H Q ⟨e, ds, G, F, S, o, e', c, q⟩ => ?_
  cases ds with
  | nil => cases c
  | cons d ds =>
    obtain ⟨A, A', v, vs', e1, rfl, h1, h2⟩ := o
    obtain ⟨rfl, rfl⟩ := List.append_eq_nil_iff.mp e1.symm
    have c' : (bindT L t d e).bind (fun e1 => bindTs L ts ds e1) = some e' := c
    cases c1 : bindT L t d e with
    | none => rw [c1] at c'; cases c'
    | some e1 =>
      rw [c1] at c'
      refine ⟨v, vs', rfl, e, d, G, F, [], S, by rw [List.append_nil]; exact S.nd, h1, e1, c1, fun σ' G' H' F' S2 E2 k2 l2 b2 => ?_⟩
      rw [List.append_nil] at S2
      refine ⟨e1, ds, G', F', ⟨S2.sh, S2.nd, E2⟩, h2.keep S2.sg, e', c', fun σ'' G'' H'' F'' S3 E3 k3 l3 b3 => q σ'' G'' H'' F'' (S2.trans S3) E3 (k2.trans k3) (l3.trans l2) fun i hi => ?_⟩
      rw [b3 i fun z => hi (List.mem_append_right _ z), b2 i fun z => hi (List.mem_append_left _ z)]
theorem PG.or {x : Expr} {t t' : TG} (h : PG X x t) (h' : PG X x t') : PG X x (fun v σ H Q => t v σ H Q ∨ t' v σ H Q) := ⟨fun pins s σ H v u Q I r q => q.elim (h.run pins s σ H v u Q I r) (h'.run pins s σ H v u Q I r)⟩
theorem pg_tupE {xs : List Expr} {ts : T} {B : List Nat} {k : Nat} {pos : Pos} (hK : X.K = W.K) (hc : X.calm = true) (h : PGs X xs (tGs L B W (bindTs L ts))) (hst : (assignEach xs X.env).findIdx? (·.1) = none) (hl : ∀ ds e e', bindTs L ts ds e = some e' → ds.length = (assignEach xs X.env).length) :
    PG X (.Tuple xs k pos) (tGm L B W (bindT L (.tTup ts))) := by
  refine PG.imp (PG.or (pg_tup (n := (assignEach xs X.env).length) hc h rfl hst) (pg_unl (n := (assignEach xs X.env).length) hc h rfl hst)) fun v σ H Q ⟨e, d, G, F, Fv, S, nd, o, e', c, q⟩ => ?_
  cases d with
  | tup ds =>
    obtain ⟨rfl, a, vs, rfl, sq, l⟩ := o
    have c' : bindTs L ts ds e = some e' := c
    refine .inl ⟨a, vs, rfl, by rw [hK]; exact (le_of S.sub).sqT sq, by rw [l.length]; exact hl _ _ _ c', e, ds, G, F, S, l, e', c', ?_⟩
    rw [List.append_nil] at q
    exact q
  | lst m ds =>
    have c' : (if isFL ds = true then bindTs L ts ds e else none) = some e' := c
    by_cases hf : isFL ds = true
    · rw [if_pos hf] at c'
      have o : Ow W G H (.lst m ds) Fv v := o
      obtain ⟨a, vs, F', rfl, sq, l⟩ := o.sqL S.sub
      exact .inr ⟨a, vs, rfl, by rw [hK]; exact sq, by rw [l.length]; exact hl _ _ _ c', e, ds, G, F, S, l.fz hf, e', c', fun σ' G' H' F2 S2 => q σ' G' H' F2 (S2.perm (fun b hb => List.mem_append_left _ hb) (fun b hb => hb) S2.nd)⟩
    · rw [if_neg hf] at c'; cases c'
  | _ => exact nomatch c

/-! ### what is walked -/
/-- J walks the items is, while what it leans on stays -/
def ItOk (W : Wd) (J : L2.It) (is : List D) (G1 H1 : Hp) (Fa : List Addr) : Prop := ∀ (i : Nat) (G H : Hp), Sm G1 G → Sm G H → (∀ b ∈ Fa, G b = none ∧ H b = H1 b) →
  (∀ d, is[i]? = some d → J.go i H ∧ ∀ x H', J.yld i H x H' → ∃ G', Stp [] G H [] G' H' ∧ Ow W G' H' d [] x) ∧ (is.length ≤ i → J.stop i H)
def tIm (W : Wd) (Wx : WX) (m : Env → R (List D)) : TI := fun σ H Q => ∃ e G F, Sta W G H e F σ ∧
  match m e with
  | .ok is e1 => ∀ J G1 H1 F1 Fa, Stp F G H (F1 ++ Fa) G1 H1 → EnvR W G1 H1 e1 F1 σ → (∀ b ∈ Fa, G1 b = none ∧ ∃ o, H1 b = some o) → ItOk W J is G1 H1 Fa → Q J H1
  | .exc x e1 => XPost W Wx σ F G H x e1
  | .no => False
theorem PI.imp {t t' : TI} {tg x : Expr} (h : PI X tg x t) (k : ∀ σ H Q, t' σ H Q → t σ H Q) : PI X tg x t' := ⟨fun pins s σ H Q I q => h.run pins s σ H Q I (k _ _ _ q)⟩
theorem ItOk.list {K : PySem.W.Frag} {a : Addr} {vs : List V} {ds : List D} (h : ∀ G H, Sm G1 G → Sm G H → (∀ b ∈ Fa, G b = none ∧ H b = H1 b) → SqL K H a vs) (o : OwL W G1 H1 ds [] vs) : ItOk W (Itl K a) ds G1 H1 Fa := by
  intro i G H s1 s2 k
  have q := h G H s1 s2 k
  refine ⟨fun d hd => ?_, fun hl => ⟨vs, q, by rw [o.length]; exact hl⟩⟩
  obtain ⟨v, hv, ov⟩ := o.get hd
  refine ⟨⟨vs, v, q, hv⟩, fun x H' y => ?_⟩
  obtain ⟨rfl, y⟩ := y
  have := y vs q
  rw [hv] at this
  cases this
  exact ⟨G, Stp.refl s2 List.nodup_nil, ov.keep s1⟩
theorem ItOk.tup {K : PySem.W.Frag} {a : Addr} {vs : List V} {ds : List D} (h : ∀ G H, Sm G1 G → Sm G H → SqT K H a vs) (o : OwL W G1 H1 ds [] vs) : ItOk W (Itt K a) ds G1 H1 Fa := by
  intro i G H s1 s2 k
  have q := h G H s1 s2
  refine ⟨fun d hd => ?_, fun hl => ⟨vs, q, by rw [o.length]; exact hl⟩⟩
  obtain ⟨v, hv, ov⟩ := o.get hd
  refine ⟨⟨vs, v, q, hv⟩, fun x H' y => ?_⟩
  obtain ⟨rfl, y⟩ := y
  have := y vs q
  rw [hv] at this
  cases this
  exact ⟨G, Stp.refl s2 List.nodup_nil, ov.keep s1⟩
theorem ItOk.range (lo : Int) (n : Nat) : ItOk W (Itr lo n) ((List.range n).map fun (k : Nat) => .int (lo + k)) G1 H1 Fa := by
  intro i G H s1 s2 k
  refine ⟨fun d hd => ?_, fun hl => by show n ≤ i; simpa using hl⟩
  have hi : i < n := by
    have := (List.getElem?_eq_some_iff.mp hd).1
    simpa using this
  refine ⟨hi, fun x H' y => ?_⟩
  obtain ⟨rfl, rfl⟩ := y
  have : d = .int (lo + i) := by
    rw [List.getElem?_map, List.getElem?_range hi] at hd
    exact (Option.some.inj hd).symm
  subst this
  exact ⟨G, Stp.refl s2 List.nodup_nil, rfl, rfl⟩

/-! ### for -/
theorem drop_cons {α : Type} {xs : List α} {i : Nat} {x : α} (h : xs[i]? = some x) : xs.drop i = x :: xs.drop (i + 1) := by
  obtain ⟨hl, rfl⟩ := List.getElem?_eq_some_iff.mp h
  exact List.drop_eq_getElem_cons hl
theorem for_read {mi : Env → R (List D)} {b : D → Env → Option Env} {mb : Env → R Fl} {B : List Nat} (h : tSm L W Wx (semFor mi b mb) Z σ H) : tFor (tIm W Wx mi) (tGm L B W b) (tSm L W Wx mb) Z σ H := by
  obtain ⟨e, G, F, S, p⟩ := h
  refine ⟨e, G, F, S, ?_⟩
  unfold semFor at p
  cases c : mi e with
  | no => rw [c] at p; exact p
  | exc x e1 =>
    rw [c] at p
    exact fun G' H' F' cls dx S2 E r => p σ G' H' F' cls dx S2 E Kp.refl r
  | ok is e1 =>
    rw [c] at p
    intro J G1 H1 F1 Fa S1 E1 ha ok
    have p : PostS L W Wx σ F G H Z (loopF (fun d e2 => (R.of (b d e2) e2).bind fun e3 _ => mb e3) is e1) := p
    refine ⟨fun i m σ' H' => ∃ e' G' F', Stp F G H (F' ++ Fa) G' H' ∧ Sm G1 G' ∧ EnvR W G' H' e' F' σ' ∧ (∀ b ∈ Fa, G' b = none ∧ H' b = H1 b) ∧ Kp L σ σ' ∧ m = is.length - i ∧ i ≤ is.length ∧ PostS L W Wx σ F G H Z (loopF (fun d e2 => (R.of (b d e2) e2).bind fun e3 _ => mb e3) (is.drop i) e'),
      ⟨_, e1, G1, F1, S1, Sm.refl, E1, fun b hb => ⟨(ha b hb).1, rfl⟩, Kp.refl, rfl, Nat.zero_le _, p⟩, ?_⟩
    rintro i m σ' H' ⟨e', G', F', S', sg', E', k', kp', rfl, hi, p'⟩
    have okI := ok i G' H' sg' S'.sh k'
    by_cases hlt : i < is.length
    · obtain ⟨d, hd⟩ : ∃ d, is[i]? = some d := ⟨_, List.getElem?_eq_getElem hlt⟩
      obtain ⟨go, yl⟩ := okI.1 d hd
      rw [drop_cons hd] at p'
      refine .inr ⟨go, fun σ'' H'' => ∃ e' G' F', Stp F G H (F' ++ Fa) G' H'' ∧ Sm G1 G' ∧ EnvR W G' H'' e' F' σ'' ∧ (∀ b ∈ Fa, G' b = none ∧ H'' b = H1 b) ∧ Kp L σ σ'' ∧ PostS L W Wx σ F G H Z (loopF (fun d e2 => (R.of (b d e2) e2).bind fun e3 _ => mb e3) (is.drop (i + 1)) e'), fun σ'' H'' ⟨e2, G2, F2, a1, a2, a3, a4, a5, a6⟩ => ⟨is.length - (i + 1), by omega, e2, G2, F2, a1, a2, a3, a4, a5, rfl, hlt, a6⟩, fun x H'' hy => ?_⟩
      obtain ⟨G'', Sy, oy⟩ := yl x H'' hy
      -- the step of the walk
      have haF : ∀ b ∈ F' ++ Fa, G' b = none ∧ b ∉ ([] : List Addr) ∧ H' b ≠ none := fun b hb => by
        rcases List.mem_append.mp hb with z | z
        · exact ⟨(E'.mem b z).1, (fun z => nomatch z), fun q => by obtain ⟨o, q'⟩ := (E'.mem b z).2; rw [q] at q'; cases q'⟩
        · refine ⟨(k' b z).1, (fun z => nomatch z), fun q => ?_⟩
          obtain ⟨o, q'⟩ := (ha b z).2
          rw [← (k' b z).2, q] at q'
          cases q'
      have Sy' : Stp F G H (F' ++ Fa) G'' H'' := S'.trans ((Sy.beside S'.nd haF).perm (fun b hb => by simpa using hb) (fun b hb => by simpa using hb) S'.nd)
      have E'' : EnvR W G'' H'' e' F' σ' := E'.after Sy
      have k'' : ∀ b ∈ Fa, G'' b = none ∧ H'' b = H1 b := fun b hb => by
        have := Sy.kept (haF b (List.mem_append_right _ hb)).1 (fun z => nomatch z) (haF b (List.mem_append_right _ hb)).2.2
        exact ⟨this.1, this.2.trans (k' b hb).2⟩
      have p'' : PostS L W Wx σ F G H Z (((R.of (b d e') e').bind fun e3 _ => mb e3).bind fun f e1 => match f with
        | .nx => loopF (fun d e2 => (R.of (b d e2) e2).bind fun e3 _ => mb e3) (is.drop (i + 1)) e1
        | .ct => loopF (fun d e2 => (R.of (b d e2) e2).bind fun e3 _ => mb e3) (is.drop (i + 1)) e1
        | .bk => .ok .nx e1
        | .rt d => .ok (.rt d) e1) := p'
      cases cb : b d e' with
      | none => rw [cb] at p''; exact p''.elim
      | some e3 =>
        rw [cb] at p''
        refine ⟨e', d, G'', F', [], ⟨Sy'.sh, Sy'.left, E''⟩, by rw [List.append_nil]; exact Sy'.left, oy, e3, cb, fun σ2 G2 H2 F2 S2 E2 k2 _ _ => ?_⟩
        rw [List.append_nil] at S2
        have S2' : Stp F' G'' H'' (F2 ++ []) G2 H2 := by rw [List.append_nil]; exact S2
        have mem2 : ∀ b ∈ Fa, G'' b = none ∧ ∃ o, H'' b = some o := fun b hb => ⟨(k'' b hb).1, by rw [(k'' b hb).2]; exact (ha b hb).2⟩
        obtain ⟨S3, k3⟩ := Stp.two Sy' S2' mem2
        rw [List.append_nil] at S3
        have kk3 : ∀ b ∈ Fa, G2 b = none ∧ H2 b = H1 b := fun b hb => ⟨(k3 b hb).1, (k3 b hb).2.trans (k'' b hb).2⟩
        have mem3 : ∀ b ∈ Fa, G2 b = none ∧ ∃ o, H2 b = some o := fun b hb => ⟨(kk3 b hb).1, by rw [(kk3 b hb).2]; exact (ha b hb).2⟩
        refine ⟨e3, G2, F2, ⟨S3.sh, S3.left, E2⟩, ?_⟩
        have next : ∀ e4, PostS L W Wx σ F G H Z (loopF (fun d e2 => (R.of (b d e2) e2).bind fun e3 _ => mb e3) (is.drop (i + 1)) e4) → ∀ σ4 G4 H4 F4, Stp F2 G2 H2 F4 G4 H4 → EnvR W G4 H4 e4 F4 σ4 → Kp L σ2 σ4 →
            ∃ e' G' F', Stp F G H (F' ++ Fa) G' H4 ∧ Sm G1 G' ∧ EnvR W G' H4 e' F' σ4 ∧ (∀ b ∈ Fa, G' b = none ∧ H4 b = H1 b) ∧ Kp L σ σ4 ∧ PostS L W Wx σ F G H Z (loopF (fun d e2 => (R.of (b d e2) e2).bind fun e3 _ => mb e3) (is.drop (i + 1)) e') := fun e4 p4 σ4 G4 H4 F4 S4 E4 k4 => by
          have S4' : Stp F2 G2 H2 (F4 ++ []) G4 H4 := by rw [List.append_nil]; exact S4
          obtain ⟨S5, k5⟩ := Stp.two S3 S4' mem3
          rw [List.append_nil] at S5
          exact ⟨e4, G4, F4, S5, sg'.trans (Sy.sg.trans (S2.sg.trans S4.sg)), E4, fun b hb => ⟨(k5 b hb).1, (k5 b hb).2.trans (kk3 b hb).2⟩, kp'.trans (k2.trans k4), p4⟩
        have p3 : PostS L W Wx σ F G H Z ((mb e3).bind fun f e1 => match f with
          | .nx => loopF (fun d e2 => (R.of (b d e2) e2).bind fun e3 _ => mb e3) (is.drop (i + 1)) e1
          | .ct => loopF (fun d e2 => (R.of (b d e2) e2).bind fun e3 _ => mb e3) (is.drop (i + 1)) e1
          | .bk => .ok .nx e1
          | .rt d => .ok (.rt d) e1) := p''
        have Sd : ∀ {F4 : List Addr} {G4 H4 : Hp}, Stp F2 G2 H2 F4 G4 H4 → Stp F G H F4 G4 H4 := fun {F4 G4 H4} S4 => by
          have S4' : Stp F2 G2 H2 (F4 ++ []) G4 H4 := by rw [List.append_nil]; exact S4
          have := (Stp.two S3 S4' mem3).1
          rw [List.append_nil] at this
          exact this.drop
        cases cm : mb e3 with
        | no => rw [cm] at p3; exact p3
        | exc x e4 =>
          rw [cm] at p3
          exact fun σ4 G4 H4 F4 cls dx S4 E4 k4 r => p3 σ4 G4 H4 F4 cls dx (Sd S4) E4 (kp'.trans (k2.trans k4)) r
        | ok f e4 =>
          rw [cm] at p3
          cases f with
          | nx => exact fun σ4 G4 H4 F4 S4 E4 k4 => next e4 p3 σ4 G4 H4 F4 S4 E4 k4
          | ct => exact fun σ4 G4 H4 F4 S4 E4 k4 => next e4 p3 σ4 G4 H4 F4 S4 E4 k4
          | bk => exact fun σ4 G4 H4 F4 S4 E4 k4 => p3 σ4 G4 H4 F4 (Sd S4) E4 (kp'.trans (k2.trans k4))
          | rt d4 => exact fun v σ4 G4 H4 F4 Fv S4 E4 k4 o => p3 v σ4 G4 H4 F4 Fv (Sd S4) E4 (kp'.trans (k2.trans k4)) o
    · have ei : i = is.length := by omega
      subst ei
      rw [List.drop_length] at p'
      exact .inl ⟨okI.2 (Nat.le_refl _), p' σ' G' H' F' S'.drop E' kp'⟩
theorem ps_forE {tg iter : Expr} {body : List Stmt} {mi : Env → R (List D)} {b : D → Env → Option Env} {mb : Env → R Fl} {B : List Nat} {pos : Pos} (hp : PassesOwn (model X.prog X.w) X.A X.env X.xe) (hc : X.calm = true) (hi : PI X tg iter (tIm W Wx mi)) (hg : PG X tg (tGm L B W b)) (hb : PSs X body (tSm L W Wx mb))
    (hs : ∀ x, foldedSetIterable iter X.env x = pure x) : PS X (.For tg iter body [] pos) (tSm L W Wx (semFor mi b mb)) := PS.imp (ps_for hp hc hi hg hb hs) fun _ _ _ h => for_read h

/-! ### while -/
theorem while_read {c : Env → R Bool} {mb : Env → R Fl} {n : Nat} (h : tSm L W Wx (loopW c mb n) Z σ H) : tWhile (tTs W Wx c) (tSm L W Wx mb) Z σ H := by
  obtain ⟨e, G, F, S, p⟩ := h
  refine ⟨fun m σ' H' => ∃ e' G' F', Stp F G H F' G' H' ∧ EnvR W G' H' e' F' σ' ∧ Kp L σ σ' ∧ PostS L W Wx σ F G H Z (loopW c mb m e'), ⟨n, e, G, F, Stp.refl S.sub S.nd, S.env, Kp.refl, p⟩, ?_⟩
  rintro m σ' H' ⟨e', G', F', S', E', kp', p'⟩
  cases m with
  | zero => exact p'.elim
  | succ m =>
    have p' : PostS L W Wx σ F G H Z ((c e').bind fun b e1 => if b then (mb e1).bind fun f e2 => (match f with
      | .nx => loopW c mb m e2
      | .ct => loopW c mb m e2
      | .bk => .ok .nx e2
      | .rt d => .ok (.rt d) e2) else .ok .nx e1) := p'
    refine ⟨e', G', F', ⟨S'.sh, S'.nd, E'⟩, ?_⟩
    have S'' : Stp F G H (F' ++ []) G' H' := by rw [List.append_nil]; exact S'
    cases cc : c e' with
    | no => rw [cc] at p'; exact p'
    | exc x e1 =>
      rw [cc] at p'
      exact fun G2 H2 F2 cls dx S2 E r => p' σ' G2 H2 F2 cls dx (S'.trans S2) E kp' r
    | ok b e1 =>
      rw [cc] at p'
      intro v G2 H2 F2 Fb S2 E2 r2
      obtain ⟨e0, rfl⟩ := r2
      subst e0
      rw [List.append_nil] at S2
      cases v with
      | true =>
        refine iteT ⟨fun σ'' H'' => ∃ e' G' F', Stp F G H F' G' H'' ∧ EnvR W G' H'' e' F' σ'' ∧ Kp L σ σ'' ∧ PostS L W Wx σ F G H Z (loopW c mb m e'), fun σ'' H'' q => ⟨m, Nat.lt_succ_self m, q⟩, e1, G2, F2, ⟨S2.sh, S2.nd, E2⟩, ?_⟩
        have p3 : PostS L W Wx σ F G H Z ((mb e1).bind fun f e2 => match f with
          | .nx => loopW c mb m e2
          | .ct => loopW c mb m e2
          | .bk => .ok .nx e2
          | .rt d => .ok (.rt d) e2) := p'
        have T2 := S'.trans S2
        cases cm : mb e1 with
        | no => rw [cm] at p3; exact p3
        | exc x e4 =>
          rw [cm] at p3
          exact fun σ4 G4 H4 F4 cls dx S4 E4 k4 r => p3 σ4 G4 H4 F4 cls dx (T2.trans S4) E4 (kp'.trans k4) r
        | ok f e4 =>
          rw [cm] at p3
          cases f with
          | nx => exact fun σ4 G4 H4 F4 S4 E4 k4 => ⟨e4, G4, F4, T2.trans S4, E4, kp'.trans k4, p3⟩
          | ct => exact fun σ4 G4 H4 F4 S4 E4 k4 => ⟨e4, G4, F4, T2.trans S4, E4, kp'.trans k4, p3⟩
          | bk => exact fun σ4 G4 H4 F4 S4 E4 k4 => p3 σ4 G4 H4 F4 (T2.trans S4) E4 (kp'.trans k4)
          | rt d4 => exact fun v σ4 G4 H4 F4 Fv S4 E4 k4 o => p3 v σ4 G4 H4 F4 Fv (T2.trans S4) E4 (kp'.trans k4) o
      | false => exact iteF (p' σ' G2 H2 F2 (S'.trans S2) E2 kp')
theorem ps_whlE {t : Expr} {body : List Stmt} {c : Env → R Bool} {mb : Env → R Fl} {n : Nat} {pos : Pos} (hp : PassesOwn (model X.prog X.w) X.A X.env X.xe) (hc : PT X t (tTs W Wx c)) (hb : PSs X body (tSm L W Wx mb)) : PS X (.While t body [] pos) (tSm L W Wx (loopW c mb n)) := PS.imp (ps_while hp hc hb) fun _ _ _ h => while_read h
end
end Wpk
set_option Elab.async false
set_option linter.all false
set_option maxRecDepth 100000
/-! C8: defs that are run where no object is being shown: what repr of containers wants to know. -/
namespace Wpk
open PySem PySem.Spec PyProof.Rows L2
/-- nothing is being shown -/
def Calm (A : Around) : Prop := A.guards = some []
theorem Calm.deeper {A : Around} (h : Calm A) (env : PySem.Env) : Calm (A.deeper env) := h
theorem Calm.in1 {A : Around} (h : Calm A) : Calm A.in1 := h
theorem Calm.make {A : Around} (h : Calm A) (C : Addr) (us : List Value) (kw : List (Str × Value)) : Calm (A.under (.builtin "type.__call__" ⟨.ref C :: us, kw⟩)) := by
  unfold Calm at *
  first | exact h | simpa [Around.under, Code.guards, Code.isGuard, pushGuards] using h
/-- the promise of a def, where nothing is being shown -/
structure FnG (P : Program) (w : World) (K : PySem.W.Frag) (mg : Str → Option Value) (base : Heap) (CX : CXT) (k : Nat) (f : Addr) (fd : FuncData) (ps : List Str) (sp : Sp) : Prop where
  len : ∀ vs H Q E, sp vs H Q E → vs.length = ps.length
  run : ∀ (A : Around) (outer : List PySem.Env) (s : Shared) (H : Hp) (args : Args) (us : List Value) (vs : List V) (Q : VK) (E : XK), Room k A → Calm A → Env0 P w K mg base A outer s H → BindsTo s fd args (ps.zip us) → Vals vs us → sp vs H Q E →
    codeAny (model P w) A (.call (.ref f) args) (CR CX outer P w H s Q E) s
section
variable {X : Cx} {CX : CXT} {k : Nat} {f C : Addr} {fd : FuncData} {ps : List Str} {sp : Sp} {E : L2.St → XK} {x m : Str} {p pos apos : Pos} {e o : Expr} {es : List Expr} {ta : TE} {t : TA}
/-- behind a callee -/
theorem ret_of {pins : List (Addr × Obj)} {σ : L2.St} {H : Hp} {s s' : Shared} {Q : VK} {E : XK} {r : Result} (hx : PassesAt CX X σ E) (I : Inv X pins σ H s) (hq : CR CX X.stack X.prog X.w H s Q E r s') : (match r with
    | .ok (.ret u) => EP X pins σ Q u s'
    | .ok _ => False
    | .error e => X.xe e s') := by
  match r, hq with
  | .error e, hq => exact hx pins H s e s' I hq
  | .ok (.ret u), hq => exact I.after hq
theorem run_fnG {pins : List (Addr × Obj)} {σ : L2.St} {H : Hp} {s : Shared} {Q : VK} {us : List Value} {vs : List V} (F : FnG X.prog X.w X.K X.mg X.base CX k f fd ps sp) (hr : Room k X.A) (hG : Calm X.A) (hb : Binds X.K fd ps []) (hx : PassesAt CX X σ (E σ))
    (I : Inv X pins σ H s) (r : Vals vs us) (h : sp vs H Q (E σ)) : wpAny (model X.prog X.w) X.A (call (.ref f) us) (EP X pins σ Q) X.xe s := by
  have hl : us.length = ps.length := by rw [← r.length]; exact F.len _ _ _ _ h
  have b := hb s us I.kIn (by rw [List.append_nil]; exact hl)
  rw [List.append_nil] at b
  refine wpAny_call (codeAny_mono (F.run X.A X.stack s H ⟨us, []⟩ us vs Q (E σ) hr hG I.env0 b r h) fun r s' hq => ?_)
  have z := ret_of hx I hq
  cases r with
  | error e => exact z
  | ok fl => cases fl <;> exact z
theorem pe_callG (F : FnG X.prog X.w X.K X.mg X.base CX k f fd ps sp) (hr : Room k X.A) (hG : Calm X.A) (hg : Gl X x) (hm : X.mg x = some (.ref f)) (hk : PySem.W.keepIn X.K (.ref f) = true) (hb : Binds X.K fd ps []) (hx : ∀ σ, PassesAt CX X σ (E σ))
    (ha : PA X (e :: es) t) (hdb : (x == ("__debug__" : Str)) = false) (he : starEach (e :: es) X.env = (false, eval e X.env) :: starEach es X.env) (hpl : (backTo pos (starEach es X.env)).any (·.1) = false) :
    PE X (.Call (.Name x p) (e :: es) [] pos) (tCallSD sp [] E t) := by
  refine ⟨fun pins s σ H Q I h => wpAny_Call_Name_kw (ld_glob I hg hm ?_ hdb)⟩
  refine PySem.W.callWith_K (h₀ := X.base) I.ok.mod.kin hk (thn (ha.run pos pins s σ H _ I h) fun us s1 ⟨vs, H1, I1, r, q⟩ => ⟨I1.kIn, ?_⟩) he hpl
  have q' : sp (vs ++ []) H1 Q (E σ) := q
  rw [List.append_nil] at q'
  exact run_fnG F hr hG hb (hx σ) I1 r q'
theorem pe_propG {g : Addr} {nm : Str} {E : XK} (he : PE X e ta) (c : Cls X.K C) (hp : PropOf X.K C nm f g) (F : FnG X.prog X.w X.K X.mg X.base CX k g fd ps sp) (hr : Room (k + 1) X.A) (hG : Calm X.A) (hb : Binds X.K fd ps []) (hx : Passes CX X.nox E)
    (hab : attributeBase e nm X.env (eval e X.env) = eval e X.env) : PE X (.Attribute e nm pos) (tProp C sp [] E ta) := by
  refine ⟨fun pins s σ H Q I h => attr_of hab (thn (he.run pins s σ H _ I h) fun u s1 ⟨x, H1, I1, rx, a, dx, fs, ex, ea, q⟩ => ?_)⟩
  subst ex
  obtain rfl : u = Value.ref a := rx
  obtain ⟨mA, O, _, _, _, _⟩ := ins_get I1.hok ea
  obtain ⟨od, J, _⟩ := O.look
  obtain ⟨rest, hrec⟩ := hp.rec_
  have I2 := I1.tok (s1.toks + 1)
  have hl : ([Value.ref a] ++ []).length = ps.length := by rw [← F.len _ _ _ _ q]; rfl
  have hc : (PySem.W.clsIn X.K C).isSome = true := by
    obtain ⟨cd, hc, _⟩ := PySem.W.any_some c.hd
    rw [hc]
    rfl
  have pg := PySem.W.plainGet_of (c.get nm)
  refine PySem.W.get_bind I1.kIn J pg.1 (PySem.W.findObj_data hc hp.at_ hp.get hp.tak) pg.2 (wpAny_call (PySem.W.prop_get (s := { s1 with toks := s1.toks + 1 }) I1.kIn hrec ?_))
  refine codeAny_mono (F.run X.A.in1 X.stack { s1 with toks := s1.toks + 1 } H1 ⟨[.ref a], []⟩ [.ref a] [.ref a] Q E hr.in1 hG.in1 I2.env0.in1 (hb _ [.ref a] I2.kIn hl) (.cons rfl .nil) q) fun r s' hq => ?_
  have z := ret_of (X := X.nox) (fun pins' H' s0 e' s2 I' => hx pins' σ H' s0 e' s2 I') (I2.wish _) hq
  cases r with
  | error er => exact z.elim
  | ok fl =>
    cases fl with
    | ret u =>
      obtain ⟨v, H', I3, rv, q3⟩ := I2.after hq
      show wpAny _ _ (handedOut u) _ _ _
      rw [PySem.W.handedOut_of (handed_of rv)]
      exact wpAny_pure ⟨v, H', I3, rv, q3⟩
    | next => exact hq.elim
    | brk => exact hq.elim
    | cont => exact hq.elim
end
/-- a def by its body -/
theorem fn_ofG {CX : CXT} {P : Program} {w : World} {K : PySem.W.Frag} {mg : Str → Option Value} {base : Heap} {k : Nat} {x qual : Str} {params : Arguments} {body : List Stmt} {scope : Scope} {dvs : List V} {kws : List (Str × V)} {f : Addr} {fd : FuncData} {N ps : List Str} {sp : Sp}
    (F : FunD K x qual params body scope dvs kws f fd) (S : FnScope N ps scope) (len : ∀ vs H Q E, sp vs H Q E → vs.length = ps.length)
    (hbody : ∀ (cdv : Value) (A : Around) (outer : List PySem.Env) (s : Shared) (H : Hp) (vs : List V) (Q : VK) (E : XK), Room k (A.deeper (envOfC qual scope s.heap.objs.size f cdv)) → Calm A → sp vs H Q E →
      ∃ t, PSs (cxOf CX P w K mg base N qual scope f cdv A outer s H E) body t ∧ t { nx := fun _ H' => Q .non H', rt := Q } (start N vs) H) : FnG P w K mg base CX (k + 1) f fd ps sp := by
  refine ⟨len, fun A outer s H args us vs Q E hr hG e0 hb r hsp => ?_⟩
  obtain ⟨oc, od, dV, kV, doc, pm, an, cdv, ct, osl, rfl, lk, hcd, _, _⟩ := F.ex
  have old := fun b o e => (e0.bs b o e).1
  have KX : K.In s.heap := e0.mod.kin.keeps old
  have parts : ∀ y ∈ ps.zip us, scope.names.lookup y.1 = some .local ∨ (scope.names.lookup y.1 = some .cell ∧ ((cellsFrom (s.heap.objs.size + 1) scope.names []).lookup y.1).isSome = true) := fun y hy =>
    (S.par y.1 (List.of_mem_zip (a := y.1) (b := y.2) hy).1).imp id fun q => ⟨q, PySem.W.cellsFrom_some _ _ _ (.inl q)⟩
  refine codeAny_call_function hr.depth (KX _ _ lk) rfl S.co S.gen rfl (PySem.W.codeRec_of KX hcd) (hb _ _ _ _ (wpAny_newFunctionEnv_cells S.kind parts fun env he s1 y => ?_))
  subst he
  refine ⟨(e0.mod.nolimit.keeps old).keeps y.toInCall.keep, codeAny_func ?_⟩
  obtain ⟨t, ht, hq⟩ := hbody cdv A outer s H vs Q E (hr.deeper _) hG hsp
  refine wpAny_mono (ht.run [] s1 (start N vs) H _ (inv_start S hr.hd e0 (len _ _ _ _ hsp) r y) hq) (fun fl s' hs => ?_) fun _ _ hs => hs
  match fl, hs with
  | .ret _, ⟨v, _, H', J, rv, q⟩ => exact ⟨v, H', J.os, J.bare, J.base, J.hok, rv, q⟩
  | .next, ⟨_, H', J, q⟩ => exact ⟨.non, H', J.os, J.bare, J.base, J.hok, rfl, q⟩
  | .brk, ⟨_, _, _, q⟩ => exact q.elim
  | .cont, ⟨_, _, _, q⟩ => exact q.elim
end Wpk
set_option Elab.async false
set_option linter.all false
set_option maxRecDepth 100000
/-! C9: the law's call, where nothing is being shown. -/
namespace Wpk
open PySem PySem.Spec PyProof.Rows L2
section
variable {P : Program} {w : World} {K : PySem.W.Frag} {mg mb : Str → Option Value} {CX : CXT} {k : Nat} {fa a : Addr} {fd : FuncData} {x : Str} {sp : Sp} {s₁ : Shared} {vs : List Value} {ns : List Int}
/-- the call, over a picture of the heap that knows the script at most -/
theorem law_core {H : Hp} (KX : K.In s₁.heap) (hns : s₁.heap.Ns mainGlobals mg) (hb : s₁.heap.Ns builtinsNs mb) (hbb : ∀ x : Str, x ≠ "__name__" → mb x = bootBuiltins x) (hlim : s₁.heap.NoLimit) (hg : s₁.gens = #[])
    (ha : s₁.heap.get? a = some { cls := .type "list", data := .seq vs.toArray }) (hr : Room k callerA)
    (F : ∀ base : Heap, FnG P w K mg base CX k fa fd [x] sp) (hbind : ∀ (s : Shared) (u : Value), BindsTo s fd ⟨[u], []⟩ [(x, u)])
    (hsp : sp [.ref a] H (fun v _ => v = .bl true) fun _ _ _ => False) (hCX : ∀ e s', CX [] H s₁ (fun _ _ _ => False) e s' → False)
    (hO : ∀ b, H b ≠ none → b = a ∧ ∃ o xs, H b = some (.frz o (.lst xs))) (hok : HOk P w H s₁.heap) (hK : H a ≠ none → K.lookup a = none) :
    codeAny (model P w) callerA (.call (.ref fa) ⟨[.ref a], []⟩) (fun r s' => r = .ok (.ret (.bool true)) ∧ OldK s₁.heap s'.heap ∧ s'.os = s₁.os ∧ AllBare s'.gens) s₁ := by
  have free : ∀ b, b ≠ a → H b = none := fun b hb => by
    cases q : H b with
    | none => rfl
    | some u => exact absurd (hO b (by rw [q]; simp)).1 hb
  have ns : ∀ {b : Addr} {m : Str → Option Value}, s₁.heap.Ns b m → (hidT s₁.heap H).Ns b m := fun {b m} ⟨o, es, ep, e, d, r⟩ => ⟨o, es, ep, hidT_get e (free b fun z => by
    subst z
    rw [ha] at e
    cases e
    exact nomatch (show Data.seq vs.toArray _ = Data.dict es ep from d)), d, r⟩
  have kin : K.In (hidT s₁.heap H) := fun b o e => hidT_get (KX b o e) (by
    by_cases z : b = a
    · subst z
      cases q : H b with
      | none => rfl
      | some u => rw [hK (by rw [q]; simp)] at e; cases e
    · exact free b z)
  have e0 : Env0 P w K mg (hidT s₁.heap H) callerA [] s₁ H :=
    ⟨rfl, ⟨kin, ns hns, ⟨mb, ns hb, hbb⟩, let ⟨mc, h1, h2⟩ := hlim; ⟨mc, ns h1, h2⟩⟩, fun b o e => of_hidT e, Nat.le_of_eq (hidT_size _ _), trivial, fun b hb => (List.not_mem_nil (show b ∈ ([] : List Addr) from hb)).elim, hok, .of_eq hg⟩
  refine codeAny_mono ((F _).run callerA [] s₁ H ⟨[.ref a], []⟩ [.ref a] [.ref a] _ _ hr rfl e0 (hbind s₁ (.ref a)) (.cons rfl .nil) hsp) fun r s' h => ?_
  match r, h with
  | .error e, h => exact (hCX e s' h).elim
  | .ok (.ret u), ⟨v, H', os, bare, un, hok', rv, q⟩ =>
    have q' : v = .bl true := q
    subst q'
    obtain rfl : u = Value.bool true := rv
    refine ⟨rfl, OldK.of_keep fun b o e => ?_, os, bare⟩
    cases q : H b with
    | none => exact un.keep b o e q (fun z => nomatch (show b ∈ ([] : List Addr) from z)) (by simp)
    | some u =>
      obtain ⟨_, ob, xs, z⟩ := hO b (by rw [q]; simp)
      obtain ⟨e1, _⟩ := hok b _ z
      obtain ⟨e2, _⟩ := hok' b _ (un.frzs b ob _ z)
      rw [e] at e1
      cases e1
      exact e2
/-- a law -/
theorem walk_ofG {l : PySem.W.OpenLaw} {n k : Nat} {q : Program} {loose : List Str} {XP : (Str → Option Value) → Heap → Prop} {YP : World → Heap → Prop} {d : DefRec} {x : Str}
    (hn : l.most = some n) (hn2 : n ≤ sizeLine) (hdf : d.params.defaults = []) (hr : Room k callerA)
    (F : ∀ (w : World) (mg : Str → Option Value) (fa : Addr) (h : Heap), YP w h → h.Ns mainGlobals mg → mg d.name = some (.ref fa) →
      ∃ (K : PySem.W.Frag) (fd : FuncData) (sp : Sp), K.In h ∧ (∀ (s : Shared) (u : Value), BindsTo s fd ⟨[u], []⟩ [(x, u)]) ∧
        (∀ (H : Hp) (a : Addr) (ns : List Int), ns.length ≤ n → SqL K H a (ns.map V.int) → sp [.ref a] H (fun v _ => v = .bl true) fun _ _ _ => False) ∧
        ∀ base : Heap, FnG l.prog w K mg base (L2.CX l.prog w) k fa fd [x] sp) :
    PySem.W.WalkO q loose XP YP l.row.toRowW d [] (fun f vs => PySem.call f vs) := by
  refine Att.attach_call hn hdf fun w s₀ s₁ mg mb fa o pm cd doc a vs ns G Y ho hd hcd hmg hobj hints hlen hg => ?_
  obtain ⟨K, fd, sp, KX, hb, hsp, hF⟩ := F w mg fa _ Y G.T.g hmg
  have rv := vals_ints hints
  have lenV := hints.length
  have hl : ns.length ≤ sizeLine := Nat.le_trans hlen hn2
  have noX : ∀ (H : Hp) (e : Value) (s' : Shared), L2.CX l.prog w [] H s₁ (fun _ _ _ => False) e s' → False := fun H e s' ⟨_, _, _, _, _, _, _, _, _, _, _, _, z⟩ => z
  cases hk : K.lookup a with
  | some o =>
    have e := KX a o hk
    rw [hobj] at e
    cases e
    exact law_core (H := fun _ => none) KX G.T.g G.T.b G.T.builtins G.T.nolimit hg hobj hr hF hb (hsp _ a ns hlen (.inr ⟨_, vs.toArray, _, hk, rfl, rfl, rfl, by rw [List.size_toArray, lenV]; exact hl, by simpa using rv⟩)) (noX _)
      (fun b z => absurd rfl z) (fun b u z => nomatch (show (none : Option HO) = some u from z)) fun z => absurd rfl z
  | none =>
    have at_ : (fun b => if b = a then some (HO.frz { cls := .type "list", data := .seq vs.toArray } (.lst (ns.map V.int))) else none : Hp) a = some (HO.frz { cls := .type "list", data := .seq vs.toArray } (.lst (ns.map V.int))) := if_pos rfl
    refine law_core (H := fun b => if b = a then some (HO.frz { cls := .type "list", data := .seq vs.toArray } (.lst (ns.map V.int))) else none) KX G.T.g G.T.b G.T.builtins G.T.nolimit hg hobj hr hF hb (hsp _ a ns hlen (.inl (.inr ⟨_, at_⟩))) (noX _) (fun b z => ?_) (fun b u z => ?_) fun _ => hk
    · by_cases hb : b = a
      · subst hb; exact ⟨rfl, _, _, at_⟩
      · exact absurd (if_neg hb) z
    · by_cases hb : b = a
      · subst hb
        rw [at_] at z
        cases z
        exact ⟨hobj, by rw [List.length_map]; exact hl, vs, _, rv, hobj⟩
      · exact nomatch ((if_neg hb).symm.trans z : (none : Option HO) = some u)
end
end Wpk
set_option Elab.async false
set_option linter.all false
set_option maxRecDepth 100000
/-! C5: calls of defs. -/
namespace Wpk
open PySem PySem.Spec PyProof.Rows L2
/-- what is left of the arguments that were lent -/
def FinR (W : Wd) (G H : Hp) : List D → List (Option D) → List Addr → List V → Prop
  | [], _, F, vs => F = [] ∧ vs = []
  | d :: ds, fs, F, vs => ∃ F1 F2 v vs', F = F1 ++ F2 ∧ vs = v :: vs' ∧ FinR W G H ds fs.tail F2 vs' ∧
      (if owned d = true then (match fs.head? with | some (some d') => Ow W G H d' F1 v | _ => F1 = []) else F1 = [])
/-- what a def promises by its run -/
def spOf (W : Wd) (run : List D → R D) : Sp := fun vs H Q E => ∃ G ds F, Sm G H ∧ F.Nodup ∧ OwL W G H ds F vs ∧
  match run ds with
  | .ok d fs => ∀ v G' H' F' Fv, Stp F G H (F' ++ Fv) G' H' → FinR W G' H' ds fs F' vs → Ow W G' H' d Fv v → Q v H'
  | .exc x fs => ∀ G' H' F' cls dx, Stp F G H F' G' H' → FinR W G' H' ds fs F' vs → ExR W G' H' x cls dx → E cls dx H'
  | .no => False
section
variable {X : Cx} {L : List Nat} {W : Wd} {Wx : WX} {σ σ1 σ' : L2.St} {G G1 G2 G' H H1 H2 H' : Hp} {F F1 F2 Fa Fb Fv Fl : List Addr} {e e1 : Env} {Z : Ends} {v : V}
/-- the slots that were lent hold the arguments -/
def SlR (σ : L2.St) : List Od → List V → Prop
  | [], vs => vs = []
  | o :: os, vs => ∃ v vs', vs = v :: vs' ∧ SlR σ os vs' ∧ (match o with | .slot i => σ[i]? = some (some v) | .val _ => True)
theorem Stp.freezeMid {A : List Addr} {B : List Addr} (s : Sm G H) (nd : (A ++ (Fa ++ B)).Nodup) (h : ∀ b ∈ A ++ B, G b = none ∧ ∃ o, H b = some o) : Stp (A ++ (Fa ++ B)) G H (A ++ B) (addG G H Fa) H ∧ ∀ b ∈ A ++ B, addG G H Fa b = none := by
  obtain ⟨nA, nFB, d1⟩ := List.nodup_append.mp nd
  obtain ⟨nF, nB, d2⟩ := List.nodup_append.mp nFB
  have out : ∀ b ∈ A ++ B, b ∉ Fa := fun b hb hi => by
    rcases List.mem_append.mp hb with z | z
    · exact d1 b z b (List.mem_append_left _ hi) rfl
    · exact d2 b hi b z rfl
  have nAB : (A ++ B).Nodup := nd.sublist (List.Sublist.append (List.Sublist.refl A) (List.sublist_append_right Fa B))
  refine ⟨(((Stp.freeze (F := Fa) s).beside nAB fun b hb => ⟨(h b hb).1, out b hb, fun z => by obtain ⟨o, q⟩ := (h b hb).2; rw [z] at q; cases q⟩).perm (fun b hb => ?_) (fun b hb => by simpa using hb) nAB), fun b hb => (addG_out (out b hb)).trans (h b hb).1⟩
  simp only [List.mem_append] at hb ⊢
  rcases hb with z | z | z <;> simp [z]
theorem rOs.mem : ∀ {os : List Od} {Fa : List Addr} {vs : List V}, rOs W σ G H os Fa vs → ∀ b ∈ Fa, G b = none ∧ ∃ x, H b = some x
  | [], Fa, vs, h => by
    rw [rOs] at h
    rw [h.1]
    exact nomem
  | o :: os, Fa, vs, h => by
    rw [rOs] at h
    obtain ⟨A, B, v, vs', rfl, rfl, h1, h2⟩ := h
    intro b hb
    rcases List.mem_append.mp hb with z | z
    · exact h1.mem b z
    · exact rOs.mem h2 b z
theorem rOs.frame (s : Sm G G1) : ∀ {os : List Od} {Fa : List Addr} {vs : List V}, rOs W σ G H os Fa vs → (∀ b ∈ Fa, G1 b = none ∧ H1 b = H b) → rOs W σ G1 H1 os Fa vs
  | [], Fa, vs, h, k => by
    rw [rOs] at h ⊢
    exact h
  | o :: os, Fa, vs, h, k => by
    rw [rOs] at h ⊢
    obtain ⟨A, B, v, vs', rfl, rfl, h1, h2⟩ := h
    exact ⟨A, B, v, vs', rfl, rfl, h1.frame s fun b hb => k b (List.mem_append_left _ hb), rOs.frame s h2 fun b hb => k b (List.mem_append_right _ hb)⟩
theorem lend_ok : ∀ {os : List Od} {e : Env} {ds : List D} {e2 : Env} {G : Hp} {F1 Fa : List Addr} {vs : List V}, lend os e = some (ds, e2) → rOs W σ G H os Fa vs → EnvR W G H e F1 σ → (F1 ++ Fa).Nodup → Sm G H →
    ∃ G2 F2 Fl, Stp (F1 ++ Fa) G H (F2 ++ Fl) G2 H ∧ EnvR W G2 H e2 F2 σ ∧ OwL W G2 H ds Fl vs ∧ SlR σ os vs
  | [], e, ds, e2, G, F1, Fa, vs, h, r, E, nd, s => by
    cases h
    rw [rOs] at r
    obtain ⟨rfl, rfl⟩ := r
    exact ⟨G, F1, [], Stp.refl s nd, E, ⟨rfl, rfl⟩, rfl⟩
  | .val d :: os, e, ds, e2, G, F1, Fa, vs, h, r, E, nd, s => by
    rw [rOs] at r
    obtain ⟨Fx, Fr, v, vs', rfl, rfl, h1, h2⟩ := r
    have h' : (lend os e).map (fun p => (frz d :: p.1, p.2)) = some (ds, e2) := h
    cases c : lend os e with
    | none => rw [c] at h'; cases h'
    | some p =>
      obtain ⟨ds', e2'⟩ := p
      rw [c] at h'
      cases h'
      have hm : ∀ b ∈ F1 ++ Fr, G b = none ∧ ∃ o, H b = some o := fun b hb => (List.mem_append.mp hb).elim (E.mem b) (rOs.mem h2 b)
      obtain ⟨S1, k1⟩ := Stp.freezeMid s nd hm
      have E1 : EnvR W (addG G H Fx) H e F1 σ := E.frame (addG_same s) fun b hb => ⟨k1 b (List.mem_append_left _ hb), rfl⟩
      have r1 : rOs W σ (addG G H Fx) H os Fr vs' := rOs.frame (addG_same s) h2 fun b hb => ⟨k1 b (List.mem_append_right _ hb), rfl⟩
      obtain ⟨G2, F2, Fl, S2, E2, o2, sl⟩ := lend_ok c r1 E1 S1.nd (addG_sub s)
      have od : Ow W (addG G H Fx) H (frz d) [] v := Ow.frz (addG_same s) (show Ow W G H d Fx v from h1) fun b hb => addG_in hb
      exact ⟨G2, F2, Fl, S1.trans S2, E2, ⟨[], Fl, v, vs', rfl, rfl, od.keep S2.sg, o2⟩, v, vs', rfl, sl, trivial⟩
  | .slot i :: os, e, ds, e2, G, F1, Fa, vs, h, r, E, nd, s => by
    rw [rOs] at r
    obtain ⟨Fx, Fr, v, vs', rfl, rfl, h1, h2⟩ := r
    obtain ⟨rfl, hs⟩ := h1
    unfold lend at h
    cases cg : Env.get e i with
    | none => rw [cg] at h; cases h
    | some d =>
      rw [cg] at h
      dsimp only at h
      obtain ⟨A, Fi, B, rfl, ⟨v', q1, q2⟩, q3⟩ := E.cut (get_some cg)
      rw [hs] at q1
      cases q1
      have nd' : (A ++ Fi ++ B ++ Fr).Nodup := by simpa using nd
      cases ho : owned d with
      | true =>
        rw [ho, if_pos rfl] at h
        cases c : lend os (Env.del e i) with
        | none => rw [c] at h; cases h
        | some p =>
          obtain ⟨ds', e2'⟩ := p
          rw [c] at h
          cases h
          have E1 : EnvR W G H (Env.del e i) (A ++ B) σ := (q3 Sm.refl fun b hb => ⟨(E.mem b (by rcases List.mem_append.mp hb with z | z <;> simp [z])).1, rfl⟩).1
          have pm : (A ++ Fi ++ B ++ Fr).Perm (A ++ B ++ Fr ++ Fi) := by
            have p1 : (A ++ Fi ++ B ++ Fr).Perm (A ++ (Fi ++ (B ++ Fr))) := by simp
            have p2 : (A ++ (Fi ++ (B ++ Fr))).Perm (A ++ ((B ++ Fr) ++ Fi)) := List.Perm.append_left A List.perm_append_comm
            have p3 : (A ++ ((B ++ Fr) ++ Fi)).Perm (A ++ B ++ Fr ++ Fi) := by simp
            exact p1.trans (p2.trans p3)
          have nd2 : (A ++ B ++ Fr ++ Fi).Nodup := (pm.nodup_iff).mp nd'
          obtain ⟨nABr, nFi, dj⟩ := List.nodup_append.mp nd2
          obtain ⟨G2, F2, Fl, S2, E2, o2, sl⟩ := lend_ok c h2 E1 nABr s
          have mi : ∀ b ∈ Fi, G b = none ∧ b ∉ A ++ B ++ Fr ∧ H b ≠ none := fun b hb => ⟨(q2.mem b hb).1, fun z => dj b z b hb rfl, fun z => by obtain ⟨o, q⟩ := (q2.mem b hb).2; rw [z] at q; cases q⟩
          have S3 := S2.beside nFi mi
          refine ⟨G2, F2, Fi ++ Fl, S3.swap.perm (fun b hb => ?_) (fun b hb => hb) ?_, E2, ⟨Fi, Fl, v, vs', rfl, rfl, q2.frame S2.sg fun b hb => ⟨(S2.kept (mi b hb).1 (mi b hb).2.1 (mi b hb).2.2).1, rfl⟩, o2⟩, v, vs', rfl, sl, hs⟩
          · have : b ∈ A ++ Fi ++ B ++ Fr := (pm.mem_iff).mpr hb
            simpa using this
          · exact S3.swap.nd
      | false =>
        rw [ho, if_neg Bool.false_ne_true] at h
        cases c : lend os e with
        | none => rw [c] at h; cases h
        | some p =>
          obtain ⟨ds', e2'⟩ := p
          rw [c] at h
          cases h
          have e0 := q2.nil_owned ho
          subst e0
          have nd3 : (A ++ [] ++ B ++ Fr).Nodup := nd'
          obtain ⟨G2, F2, Fl, S2, E2, o2, sl⟩ := lend_ok c h2 E nd3 s
          refine ⟨G2, F2, Fl, S2.perm (fun b hb => ?_) (fun b hb => hb) S2.nd, E2, ⟨[], Fl, v, vs', rfl, rfl, q2.keep S2.sg, o2⟩, v, vs', rfl, sl, hs⟩
          simpa using hb
theorem back_ok : ∀ {os : List Od} {ds : List D} {fs : List (Option D)} {e e3 : Env} {F2 F' : List Addr} {vs : List V}, back os ds fs e = some e3 → FinR W G H ds fs F' vs → SlR σ os vs → EnvR W G H e F2 σ → (F2 ++ F').Nodup →
    ∃ F3, EnvR W G H e3 F3 σ ∧ (∀ b ∈ F3, b ∈ F2 ∨ b ∈ F') ∧ F3.Nodup
  | [], ds, fs, e, e3, F2, F', vs, h, f, sl, E, nd => by
    cases h
    exact ⟨F2, E, fun b hb => .inl hb, (List.nodup_append.mp nd).1⟩
  | .val d0 :: os, [], fs, e, e3, F2, F', vs, h, f, sl, E, nd => nomatch h
  | .val d0 :: os, d :: ds, [], e, e3, F2, F', vs, h, f, sl, E, nd => nomatch h
  | .val d0 :: os, d :: ds, f0 :: fs, e, e3, F2, F', vs, h, f, sl, E, nd => by
    obtain ⟨A, B, v, vs', rfl, rfl, f1, f2⟩ := f
    obtain ⟨v', vs'', e1, sl', _⟩ := sl
    cases e1
    have nd' : (F2 ++ B).Nodup := nd.sublist (List.Sublist.append (List.Sublist.refl F2) (List.sublist_append_right A B))
    obtain ⟨F3, E3, m3, n3⟩ := back_ok (fs := fs) (show back os ds fs e = some e3 from h) f1 sl' E nd'
    exact ⟨F3, E3, fun b hb => (m3 b hb).elim .inl fun z => .inr (List.mem_append_right _ z), n3⟩
  | .slot i :: os, [], fs, e, e3, F2, F', vs, h, f, sl, E, nd => nomatch h
  | .slot i :: os, d :: ds, [], e, e3, F2, F', vs, h, f, sl, E, nd => nomatch h
  | .slot i :: os, d :: ds, f0 :: fs, e, e3, F2, F', vs, h, f, sl, E, nd => by
    obtain ⟨A, B, v, vs', rfl, rfl, f1, f2⟩ := f
    obtain ⟨v', vs'', e1, sl', hs⟩ := sl
    cases e1
    unfold back at h
    cases ho : owned d with
    | true =>
      rw [ho, if_pos rfl] at h f2
      cases f0 with
      | none => exact nomatch h
      | some d' =>
      have od : Ow W G H d' A v := f2
      dsimp only at h
      have hil : i < e.length := by
        have := (List.getElem?_eq_some_iff.mp hs).1
        rw [E.len] at this
        exact this
      obtain ⟨x, c⟩ : ∃ x, e[i]? = some x := ⟨_, List.getElem?_eq_getElem hil⟩
      obtain ⟨P, Fi, R, rfl, _, q3⟩ := E.cut c
      have E1 := (q3 Sm.refl fun b hb => ⟨(E.mem b (by rcases List.mem_append.mp hb with z | z <;> simp [z])).1, rfl⟩).2 od
      rw [set_same hs] at E1
      have nd' : (P ++ A ++ R ++ B).Nodup := by
        have s1 : (P ++ R ++ (A ++ B)).Sublist (P ++ Fi ++ R ++ (A ++ B)) := List.Sublist.append (List.Sublist.append (List.sublist_append_left P Fi) (List.Sublist.refl R)) (List.Sublist.refl _)
        refine (List.Perm.nodup_iff ?_).mp (nd.sublist s1)
        have p1 : (P ++ R ++ (A ++ B)).Perm (P ++ (R ++ A) ++ B) := by simp
        have p2 : (P ++ (R ++ A) ++ B).Perm (P ++ (A ++ R) ++ B) := List.Perm.append_right B (List.Perm.append_left P List.perm_append_comm)
        have p3 : (P ++ (A ++ R) ++ B).Perm (P ++ A ++ R ++ B) := by simp
        exact p1.trans (p2.trans p3)
      obtain ⟨F3, E3, m3, n3⟩ := back_ok (fs := fs) h f1 sl' E1 nd'
      refine ⟨F3, E3, fun b hb => ?_, n3⟩
      rcases m3 b hb with z | z
      · simp only [List.mem_append] at z ⊢
        rcases z with (z | z) | z <;> simp [z]
      · exact .inr (List.mem_append_right _ z)
    | false =>
      rw [ho, if_neg Bool.false_ne_true] at h
      have nd' : (F2 ++ B).Nodup := nd.sublist (List.Sublist.append (List.Sublist.refl F2) (List.sublist_append_right A B))
      obtain ⟨F3, E3, m3, n3⟩ := back_ok (fs := fs) h f1 sl' E nd'
      exact ⟨F3, E3, fun b hb => (m3 b hb).elim .inl fun z => .inr (List.mem_append_right _ z), n3⟩
/-- a call by what the def promises -/
theorem call_fin {run : Nat → List D → R D} {f : Nat} {os : List Od} {vs : List V} {Q : VK} (p1 : Post (rD W) W Wx σ F G H Q (doCall run f os e1)) (S1 : Stp F G H (F1 ++ Fa) G1 H1) (E1 : EnvR W G1 H1 e1 F1 σ) (r1 : rOs W σ G1 H1 os Fa vs) : spOf W (run f) vs H1 Q (WE Wx σ) := by
  unfold doCall at p1
  cases cl : lend os e1 with
  | none => rw [cl] at p1; exact p1.elim
  | some pr =>
    obtain ⟨ds, e2⟩ := pr
    rw [cl] at p1
    dsimp only at p1
    obtain ⟨G2, F2, Fl, S2, E2, o2, sl⟩ := lend_ok cl r1 E1 S1.nd S1.sh
    have T2 := S1.trans S2
    obtain ⟨nF2, nFl, dj⟩ := List.nodup_append.mp T2.nd
    have m2 : ∀ b ∈ F2, G2 b = none ∧ b ∉ Fl ∧ H1 b ≠ none := fun b hb => ⟨(E2.mem b hb).1, fun z => dj b hb b z rfl, fun z => by obtain ⟨o, q⟩ := (E2.mem b hb).2; rw [z] at q; cases q⟩
    refine ⟨G2, ds, Fl, S2.sh, nFl, o2, ?_⟩
    have step : ∀ {F' : List Addr} {G' H' : Hp}, Stp Fl G2 H1 F' G' H' → Stp F G H (F2 ++ F') G' H' ∧ EnvR W G' H' e2 F2 σ := fun {F' G' H'} S3 => by
      have S4 := S3.beside nF2 m2
      have nd4 : (F2 ++ F').Nodup := (List.perm_append_comm.nodup_iff).mp S4.nd
      refine ⟨T2.trans (S4.perm (fun b hb => ?_) (fun b hb => ?_) nd4), E2.frame S3.sg fun b hb => S3.kept (m2 b hb).1 (m2 b hb).2.1 (m2 b hb).2.2⟩
      · rw [List.mem_append] at hb ⊢; exact hb.symm
      · rw [List.mem_append] at hb ⊢; exact hb.symm
    cases cr : run f ds with
    | no => rw [cr] at p1; exact p1
    | ok d fs =>
      rw [cr] at p1
      dsimp only at p1
      intro v G' H' F' Fv S3 fin od
      obtain ⟨S5, E5⟩ := step S3
      cases cb : back os ds fs e2 with
      | none => rw [cb] at p1; exact p1.elim
      | some e3 =>
        rw [cb] at p1
        have nd5 : (F2 ++ F').Nodup := S5.nd.sublist (List.Sublist.append (List.Sublist.refl F2) (List.sublist_append_left F' Fv))
        obtain ⟨F3, E3, m3, n3⟩ := back_ok cb fin sl E5 nd5
        have p2 : Post (rD W) W Wx σ F G H Q (.ok d e3) := p1
        refine p2 v G' H' F3 Fv (S5.perm (fun _ z => z) (fun b hb => ?_) ?_) E3 od
        · rcases List.mem_append.mp hb with z | z
          · rcases m3 b z with z | z <;> simp [z]
          · simp [z]
        · have nd6 := S5.nd
          rw [← List.append_assoc] at nd6
          obtain ⟨_, nv, dj6⟩ := List.nodup_append.mp nd6
          refine List.nodup_append.mpr ⟨n3, nv, fun x hx y hy exy => dj6 x ?_ y hy exy⟩
          rcases m3 x hx with z | z <;> simp [z]
    | exc x fs =>
      rw [cr] at p1
      dsimp only at p1
      intro G' H' F' cls dx S3 fin rx
      obtain ⟨S5, E5⟩ := step S3
      cases cb : back os ds fs e2 with
      | none => rw [cb] at p1; exact p1.elim
      | some e3 =>
        rw [cb] at p1
        obtain ⟨F3, E3, m3, n3⟩ := back_ok cb fin sl E5 S5.nd
        have p2 : XPost W Wx σ F G H x e3 := p1
        exact p2 G' H' F3 cls dx (S5.perm (fun _ z => z) (fun b hb => by rcases m3 b hb with z | z <;> simp [z]) n3) E3 rx
theorem call_read {run : Nat → List D → R D} {f : Nat} {m : Env → R (List Od)} {Q : VK} (h : tE W Wx (fun e => (m e).bind fun os e1 => doCall run f os e1) σ H Q) : tCallSD (spOf W (run f)) [] (WE Wx) (tOs W Wx m) σ H Q := by
  obtain ⟨e, G, F, S, p⟩ := h
  refine ⟨e, G, F, S, p.go S.refl nomem fun os e1 vs G1 H1 F1 Fa p1 S1 E1 r1 => ?_⟩
  rw [List.append_nil]
  exact call_fin p1 S1 E1 r1
theorem pe_callE {run : Nat → List D → R D} {f : Nat} {k : Nat} {fA : Addr} {fd : FuncData} {ps : List Str} {x : Str} {p pos : Pos} {y : Expr} {ys : List Expr} {m : Env → R (List Od)}
    (tk : Takes X Wx) (F : FnG X.prog X.w X.K X.mg X.base (L2.CX X.prog X.w) k fA fd ps (spOf W (run f))) (hr : Room k X.A) (hG : Calm X.A) (hg : Gl X x) (hm : X.mg x = some (.ref fA)) (hk : PySem.W.keepIn X.K (.ref fA) = true) (hb : Binds X.K fd ps [])
    (ha : PA X (y :: ys) (tOs W Wx m)) (hdb : (x == ("__debug__" : Str)) = false) (he : starEach (y :: ys) X.env = (false, eval y X.env) :: starEach ys X.env) (hpl : (backTo pos (starEach ys X.env)).any (·.1) = false) :
    PE X (.Call (.Name x p) (y :: ys) [] pos) (tE W Wx (fun e => (m e).bind fun os e1 => doCall run f os e1)) :=
  PE.imp (pe_callG (E := WE Wx) F hr hG hg hm hk hb (fun σ => passAt tk σ) ha hdb he hpl) fun _ _ _ h => call_read h
theorem pe_callE0 {run : Nat → List D → R D} {f : Nat} {k : Nat} {fA : Addr} {fd : FuncData} {ps : List Str} {x : Str} {p pos : Pos}
    (tk : Takes X Wx) (F : FnG X.prog X.w X.K X.mg X.base (L2.CX X.prog X.w) k fA fd ps (spOf W (run f))) (hr : Room k X.A) (hG : Calm X.A) (hg : Gl X x) (hm : X.mg x = some (.ref fA)) (hk : PySem.W.keepIn X.K (.ref fA) = true) (hb : Binds X.K fd ps [])
    (hdb : (x == ("__debug__" : Str)) = false) : PE X (.Call (.Name x p) [] [] pos) (tE W Wx (fun e => (semOn e).bind fun os e1 => doCall run f os e1)) := by
  have q : PE X (.Call (.Name x p) [] [] pos) (tCallSD (spOf W (run f)) [] (WE Wx) tNil) := by
    refine ⟨fun pins s σ H Q I h => ?_⟩
    refine wpAny_Call_Name_kw (ld_glob I hg hm ?_ hdb)
    exact PySem.W.callWith_K0 I.kIn hk (run_fnG (us := []) (vs := []) (E := WE Wx) F hr hG hb (passAt tk σ) I .nil h)
  refine PE.imp q fun σ H Q h => ?_
  have z := call_read h
  obtain ⟨e, G, F, S, p⟩ := z
  exact p [] G H F [] S.refl S.env (by simp [rOs])

/-! ### a def's body -/
theorem ownL_mem : ∀ (ds : List D) (n i : Nat), i ∈ ownL ds n ↔ n ≤ i ∧ ∃ d, ds[i - n]? = some d ∧ owned d = true
  | [], n, i => by simp [ownL]
  | d :: ds, n, i => by
    have ih := ownL_mem ds (n + 1) i
    unfold ownL
    by_cases hd : owned d = true
    · rw [if_pos hd, List.mem_cons, ih]
      constructor
      · rintro (rfl | ⟨h1, d', h2, h3⟩)
        · exact ⟨Nat.le_refl _, d, by simp, hd⟩
        · refine ⟨by omega, d', ?_, h3⟩
          have : i - n = (i - (n + 1)) + 1 := by omega
          rw [this]
          simpa using h2
      · rintro ⟨h1, d', h2, h3⟩
        by_cases hi : i = n
        · exact .inl hi
        · refine .inr ⟨by omega, d', ?_, h3⟩
          have : i - n = (i - (n + 1)) + 1 := by omega
          rw [this] at h2
          simpa using h2
    · rw [if_neg hd, ih]
      constructor
      · rintro ⟨h1, d', h2, h3⟩
        refine ⟨by omega, d', ?_, h3⟩
        have : i - n = (i - (n + 1)) + 1 := by omega
        rw [this]
        simpa using h2
      · rintro ⟨h1, d', h2, h3⟩
        by_cases hi : i = n
        · subst hi
          simp at h2
          subst h2
          exact absurd h3 hd
        · refine ⟨by omega, d', ?_, h3⟩
          have : i - n = (i - (n + 1)) + 1 := by omega
          rw [this] at h2
          simpa using h2
theorem finals_ok : ∀ {ds : List D} {e : Env} {F' : List Addr} {σ' : L2.St} {vs : List V}, EnvR W G H e F' σ' → vs.length = ds.length → ds.length ≤ e.length → (∀ (j : Nat) (d : D) (v : V), ds[j]? = some d → owned d = true → vs[j]? = some v → σ'[j]? = some (some v)) →
    ∃ F'', FinR W G H ds (finals ds e) F'' vs ∧ F''.Sublist F'
  | [], e, F', σ', vs, E, hl, hn, k => by
    cases vs with
    | nil => exact ⟨[], ⟨rfl, rfl⟩, List.nil_sublist _⟩
    | cons v vs => cases hl
  | d :: ds, [], F', σ', vs, E, hl, hn, k => by simp at hn
  | d :: ds, x :: e, F', σ', [], E, hl, hn, k => by cases hl
  | d :: ds, x :: e, F', σ', v :: vs, E, hl, hn, k => by
    have hl' : vs.length = ds.length := by simpa using hl
    have hn' : ds.length ≤ e.length := by simpa using hn
    cases x with
    | none =>
      obtain ⟨y, σ2, rfl, E2⟩ := E
      obtain ⟨F'', f, sub⟩ := finals_ok E2 hl' hn' fun j d' v' h1 h2 h3 => by simpa using k (j + 1) d' v' (by simpa using h1) h2 (by simpa using h3)
      refine ⟨F'', ⟨[], F'', v, vs, rfl, rfl, f, ?_⟩, sub⟩
      by_cases ho : owned d = true
      · rw [if_pos ho]
        show (match (finals (d :: ds) (none :: e)).head? with | some (some d') => Ow W G H d' [] v | _ => ([] : List Addr) = [])
        unfold finals
        rw [if_pos ho]
        rfl
      · rw [if_neg ho]
    | some dx =>
      obtain ⟨F1, F2, u, σ2, rfl, rfl, o, E2⟩ := E
      obtain ⟨F'', f, sub⟩ := finals_ok E2 hl' hn' fun j d' v' h1 h2 h3 => by simpa using k (j + 1) d' v' (by simpa using h1) h2 (by simpa using h3)
      by_cases ho : owned d = true
      · have hv : some (some u) = some (some v) := by simpa using k 0 d v (by simp) ho (by simp)
        have hv' : u = v := Option.some.inj (Option.some.inj hv)
        subst hv'
        refine ⟨F1 ++ F'', ⟨F1, F'', u, vs, rfl, rfl, ?_, ?_⟩, List.Sublist.append (List.Sublist.refl F1) sub⟩
        · unfold finals
          rw [if_pos ho]
          exact f
        · rw [if_pos ho]
          unfold finals
          rw [if_pos ho]
          exact o
      · refine ⟨F'', ⟨[], F'', v, vs, rfl, rfl, ?_, by rw [if_neg ho]⟩, sub.trans (List.sublist_append_right F1 F2)⟩
        unfold finals
        rw [if_neg ho]
        exact f
theorem env_start : ∀ {ds : List D} {F : List Addr} {vs : List V} (n : Nat), OwL W G H ds F vs → EnvR W G H (ds.map some ++ List.replicate n none) F (vs.map some ++ List.replicate n none)
  | [], F, vs, n, o => by
    obtain ⟨rfl, rfl⟩ := o
    simp only [List.map_nil, List.nil_append]
    induction n with
    | zero => exact ⟨rfl, rfl⟩
    | succ n ih => exact ⟨none, List.replicate n none, rfl, ih⟩
  | d :: ds, F, vs, n, o => by
    obtain ⟨F1, F2, v, vs', rfl, rfl, h1, h2⟩ := o
    exact ⟨F1, F2, v, _, rfl, rfl, h1, env_start n h2⟩
/-- from a body's meaning to the def's promise -/
theorem fn_okE {P : Program} {w : World} {mg : Str → Option Value} {base : Heap} {pg : Pg} {fns : List Fd} {fu k lv f : Nat} {fdd : Fd} {x qual : Str} {params : Arguments} {body : List Stmt} {scope : Scope} {dvs : List V} {kws : List (Str × V)} {fA : Addr} {fd : FuncData} {N ps : List Str} (hf : fns[f]? = some fdd) (hps : ps.length = fdd.np) (hns : N.length = fdd.ns)
    (Fn : FunD W.K x qual params body scope dvs kws fA fd) (S : FnScope N ps scope)
    (hbody : ∀ (L : List Nat) (cdv : Value) (A : Around) (outer : List PySem.Env) (s : Shared) (H : Hp) (E : XK), Room lv (A.deeper (envOfC qual scope s.heap.objs.size fA cdv)) → Calm A →
      PSs (cxOf (L2.CX P w) P w W.K mg base N qual scope fA cdv A outer s H E) body (tSm L W (fun cls d _ H' => E cls d H') (evS pg (runF pg fns fu k) fu L fdd.body))) :
    FnG P w W.K mg base (L2.CX P w) (lv + 1) fA fd ps (spOf W (runF pg fns fu (k + 1) f)) := by
  have unf : ∀ ds, runF pg fns fu (k + 1) f ds = if ds.length = fdd.np ∧ fdd.np ≤ fdd.ns then finR ds (evS pg (runF pg fns fu k) fu (ownL ds 0) fdd.body (ds.map some ++ List.replicate (fdd.ns - ds.length) none)) else .no := fun ds => by
    show (match fns[f]? with | none => R.no | some fd => _) = _
    rw [hf]
  refine fn_ofG Fn S (fun vs H Q E h => ?_) fun cdv A outer s H vs Q E hr hG h => ?_
  · obtain ⟨G, ds, F, _, _, o, q⟩ := h
    rw [o.length, hps]
    rw [unf ds] at q
    by_cases c : ds.length = fdd.np ∧ fdd.np ≤ fdd.ns
    · exact c.1
    · rw [if_neg c] at q
      exact q.elim
  · obtain ⟨G, ds, F, sub, nd, o, q⟩ := h
    rw [unf ds] at q
    by_cases c : ds.length = fdd.np ∧ fdd.np ≤ fdd.ns
    · rw [if_pos c] at q
      refine ⟨_, hbody (ownL ds 0) cdv A outer s H E hr hG, ds.map some ++ List.replicate (fdd.ns - ds.length) none, G, F, ⟨sub, nd, ?_⟩, ?_⟩
      · have := env_start (N.length - vs.length) o
        rw [hns, o.length] at this
        unfold L2.start
        rw [hns, o.length]
        exact this
      · have hlen := o.length
        have elen : (ds.map some ++ List.replicate (fdd.ns - ds.length) (none : Option D)).length = fdd.ns := by simp; omega
        have fin : ∀ {e : Env} {σ' : L2.St} {G' H' : Hp} {F' : List Addr}, EnvR W G' H' e F' σ' → Kp (ownL ds 0) (start N vs) σ' → ∃ F'', FinR W G' H' ds (finals ds e) F'' vs ∧ F''.Sublist F' := fun {e σ' G' H' F'} E' k' => by
          have le : e.length = fdd.ns := by rw [← E'.len, k'.1]; unfold L2.start; simp; omega
          refine finals_ok E' hlen (by omega) fun j d v h1 h2 h3 => ?_
          have hj : j ∈ ownL ds 0 := (ownL_mem ds 0 j).mpr ⟨Nat.zero_le _, d, by simpa using h1, h2⟩
          rw [k'.2 j hj]
          unfold L2.start
          have hjl : j < (vs.map some).length := by
            have := (List.getElem?_eq_some_iff.mp h3).1
            simpa using this
          rw [List.getElem?_append_left hjl, List.getElem?_map, h3]
          rfl
        cases r : evS pg (runF pg fns fu k) fu (ownL ds 0) fdd.body (ds.map some ++ List.replicate (fdd.ns - ds.length) none) with
        | no => rw [r] at q; exact q
        | exc x e =>
          rw [r] at q
          intro σ' G' H' F' cls dx S2 E2 k2 rx
          obtain ⟨F'', f, sb⟩ := fin E2 k2
          exact q G' H' F'' cls dx (S2.perm (fun _ z => z) (fun b hb => sb.subset hb) (S2.nd.sublist sb)) f rx
        | ok fl e =>
          rw [r] at q
          cases fl with
          | bk => exact q.elim
          | ct => exact q.elim
          | nx =>
            intro σ' G' H' F' S2 E2 k2
            obtain ⟨F'', f, sb⟩ := fin E2 k2
            exact q .non G' H' F'' [] (by rw [List.append_nil]; exact S2.perm (fun _ z => z) (fun b hb => sb.subset hb) (S2.nd.sublist sb)) f ⟨rfl, rfl⟩
          | rt d =>
            intro v σ' G' H' F' Fv S2 E2 k2 od
            obtain ⟨F'', f, sb⟩ := fin E2 k2
            have sb2 : (F'' ++ Fv).Sublist (F' ++ Fv) := List.Sublist.append sb (List.Sublist.refl Fv)
            exact q v G' H' F'' Fv (S2.perm (fun _ z => z) (fun b hb => sb2.subset hb) (S2.nd.sublist sb2)) f od
    · rw [if_neg c] at q
      exact q.elim
end
end Wpk
set_option Elab.async false
set_option linter.all false
set_option maxRecDepth 100000
/-! C6: list comprehensions. -/
namespace Wpk
open PySem PySem.Spec PyProof.Rows L2
abbrev WxF : WX := fun _ _ _ _ => False
section
variable {X : Cx} {L : List Nat} {W : Wd} {Wx : WX} {σ σ1 σ2 σ' : L2.St} {G G1 G2 G' H H1 H2 H' : Hp} {F F1 F2 Fa Fb Fv Fl : List Addr} {e e1 : Env} {Z : Ends} {v : V}
theorem Stp.put {p : Addr} {o : HO} (S : Stp F G H F1 G1 H1) (hp : p ∈ F1) (gp : G1 p = none) : Stp F G H F1 G1 (upd H1 p o) := by
  refine ⟨S.sg, S.sh.upd gp, S.nd, S.nw, fun b x h g n => ?_, fun b k n => ?_, S.ng⟩
  · have hne : b ≠ p := fun z => by
      subst z
      rcases S.nw b hp with q | q
      · exact n q
      · rw [q] at h; cases h
    rw [upd_ne hne]
    exact S.fr b x h g n
  · by_cases hb : b = p
    · subst hb
      rw [upd_same]
      exact fun z => nomatch z
    · rw [upd_ne hb]
      exact S.th b k n
/-- one slot forgotten: its real value does not matter -/
theorem EnvR.del : ∀ {e : Env} {F : List Addr} {σ : L2.St} (i : Nat), EnvR W G H e F σ → ∃ F', F'.Sublist F ∧ ∀ x, EnvR W G H (e.set i none) F' (σ.set i x) ∧ EnvR W G H (e.set i none) F' σ
  | [], F, σ, i, E => by
    obtain ⟨rfl, rfl⟩ := E
    exact ⟨[], List.Sublist.refl _, fun x => ⟨⟨rfl, rfl⟩, rfl, rfl⟩⟩
  | none :: e, F, σ, 0, E => by
    obtain ⟨y, σ', rfl, E⟩ := E
    exact ⟨F, List.Sublist.refl _, fun x => ⟨⟨x, σ', rfl, E⟩, y, σ', rfl, E⟩⟩
  | some d :: e, F, σ, 0, E => by
    obtain ⟨A, B, v, σ', rfl, rfl, o, E⟩ := E
    exact ⟨B, List.sublist_append_right A B, fun x => ⟨⟨x, σ', rfl, E⟩, some v, σ', rfl, E⟩⟩
  | none :: e, F, σ, i + 1, E => by
    obtain ⟨y, σ', rfl, E⟩ := E
    obtain ⟨F', sb, k⟩ := EnvR.del i E
    exact ⟨F', sb, fun x => ⟨⟨y, σ'.set i x, rfl, (k x).1⟩, y, σ', rfl, (k x).2⟩⟩
  | some d :: e, F, σ, i + 1, E => by
    obtain ⟨A, B, v, σ', rfl, rfl, o, E⟩ := E
    obtain ⟨F', sb, k⟩ := EnvR.del i E
    exact ⟨A ++ F', List.Sublist.append (List.Sublist.refl A) sb, fun x => ⟨⟨A, F', v, σ'.set i x, rfl, rfl, o, (k x).1⟩, A, F', v, σ', rfl, rfl, o, (k x).2⟩⟩
theorem EnvR.wiped : ∀ {e : Env} {F : List Addr} {σ : L2.St} (vs : List Nat), EnvR W G H e F σ → ∃ F', F'.Sublist F ∧ EnvR W G H (wipeE e vs) F' σ
  | e, F, σ, [], E => ⟨F, List.Sublist.refl _, E⟩
  | e, F, σ, v :: vs, E => by
    obtain ⟨F1, sb, E1⟩ := EnvR.wiped vs E
    obtain ⟨F2, sb2, k⟩ := E1.del v
    exact ⟨F2, sb2.trans sb, (k none).2⟩
/-- σ' is σ outside of vs -/
def Out (vs : List Nat) (σ σ' : L2.St) : Prop := σ'.length = σ.length ∧ ∀ i, i ∉ vs → σ'[i]? = σ[i]?
theorem wipe_out' {vs : List Nat} : Out vs σ (wipe σ vs) := ⟨wipe_length σ vs, fun i hi => wipe_out hi⟩
theorem none_slot : ∀ {vs : List Nat} {e : Env} {i : Nat}, i ∈ vs → i < e.length → (wipeE e vs)[i]? = some none
  | v :: vs, e, i, hi, hl => by
    have len : ∀ vs : List Nat, (wipeE e vs).length = e.length := fun vs => by
      induction vs with
      | nil => rfl
      | cons v vs ih => unfold wipeE; rw [List.length_set, ih]
    unfold wipeE
    by_cases h : v = i
    · subst h
      rw [List.getElem?_set_self (by rw [len]; exact hl)]
    · rw [List.getElem?_set_ne h]
      exact none_slot ((List.mem_cons.mp hi).resolve_left (fun z => h z.symm)) hl
theorem EnvR.outside : ∀ {e : Env} {F : List Addr} {σ σ' : L2.St}, EnvR W G H e F σ → σ'.length = σ.length → (∀ (i : Nat) (d : D), e[i]? = some (some d) → σ'[i]? = σ[i]?) → EnvR W G H e F σ'
  | [], F, σ, σ', E, hl, k => by
    obtain ⟨rfl, rfl⟩ := E
    cases σ' with
    | nil => exact ⟨rfl, rfl⟩
    | cons _ _ => cases hl
  | none :: e, F, σ, [], E, hl, k => by
    obtain ⟨y, σ2, rfl, E⟩ := E
    cases hl
  | none :: e, F, σ, y' :: σ', E, hl, k => by
    obtain ⟨y, σ2, rfl, E⟩ := E
    exact ⟨y', σ', rfl, E.outside (by simpa using hl) fun i d h => by simpa using k (i + 1) d (by simpa using h)⟩
  | some d :: e, F, σ, [], E, hl, k => by
    obtain ⟨A, B, v, σ2, rfl, rfl, o, E⟩ := E
    cases hl
  | some d :: e, F, σ, y' :: σ', E, hl, k => by
    obtain ⟨A, B, v, σ2, rfl, rfl, o, E⟩ := E
    have h0 : some y' = some (some v) := by simpa using k 0 d rfl
    cases h0
    exact ⟨A, B, v, σ', rfl, rfl, o, E.outside (by simpa using hl) fun i d h => by simpa using k (i + 1) d (by simpa using h)⟩
theorem wipeE_len (e : Env) : ∀ vs : List Nat, (wipeE e vs).length = e.length
  | [] => rfl
  | v :: vs => by unfold wipeE; rw [List.length_set, wipeE_len e vs]
theorem EnvR.block {vs : List Nat} (E : EnvR W G H (wipeE e vs) F σ) (o : Out vs σ σ') : EnvR W G H (wipeE e vs) F σ' := by
  refine E.outside o.1 fun i d h => o.2 i fun hi => ?_
  have hl : i < e.length := by
    have := (List.getElem?_eq_some_iff.mp h).1
    rw [wipeE_len] at this
    exact this
  rw [none_slot hi hl] at h
  cases h
theorem back_env : ∀ {vs : List Nat} {e0 e : Env} {F F0 : List Addr} {σ : L2.St}, EnvR W G1 H1 e0 F0 σ → freeS e0 vs = true → EnvR W G H e F σ → Sm G1 G → ∃ F', F'.Sublist F ∧ EnvR W G H (backE e0 e vs) F' σ
  | [], e0, e, F, F0, σ, E0, fr, E, s => ⟨F, List.Sublist.refl _, E⟩
  | v :: vs, e0, e, F, F0, σ, E0, fr, E, s => by
    have fr' : ((match Env.get e0 v with | some d => !owned d | none => true) && freeS e0 vs) = true := fr
    rw [Bool.and_eq_true] at fr'
    obtain ⟨F1, sb, E1⟩ := back_env E0 fr'.2 E s
    unfold backE
    cases c : Env.get e0 v with
    | none =>
      have c' : (e0[v]?).join = none := c
      rw [c']
      obtain ⟨F2, sb2, k⟩ := E1.del v
      exact ⟨F2, sb2.trans sb, (k none).2⟩
    | some d =>
      have c' : (e0[v]?).join = some d := c
      rw [c']
      have fr1 := fr'.1
      rw [c] at fr1
      have ho : owned d = false := by simpa using fr1
      obtain ⟨A, Fi, B, rfl, ⟨u, q1, q2⟩, _⟩ := E0.cut (get_some c)
      have e0' := q2.nil_owned ho
      subst e0'
      by_cases hl : v < (backE e0 e vs).length
      · obtain ⟨x, cx⟩ : ∃ x, (backE e0 e vs)[v]? = some x := ⟨_, List.getElem?_eq_getElem hl⟩
        obtain ⟨P, Fj, R, rfl, _, q3⟩ := E1.cut cx
        have E2 := (q3 Sm.refl fun b hb => ⟨(E1.mem b (by rcases List.mem_append.mp hb with z | z <;> simp [z])).1, rfl⟩).2 (q2.keep (H' := H) s)
        rw [set_same q1] at E2
        refine ⟨P ++ [] ++ R, List.Sublist.trans ?_ sb, E2⟩
        exact List.Sublist.append (List.Sublist.append (List.Sublist.refl P) (List.nil_sublist _)) (List.Sublist.refl R)
      · rw [List.set_eq_of_length_le (by omega)]
        exact ⟨F1, sb, E1⟩
theorem wipe_eq {vs : List Nat} (h : Out vs σ σ') : wipe σ' vs = wipe σ vs := by
  have nn : ∀ (vs : List Nat) (τ : L2.St) (i : Nat), i ∈ vs → i < τ.length → (wipe τ vs)[i]? = some none := by
    intro vs
    induction vs with
    | nil => intro τ i hi; exact nomatch hi
    | cons v vs ih =>
      intro τ i hi hl
      unfold wipe
      by_cases h : v = i
      · subst h
        rw [List.getElem?_set_self (by rw [wipe_length]; exact hl)]
      · rw [List.getElem?_set_ne h]
        exact ih τ i ((List.mem_cons.mp hi).resolve_left (fun z => h z.symm)) hl
  apply List.ext_getElem?
  intro i
  by_cases hi : i ∈ vs
  · by_cases hl : i < σ.length
    · rw [nn vs σ i hi hl, nn vs σ' i hi (by rw [h.1]; exact hl)]
    · rw [List.getElem?_eq_none (by rw [wipe_length, h.1]; omega), List.getElem?_eq_none (by rw [wipe_length]; omega)]
  · rw [wipe_out hi, wipe_out hi, h.2 i hi]
theorem nox_bind {α β : Type} {rp : Rp α β} {γ : Type} {m : R γ} {k : γ → Env → R α} {Q : β → Hp → Prop} (h : Post rp W Wx σ F G H Q (m.nox.bind k)) : ∃ a e, m = .ok a e ∧ Post rp W Wx σ F G H Q (k a e) := by
  cases m with
  | ok a e => exact ⟨a, e, rfl, h⟩
  | exc x e => exact h.elim
  | no => exact h.elim
theorem bind_ok {α β : Type} {m : R α} {k : α → Env → R β} {b : β} {e : Env} (h : m.bind k = .ok b e) : ∃ a e1, m = .ok a e1 ∧ k a e1 = .ok b e := by
  cases m with
  | ok a e1 => exact ⟨a, e1, rfl, h⟩
  | exc x e1 => cases h
  | no => cases h
/-- what stands while a comprehension runs: D the list that grows -/
structure LcI (W : Wd) (F : List Addr) (G H G1 H1 : Hp) (Fa : List Addr) (τ : L2.St) (D : Addr) (acc : List Wpk.D) (e' : Env) (H' : Hp) : Prop where
  st : ∃ G' F' Fc accV, Stp F G H (F' ++ (Fa ++ (D :: Fc))) G' H' ∧ Sm G1 G' ∧ EnvR W G' H' e' F' τ ∧ (∀ b ∈ Fa, G' b = none ∧ H' b = H1 b) ∧ G' D = none ∧ H' D = some (.lst accV) ∧ OwL W G' H' acc Fc accV
theorem rest_mem {p : Addr} {Fc : List Addr} {acc : List D} {accV : List V} (ha : ∀ b ∈ Fa, G b = none ∧ ∃ o, H b = some o) (gp : G p = none) (hp : ∃ o, H p = some o) (o : OwL W G H acc Fc accV) : ∀ b ∈ Fa ++ (p :: Fc), G b = none ∧ ∃ o, H b = some o := fun b hb => by
  rcases List.mem_append.mp hb with z | z
  · exact ha b z
  · rcases List.mem_cons.mp z with z | z
    · subst z; exact ⟨gp, hp⟩
    · exact o.mem b z

theorem lc_loop {vs B : List Nat} {J : L2.It} {is : List D} {b : D → Env → Option Env} {c : Env → R Bool} {x : Env → R D} {τ : L2.St} {p : Addr} {acc0 ys : List D} {e0 e6 : Env} {H0 : Hp} (hB : ∀ i ∈ B, i ∈ vs) (hτ : wipe τ vs = τ)
    (hbm : ∀ b ∈ Fb, b ∈ Fa) (hFa : ∀ b ∈ Fa, ∃ o, H1 b = some o) (ok : ItOk W J is G1 H1 Fb) (hl : loopC (stepC vs b c x) is e0 = .ok ys e6) (hn : (acc0 ++ ys).length ≤ LN) (start : LcI W F G H G1 H1 Fa τ p acc0 e0 H0) :
    ∃ Wl : Nat → Nat → Hp → Prop, (∃ m, Wl 0 m H0) ∧ ∀ i m H', Wl i m H' → (J.stop i H' ∧ LcI W F G H G1 H1 Fa τ p (acc0 ++ ys) e6 H') ∨ (J.go i H' ∧ ∃ Nx : Hp → Prop, (∀ H'', Nx H'' → ∃ m', m' < m ∧ Wl (i + 1) m' H'') ∧ ∀ y H'', J.yld i H' y H'' →
      tGm [] B W b y τ H'' fun σ2 H2 => wipe σ2 vs = τ ∧ tTs W WxF c σ2 H2 fun k H3 => if k = true then tE W WxF x σ2 H3 fun z H4 => ∃ acc, H4 p = some (.lst acc) ∧ acc.length < sizeLine ∧ Nx (upd H4 p (.lst (acc ++ [z]))) else Nx H3) := by
  refine ⟨fun i m H' => m = is.length - i ∧ i ≤ is.length ∧ ∃ acc e' zs, LcI W F G H G1 H1 Fa τ p acc e' H' ∧ loopC (stepC vs b c x) (is.drop i) e' = .ok zs e6 ∧ acc ++ zs = acc0 ++ ys, ⟨_, rfl, Nat.zero_le _, acc0, e0, ys, start, hl, rfl⟩, ?_⟩
  rintro i m H' ⟨rfl, hi, acc, e', zs, I, hz, ha⟩
  obtain ⟨G', F', Fc, accV, S', sg', E', k', gp', hp', o'⟩ := I.st
  have okI := ok i G' H' sg' S'.sh fun b hb => k' b (hbm b hb)
  by_cases hlt : i < is.length
  · obtain ⟨d, hd⟩ : ∃ d, is[i]? = some d := ⟨_, List.getElem?_eq_getElem hlt⟩
    obtain ⟨go, yl⟩ := okI.1 d hd
    rw [drop_cons hd] at hz
    obtain ⟨y1, e'', h1, h2⟩ := bind_ok (m := stepC vs b c x d e') hz
    obtain ⟨z2, e6', h3, h4⟩ := bind_ok h2
    cases h4
    refine .inr ⟨go, fun H'' => ∃ acc, LcI W F G H G1 H1 Fa τ p acc e'' H'' ∧ acc ++ z2 = acc0 ++ ys, fun H'' ⟨acc, I2, h5⟩ => ⟨is.length - (i + 1), by omega, rfl, hlt, acc, e'', z2, I2, h3, h5⟩, fun y H'' hy => ?_⟩
    obtain ⟨G'', Sy, oy⟩ := yl y H'' hy
    have mAll : ∀ b ∈ Fa ++ (p :: Fc), G' b = none ∧ ∃ o, H' b = some o := rest_mem (fun b hb => ⟨(k' b hb).1, by rw [(k' b hb).2]; exact hFa b hb⟩) gp' ⟨_, hp'⟩ o'
    have haF : ∀ b ∈ F' ++ (Fa ++ (p :: Fc)), G' b = none ∧ b ∉ ([] : List Addr) ∧ H' b ≠ none := fun b hb => by
      rcases List.mem_append.mp hb with z | z
      · exact ⟨(E'.mem b z).1, (fun z => nomatch z), fun q => by obtain ⟨o, q'⟩ := (E'.mem b z).2; rw [q] at q'; cases q'⟩
      · exact ⟨(mAll b z).1, (fun z => nomatch z), fun q => by obtain ⟨o, q'⟩ := (mAll b z).2; rw [q] at q'; cases q'⟩
    have Sy' : Stp F G H (F' ++ (Fa ++ (p :: Fc))) G'' H'' := S'.trans ((Sy.beside S'.nd haF).perm (fun b hb => by simpa using hb) (fun b hb => by simpa using hb) S'.nd)
    have E'' : EnvR W G'' H'' e' F' τ := E'.after Sy
    have kAll : ∀ b ∈ Fa ++ (p :: Fc), G'' b = none ∧ H'' b = H' b := fun b hb => Sy.kept (mAll b hb).1 (fun z => nomatch z) (haF b (List.mem_append_right _ hb)).2.2
    unfold stepC at h1
    cases cb : b d e' with
    | none => rw [cb] at h1; cases h1
    | some e3 =>
      rw [cb] at h1
      obtain ⟨kk, e4, hc, h1⟩ := bind_ok (m := c e3) h1
      refine ⟨e', d, G'', F', [], ⟨Sy'.sh, Sy'.left, E''⟩, by rw [List.append_nil]; exact Sy'.left, oy, e3, cb, fun σ2 G2 H2 F2 S2 E2 _ l2 b2 => ?_⟩
      rw [List.append_nil] at S2
      have S2' : Stp F' G'' H'' (F2 ++ []) G2 H2 := by rw [List.append_nil]; exact S2
      have m'' : ∀ b ∈ Fa ++ (p :: Fc), G'' b = none ∧ ∃ o, H'' b = some o := fun b hb => ⟨(kAll b hb).1, by rw [(kAll b hb).2]; exact (mAll b hb).2⟩
      obtain ⟨T2, k2⟩ := Stp.two Sy' S2' m''
      rw [List.append_nil] at T2
      have out2 : Out vs τ σ2 := ⟨l2, fun j hj => b2 j fun z => hj (hB j z)⟩
      have out2' : Out vs σ2 τ := ⟨l2.symm, fun j hj => (out2.2 j hj).symm⟩
      refine ⟨by rw [wipe_eq out2, hτ], e3, G2, F2, ⟨T2.sh, T2.left, E2⟩, ?_⟩
      rw [hc]
      intro kv G3 H3 F3 Fk S3 E3 r3
      obtain ⟨ek, rfl⟩ := r3
      subst ek
      have m2 : ∀ b ∈ Fa ++ (p :: Fc), G2 b = none ∧ ∃ o, H2 b = some o := fun b hb => ⟨(k2 b hb).1, by rw [(k2 b hb).2]; exact (m'' b hb).2⟩
      obtain ⟨T3, k3⟩ := Stp.two T2 S3 m2
      rw [List.append_nil] at T3
      have m3 : ∀ b ∈ Fa ++ (p :: Fc), G3 b = none ∧ ∃ o, H3 b = some o := fun b hb => ⟨(k3 b hb).1, by rw [(k3 b hb).2]; exact (m2 b hb).2⟩
      have c3 : ∀ b ∈ Fa ++ (p :: Fc), H3 b = H' b := fun b hb => (k3 b hb).2.trans ((k2 b hb).2.trans (kAll b hb).2)
      rw [List.append_nil] at S3
      have sgg : Sm G' G3 := Sy.sg.trans (S2.sg.trans S3.sg)
      cases kv with
      | true =>
        rw [if_pos rfl] at h1
        obtain ⟨yv, e5, hx, h1⟩ := bind_ok (m := x e4) h1
        cases h1
        refine iteT ⟨e4, G3, F3, ⟨T3.sh, T3.left, E3⟩, ?_⟩
        rw [hx]
        intro z G4 H4 F4 Fy S4 E4 o4
        obtain ⟨T4, k4⟩ := Stp.two T3 S4 m3
        have c4 : ∀ b ∈ Fa ++ (p :: Fc), H4 b = H' b := fun b hb => (k4 b hb).2.trans (c3 b hb)
        have pin : p ∈ Fa ++ (p :: Fc) := by simp
        refine ⟨accV, (c4 p pin).trans hp', ?_, acc ++ [yv], ?_, ?_⟩
        · rw [o'.length]
          refine szlt ?_
          have : (acc ++ ([yv] ++ z2)).length ≤ LN := by rw [ha]; exact hn
          simp at this
          omega
        · -- the list has grown
          obtain ⟨F5, sb5, E5⟩ := E4.wiped vs
          have T5 : Stp F G H (F4 ++ Fy ++ (Fa ++ (p :: Fc))) G4 (upd H4 p (.lst (accV ++ [z]))) := T4.put (by simp) (k4 p pin).1
          have nd5 := T5.nd
          have hne : ∀ b, b ∈ F4 ++ Fy ++ (Fa ++ Fc) → b ≠ p := fun b hb z => by
            subst z
            have pm : (F4 ++ Fy ++ (Fa ++ (b :: Fc))).Perm (b :: (F4 ++ Fy ++ (Fa ++ Fc))) := by
              rw [← List.append_assoc, ← List.append_assoc (F4 ++ Fy) Fa Fc]
              exact List.perm_middle
            have := (pm.nodup_iff).mp nd5
            exact (List.nodup_cons.mp this).1 hb
          have fr : ∀ b, b ∈ F4 ++ Fy ++ (Fa ++ Fc) → upd H4 p (.lst (accV ++ [z])) b = H4 b := fun b hb => upd_ne (hne b hb)
          have E6 : EnvR W G4 (upd H4 p (.lst (accV ++ [z]))) (wipeE e5 vs) F5 τ := (E5.frame Sm.refl fun b hb => ⟨(E5.mem b hb).1, fr b (by have := sb5.subset hb; simp [this])⟩).block out2'
          have oacc : OwL W G4 (upd H4 p (.lst (accV ++ [z]))) acc Fc accV := by
            refine o'.frame (sgg.trans S4.sg) fun b hb => ?_
            have hm : b ∈ Fa ++ (p :: Fc) := by simp [hb]
            refine ⟨(k4 b hm).1, ?_⟩
            rw [fr b (by simp [hb])]
            exact c4 b hm
          have oz : Ow W G4 (upd H4 p (.lst (accV ++ [z]))) yv Fy z := Ow.frame Sm.refl (show Ow W G4 H4 yv Fy z from o4) fun b hb => ⟨(Ow.mem (show Ow W G4 H4 yv Fy z from o4) b hb).1, fr b (by simp [hb])⟩
          refine ⟨G4, F5, Fc ++ Fy, accV ++ [z], T5.perm (fun _ q => q) (fun b hb => ?_) ?_, sg'.trans (sgg.trans S4.sg), E6, fun b hb => ?_, (k4 p pin).1, upd_same, oacc.app (OwL.one oz)⟩
          · simp only [List.mem_append, List.mem_cons] at hb ⊢
            rcases hb with q | q | q | q | q
            · have := sb5.subset q; simp [this]
            · simp [q]
            · simp [q]
            · simp [q]
            · simp [q]
          · have sb6 : (F5 ++ Fy ++ (Fa ++ (p :: Fc))).Sublist (F4 ++ Fy ++ (Fa ++ (p :: Fc))) := List.Sublist.append (List.Sublist.append sb5 (List.Sublist.refl _)) (List.Sublist.refl _)
            refine (List.Perm.nodup_iff ?_).mp (nd5.sublist sb6)
            have p1 : (F5 ++ Fy ++ (Fa ++ (p :: Fc))).Perm (F5 ++ (Fy ++ (Fa ++ (p :: Fc)))) := by rw [List.append_assoc]
            have p2 : (F5 ++ (Fy ++ (Fa ++ (p :: Fc)))).Perm (F5 ++ ((Fa ++ (p :: Fc)) ++ Fy)) := List.Perm.append_left F5 List.perm_append_comm
            have p3 : (F5 ++ ((Fa ++ (p :: Fc)) ++ Fy)).Perm (F5 ++ (Fa ++ (p :: (Fc ++ Fy)))) := by simp
            exact p1.trans (p2.trans p3)
          · have hm : b ∈ Fa ++ (p :: Fc) := by simp [hb]
            refine ⟨(k4 b hm).1, ?_⟩
            rw [fr b (by simp [hb]), c4 b hm]
            exact (k' b hb).2
        · rw [← ha]; simp
      | false =>
        rw [if_neg Bool.false_ne_true] at h1
        cases h1
        refine iteF ⟨acc, ?_, ?_⟩
        · obtain ⟨F5, sb5, E5⟩ := E3.wiped vs
          have E6 : EnvR W G3 H3 (wipeE e4 vs) F5 τ := E5.block out2'
          refine ⟨G3, F5, Fc, accV, T3.perm (fun _ q => q) (fun b hb => ?_) ?_, sg'.trans sgg, E6, fun b hb => ?_, (m3 p (by simp)).1, (c3 p (by simp)).trans hp', ?_⟩
          · rcases List.mem_append.mp hb with q | q
            · exact List.mem_append_left _ (sb5.subset q)
            · exact List.mem_append_right _ q
          · exact T3.nd.sublist (List.Sublist.append sb5 (List.Sublist.refl _))
          · exact ⟨(m3 b (by simp [hb])).1, (c3 b (by simp [hb])).trans (k' b hb).2⟩
          · exact o'.frame sgg fun b hb => ⟨(m3 b (by simp [hb])).1, c3 b (by simp [hb])⟩
        · rw [← ha]; simp
  · have ei : i = is.length := by omega
    subst ei
    rw [List.drop_length] at hz
    cases hz
    rw [List.append_nil] at ha
    subst ha
    exact .inl ⟨okI.2 (Nat.le_refl _), I⟩

theorem loopC_wiped {vs : List Nat} {f : D → Env → R (List D)} (hf : ∀ d e ys e', f d e = .ok ys e' → ∃ e0, e' = wipeE e0 vs) : ∀ {is : List D} {e : Env} {ys : List D} {e6 : Env}, (∃ e0, e = wipeE e0 vs) → loopC f is e = .ok ys e6 → ∃ e0, e6 = wipeE e0 vs
  | [], e, ys, e6, h, hl => by cases hl; exact h
  | d :: is, e, ys, e6, h, hl => by
    obtain ⟨y1, e1, h1, h2⟩ := bind_ok (m := f d e) hl
    obtain ⟨z2, e2, h3, h4⟩ := bind_ok h2
    cases h4
    exact loopC_wiped hf (hf _ _ _ _ h1) h3
theorem stepC_wiped {vs : List Nat} {b : D → Env → Option Env} {c : Env → R Bool} {x : Env → R D} : ∀ d e ys e', stepC vs b c x d e = .ok ys e' → ∃ e0, e' = wipeE e0 vs := fun d e ys e' h => by
  unfold stepC at h
  cases cb : b d e with
  | none => rw [cb] at h; cases h
  | some e3 =>
    rw [cb] at h
    obtain ⟨k, e4, _, h⟩ := bind_ok (m := c e3) h
    cases k with
    | true =>
      rw [if_pos rfl] at h
      obtain ⟨y, e5, _, h⟩ := bind_ok (m := x e4) h
      cases h
      exact ⟨e5, rfl⟩
    | false =>
      rw [if_neg Bool.false_ne_true] at h
      cases h
      exact ⟨e4, rfl⟩
theorem lc_start {vs : List Nat} {p : Addr} {is : List D} (S1 : Stp F G H (F1 ++ Fa) G1 H1) (E1 : EnvR W G1 H1 e1 F1 σ) (ha : ∀ b ∈ Fa, G1 b = none ∧ ∃ o, H1 b = some o) (hp : H1 p = none) : LcI W F G H G1 H1 Fa (wipe σ vs) p [] (wipeE e1 vs) (upd H1 p (.lst [])) := by
  have hm : ∀ b ∈ F1 ++ Fa, G1 b = none ∧ ∃ o, H1 b = some o := fun b hb => (List.mem_append.mp hb).elim (E1.mem b) (ha b)
  obtain ⟨S2, k2⟩ := Stp.hold (o := .lst []) S1 hp hm
  obtain ⟨F2, sb, E2⟩ := E1.wiped vs
  refine ⟨G1, F2, [], [], S2.perm (fun _ q => q) (fun b hb => ?_) ?_, Sm.refl, ?_, fun b hb => k2 b (List.mem_append_right _ hb), S1.sh.free hp, upd_same, rfl, rfl⟩
  · simp only [List.mem_append, List.mem_cons, List.not_mem_nil, or_false] at hb ⊢
    rcases hb with q | q | q
    · have := sb.subset q; simp [this]
    · simp [q]
    · simp [q]
  · have sb2 : (F2 ++ (p :: Fa)).Sublist (F1 ++ (p :: Fa)) := List.Sublist.append sb (List.Sublist.refl _)
    refine (List.Perm.nodup_iff ?_).mp (S2.nd.sublist sb2)
    exact List.Perm.append_left F2 (List.perm_append_singleton p Fa).symm
  · exact (E2.frame Sm.refl fun b hb => k2 b (List.mem_append_left _ (sb.subset hb))).block wipe_out'
theorem lc_end {vs : List Nat} {p : Addr} {ys : List D} {e6 : Env} {Q : VK} (E1 : EnvR W G1 H1 e1 F1 σ) (fr : freeS e1 vs = true) (I : LcI W F G H G1 H1 Fa (wipe σ vs) p ys e6 H') (hw : ∃ e0, e6 = wipeE e0 vs) (q : Post (rD W) W Wx σ F G H Q (.ok (.lst true ys) (backE e1 e6 vs))) : Q (.ref p) H' := by
  obtain ⟨G', F', Fc, accV, S', sg', E', k', gp', hp', o'⟩ := I.st
  obtain ⟨e0, rfl⟩ := hw
  have E2 : EnvR W G' H' (wipeE e0 vs) F' σ := E'.block ⟨(wipe_length σ vs).symm, fun i hi => (wipe_out hi).symm⟩
  obtain ⟨F'', sb, E3⟩ := back_env E1 fr E2 sg'
  refine q (.ref p) G' H' F'' (p :: Fc) (S'.perm (fun _ z => z) (fun b hb => ?_) ?_) E3 ⟨p, accV, Fc, rfl, rfl, gp', hp', o'⟩
  · rcases List.mem_append.mp hb with z | z
    · exact List.mem_append_left _ (sb.subset z)
    · exact List.mem_append_right _ (List.mem_append_right _ z)
  · exact S'.nd.sublist (List.Sublist.append sb (List.sublist_append_right Fa _))
theorem wipe_wipe {vs : List Nat} : wipe (wipe σ vs) vs = wipe σ vs := wipe_eq wipe_out'
theorem lc_read {vs B : List Nat} {mi : Env → R (List D)} {b : D → Env → Option Env} {c : Env → R Bool} {x : Env → R D} {Q : VK} (hB : ∀ i ∈ B, i ∈ vs) (h : tE W Wx (semLc vs mi b c x) σ H Q) : tLc (tIm W Wx mi) (tGm [] B W b) (tTs W WxF c) (tE W WxF x) vs σ H Q := by
  obtain ⟨e, G, F, S, p⟩ := h
  refine ⟨e, G, F, S, ?_⟩
  unfold semLc at p
  cases cm : mi e with
  | no => rw [cm] at p; exact p
  | exc y e1 => rw [cm] at p; exact p
  | ok is e1 =>
    rw [cm] at p
    intro J G1 H1 F1 Fa S1 E1 ha ok
    have p : Post (rD W) W Wx σ F G H Q (if freeS e1 vs then (loopC (stepC vs b c x) is (wipeE e1 vs)).nox.bind fun ys e6 => if ys.length ≤ LN then .ok (.lst true ys) (backE e1 e6 vs) else .no else .no) := p
    by_cases fr : freeS e1 vs = true
    · rw [if_pos fr] at p
      obtain ⟨ys, e6, hl, p⟩ := nox_bind p
      by_cases hn : ys.length ≤ LN
      · rw [if_pos hn] at p
        intro D hD
        have hw := loopC_wiped stepC_wiped ⟨e1, rfl⟩ hl
        obtain ⟨Wl, w0, st⟩ := lc_loop (B := B) hB wipe_wipe (fun b hb => hb) (fun b hb => (ha b hb).2) ok hl (by rw [List.nil_append]; exact hn) (lc_start (vs := vs) (is := is) S1 E1 ha hD)
        refine ⟨Wl, w0, fun i m H' hW => ?_⟩
        rcases st i m H' hW with ⟨s1, I⟩ | h2
        · exact .inl ⟨s1, lc_end E1 fr I hw p⟩
        · exact .inr h2
      · rw [if_neg hn] at p
        exact p.elim
    · rw [if_neg fr] at p
      exact p.elim
theorem pe_lcE {vs B : List Nat} {mi : Env → R (List D)} {b : D → Env → Option Env} {c : Env → R Bool} {x : Env → R D} {elt tg iter : Expr} {ifs : List Expr} {scope : Scope} {own : List (Str × Nat)} {pos : Pos} (hvs : own.map (·.2) = vs) (hB : ∀ i ∈ B, i ∈ vs) (hc : X.calm = true) (hN : X.N.Nodup) (hi : PI X tg iter (tIm W Wx mi)) (ok : BlkOk X.N X.env.scope scope own)
    (hg : ∀ (s : Shared) (H : Hp) (C : Addr) (cl : List (Str × Addr)) (fp : List Addr), PG (X.blk s H scope (compEnvC scope cl C X.env) fp) tg (tGm [] B W b)) (ht : ∀ (s : Shared) (H : Hp) (C : Addr) (cl : List (Str × Addr)) (fp : List Addr), PTs (X.blk s H scope (compEnvC scope cl C X.env) fp) ifs (tTs W WxF c))
    (he : ∀ (s : Shared) (H : Hp) (C : Addr) (cl : List (Str × Addr)) (fp : List Addr), PE (X.blk s H scope (compEnvC scope cl C X.env) fp) elt (tE W WxF x)) (hs : ∀ x, foldedSetIterable iter X.env x = pure x) :
    PE X (.ListComp elt [⟨tg, iter, ifs, 0⟩] scope pos) (tE W Wx (semLc vs mi b c x)) := by
  subst hvs
  exact PE.imp (pe_lc hc hN hi ok hg ht he hs) fun _ _ _ h => lc_read hB h
theorem asg_lc {i : Nat} {m : Env → R D} {te : TE} (k : ∀ σ H Q, tE W Wx m σ H Q → te σ H Q) (h : tSm L W Wx (semAsg (bindT L (.tName i)) m) Z σ H) : tAsg te (gName i) Z σ H := by
  have z := asg_read (B := [i]) (te := tE W Wx m) h (fun _ q => q)
  refine k σ H _ ?_
  obtain ⟨e, G, F, S, p⟩ := z
  exact ⟨e, G, F, S, by
    cases c : m e with
    | no => rw [c] at p; exact p
    | exc x e1 => rw [c] at p; exact p
    | ok d e1 => rw [c] at p; exact fun v G' H' F' Fv S2 E o => gname_of (p v G' H' F' Fv S2 E o)⟩
theorem ps_setLcE {vs B : List Nat} {mi : Env → R (List D)} {b : D → Env → Option Env} {c : Env → R Bool} {x : Env → R D} {i : Nat} {y : Str} {py : Pos} {elt tg iter : Expr} {ifs : List Expr} {scope : Scope} {own : List (Str × Nat)} {pos spos : Pos} (hvs : own.map (·.2) = vs) (hB : ∀ i ∈ B, i ∈ vs) (hc : X.calm = true) (hN : X.N.Nodup) (hy : X.N[i]? = some y) (hyl : X.env.scope.names.lookup y = some .local)
    (hsw : swapsWith (.ListComp elt [⟨tg, iter, ifs, 0⟩] scope pos) (some (.Name y py)) spos.line X.env = pure true) (hi : PI X tg iter (tIm W Wx mi)) (ok : BlkOk X.N X.env.scope scope own)
    (hg : ∀ (s : Shared) (H : Hp) (C : Addr) (cl : List (Str × Addr)) (fp : List Addr), PG (X.blk s H scope (compEnvC scope cl C X.env) fp) tg (tGm [] B W b)) (ht : ∀ (s : Shared) (H : Hp) (C : Addr) (cl : List (Str × Addr)) (fp : List Addr), PTs (X.blk s H scope (compEnvC scope cl C X.env) fp) ifs (tTs W WxF c))
    (he : ∀ (s : Shared) (H : Hp) (C : Addr) (cl : List (Str × Addr)) (fp : List Addr), PE (X.blk s H scope (compEnvC scope cl C X.env) fp) elt (tE W WxF x)) (hs : ∀ x, foldedSetIterable iter X.env x = pure x) :
    PS X (.Assign [.Name y py] (.ListComp elt [⟨tg, iter, ifs, 0⟩] scope pos) spos) (tSm L W Wx (semAsg (bindT L (.tName i)) (semLc vs mi b c x))) := by
  subst hvs
  exact PS.imp (ps_setLc hc hN hy hyl hsw hi ok hg ht he hs) fun _ _ _ h => asg_lc (fun _ _ _ q => lc_read hB q) h

/-! ### two walks -/
theorem stepC2_wiped {vs vs' : List Nat} {b b' : D → Env → Option Env} {mi' : Env → R (List D)} {c : Env → R Bool} {x : Env → R D} : ∀ d e ys e', stepC2 vs vs' b mi' b' c x d e = .ok ys e' → ∃ e0, e' = wipeE e0 vs := fun d e ys e' h => by
  unfold stepC2 at h
  cases cb : b d e with
  | none => rw [cb] at h; cases h
  | some e3 =>
    rw [cb] at h
    obtain ⟨is', e4, _, h⟩ := bind_ok (m := mi' e3) h
    by_cases fr : freeS e4 vs' = true
    · rw [if_pos fr] at h
      obtain ⟨y, e5, _, h⟩ := bind_ok h
      cases h
      exact ⟨e5, rfl⟩
    · rw [if_neg fr] at h
      cases h
theorem lc2_read {vs vs' B B' : List Nat} {mi mi' : Env → R (List D)} {b b' : D → Env → Option Env} {c : Env → R Bool} {x : Env → R D} {Q : VK} (hB : ∀ i ∈ B, i ∈ vs) (hB' : ∀ i ∈ B', i ∈ vs') (hv : ∀ i ∈ vs', i ∈ vs) (h : tE W Wx (semLc2 vs vs' mi b mi' b' c x) σ H Q) :
    tLc2 (tIm W Wx mi) (tGm [] B W b) tYes (tIm W WxF mi') (tGm [] B' W b') (tTs W WxF c) (tE W WxF x) vs vs' σ H Q := by
  obtain ⟨e, G, F, S, p⟩ := h
  refine ⟨e, G, F, S, ?_⟩
  unfold semLc2 at p
  cases cm : mi e with
  | no => rw [cm] at p; exact p
  | exc y e1 => rw [cm] at p; exact p
  | ok is e1 =>
    rw [cm] at p
    intro J G1 H1 F1 Fa S1 E1 ha ok
    have p : Post (rD W) W Wx σ F G H Q (if freeS e1 vs then (loopC (stepC2 vs vs' b mi' b' c x) is (wipeE e1 vs)).nox.bind fun ys e6 => if ys.length ≤ LN then .ok (.lst true ys) (backE e1 e6 vs) else .no else .no) := p
    by_cases fr : ¬ freeS e1 vs = true
    · rw [if_neg fr] at p
      exact p.elim
    replace fr := Decidable.not_not.mp fr
    rw [if_pos fr] at p
    obtain ⟨ys, e6, hl, p⟩ := nox_bind p
    by_cases hn : ¬ ys.length ≤ LN
    · rw [if_neg hn] at p
      exact p.elim
    replace hn := Decidable.not_not.mp hn
    rw [if_pos hn] at p
    intro D hD
    have hw := loopC_wiped stepC2_wiped ⟨e1, rfl⟩ hl
    refine ⟨fun i m H' => m = is.length - i ∧ i ≤ is.length ∧ ∃ acc e' zs, LcI W F G H G1 H1 Fa (wipe σ vs) D acc e' H' ∧ loopC (stepC2 vs vs' b mi' b' c x) (is.drop i) e' = .ok zs e6 ∧ acc ++ zs = ys, ⟨_, rfl, Nat.zero_le _, [], _, ys, lc_start (is := is) S1 E1 ha hD, hl, rfl⟩, ?_⟩
    rintro i m H' ⟨rfl, hi, acc, e', zs, I, hz, hacc⟩
    obtain ⟨G', F', Fc, accV, S', sg', E', k', gp', hp', o'⟩ := I.st
    have okI := ok i G' H' sg' S'.sh k'
    by_cases hlt : i < is.length
    · obtain ⟨d, hd⟩ : ∃ d, is[i]? = some d := ⟨_, List.getElem?_eq_getElem hlt⟩
      obtain ⟨go, yl⟩ := okI.1 d hd
      rw [drop_cons hd] at hz
      obtain ⟨y1, e'', h1, h2⟩ := bind_ok (m := stepC2 vs vs' b mi' b' c x d e') hz
      obtain ⟨z2, e6', h3, h4⟩ := bind_ok h2
      cases h4
      refine .inr ⟨go, fun H'' => ∃ acc, LcI W F G H G1 H1 Fa (wipe σ vs) D acc e'' H'' ∧ acc ++ z2 = ys, fun H'' ⟨acc, I2, h5⟩ => ⟨is.length - (i + 1), by omega, rfl, hlt, acc, e'', z2, I2, h3, h5⟩, fun y H'' hy => ?_⟩
      obtain ⟨G'', Sy, oy⟩ := yl y H'' hy
      have mAll : ∀ b ∈ Fa ++ (D :: Fc), G' b = none ∧ ∃ o, H' b = some o := rest_mem (fun b hb => ⟨(k' b hb).1, by rw [(k' b hb).2]; exact (ha b hb).2⟩) gp' ⟨_, hp'⟩ o'
      have haF : ∀ b ∈ F' ++ (Fa ++ (D :: Fc)), G' b = none ∧ b ∉ ([] : List Addr) ∧ H' b ≠ none := fun b hb => by
        rcases List.mem_append.mp hb with z | z
        · exact ⟨(E'.mem b z).1, (fun z => nomatch z), fun q => by obtain ⟨o, q'⟩ := (E'.mem b z).2; rw [q] at q'; cases q'⟩
        · exact ⟨(mAll b z).1, (fun z => nomatch z), fun q => by obtain ⟨o, q'⟩ := (mAll b z).2; rw [q] at q'; cases q'⟩
      have Sy' : Stp F G H (F' ++ (Fa ++ (D :: Fc))) G'' H'' := S'.trans ((Sy.beside S'.nd haF).perm (fun b hb => by simpa using hb) (fun b hb => by simpa using hb) S'.nd)
      have E'' : EnvR W G'' H'' e' F' (wipe σ vs) := E'.after Sy
      have kAll : ∀ b ∈ Fa ++ (D :: Fc), G'' b = none ∧ H'' b = H' b := fun b hb => Sy.kept (mAll b hb).1 (fun z => nomatch z) (haF b (List.mem_append_right _ hb)).2.2
      unfold stepC2 at h1
      cases cb : b d e' with
      | none => rw [cb] at h1; cases h1
      | some e3 =>
        rw [cb] at h1
        obtain ⟨is', e4, hmi, h1⟩ := bind_ok (m := mi' e3) h1
        by_cases fr' : ¬ freeS e4 vs' = true
        · rw [if_neg fr'] at h1; cases h1
        replace fr' := Decidable.not_not.mp fr'
        rw [if_pos fr'] at h1
        obtain ⟨ys', e9, hl', h1⟩ := bind_ok h1
        cases h1
        refine ⟨e', d, G'', F', [], ⟨Sy'.sh, Sy'.left, E''⟩, by rw [List.append_nil]; exact Sy'.left, oy, e3, cb, fun σ2 G2 H2 F2 S2 E2 _ l2 b2 => ?_⟩
        rw [List.append_nil] at S2
        have S2' : Stp F' G'' H'' (F2 ++ []) G2 H2 := by rw [List.append_nil]; exact S2
        have m'' : ∀ b ∈ Fa ++ (D :: Fc), G'' b = none ∧ ∃ o, H'' b = some o := fun b hb => ⟨(kAll b hb).1, by rw [(kAll b hb).2]; exact (mAll b hb).2⟩
        obtain ⟨T2, k2⟩ := Stp.two Sy' S2' m''
        rw [List.append_nil] at T2
        have out2 : Out vs (wipe σ vs) σ2 := ⟨l2, fun j hj => b2 j fun z => hj (hB j z)⟩
        have out2' : Out vs σ2 (wipe σ vs) := ⟨l2.symm, fun j hj => (out2.2 j hj).symm⟩
        refine ⟨by rw [wipe_eq out2, wipe_wipe], ?_⟩
        unfold tYes
        dsimp only
        rw [if_pos rfl]
        refine ⟨e3, G2, F2, ⟨T2.sh, T2.left, E2⟩, ?_⟩
        rw [hmi]
        intro J1 G3 H3 F3 Fi S3 E3 hFi ok3
        have m2 : ∀ b ∈ Fa ++ (D :: Fc), G2 b = none ∧ ∃ o, H2 b = some o := fun b hb => ⟨(k2 b hb).1, by rw [(k2 b hb).2]; exact (m'' b hb).2⟩
        obtain ⟨T3, k3⟩ := Stp.two T2 S3 m2
        have c3 : ∀ b ∈ Fa ++ (D :: Fc), H3 b = H' b := fun b hb => (k3 b hb).2.trans ((k2 b hb).2.trans (kAll b hb).2)
        have sgg : Sm G' G3 := Sy.sg.trans (S2.sg.trans S3.sg)
        have pin : D ∈ Fa ++ (D :: Fc) := by simp
        -- the inner walk begins
        have I3 : LcI W F G H G3 H3 (Fi ++ Fa) (wipe σ2 vs') D acc (wipeE e4 vs') H3 := by
          obtain ⟨F5, sb5, E5⟩ := E3.wiped vs'
          refine ⟨G3, F5, Fc, accV, T3.perm (fun _ q => q) (fun b hb => ?_) ?_, Sm.refl, E5.block wipe_out', fun b hb => ?_, (k3 D pin).1, (c3 D pin).trans hp', o'.frame sgg fun b hb => ⟨(k3 b (by simp [hb])).1, c3 b (by simp [hb])⟩⟩
          · simp only [List.mem_append, List.mem_cons] at hb ⊢
            rcases hb with q | (q | q) | q | q
            · have := sb5.subset q; simp [this]
            · simp [q]
            · simp [q]
            · simp [q]
            · simp [q]
          · have sb6 : (F5 ++ Fi ++ (Fa ++ (D :: Fc))).Sublist (F3 ++ Fi ++ (Fa ++ (D :: Fc))) := List.Sublist.append (List.Sublist.append sb5 (List.Sublist.refl _)) (List.Sublist.refl _)
            have := T3.nd.sublist sb6
            simpa using this
          · rcases List.mem_append.mp hb with q | q
            · exact ⟨(hFi b q).1, rfl⟩
            · exact ⟨(k3 b (by simp [q])).1, rfl⟩
        have hn' : (acc ++ y1).length ≤ LN := by
          have : (acc ++ (y1 ++ z2)).length ≤ LN := by rw [hacc]; exact hn
          simp at this ⊢
          omega
        have hFF : ∀ b ∈ Fi ++ Fa, ∃ o, H3 b = some o := fun b hb => by
          rcases List.mem_append.mp hb with q | q
          · exact (hFi b q).2
          · rw [c3 b (by simp [q]), (k' b q).2]; exact (ha b q).2
        have hw' := loopC_wiped stepC_wiped ⟨e4, rfl⟩ hl'
        obtain ⟨Wl, w0, st⟩ := lc_loop (B := B') hB' wipe_wipe (fun b hb => List.mem_append_left Fa hb) hFF ok3 hl' hn' I3
        refine ⟨Wl, w0, fun j k4 H5 hW => ?_⟩
        rcases st j k4 H5 hW with ⟨s1, I5⟩ | h5
        · refine .inl ⟨s1, acc ++ y1, ?_, ?_⟩
          · obtain ⟨G5, F5, Fc5, accV5, S5, sg5, E5, k5, gp5, hp5, o5⟩ := I5.st
            obtain ⟨F6, sb6, E6⟩ := E5.wiped vs
            have E7 : EnvR W G5 H5 (wipeE e9 vs) F6 (wipe σ vs) := by
              refine E6.block ⟨?_, fun q hq => ?_⟩
              · rw [wipe_length, wipe_length, l2, wipe_length]
              · rw [out2'.2 q hq]
                exact (wipe_out fun z => hq (hv q z)).symm
            refine ⟨G5, F6, Fc5, accV5, S5.perm (fun _ q => q) (fun b hb => ?_) ?_, sg'.trans (sgg.trans sg5), E7, fun b hb => ?_, gp5, hp5, o5⟩
            · simp only [List.mem_append, List.mem_cons] at hb ⊢
              rcases hb with q | q | q | q
              · have := sb6.subset q; simp [this]
              · simp [q]
              · simp [q]
              · simp [q]
            · have sb7 : (F6 ++ (Fa ++ (D :: Fc5))).Sublist (F5 ++ ((Fi ++ Fa) ++ (D :: Fc5))) := List.Sublist.append sb6 (List.Sublist.append (List.sublist_append_right Fi Fa) (List.Sublist.refl _))
              exact S5.nd.sublist sb7
            · have := k5 b (List.mem_append_right _ hb)
              refine ⟨this.1, this.2.trans ?_⟩
              rw [c3 b (by simp [hb])]
              exact (k' b hb).2
          · rw [← hacc]; simp
        · exact .inr h5
    · have ei : i = is.length := by omega
      subst ei
      rw [List.drop_length] at hz
      cases hz
      rw [List.append_nil] at hacc
      subst hacc
      exact .inl ⟨okI.2 (Nat.le_refl _), lc_end E1 fr I hw p⟩
end
end Wpk
set_option Elab.async false
set_option linter.all false
set_option maxRecDepth 100000
/-! C7: what is walked. -/
namespace Wpk
open PySem PySem.Spec PyProof.Rows L2
section
variable {X : Cx} {L : List Nat} {W : Wd} {Wx : WX} {σ σ1 σ2 σ' : L2.St} {G G1 G2 G' H H1 H2 H' : Hp} {F F1 F2 Fa Fb Fv Fl : List Addr} {e e1 : Env} {Z : Ends} {v : V}
/-- values that are walked -/
def WalkV (W : Wd) (k : It) (Q : L2.It → Hp → Prop) : List V → Hp → Prop := fun vs H1 => ∃ G1 ds Fa is, Sm G1 H1 ∧ OwL W G1 H1 ds Fa vs ∧ itemsD0 k ds = some is ∧ ∀ J, ItOk W J is G1 H1 Fa → Q J H1
theorem it_read {k : It} {m : Env → R (List D)} {Q : L2.It → Hp → Prop} (h : tIm W Wx (semIt0 k m) σ H Q) : tVs W Wx m σ H (WalkV W k Q) := by
  obtain ⟨e, G, F, S, p⟩ := h
  refine ⟨e, G, F, S, ?_⟩
  unfold semIt0 at p
  cases cm : m e with
  | no => rw [cm] at p; exact p
  | exc x e1 => rw [cm] at p; exact p
  | ok ds e1 =>
    rw [cm] at p
    intro vs G1 H1 F1 Fa S1 E1 r1
    have p' : (match R.of (itemsD0 k ds) e1 with
      | .ok is e1 => ∀ J G1 H1 F1 Fa, Stp F G H (F1 ++ Fa) G1 H1 → EnvR W G1 H1 e1 F1 σ → (∀ b ∈ Fa, G1 b = none ∧ ∃ o, H1 b = some o) → ItOk W J is G1 H1 Fa → Q J H1
      | .exc x e1 => XPost W Wx σ F G H x e1
      | .no => False) := p
    cases ci : itemsD0 k ds with
    | none => rw [ci] at p'; exact p'.elim
    | some is =>
      rw [ci] at p'
      exact ⟨G1, ds, Fa, is, S1.sh, r1, ci, fun J ok => p' J G1 H1 F1 Fa S1 E1 (OwL.mem r1) ok⟩
/-- one value -/
theorem it_read1 {k : It} {m : Env → R D} {Q : L2.It → Hp → Prop} (h : tIm W Wx (semIt0 k (semVc m semVn)) σ H Q) : tE W Wx m σ H (fun v H1 => WalkV W k Q [v] H1) := by
  have z := vc_read (it_read h)
  obtain ⟨e, G, F, S, p⟩ := z
  refine ⟨e, G, F, S, ?_⟩
  cases cm : m e with
  | no => rw [cm] at p; exact p
  | exc x e1 => rw [cm] at p; exact p
  | ok d e1 =>
    rw [cm] at p
    intro v G1 H1 F1 Fa S1 E1 r1
    obtain ⟨e2, G2, F2, S2, p2⟩ := p v G1 H1 F1 Fa S1 E1 r1
    exact p2 [] G2 H1 F2 [] S2.refl S2.env ⟨rfl, rfl⟩
theorem iter_list {tg : Expr} {a : Addr} {vs : List V} {pins : List (Addr × Obj)} {s : Shared} {Q : L2.It → Hp → Prop} (I : Inv X pins σ H s) (hq : SqL X.K H a vs) (q : Q (Itl X.K a) H) : wpAny (model X.prog X.w) X.A (pyIter (.ref a)) (PIE X pins σ tg Q) X.xe s := by
  obtain ⟨its, rv, p, hz⟩ := I.list hq
  refine wpAny_pyIter_list p.isList ?_
  refine ⟨s.heap.objs.size, [s.heap.objs.size], _, _, H, rfl, I.kept (t' := s.toks) fun b o e => Heap.get?_push_of_some _ e, turn_list a _, ⟨_, Heap.get?_push_size _ rfl, rfl, rfl⟩, fun b hb => ?_, q⟩
  have e : b = s.heap.objs.size := by simpa using hb
  subst e
  exact I.fpOk (Nat.le_refl _) (I.hok.fresh (Nat.le_refl _))
theorem iter_tup {tg : Expr} {a : Addr} {vs : List V} {pins : List (Addr × Obj)} {s : Shared} {Q : L2.It → Hp → Prop} (I : Inv X pins σ H s) (hq : SqT X.K H a vs) (q : Q (Itt X.K a) H) : wpAny (model X.prog X.w) X.A (pyIter (.ref a)) (PIE X pins σ tg Q) X.xe s := by
  obtain ⟨its, rv, p, hz⟩ := I.tuple hq
  refine wpAny_pyIter_tuple (show s.heap.IsTuple a its.toArray from p) ?_
  refine ⟨s.heap.objs.size, [s.heap.objs.size], _, _, H, rfl, I.kept (t' := s.toks) fun b o e => Heap.get?_push_of_some _ e, turn_tuple a _, ⟨_, Heap.get?_push_size _ rfl, rfl, rfl⟩, fun b hb => ?_, q⟩
  have e : b = s.heap.objs.size := by simpa using hb
  subst e
  exact I.fpOk (Nat.le_refl _) (I.hok.fresh (Nat.le_refl _))
theorem iter_str {tg : Expr} {x : Str} {t : Tok} {pins : List (Addr × Obj)} {s : Shared} {Q : L2.It → Hp → Prop} (I : Inv X pins σ H s) (q : Q (Its x) H) : wpAny (model X.prog X.w) X.A (pyIter (.str x t)) (PIE X pins σ tg Q) X.xe s := by
  cases ha : x.cps.all (· < 128)
  · exact wpAny_pyIter_wide ha (pi_one (tk := s.toks) I _ (turn_str _ x t "str_iterator" (.inr rfl)) ⟨_, Heap.get?_push_size _ rfl, rfl, rfl⟩ q)
  · exact wpAny_pyIter_ascii ha (pi_one (tk := s.toks) I _ (turn_str _ x t "str_ascii_iterator" (.inl rfl)) ⟨_, Heap.get?_push_size _ rfl, rfl, rfl⟩ q)
/-- a list that is walked: it stays -/
theorem walk_sqL {m : Bool} {xs : List D} (hK : X.K = W.K) (o : Ow W G1 H1 (.lst m xs) Fa v) (hf : isFL xs = true) : ∃ a vs, v = .ref a ∧ OwL W G1 H1 xs [] vs ∧ ∀ G H, Sm G1 G → Sm G H → (∀ b ∈ Fa, G b = none ∧ H b = H1 b) → SqL X.K H a vs := by
  cases m with
  | true =>
    obtain ⟨a, vs, F', rfl, rfl, g, hh, l⟩ := o
    refine ⟨a, vs, rfl, l.fz hf, fun G H s1 s2 k => ?_⟩
    rw [hK]
    exact SqL.of ((k a (by simp)).2.trans hh)
  | false =>
    obtain ⟨rfl, a, vs, rfl, q, l⟩ := o
    refine ⟨a, vs, rfl, l, fun G H s1 s2 k => ?_⟩
    rw [hK]
    exact .inl ((le_of s2).rd _ _ rfl ((le_of s1).rd _ _ rfl q))
theorem ItOk.str (s : List Nat) : ItOk W (Its (sOf s)) (s.map fun c => .str [c]) G1 H1 Fa := by
  intro i G H s1 s2 k
  refine ⟨fun d hd => ?_, fun hl => ?_⟩
  · rw [List.getElem?_map] at hd
    cases hc : s[i]? with
    | none => rw [hc] at hd; cases hd
    | some c =>
      rw [hc] at hd
      cases hd
      refine ⟨?_, fun x H' y => ?_⟩
      · show i < s.toArray.size
        have := (List.getElem?_eq_some_iff.mp hc).1
        simpa using this
      · obtain ⟨rfl, c', hc', rfl⟩ := y
        have hc2 : s.toArray[i]? = some c' := hc'
        rw [List.getElem?_toArray, hc] at hc2
        cases hc2
        exact ⟨G, Stp.refl s2 List.nodup_nil, rfl, rfl⟩
  · show s.toArray.size ≤ i
    simpa using hl
theorem pi_plainE {tg x : Expr} {m : Env → R D} (hK : X.K = W.K) (h : PE X x (tE W Wx m)) : PI X tg x (tIm W Wx (semIt0 .plain (semVc m semVn))) := by
  refine ⟨fun pins s σ H Q I hw => ?_⟩
  refine thn (h.run pins s σ H _ I (it_read1 hw)) fun u s1 ⟨v, H1, I1, r1, G1, ds, Fa, is, sub, o, ci, k⟩ => ?_
  match ds, o, ci with
  | [d], o, ci =>
    obtain ⟨A, B, v', vs', e1, e2, o1, o2⟩ := o
    cases e2
    obtain ⟨rfl, _⟩ := o2
    rw [List.append_nil] at e1
    subst e1
    cases d with
    | lst b xs =>
      have ci' : (if isFL xs = true then some xs else none) = some is := ci
      split at ci'
      · rename_i hf
        cases ci'
        obtain ⟨a, vs, rfl, l, sq⟩ := walk_sqL hK o1 hf
        cases r1
        refine iter_list I1 (sq G1 H1 Sm.refl sub fun b hb => ⟨(o1.mem b hb).1, rfl⟩) (k _ (ItOk.list sq l))
      · cases ci'
    | ksq xs =>
      cases ci
      obtain ⟨rfl, a, vs, rfl, q, l⟩ := o1
      cases r1
      have sq : ∀ G H, Sm G1 G → Sm G H → (∀ b ∈ ([] : List Addr), G b = none ∧ H b = H1 b) → SqL X.K H a vs := fun G H s1 s2 _ => by rw [hK]; exact (le_of s2).sqL ((le_of s1).sqL q)
      exact iter_list I1 (sq G1 H1 Sm.refl sub fun b hb => nomatch hb) (k _ (ItOk.list sq l))
    | tup xs =>
      cases ci
      obtain ⟨rfl, a, vs, rfl, q, l⟩ := o1
      cases r1
      have sq : ∀ G H, Sm G1 G → Sm G H → SqT X.K H a vs := fun G H s1 s2 => by rw [hK]; exact (le_of s2).sqT ((le_of s1).sqT q)
      exact iter_tup I1 (sq G1 H1 Sm.refl sub) (k _ (ItOk.tup sq l))
    | str z =>
      cases ci
      obtain ⟨rfl, rfl⟩ := o1
      obtain ⟨t, rfl⟩ := r1
      exact iter_str I1 (k _ (ItOk.str z))
    | _ => exact nomatch ci
  | [], o, ci => exact nomatch ci
  | d :: d2 :: ds, o, ci => cases d <;> exact nomatch ci
theorem OwL.two {d1 d2 : D} {vs : List V} (o : OwL W G H [d1, d2] Fa vs) : ∃ v1 v2 A B, vs = [v1, v2] ∧ Fa = A ++ B ∧ Ow W G H d1 A v1 ∧ Ow W G H d2 B v2 := by
  obtain ⟨A, B, v1, vs', rfl, rfl, o1, o2⟩ := o
  obtain ⟨A2, B2, v2, vs2, rfl, rfl, o3, o4⟩ := o2
  obtain ⟨rfl, rfl⟩ := o4
  exact ⟨v1, v2, A, A2, rfl, by simp, o1, o3⟩
theorem OwL.single {d1 : D} {vs : List V} (o : OwL W G H [d1] Fa vs) : ∃ v1, vs = [v1] ∧ Ow W G H d1 Fa v1 := by
  obtain ⟨A, B, v1, vs', rfl, rfl, o1, o2⟩ := o
  obtain ⟨rfl, rfl⟩ := o2
  exact ⟨v1, rfl, by rw [List.append_nil]; exact o1⟩
theorem Rd1.mono {α β : Type} {rp : Rp α β} {m : Env → R α} {Q Q' : β → Hp → Prop} (k : ∀ v H, Q v H → Q' v H) (h : Rd1 rp W Wx m σ H Q) : Rd1 rp W Wx m σ H Q' := by
  obtain ⟨e, G, F, S, p⟩ := h
  refine ⟨e, G, F, S, ?_⟩
  cases cm : m e with
  | no => rw [cm] at p; exact p
  | exc x e1 => rw [cm] at p; exact p
  | ok d e1 => rw [cm] at p; exact fun v G1 H1 F1 Fa S1 E1 r1 => k v H1 (p v G1 H1 F1 Fa S1 E1 r1)
theorem it_read2 {k : It} {m m' : Env → R D} {Q : L2.It → Hp → Prop} (h : tIm W Wx (semIt0 k (semVc m (semVc m' semVn))) σ H Q) : tE W Wx m σ H (fun v H1 => tE W Wx m' σ H1 fun v' H2 => WalkV W k Q [v, v'] H2) := by
  have z := vc_read (it_read h)
  refine Rd1.mono (fun v H1 q => ?_) z
  have q2 := vc_read q
  refine Rd1.mono (fun v2 H2 q3 => ?_) q2
  obtain ⟨e2, G2, F2, S2, p2⟩ := q3
  exact p2 [] G2 H2 F2 [] S2.refl S2.env ⟨rfl, rfl⟩
theorem pi_range1E {tg a : Expr} {m : Env → R D} {p pos : Pos} (hg : Gl X "range") (hm : X.mg "range" = none) (ha : PE X a (tE W Wx m)) (hs : starEach [a] X.env = [(false, eval a X.env)]) : PI X tg (.Call (.Name "range" p) [a] [] pos) (tIm W Wx (semIt0 .range (semVc m semVn))) := by
  refine PI.imp (pi_range1 hg hm (pa_cons ha pa_nil hs) hs) fun σ H Q h => ?_
  refine Rd1.mono (fun v H1 q => ?_) (it_read1 h)
  obtain ⟨G2, ds, Fb, is, sub, o, ci, k⟩ := q
  match ds, o, ci with
  | [d], o, ci =>
    obtain ⟨v1, e1, o1⟩ := o.single
    cases e1
    cases d with
    | int j =>
      have ci' : (if -4611686018427387904 ≤ j ∧ j < 4611686018427387904 then some ((List.range j.toNat).map fun (i : Nat) => D.int i) else none) = some is := ci
      split at ci'
      · rename_i c
        cases ci'
        refine ⟨j, by rw [o1.2], c.1, c.2, k _ ?_⟩
        have := ItOk.range (W := W) (G1 := G2) (H1 := H1) (Fa := Fb) 0 j.toNat
        simpa using this
      · cases ci'
    | _ => exact nomatch ci
  | [], o, ci => exact nomatch ci
  | d :: d2 :: ds, o, ci =>
    obtain ⟨_, _, _, _, _, e2, _, o2⟩ := o
    cases e2
    obtain ⟨_, _, _, _, _, e3, _⟩ := o2
    cases e3
theorem pi_range2E {tg a b : Expr} {m m' : Env → R D} {p pos : Pos} (hg : Gl X "range") (hm : X.mg "range" = none) (ha : PE X a (tE W Wx m)) (hb : PE X b (tE W Wx m')) (hs : starEach [a, b] X.env = [(false, eval a X.env), (false, eval b X.env)]) (hs2 : starEach [b] X.env = [(false, eval b X.env)]) :
    PI X tg (.Call (.Name "range" p) [a, b] [] pos) (tIm W Wx (semIt0 .range (semVc m (semVc m' semVn)))) := by
  refine PI.imp (pi_range2 hg hm (pa_cons ha (pa_cons hb pa_nil hs2) (by rw [hs, hs2])) hs hs2) fun σ H Q h => ?_
  refine Rd1.mono (fun v H1 q => ?_) (it_read2 h)
  refine Rd1.mono (fun v' H2 q => ?_) q
  obtain ⟨G2, ds, Fb, is, sub, o, ci, k⟩ := q
  match ds, o, ci with
  | [d, d'], o, ci =>
    obtain ⟨v1, v2, A, B, e1, _, o1, o2⟩ := o.two
    cases e1
    cases d with
    | int i =>
      cases d' with
      | int j =>
        have ci' : (if (-4611686018427387904 ≤ i ∧ i < 4611686018427387904) ∧ (-4611686018427387904 ≤ j ∧ j < 4611686018427387904) then some ((List.range (j - i).toNat).map fun (k : Nat) => D.int (i + k)) else none) = some is := ci
        split at ci'
        · rename_i c
          cases ci'
          exact ⟨i, j, by rw [o1.2, o2.2], ⟨c.1.1, c.1.2, c.2.1, c.2.2⟩, k _ (ItOk.range i (j - i).toNat)⟩
        · cases ci'
      | _ => exact nomatch ci
    | _ => cases d' <;> exact nomatch ci
  | [], o, ci => exact nomatch ci
  | [d], o, ci =>
    obtain ⟨v1, e1, o1⟩ := o.single
    cases e1
  | d :: d2 :: d3 :: ds, o, ci =>
    obtain ⟨_, _, _, _, _, e2, _, o2⟩ := o
    cases e2
    obtain ⟨_, _, _, _, _, e3, _, o3⟩ := o2
    cases e3
    obtain ⟨_, _, _, _, _, e4, _⟩ := o3
    cases e4
/-- a new pair, frozen at once -/
theorem pair_new {T : Addr} {d1 d2 : D} {x y : V} (s : Sm G H) (hT : H T = none) (o1 : Ow W G H d1 [] x) (o2 : Ow W G H d2 [] y) : ∃ G', Stp [] G H [] G' (upd H T (.tup [x, y])) ∧ Ow W G' (upd H T (.tup [x, y])) (.tup [d1, d2]) [] (.ref T) := by
  have S1 := Stp.new (o := .tup [x, y]) s hT
  have S2 := Stp.freeze (F := [T]) (S1.sh)
  refine ⟨_, S1.trans S2, rfl, T, [x, y], rfl, SqT.of ?_, ?_⟩
  · rw [addG_in (by simp)]
    exact upd_same
  · exact ⟨[], [], x, [y], rfl, rfl, o1.keep S2.sg, [], [], y, [], rfl, rfl, o2.keep S2.sg, rfl, rfl⟩
theorem zipIdx_get {xs : List D} {i : Nat} {d : D} (h : (xs.zipIdx.map fun p => D.tup [.int p.2, p.1])[i]? = some d) : ∃ x, xs[i]? = some x ∧ d = .tup [.int i, x] := by
  rw [List.getElem?_map, List.getElem?_zipIdx] at h
  cases c : xs[i]? with
  | none => rw [c] at h; cases h
  | some x =>
    rw [c] at h
    refine ⟨x, rfl, ?_⟩
    have := Option.some.inj h
    rw [← this]
    simp
theorem ItOk.enum {K : PySem.W.Frag} {a : Addr} {vs : List V} {ds : List D} (h : ∀ G H, Sm G1 G → Sm G H → (∀ b ∈ Fa, G b = none ∧ H b = H1 b) → SqL K H a vs) (o : OwL W G1 H1 ds [] vs) : ItOk W (Ite K a) (ds.zipIdx.map fun p => D.tup [.int p.2, p.1]) G1 H1 Fa := by
  intro i G H s1 s2 k
  have q := h G H s1 s2 k
  refine ⟨fun d hd => ?_, fun hl => ⟨vs, q, by rw [o.length]; simpa using hl⟩⟩
  obtain ⟨x, hx, rfl⟩ := zipIdx_get hd
  obtain ⟨v, hv, ov⟩ := o.get hx
  refine ⟨⟨vs, v, q, hv⟩, fun y H' yy => ?_⟩
  obtain ⟨T, x', rfl, hT, rfl, yy⟩ := yy
  have := yy vs q
  rw [hv] at this
  cases this
  exact pair_new s2 hT ⟨rfl, rfl⟩ (ov.keep s1)
/-! ### comprehensions with two walks -/
theorem pe_lc2E {vs vs' B B' : List Nat} {mi mi' : Env → R (List D)} {b b' : D → Env → Option Env} {c : Env → R Bool} {x : Env → R D} {elt tg iter tg1 iter1 : Expr} {ifs1 : List Expr} {scope : Scope} {own : List (Str × Nat)} {pos : Pos} (hvs : own.map (·.2) = vs) (hB : ∀ i ∈ B, i ∈ vs) (hB' : ∀ i ∈ B', i ∈ vs') (hv : ∀ i ∈ vs', i ∈ vs) (hc : X.calm = true) (hN : X.N.Nodup) (hi : PI X tg iter (tIm W Wx mi)) (ok : BlkOk X.N X.env.scope scope own)
    (hg : ∀ (s : Shared) (H : Hp) (C : Addr) (cl : List (Str × Addr)) (fp : List Addr), PG (X.blk s H scope (compEnvC scope cl C X.env) fp) tg (tGm [] B W b))
    (hi1 : ∀ (s : Shared) (H : Hp) (C : Addr) (cl : List (Str × Addr)) (fp : List Addr), PI (X.blk s H scope (compEnvC scope cl C X.env) fp) tg1 iter1 (tIm W WxF mi'))
    (hg1 : ∀ (s : Shared) (H : Hp) (C : Addr) (cl : List (Str × Addr)) (fp : List Addr), PG (X.blk s H scope (compEnvC scope cl C X.env) fp) tg1 (tGm [] B' W b')) (ht1 : ∀ (s : Shared) (H : Hp) (C : Addr) (cl : List (Str × Addr)) (fp : List Addr), PTs (X.blk s H scope (compEnvC scope cl C X.env) fp) ifs1 (tTs W WxF c))
    (he : ∀ (s : Shared) (H : Hp) (C : Addr) (cl : List (Str × Addr)) (fp : List Addr), PE (X.blk s H scope (compEnvC scope cl C X.env) fp) elt (tE W WxF x)) (hs : ∀ x, foldedSetIterable iter X.env x = pure x) (hs1 : ∀ env x, foldedSetIterable iter1 env x = pure x) :
    PE X (.ListComp elt [⟨tg, iter, [], 0⟩, ⟨tg1, iter1, ifs1, 0⟩] scope pos) (tE W Wx (semLc2 vs vs' mi b mi' b' c x)) := by
  subst hvs
  exact PE.imp (pe_lc2 hc hN hi ok hv hg (fun _ _ _ _ _ => pts_nil) hi1 hg1 ht1 he hs hs1) fun _ _ _ h => lc2_read hB hB' hv h
theorem ps_setLc2E {vs vs' B B' : List Nat} {mi mi' : Env → R (List D)} {b b' : D → Env → Option Env} {c : Env → R Bool} {x : Env → R D} {i : Nat} {y : Str} {py : Pos} {elt tg iter tg1 iter1 : Expr} {ifs1 : List Expr} {scope : Scope} {own : List (Str × Nat)} {pos spos : Pos} (hvs : own.map (·.2) = vs) (hB : ∀ i ∈ B, i ∈ vs) (hB' : ∀ i ∈ B', i ∈ vs') (hv : ∀ i ∈ vs', i ∈ vs) (hc : X.calm = true) (hN : X.N.Nodup) (hy : X.N[i]? = some y) (hyl : X.env.scope.names.lookup y = some .local)
    (hsw : swapsWith (.ListComp elt [⟨tg, iter, [], 0⟩, ⟨tg1, iter1, ifs1, 0⟩] scope pos) (some (.Name y py)) spos.line X.env = pure true) (hi : PI X tg iter (tIm W Wx mi)) (ok : BlkOk X.N X.env.scope scope own)
    (hg : ∀ (s : Shared) (H : Hp) (C : Addr) (cl : List (Str × Addr)) (fp : List Addr), PG (X.blk s H scope (compEnvC scope cl C X.env) fp) tg (tGm [] B W b))
    (hi1 : ∀ (s : Shared) (H : Hp) (C : Addr) (cl : List (Str × Addr)) (fp : List Addr), PI (X.blk s H scope (compEnvC scope cl C X.env) fp) tg1 iter1 (tIm W WxF mi'))
    (hg1 : ∀ (s : Shared) (H : Hp) (C : Addr) (cl : List (Str × Addr)) (fp : List Addr), PG (X.blk s H scope (compEnvC scope cl C X.env) fp) tg1 (tGm [] B' W b')) (ht1 : ∀ (s : Shared) (H : Hp) (C : Addr) (cl : List (Str × Addr)) (fp : List Addr), PTs (X.blk s H scope (compEnvC scope cl C X.env) fp) ifs1 (tTs W WxF c))
    (he : ∀ (s : Shared) (H : Hp) (C : Addr) (cl : List (Str × Addr)) (fp : List Addr), PE (X.blk s H scope (compEnvC scope cl C X.env) fp) elt (tE W WxF x)) (hs : ∀ x, foldedSetIterable iter X.env x = pure x) (hs1 : ∀ env x, foldedSetIterable iter1 env x = pure x) :
    PS X (.Assign [.Name y py] (.ListComp elt [⟨tg, iter, [], 0⟩, ⟨tg1, iter1, ifs1, 0⟩] scope pos) spos) (tSm L W Wx (semAsg (bindT L (.tName i)) (semLc2 vs vs' mi b mi' b' c x))) := by
  subst hvs
  exact PS.imp (ps_setLc2 hc hN hy hyl hsw hi ok hv hg (fun _ _ _ _ _ => pts_nil) hi1 hg1 ht1 he hs hs1) fun _ _ _ h => asg_lc (fun _ _ _ q => lc2_read hB hB' hv q) h
end
end Wpk
set_option Elab.async false
set_option linter.all false
set_option maxRecDepth 100000
/-! P3: built-ins, chains, statements that change a slot. -/
namespace Wpk
open PySem PySem.Spec PyProof.Rows L2
section
variable {X : Cx} {L : List Nat} {W : Wd} {Wx : WX} {σ σ1 σ2 σ' : L2.St} {G G1 G2 G' H H1 H2 H' : Hp} {F F1 F2 Fa Fb Fv Fl : List Addr} {e e1 : Env} {Z : Ends} {v : V}
abbrev VwR (W : Wd) (G H : Hp) : V → D → Prop := fun v d => ∃ F0, Ow W G H d F0 v
theorem vw1 {d : D} {vs : List V} (h : Paired (VwR W G H) vs [d]) : ∃ v F0, vs = [v] ∧ Ow W G H d F0 v := by
  cases h with
  | cons r t =>
    cases t
    obtain ⟨F0, o⟩ := r
    exact ⟨_, F0, rfl, o⟩
theorem vw2 {d d' : D} {vs : List V} (h : Paired (VwR W G H) vs [d, d']) : ∃ v v' F0 F1, vs = [v, v'] ∧ Ow W G H d F0 v ∧ Ow W G H d' F1 v' := by
  cases h with
  | cons r t =>
    cases t with
    | cons r' t =>
      cases t
      obtain ⟨F0, o⟩ := r
      obtain ⟨F1, o'⟩ := r'
      exact ⟨_, _, F0, F1, rfl, o, o'⟩
theorem bi_len (hK : X.K = W.K) : CallR X (.builtin "len") (rPs W (biD .len)) := by
  intro pins s σ H xs us Q I r h
  obtain ⟨G, ds, d, sub, pr, hg, nw⟩ := h
  match ds, pr, hg with
  | [d0], pr, hg =>
    obtain ⟨v, F0, rfl, o⟩ := vw1 pr
    have hg' : (lenD d0).map (fun n => D.int n) = some d := hg
    cases c : lenD d0 with
    | none => rw [c] at hg'; cases hg'
    | some n =>
      rw [c] at hg'
      cases hg'
      cases d0 with
      | str z =>
        have c' : (if z.length ≤ LN then some z.length else none) = some n := c
        split at c'
        · rename_i hz
          cases c'
          obtain ⟨_, rfl⟩ := o
          exact call_len pins s σ H _ us Q I r ⟨_, z.length, rfl, ⟨by rw [sOf_len]; exact sz hz, by rw [sOf_len]⟩, nw.int sub⟩
        · cases c'
      | lst m ys =>
        cases c
        obtain ⟨a, vs, F', rfl, q, l⟩ := o.sqL sub
        exact call_len pins s σ H _ us Q I r ⟨_, ys.length, rfl, .inl ⟨vs, by rw [hK]; exact q, l.length.symm⟩, nw.int sub⟩
      | ksq ys =>
        cases c
        obtain ⟨a, vs, rfl, q, l⟩ := o.sqK sub
        exact call_len pins s σ H _ us Q I r ⟨_, ys.length, rfl, .inl ⟨vs, by rw [hK]; exact q, l.length.symm⟩, nw.int sub⟩
      | tup ys =>
        cases c
        obtain ⟨a, vs, rfl, q, l⟩ := o.sqT sub
        exact call_len pins s σ H _ us Q I r ⟨_, ys.length, rfl, .inr ⟨vs, by rw [hK]; exact q, l.length.symm⟩, nw.int sub⟩
      | dct m t ks ys =>
        have c' : (if t = true then none else some ks.length) = some n := by cases t <;> exact c
        cases t with
        | true => cases c'
        | false =>
          cases c'
          obtain ⟨a, vs, F', ho, rfl, q, dd, l⟩ := o.rdD sub
          obtain ⟨keys, e1, e2, rfl⟩ := dd
          obtain ⟨u, rfl, ru⟩ := vals1 r
          cases ru
          refine d_len I q fun t s' I' => ⟨.int (ks.length : Nat), H, I', ⟨t, ?_⟩, nw.int sub⟩
          have e3 := congrArg List.length e1
          rw [List.length_map, List.length_map] at e3
          rw [List.length_zip, ← e2, Nat.min_self, e3]
      | _ => exact nomatch c
  | [], pr, hg => exact nomatch hg
  | d0 :: d1 :: ds, pr, hg => exact nomatch hg
theorem bi_abs : CallR X (.builtin "abs") (rPs W (biD .abs)) := CallR.imp call_abs fun xs H Q ⟨G, ds, d, sub, pr, hg, nw⟩ => by
  match ds, pr, hg with
  | [d0], pr, hg =>
    obtain ⟨v, F0, rfl, o⟩ := vw1 pr
    cases d0 with
    | int i => cases hg; obtain ⟨_, rfl⟩ := o; exact ⟨i, rfl, nw.int sub⟩
    | _ => exact nomatch hg
  | [], pr, hg => exact nomatch hg
  | d0 :: d1 :: ds, pr, hg => cases d0 <;> exact nomatch hg
theorem bi_int : CallR X (.type "int") (rPs W (biD .int)) := CallR.imp call_int1 fun xs H Q ⟨G, ds, d, sub, pr, hg, nw⟩ => by
  match ds, pr, hg with
  | [d0], pr, hg =>
    obtain ⟨v, F0, rfl, o⟩ := vw1 pr
    cases d0 with
    | int i => cases hg; obtain ⟨_, rfl⟩ := o; exact .inl ⟨i, rfl, nw.int sub⟩
    | bl k => cases hg; obtain ⟨_, rfl⟩ := o; exact .inr ⟨k, rfl, nw.int sub⟩
    | _ => exact nomatch hg
  | [], pr, hg => exact nomatch hg
  | d0 :: d1 :: ds, pr, hg => cases d0 <;> exact nomatch hg
theorem bi_min (hc : X.calm = true) : CallR X (.builtin "min") (rPs W (biD .min)) := CallR.imp (call_min2 hc) fun xs H Q ⟨G, ds, d, sub, pr, hg, nw⟩ => by
  match ds, pr, hg with
  | [d0, d1], pr, hg =>
    obtain ⟨v, v', F0, F1, rfl, o, o'⟩ := vw2 pr
    cases d0 with
    | int i =>
      cases d1 with
      | int j => cases hg; obtain ⟨_, rfl⟩ := o; obtain ⟨_, rfl⟩ := o'; exact ⟨i, j, rfl, nw.int sub⟩
      | _ => exact nomatch hg
    | _ => cases d1 <;> exact nomatch hg
  | [], pr, hg => exact nomatch hg
  | [d0], pr, hg => cases d0 <;> exact nomatch hg
  | d0 :: d1 :: d2 :: ds, pr, hg => cases d0 <;> cases d1 <;> exact nomatch hg
theorem bi_max (hc : X.calm = true) : CallR X (.builtin "max") (rPs W (biD .max)) := CallR.imp (call_max2 hc) fun xs H Q ⟨G, ds, d, sub, pr, hg, nw⟩ => by
  match ds, pr, hg with
  | [d0, d1], pr, hg =>
    obtain ⟨v, v', F0, F1, rfl, o, o'⟩ := vw2 pr
    cases d0 with
    | int i =>
      cases d1 with
      | int j => cases hg; obtain ⟨_, rfl⟩ := o; obtain ⟨_, rfl⟩ := o'; exact ⟨i, j, rfl, nw.int sub⟩
      | _ => exact nomatch hg
    | _ => cases d1 <;> exact nomatch hg
  | [], pr, hg => exact nomatch hg
  | [d0], pr, hg => cases d0 <;> exact nomatch hg
  | d0 :: d1 :: d2 :: ds, pr, hg => cases d0 <;> cases d1 <;> exact nomatch hg
theorem OwL.ints : ∀ {ds : List D} {F : List Addr} {vs : List V} {is : List Int}, OwL W G H ds F vs → intsOf ds = some is → vs = is.map V.int
  | [], F, vs, is, o, h => by obtain ⟨_, rfl⟩ := o; cases h; rfl
  | d :: ds, F, vs, is, o, h => by
    obtain ⟨A, B, v, vs', _, rfl, o1, o2⟩ := o
    cases d with
    | int i =>
      have h' : (intsOf ds).map (i :: ·) = some is := h
      cases c : intsOf ds with
      | none => rw [c] at h'; cases h'
      | some js =>
        rw [c] at h'
        cases h'
        obtain ⟨_, rfl⟩ := o1
        rw [o2.ints c]
        rfl
    | _ => exact nomatch h
theorem OwL.bools : ∀ {ds : List D} {F : List Addr} {vs : List V} {is : List Bool}, OwL W G H ds F vs → boolsOf ds = some is → vs = is.map V.bl
  | [], F, vs, is, o, h => by obtain ⟨_, rfl⟩ := o; cases h; rfl
  | d :: ds, F, vs, is, o, h => by
    obtain ⟨A, B, v, vs', _, rfl, o1, o2⟩ := o
    cases d with
    | bl i =>
      have h' : (boolsOf ds).map (i :: ·) = some is := h
      cases c : boolsOf ds with
      | none => rw [c] at h'; cases h'
      | some js =>
        rw [c] at h'
        cases h'
        obtain ⟨_, rfl⟩ := o1
        rw [o2.bools c]
        rfl
    | _ => exact nomatch h
theorem bi_sum (hK : X.K = W.K) (hc : X.calm = true) : CallR X (.builtin "sum") (rPs W (biD .sum)) := CallR.imp (cr_sum hc) fun xs H Q ⟨G, ds, d, sub, pr, hg, nw⟩ => by
  match ds, pr, hg with
  | [d0], pr, hg =>
    obtain ⟨v, F0, rfl, o⟩ := vw1 pr
    cases d0 with
    | lst m ys =>
      have hg' : (intsOf ys).map (fun is => D.int is.sum) = some d := hg
      cases c : intsOf ys with
      | none => rw [c] at hg'; cases hg'
      | some is =>
        rw [c] at hg'
        cases hg'
        obtain ⟨a, vs, F', rfl, q, l⟩ := o.sqL sub
        rw [l.ints c] at q
        exact ⟨a, is, rfl, by rw [hK]; exact q, nw.int sub⟩
    | _ => exact nomatch hg
  | [], pr, hg => exact nomatch hg
  | d0 :: d1 :: ds, pr, hg => cases d0 <;> exact nomatch hg
theorem bi_all (hK : X.K = W.K) (hc : X.calm = true) : CallR X (.builtin "all") (rPs W (biD .all)) := CallR.imp (cr_all hc) fun xs H Q ⟨G, ds, d, sub, pr, hg, nw⟩ => by
  match ds, pr, hg with
  | [d0], pr, hg =>
    obtain ⟨v, F0, rfl, o⟩ := vw1 pr
    cases d0 with
    | lst m ys =>
      have hg' : (boolsOf ys).map (fun is => D.bl (is.all id)) = some d := hg
      cases c : boolsOf ys with
      | none => rw [c] at hg'; cases hg'
      | some is =>
        rw [c] at hg'
        cases hg'
        obtain ⟨a, vs, F', rfl, q, l⟩ := o.sqL sub
        rw [l.bools c] at q
        exact ⟨a, is, rfl, by rw [hK]; exact q, nw.bl sub⟩
    | _ => exact nomatch hg
  | [], pr, hg => exact nomatch hg
  | d0 :: d1 :: ds, pr, hg => cases d0 <;> exact nomatch hg
theorem bi_any (hK : X.K = W.K) (hc : X.calm = true) : CallR X (.builtin "any") (rPs W (biD .any)) := CallR.imp (cr_any hc) fun xs H Q ⟨G, ds, d, sub, pr, hg, nw⟩ => by
  match ds, pr, hg with
  | [d0], pr, hg =>
    obtain ⟨v, F0, rfl, o⟩ := vw1 pr
    cases d0 with
    | lst m ys =>
      have hg' : (boolsOf ys).map (fun is => D.bl (is.any id)) = some d := hg
      cases c : boolsOf ys with
      | none => rw [c] at hg'; cases hg'
      | some is =>
        rw [c] at hg'
        cases hg'
        obtain ⟨a, vs, F', rfl, q, l⟩ := o.sqL sub
        rw [l.bools c] at q
        exact ⟨a, is, rfl, by rw [hK]; exact q, nw.bl sub⟩
    | _ => exact nomatch hg
  | [], pr, hg => exact nomatch hg
  | d0 :: d1 :: ds, pr, hg => cases d0 <;> exact nomatch hg
theorem vals_at : ∀ (vs : List V) (us : List Value), us.length = vs.length → (∀ (j : Nat) v u, vs[j]? = some v → us[j]? = some u → RelV v u) → Vals vs us
  | [], [], _, _ => .nil
  | v :: vs, u :: us, h, k => .cons (k 0 v u rfl rfl) (vals_at vs us (by simpa using h) fun j v u h1 h2 => k (j + 1) v u (by simpa using h1) (by simpa using h2))
  | [], _ :: _, h, _ => nomatch h
  | _ :: _, [], h, _ => nomatch h
theorem owl_chars : ∀ s : List Nat, OwL W G H (s.map fun c => D.str [c]) [] (s.map fun c => V.str (sOf [c]))
  | [] => ⟨rfl, rfl⟩
  | c :: s => ⟨[], [], .str (sOf [c]), _, rfl, rfl, ⟨rfl, rfl⟩, owl_chars s⟩
theorem list_str {pins : List (Addr × Obj)} {σ : L2.St} {s : Shared} {a : List Nat} {t : Tok} (hc : X.calm = true) (hl : a.length ≤ LN) (sub : Sm G H) (nw : Nw W G H (.lst true (a.map fun c => .str [c])) Q) (I : Inv X pins σ H s) : wpAny (model X.prog X.w) X.A (call (.type "list") [.str (sOf a) t]) (EP X pins σ Q) X.xe s := by
  have hz : (sOf a).cps.size = a.length := by simp [sOf]
  refine call_list_str (I.ok.hd hc) (sOf a) t (fun h' tk acc c' hk hD hacc => ?_) (by rw [hz]; exact sz hl)
  have hv : Vals (a.map fun c => V.str (sOf [c])) acc.toList := vals_at _ _ (by rw [Array.length_toList, hacc.1, List.length_map, hz]) fun j v u h1 h2 => by
    obtain ⟨c, tk', e1, rfl⟩ := hacc.2 j u (by rw [← Array.getElem?_toList]; exact h2)
    rw [List.getElem?_map] at h1
    have e2 : (sOf a).cps[j]? = a[j]? := by simp [sOf]
    rw [e2] at e1
    rw [e1] at h1
    cases h1
    exact ⟨tk', rfl⟩
  exact ⟨.ref s.heap.objs.size, upd H s.heap.objs.size (.lst (a.map fun c => V.str (sOf [c]))), I.laid (t' := tk) hk (Nat.le_refl _)
    (show ObjOk X.prog X.w _ _ _ (.lst (a.map fun c => V.str (sOf [c]))) from ⟨by rw [List.length_map]; exact sz hl, acc.toList, c', hv, by rw [Array.toArray_toList]; exact hD⟩), rfl, nw.lst sub (owl_chars a) (I.hok.fresh (Nat.le_refl _))⟩
theorem bi_list (hK : X.K = W.K) (hc : X.calm = true) : CallR X (.type "list") (rPs W (biD .list)) := by
  intro pins s σ H xs us Q I r hh
  by_cases hs : ∃ G a d, Sm G H ∧ (∃ F, Ow W G H (.str a) F (xs.headD .non)) ∧ xs.length = 1 ∧ a.length ≤ LN ∧ d = D.lst true (a.map fun c => .str [c]) ∧ Nw W G H d Q
  · obtain ⟨G, a, d, sub, ⟨F, o⟩, hl, ha, rfl, nw⟩ := hs
    match xs, hl, o, r with
    | [v], _, o, r =>
      obtain ⟨_, rfl⟩ := o
      obtain ⟨u, rfl, t, rfl⟩ := vals1 r
      exact list_str hc ha sub nw I
  refine (CallR.imp (r := fun xs H Q => ∃ p ys, xs = [.ref p] ∧ (SqL X.K H p ys ∨ SqT X.K H p ys) ∧ ∀ l, H l = none → Q (.ref l) (upd H l (.lst ys))) call_list_of fun _ _ _ z => z) pins s σ H xs us Q I r ?_
  obtain ⟨G, ds, d, sub, pr, hg, nw⟩ := hh
  match ds, pr, hg with
  | [d0], pr, hg =>
    obtain ⟨v, F0, rfl, o⟩ := vw1 pr
    cases d0 with
    | lst m ys =>
      have hg' : (if isFL ys = true then some (D.lst true ys) else none) = some d := hg
      split at hg'
      · rename_i c
        cases hg'
        obtain ⟨a, vs, F', rfl, q, l⟩ := o.sqL sub
        exact ⟨a, vs, rfl, .inl (by rw [hK]; exact q), fun p hp => nw.lst sub (l.fz c) hp⟩
      · cases hg'
    | ksq ys =>
      cases hg
      obtain ⟨a, vs, rfl, q, l⟩ := o.sqK sub
      exact ⟨a, vs, rfl, .inl (by rw [hK]; exact q), fun p hp => nw.lst sub l hp⟩
    | tup ys =>
      cases hg
      obtain ⟨a, vs, rfl, q, l⟩ := o.sqT sub
      exact ⟨a, vs, rfl, .inr (by rw [hK]; exact q), fun p hp => nw.lst sub l hp⟩
    | str a =>
      have hg' : (if a.length ≤ LN then some (D.lst true (a.map fun c => D.str [c])) else none) = some d := hg
      split at hg'
      · rename_i c
        cases hg'
        exact absurd ⟨G, a, _, sub, ⟨F0, o⟩, rfl, c, rfl, nw⟩ hs
      · cases hg'
    | _ => exact nomatch hg
  | [], pr, hg => exact nomatch hg
  | d0 :: d1 :: ds, pr, hg => cases d0 <;> exact nomatch hg
theorem bi_tuple (hK : X.K = W.K) : CallR X (.type "tuple") (rPs W (biD .tuple)) := CallR.imp call_tuple_of fun xs H Q ⟨G, ds, d, sub, pr, hg, nw⟩ => by
  match ds, pr, hg with
  | [d0], pr, hg =>
    obtain ⟨v, F0, rfl, o⟩ := vw1 pr
    cases d0 with
    | lst m ys =>
      have hg' : (if isFL ys = true then some (D.tup ys) else none) = some d := hg
      split at hg'
      · rename_i c
        cases hg'
        obtain ⟨a, vs, F', rfl, q, l⟩ := o.sqL sub
        exact ⟨a, vs, rfl, .inl ⟨by rw [hK]; exact q, fun p hp => nw.tup sub (l.fz c) hp⟩⟩
      · cases hg'
    | tup ys =>
      cases hg
      obtain ⟨a, vs, rfl, q, l⟩ := o.sqT sub
      have o' := o
      obtain ⟨rfl, _⟩ := o'
      exact ⟨a, vs, rfl, .inr ⟨by rw [hK]; exact q, nw.now sub o⟩⟩
    | _ => exact nomatch hg
  | [], pr, hg => exact nomatch hg
  | d0 :: d1 :: ds, pr, hg => cases d0 <;> exact nomatch hg

end
end Wpk
set_option Elab.async false
set_option linter.all false
set_option maxRecDepth 100000
/-! P4: chains, statements that change a slot. -/
namespace Wpk
open PySem PySem.Spec PyProof.Rows L2
section
variable {X : Cx} {L : List Nat} {W : Wd} {Wx : WX} {σ σ1 σ2 σ' : L2.St} {G G1 G2 G' H H1 H2 H' : Hp} {F F1 F2 Fa Fb Fv Fl : List Addr} {e e1 : Env} {Z : Ends} {v : V} {Q : VK}
/-! ### chains -/
theorem Post.noB {α β : Type} {rp : Rp α β} {Q : β → Hp → Prop} (h : Post rp W Wx σ F G H Q (R.no)) : False := h
theorem chn_read {o o' : CmpOp} {m1 m2 m3 : Env → R Od} (h : tE W Wx (semChn o o' m1 m2 m3) σ H Q) : tChain (rP2 W (cmpG o)) (rP2 W (cmpG o')) (tO W Wx m1) (tO W Wx m2) (tO W Wx m3) σ H Q := by
  obtain ⟨e, G, F, S, p⟩ := h
  refine ⟨e, G, F, S, p.go S.refl nomem fun x e1 v1 G1 H1 F1 Fa p1 S1 E1 r1 => ⟨e1, G1, F1, S1.sta E1, p1.go S1 r1.mem fun y e2 v2 G2 H2 F2 Fb p2 S2 E2 r2 => ?_⟩⟩
  obtain ⟨S3, k3⟩ := Stp.two S1 S2 r1.mem
  have r1' := r1.frame S2.sg k3
  cases c1 : x.res e2 with
  | none => rw [c1] at p2; exact p2.elim
  | some d1 =>
    cases c2 : y.res e2 with
    | none => rw [c1, c2] at p2; exact p2.elim
    | some d2 =>
      rw [c1, c2] at p2
      obtain ⟨Fx, o1, _⟩ := r1'.view E2 c1
      obtain ⟨Fy, o2, _⟩ := r2.view E2 c2
      have p2' : Post (rD W) W Wx σ F G H Q ((R.of (cmpD o d1 d2) e2).bind fun k e3 => if k then (m3 e3).bind fun z e4 => (match y.res e4, z.res e4 with
        | some q, some r => R.of (cmpG o' q r) e4
        | _, _ => .no) else .ok (.bl false) e3) := p2
      cases c3 : cmpD o d1 d2 with
      | none => rw [c3] at p2'; exact p2'.elim
      | some k =>
        rw [c3] at p2'
        refine ⟨G2, d1, d2, .bl k, Fx, Fy, S2.sh, o1, o2, by rw [cmpG, c3]; rfl, fun v G3 H3 Fv S4 o4 => ?_⟩
        obtain ⟨e0, rfl⟩ := o4
        subst e0
        refine ⟨k, rfl, ?_⟩
        -- the state behind the first comparison
        have T2 : Stp F G H (F2 ++ Fb) G2 H2 := S3.drop
        have hm : ∀ b ∈ F2 ++ Fb, G2 b = none ∧ b ∉ ([] : List Addr) ∧ H2 b ≠ none := fun b hb => by
          rcases List.mem_append.mp hb with z | z
          · exact ⟨(E2.mem b z).1, (fun z => nomatch z), fun q => by obtain ⟨o, q'⟩ := (E2.mem b z).2; rw [q] at q'; cases q'⟩
          · exact ⟨(r2.mem b z).1, (fun z => nomatch z), fun q => by obtain ⟨o, q'⟩ := (r2.mem b z).2; rw [q] at q'; cases q'⟩
        have T3 : Stp F G H (F2 ++ Fb) G3 H3 := T2.trans ((S4.beside T2.nd hm).perm (fun b hb => by simpa using hb) (fun b hb => by simpa using hb) T2.nd)
        have E3 : EnvR W G3 H3 e2 F2 σ := E2.after S4
        have r2' : rO W σ G3 H3 y Fb v2 := r2.frame S4.sg fun b hb => S4.kept (hm b (List.mem_append_right _ hb)).1 (fun z => nomatch z) (hm b (List.mem_append_right _ hb)).2.2
        cases k with
        | true =>
          refine iteT ⟨e2, G3, F2, T3.sta E3, Post.go (m := m3 e2) (k := fun z e4 => (match y.res e4, z.res e4 with
            | some q, some r => R.of (cmpG o' q r) e4
            | _, _ => .no)) p2' T3 r2'.mem fun z e4 v4 G4 H4 F4 Fc p4 S5 E4 r4 => ?_⟩
          obtain ⟨T5, k5⟩ := Stp.two T3 S5 r2'.mem
          have r2'' := r2'.frame S5.sg k5
          cases c4 : y.res e4 with
          | none => rw [c4] at p4; exact p4.elim
          | some d3 =>
            cases c5 : z.res e4 with
            | none => rw [c4, c5] at p4; exact p4.elim
            | some d4 =>
              rw [c4, c5] at p4
              obtain ⟨Fp, o5, _⟩ := r2''.view E4 c4
              obtain ⟨Fq, o6, _⟩ := r4.view E4 c5
              obtain ⟨d5, c6, p5⟩ := Post.of (o := cmpG o' d3 d4) p4
              exact ⟨G4, d3, d4, d5, Fp, Fq, S5.sh, o5, o6, c6, p5.fin T5.drop.drop E4⟩
        | false =>
          have p3 : Post (rD W) W Wx σ F G H Q (.ok (.bl false) e2) := p2'
          exact iteF ((p3.fin T3.drop E3).bl S4.sh)
/-- a meaning that gives bools alone -/
def BoolM (m : Env → R D) : Prop := ∀ e d e', m e = .ok d e' → ∃ b, d = .bl b
theorem tv_bool {m : Env → R D} (hb : BoolM m) {Q : Bool → Hp → Prop} (h : tTs W Wx (semTv m) σ H Q) : tE W Wx m σ H (fun v H' => ∃ k, v = .bl k ∧ Q k H') := by
  obtain ⟨e, G, F, S, p⟩ := h
  refine ⟨e, G, F, S, ?_⟩
  unfold semTv at p
  cases c : m e with
  | no => rw [c] at p; exact p
  | exc x e1 => rw [c] at p; exact p
  | ok d e1 =>
    rw [c] at p
    obtain ⟨b, rfl⟩ := hb e d e1 c
    have p' : Post rB W Wx σ F G H Q (.ok b e1) := p
    intro v G1 H1 F1 Fa S1 E1 r1
    obtain ⟨_, rfl⟩ := r1
    exact ⟨b, rfl, p'.finB S1.drop E1⟩
theorem of_ok {α : Type} {o : Option α} {e e' : Env} {a : α} (h : R.of o e = .ok a e') : o = some a := by
  cases o with
  | none => cases h
  | some b => cases h; rfl
theorem chn_bool {o o' : CmpOp} {m1 m2 m3 : Env → R Od} : BoolM (semChn o o' m1 m2 m3) := fun e d e' h => by
  obtain ⟨x, e1, h1, h⟩ := bind_ok (m := m1 e) h
  obtain ⟨y, e2, h2, h⟩ := bind_ok (m := m2 e1) h
  cases c1 : x.res e2 with
  | none => rw [c1] at h; cases h
  | some d1 =>
    cases c2 : y.res e2 with
    | none => rw [c1, c2] at h; cases h
    | some d2 =>
      rw [c1, c2] at h
      obtain ⟨k, e3, h3, h⟩ := bind_ok (m := R.of (cmpD o d1 d2) e2) h
      cases k with
      | false => cases h; exact ⟨_, rfl⟩
      | true =>
        obtain ⟨z, e4, h4, h⟩ := bind_ok (m := m3 e3) h
        cases c4 : y.res e4 with
        | none => rw [c4] at h; cases h
        | some d3 =>
          cases c5 : z.res e4 with
          | none => rw [c4, c5] at h; cases h
          | some d4 =>
            rw [c4, c5] at h
            obtain ⟨b, _, hb⟩ := map_bl (of_ok h)
            exact ⟨b, hb⟩
theorem pe_chnE {o o' : CmpOp} {a b c : Expr} {m1 m2 m3 : Env → R Od} {pos : Pos} (ho : OpR X (compareOp o) (rP2 W (cmpG o))) (ho' : OpR X (compareOp o') (rP2 W (cmpG o'))) (ha : PE X a (tO W Wx m1)) (hb : PE X b (tO W Wx m2)) (hc : PE X c (tO W Wx m3)) (hm : lastMarks [o, o'] [b, c] = false) :
    PE X (.Compare a [o, o'] [b, c] pos) (tE W Wx (semChn o o' m1 m2 m3)) := PE.imp (pe_chain ho ho' ha hb hc hm) fun _ _ _ h => chn_read h
theorem pt_chnE {o o' : CmpOp} {a b c : Expr} {m1 m2 m3 : Env → R Od} {pos : Pos} (ho : OpR X (compareOp o) (rP2 W (cmpG o))) (ho' : OpR X (compareOp o') (rP2 W (cmpG o'))) (ha : PE X a (tO W Wx m1)) (hb : PE X b (tO W Wx m2)) (hc : PE X c (tO W Wx m3)) (hm : lastMarks [o, o'] [b, c] = false) :
    PT X (.Compare a [o, o'] [b, c] pos) (tTs W Wx (semTv (semChn o o' m1 m2 m3))) := PT.imp (pt_chain ho ho' ha hb hc hm) fun _ _ _ h => chn_read (tv_bool chn_bool h)

/-! ### x.append(e) -/
theorem app_read {i : Nat} {m : Env → R D} (hK : X.K = W.K) (h : tE W Wx (semApp i m) σ H Q) : tBM X.K "list" rAppend (tVar i) (tCons (tE W Wx m) tNil) σ H Q := by
  obtain ⟨e, G, F, S, p⟩ := h
  unfold semApp at p
  cases c : Env.get e i with
  | none => rw [c] at p; exact p.elim
  | some d0 =>
    rw [c] at p
    match d0, c, p with
    | .lst true xs0, c, p =>
      obtain ⟨A, Fi, B, eF, ⟨v, q1, q2⟩, q3⟩ := S.env.cut (get_some c)
      obtain ⟨a, vs0, F0', rfl, _, _, hh0, _⟩ := q2
      refine ⟨.ref a, q1, .inl ⟨rfl, vs0, SqL.of hh0⟩, e, G, F, S, p.go S.refl nomem fun d e1 y G1 H1 F1 Fa p1 S1 E1 r1 => ?_⟩
      cases c1 : Env.get e1 i with
      | none => rw [c1] at p1; exact p1.elim
      | some d1 =>
        rw [c1] at p1
        match d1, c1, p1 with
        | .lst true xs, c1, p1 =>
          obtain ⟨A1, Fi1, B1, rfl, ⟨v1, q4, q5⟩, q6⟩ := E1.cut (get_some c1)
          rw [q1] at q4
          cases q4
          obtain ⟨a', vs, F', e2, rfl, g1, hh, l⟩ := q5
          cases e2
          have p1 : Post (rD W) W Wx σ F G H Q (if xs.length < LN then .ok .non (Env.put e1 i (.lst true (xs ++ [d]))) else .no) := p1
          by_cases hl : xs.length < LN
          · rw [if_pos hl] at p1
            refine ⟨a, vs, y, rfl, rfl, hh, by rw [l.length]; exact szlt hl, ?_⟩
            have nd := S1.nd
            have S2 : Stp F G H (A1 ++ (a :: F') ++ B1 ++ Fa) G1 (upd H1 a (.lst (vs ++ [y]))) := S1.put (by simp) g1
            have hne : ∀ b, b ∈ A1 ++ F' ++ B1 ++ Fa → b ≠ a := fun b hb z => by
              subst z
              have pm : (A1 ++ (b :: F') ++ B1 ++ Fa).Perm (b :: (A1 ++ F' ++ B1 ++ Fa)) := by
                simp only [List.append_assoc, List.cons_append]
                exact List.perm_middle
              exact (List.nodup_cons.mp ((pm.nodup_iff).mp nd)).1 hb
            have fr : ∀ b, b ∈ A1 ++ F' ++ B1 ++ Fa → upd H1 a (.lst (vs ++ [y])) b = H1 b := fun b hb => upd_ne (hne b hb)
            have ol : OwL W G1 (upd H1 a (.lst (vs ++ [y]))) (xs ++ [d]) (F' ++ Fa) (vs ++ [y]) := by
              refine (l.frame Sm.refl fun b hb => ⟨(l.mem b hb).1, fr b (by simp [hb])⟩).app (OwL.one (Ow.frame Sm.refl (show Ow W G1 H1 d Fa y from r1) fun b hb => ⟨(Ow.mem (show Ow W G1 H1 d Fa y from r1) b hb).1, fr b (by simp [hb])⟩))
            have E2 := (q6 (G' := G1) (H' := upd H1 a (.lst (vs ++ [y]))) Sm.refl fun b hb => ⟨(E1.mem b (by rcases List.mem_append.mp hb with z | z <;> simp [z])).1, fr b (by rcases List.mem_append.mp hb with z | z <;> simp [z])⟩).2 (d' := .lst true (xs ++ [d])) (v' := .ref a) (F' := a :: (F' ++ Fa)) ⟨a, vs ++ [y], F' ++ Fa, rfl, rfl, g1, upd_same, ol⟩
            rw [set_same q1] at E2
            refine p1 .non G1 _ _ [] (S2.perm (fun _ z => z) (fun b hb => ?_) ?_) E2 ⟨rfl, rfl⟩
            · simp only [List.append_nil, List.mem_append, List.mem_cons] at hb ⊢
              rcases hb with (z | z | z | z) | z <;> simp [z]
            · rw [List.append_nil]
              refine (List.Perm.nodup_iff ?_).mp nd
              have p1 : (A1 ++ (a :: F') ++ B1 ++ Fa).Perm (A1 ++ ((a :: F') ++ (B1 ++ Fa))) := by simp
              have p2 : (A1 ++ ((a :: F') ++ (B1 ++ Fa))).Perm (A1 ++ ((a :: F') ++ (Fa ++ B1))) := List.Perm.append_left A1 (List.Perm.append_left _ List.perm_append_comm)
              have p3 : (A1 ++ ((a :: F') ++ (Fa ++ B1))).Perm (A1 ++ (a :: (F' ++ Fa)) ++ B1) := by simp
              exact p1.trans (p2.trans p3)
          · rw [if_neg hl] at p1
            exact p1.elim
        | .lst false xs, c1, p1 => exact p1.elim
        | .non, c1, p1 | .bl _, c1, p1 | .int _, c1, p1 | .str _, c1, p1 | .tup _, c1, p1 | .dct _ _ _ _, c1, p1 | .ins _ _ _ _, c1, p1 | .ty _, c1, p1 | .cls _, c1, p1 | .fn _, c1, p1 => exact p1.elim
    | .lst false xs, c, p => exact p.elim
    | .non, c, p | .bl _, c, p | .int _, c, p | .str _, c, p | .tup _, c, p | .dct _ _ _ _, c, p | .ins _ _ _ _, c, p | .ty _, c, p | .cls _, c, p | .fn _, c, p => exact p.elim
theorem pe_appE {i : Nat} {x : Str} {y : Expr} {m : Env → R D} {p apos cpos : Pos} (hK : X.K = W.K) (hN : X.N[i]? = some x) (hv : Vis X.env.scope x) (hd : (x == ("__debug__" : Str)) = false) (hcd : (x == ("__classdict__" : Str)) = false) (hy : PE X y (tE W Wx m))
    (hline : (apos.endLine == cpos.line) = true) (hs : starEach [y] X.env = (false, eval y X.env) :: starEach [] X.env) : PE X (.Call (.Attribute (.Name x p) "append" apos) [y] [] cpos) (tE W Wx (semApp i m)) :=
  PE.imp (pe_bm PySem.F.plainAttrs_list PySem.F.slot_list_append PySem.F.type_list_append mt_append (pe_var hN hv hd hcd) (pa_cons hy pa_nil hs) rfl (by rw [hs]; rfl) hline hs rfl) fun _ _ _ h => app_read hK h

/-! ### a, b = x, y -/
def setP (σ : L2.St) : List Nat → List V → L2.St
  | i :: is, v :: vs => setP (σ.set i (some v)) is vs
  | _, _ => σ
theorem bindP_env : ∀ {is : List Nat} {ds : List D} {vs : List V} {e e' : Env} {σ : L2.St} {F Fv : List Addr}, Sta W G H e F σ → (F ++ Fv).Nodup → OwL W G H ds Fv vs → bindP L is ds e = some e' →
    ∃ F', Stp (F ++ Fv) G H F' G H ∧ EnvR W G H e' F' (setP σ is vs) ∧ Kp L σ (setP σ is vs) ∧ vs.length = is.length
  | [], ds, vs, e, e', σ, F, Fv, S, nd, o, h => by
    cases ds with
    | nil =>
      cases h
      obtain ⟨rfl, rfl⟩ := o
      exact ⟨F, by rw [List.append_nil]; exact Stp.refl S.sub S.nd, S.env, Kp.refl, rfl⟩
    | cons d ds => cases h
  | i :: is, ds, vs, e, e', σ, F, Fv, S, nd, o, h => by
    cases ds with
    | nil => cases h
    | cons d ds =>
      obtain ⟨A, B, v, vs', rfl, rfl, o1, o2⟩ := o
      have h' : (if L.contains i || decide (e.length ≤ i) then none else bindP L is ds (Env.put e i d)) = some e' := h
      split at h'
      · cases h'
      · rename_i hc
        rw [Bool.or_eq_true, not_or] at hc
        have hl : ¬ e.length ≤ i := fun z => hc.2 (decide_eq_true z)
        have nd1 : (F ++ A).Nodup := nd.sublist (List.Sublist.append (List.Sublist.refl F) (List.sublist_append_left A B))
        obtain ⟨F1, S1, E1⟩ := bind_slot S nd1 o1 hl
        have sub1 : ∀ b ∈ F1, b ∈ F ++ A := fun b hb => (S1.nw b hb).elim id fun z => by obtain ⟨x, q⟩ := (E1.mem b hb).2; rw [z] at q; cases q
        have nd' : (F ++ A ++ B).Nodup := by rw [List.append_assoc]; exact nd
        obtain ⟨n1, nB, dj⟩ := List.nodup_append.mp nd'
        have nd2 : (F1 ++ B).Nodup := List.nodup_append.mpr ⟨S1.nd, nB, fun x hx y hy exy => dj x (sub1 x hx) y hy exy⟩
        obtain ⟨F2, S2, E2, k2, l2⟩ := bindP_env (vs := vs') ⟨S.sub, S1.nd, E1⟩ nd2 o2 h'
        refine ⟨F2, ?_, E2, Kp.trans ⟨by simp, fun j hj => ?_⟩ k2, by rw [List.length_cons, List.length_cons, l2]⟩
        · refine S2.perm (fun b hb => ?_) (fun b hb => hb) S2.nd
          rcases List.mem_append.mp hb with z | z
          · have := sub1 b z
            rcases List.mem_append.mp this with q | q <;> simp [q]
          · simp [z]
        · have : i ≠ j := fun z => hc.1 (by rw [z]; exact List.elem_eq_true_of_mem hj)
          rw [List.getElem?_set_ne this]
theorem par_any {is : List Nat} {m : Env → R (List D)} (h : tSm L W Wx (semPar L is m) Z σ H) : tVs W Wx m σ H (fun vs H1 => vs.length = is.length ∧ Z.nx (setP σ is vs) H1 ∧ ∀ p o, H1 p = none → Z.nx (setP σ is vs) (upd H1 p o)) := by
  obtain ⟨e, G, F, S, p⟩ := h
  refine ⟨e, G, F, S, p.go S.refl nomem fun ds e1 vs G1 H1 F1 Fa p1 S1 E1 r1 => ?_⟩
  obtain ⟨e2, c, p2⟩ := p1.of
  obtain ⟨F2, S2, E2, k2, l2⟩ := bindP_env (S1.sta E1) S1.nd r1 c
  refine ⟨l2, p2 _ G1 H1 F2 (S1.trans S2) E2 k2, fun q o hq => ?_⟩
  have S3 := Stp.new (o := o) S2.sh hq
  have hm : ∀ b ∈ F2, G1 b = none ∧ b ∉ ([] : List Addr) ∧ H1 b ≠ none := fun b hb => ⟨(E2.mem b hb).1, (fun z => nomatch z), fun z => by obtain ⟨x, q⟩ := (E2.mem b hb).2; rw [z] at q; cases q⟩
  exact p2 _ G1 _ F2 (S1.trans (S2.trans ((S3.beside S2.nd hm).perm (fun b hb => by simpa using hb) (fun b hb => by simp [hb]) S2.nd))) (E2.after S3) k2
theorem ps_par2E {i j : Nat} {x y : Str} {a b : Expr} {m : Env → R (List D)} {px py pt pos : Pos} {kt k2 : Nat} {pt2 : Pos} (hc : X.calm = true) (hN : X.N.Nodup) (hi : X.N[i]? = some x) (hj : X.N[j]? = some y) (hij : i ≠ j)
    (hx : X.env.scope.names.lookup x = some .local) (hy : X.env.scope.names.lookup y = some .local) (ha : PA X [a, b] (tVs W Wx m))
    (hw : swappedStores [.Tuple [.Name x px, .Name y py] kt pt] (.Tuple [a, b] k2 pt2) X.env = pure (some [x, y])) :
    PS X (.Assign [.Tuple [.Name x px, .Name y py] kt pt] (.Tuple [a, b] k2 pt2) pos) (tSm L W Wx (semPar L [i, j] m)) :=
  PS.imp (ps_par hc hN hi hj hij hx hy ha hw rfl) fun Z σ H h => Rd1.mono (fun vs H1 ⟨hl, q, _⟩ => by
    match vs, hl, q with
    | [v, w], _, q => exact ⟨v, w, rfl, q⟩) (par_any h)
theorem ps_par3E {i j l : Nat} {x y z : Str} {a b c : Expr} {m : Env → R (List D)} {px py pz pt pos : Pos} {kt k2 : Nat} {pt2 : Pos} (hc : X.calm = true) (hN : X.N.Nodup) (hi : X.N[i]? = some x) (hj : X.N[j]? = some y) (hl : X.N[l]? = some z) (hij : i ≠ j) (hil : i ≠ l) (hjl : j ≠ l)
    (hx : X.env.scope.names.lookup x = some .local) (hy : X.env.scope.names.lookup y = some .local) (hz : X.env.scope.names.lookup z = some .local) (ha : PA X [a, b, c] (tVs W Wx m))
    (hw : swappedStores [.Tuple [.Name x px, .Name y py, .Name z pz] kt pt] (.Tuple [a, b, c] k2 pt2) X.env = pure (some [x, y, z])) :
    PS X (.Assign [.Tuple [.Name x px, .Name y py, .Name z pz] kt pt] (.Tuple [a, b, c] k2 pt2) pos) (tSm L W Wx (semPar L [i, j, l] m)) :=
  PS.imp (ps_par3 hc hN hi hj hl hij hil hjl hx hy hz ha hw rfl) fun Z σ H h => Rd1.mono (fun vs H1 ⟨hl, q, _⟩ => by
    match vs, hl, q with
    | [v, w, u], _, q => exact ⟨v, w, u, rfl, q⟩) (par_any h)
/-- names one after another -/
def gNs : List Nat → TGs
  | [] => gNil
  | i :: is => gCons (gName i) (gNs is)
theorem gNs_of : ∀ {is : List Nat} {vs : List V} {σ : L2.St} {H : Hp} {Q : L2.St → Hp → Prop}, vs.length = is.length → Q (setP σ is vs) H → gNs is vs σ H Q
  | [], [], σ, H, Q, _, q => ⟨rfl, q⟩
  | [], _ :: _, _, _, _, hl, _ => by cases hl
  | i :: is, [], _, _, _, hl, _ => by cases hl
  | i :: is, v :: vs, σ, H, Q, hl, q => ⟨v, vs, rfl, gNs_of (by simpa using hl) q⟩
theorem ps_parNE {is : List Nat} {ts vals : List Expr} {m : Env → R (List D)} {pt pos : Pos} {kt k2 : Nat} {pt2 : Pos} (hK : X.K = W.K) (hc : X.calm = true) (ha : PA X vals (tVs W Wx m)) (hl : ∀ e ds e', m e = .ok ds e' → ds.length ≤ LN) (hg : PGs X ts (gNs is))
    (hn : (assignEach ts X.env).length = is.length) (hst : (assignEach ts X.env).findIdx? (·.1) = none) (hw : swappedStores [.Tuple ts kt pt] (.Tuple vals k2 pt2) X.env = pure none) :
    PS X (.Assign [.Tuple ts kt pt] (.Tuple vals k2 pt2) pos) (tSm L W Wx (semPar L is m)) := by
  refine PS.imp (ps_asg (pe_tup ha) (pg_tup (n := is.length) hc hg hn hst) rfl hw rfl) fun Z σ H h => ?_
  have z := par_any h
  obtain ⟨e, G, F, S, p⟩ := z
  refine ⟨e, G, F, S, ?_⟩
  cases c : m e with
  | no => rw [c] at p; exact p
  | exc x e1 => rw [c] at p; exact p
  | ok ds e1 =>
    rw [c] at p
    intro vs G1 H1 F1 Fa S1 E1 r1
    obtain ⟨hlen, _, q⟩ := p vs G1 H1 F1 Fa S1 E1 r1
    refine ⟨by rw [OwL.length r1]; exact sz (hl _ _ _ c), fun a ha => ⟨a, vs, rfl, SqT.of upd_same, hlen, gNs_of hlen (q a _ ha)⟩⟩

/-! ### x op= e -/
theorem ip_ok (o : Operator) : PIp X o (rP2 W (augD o)) := by
  intro pins s σ H x y v u Q I rx ry h
  obtain ⟨G, d1, d2, d, F1, F2, sub, o1, o2, hg0, nw⟩ := h
  have hk : augOk o = true := by
    cases c : augOk o with
    | true => rfl
    | false => unfold augD at hg0; rw [c] at hg0; cases hg0
  unfold augD at hg0
  rw [if_pos hk] at hg0
  have hg := hg0
  clear hg0
  cases d1 with
  | int i =>
    cases d2 with
    | int j =>
      have hg' : opI o i j = some d := hg
      cases o with
      | Add => cases hg'; exact iop_add pins s σ H x y v u Q I rx ry ⟨i, j, o1.2, o2.2, nw.int sub⟩
      | Sub => cases hg'; exact iop_sub pins s σ H x y v u Q I rx ry ⟨i, j, o1.2, o2.2, nw.int sub⟩
      | BitOr => cases hg'; exact iop_or pins s σ H x y v u Q I rx ry ⟨i, j, o1.2, o2.2, nw.int sub⟩
      | BitAnd => cases hg'; exact iop_and pins s σ H x y v u Q I rx ry ⟨i, j, o1.2, o2.2, nw.int sub⟩
      | _ => cases hk
    | _ => exact nomatch hg
  | str a =>
    cases d2 with
    | str b =>
      cases o with
      | Add =>
        have hg' : (if a.length + b.length ≤ LN then some (D.str (a ++ b)) else none) = some d := hg
        split at hg'
        · rename_i c
          cases hg'
          refine iop_add_str pins s σ H x y v u Q I rx ry ⟨sOf a, sOf b, o1.2, o2.2, by rw [sOf_len, sOf_len]; exact sz c, ?_⟩
          rw [sOf_app]
          exact nw.str sub
        · cases hg'
      | _ => exact nomatch hg
    | int k =>
      cases o with
      | Mult => cases hk
      | _ => exact nomatch hg
    | _ => exact nomatch hg
  | _ => exact nomatch hg
theorem aug_read {i : Nat} {o : Operator} {m : Env → R D} (h : tSm L W Wx (semAug L i o m) Z σ H) : tAug i (tE W Wx m) (rP2 W (augD o)) Z σ H := by
  obtain ⟨e, G, F, S, p⟩ := h
  unfold semAug at p
  cases c : Env.get e i with
  | none => rw [c] at p; exact p.elim
  | some a =>
    rw [c] at p
    have p : PostS L W Wx σ F G H Z (if owned a || L.contains i then .no else (m e).bind fun d e1 => (R.of (augD o a d) e1).bind fun r e2 => .ok .nx (Env.put e2 i r)) := p
    by_cases hc : (owned a || L.contains i) = true
    · rw [if_pos hc] at p
      exact p.elim
    · rw [if_neg hc] at p
      rw [Bool.or_eq_true, not_or] at hc
      have ho : owned a = false := by simpa using hc.1
      obtain ⟨A, Fi, B, rfl, ⟨v, q1, q2⟩, q3⟩ := S.env.cut (get_some c)
      have e0 := q2.nil_owned ho
      subst e0
      refine ⟨v, q1, e, G, _, S, p.go S.refl nomem fun d e1 y G1 H1 F1 Fa p1 S1 E1 r1 => ?_⟩
      obtain ⟨r, c1, p2⟩ := p1.of
      refine ⟨G1, a, d, r, [], Fa, S1.sh, q2.keep S1.sg, r1, c1, fun z G2 H2 Fz S2 oz => ?_⟩
      have hl : ¬ e1.length ≤ i := by
        have := (List.getElem?_eq_some_iff.mp q1).1
        rw [E1.len] at this
        omega
      have E2 := E1.after S2
      have T2 : Stp (A ++ [] ++ B) G H (F1 ++ Fz) G2 H2 := S1.drop.plus E1 S2
      obtain ⟨F3, S3, E3⟩ := bind_slot (T2.sta E2) T2.nd oz hl
      refine p2 _ G2 H2 F3 (T2.trans S3) E3 ⟨by simp, fun j hj => ?_⟩
      have : i ≠ j := fun z => hc.2 (by rw [z]; exact List.elem_eq_true_of_mem hj)
      rw [List.getElem?_set_ne this]
theorem ps_augE {i : Nat} {x : Str} {y : Expr} {o : Operator} {m : Env → R D} {pos pos' : Pos} (hN : X.N.Nodup) (hi : X.N[i]? = some x) (hx : Loc X.env.scope x) (hf : X.fn x = true ∨ X.env.scope.names.lookup x = some .local) (h : PE X y (tE W Wx m)) :
    PS X (.AugAssign (.Name x pos') o y pos) (tSm L W Wx (semAug L i o m)) := PS.imp (ps_aug hN hi hx h (ip_ok o) hf) fun _ _ _ h => aug_read h

/-! ### a slot's object is changed -/
theorem Ow.at_owned {d : D} (o : Ow W G H d F v) (h : owned d = true) : ∃ a F', v = .ref a ∧ F = a :: F' ∧ G a = none := by
  cases d with
  | lst m xs =>
    cases m with
    | true => obtain ⟨a, vs, F', rfl, rfl, g, _⟩ := o; exact ⟨a, F', rfl, rfl, g⟩
    | false => cases h
  | dct m t ks xs =>
    cases m with
    | true => obtain ⟨a, vs, F', ho, rfl, rfl, g, _⟩ := o; exact ⟨a, F', rfl, rfl, g⟩
    | false => cases h
  | ins m c fs xs =>
    cases m with
    | true => obtain ⟨a, dx, vs, F', rfl, rfl, g, _⟩ := o; exact ⟨a, F', rfl, rfl, g⟩
    | false => cases h
  | _ => cases h
theorem mut_slot {i : Nat} {d0 : D} (S1 : Stp F G H (F1 ++ Fa) G1 H1) (E1 : EnvR W G1 H1 e1 F1 σ) (hFa : ∀ b ∈ Fa, G1 b = none) (c : Env.get e1 i = some d0) (ho : owned d0 = true) :
    ∃ a F', σ[i]? = some (some (.ref a)) ∧ Ow W G1 H1 d0 (a :: F') (.ref a) ∧ G1 a = none ∧ (F' ++ Fa).Nodup ∧ (∀ b ∈ F' ++ Fa, b ≠ a ∧ G1 b = none) ∧
      ∀ hn d' F'' Fr, (∀ b ∈ F'' ++ Fr, b ∈ F' ++ Fa) → (F'' ++ Fr).Nodup → Ow W G1 (upd H1 a hn) d' (a :: F'') (.ref a) → ∃ F2, Stp F G H (F2 ++ Fr) G1 (upd H1 a hn) ∧ EnvR W G1 (upd H1 a hn) (Env.put e1 i d') F2 σ := by
  obtain ⟨A, Fi, B, rfl, ⟨v, q1, q2⟩, q3⟩ := E1.cut (get_some c)
  obtain ⟨a, F', rfl, rfl, ga⟩ := q2.at_owned ho
  have nd := S1.nd
  have pm : (A ++ (a :: F') ++ B ++ Fa).Perm (a :: (A ++ B ++ (F' ++ Fa))) := by
    have p1 : (A ++ (a :: F') ++ B ++ Fa).Perm (a :: (A ++ (F' ++ (B ++ Fa)))) := by
      simp only [List.append_assoc, List.cons_append]
      exact List.perm_middle
    have p2 : (A ++ (F' ++ (B ++ Fa))).Perm (A ++ B ++ (F' ++ Fa)) := by
      rw [List.append_assoc A B]
      refine List.Perm.append_left A ?_
      rw [← List.append_assoc, ← List.append_assoc]
      exact List.Perm.append_right Fa List.perm_append_comm
    exact p1.trans (List.Perm.cons a p2)
  have nd2 := (pm.nodup_iff).mp nd
  obtain ⟨nin, nd3⟩ := List.nodup_cons.mp nd2
  obtain ⟨nAB, nFF, dj⟩ := List.nodup_append.mp nd3
  refine ⟨a, F', q1, q2, ga, nFF, fun b hb => ⟨fun z => nin (by subst z; exact List.mem_append_right _ hb), ?_⟩, fun hn d' F'' Fr hsub hnd od => ?_⟩
  · rcases List.mem_append.mp hb with z | z
    · exact (q2.mem b (List.mem_cons_of_mem _ z)).1
    · exact hFa b z
  · have S2 : Stp F G H (A ++ (a :: F') ++ B ++ Fa) G1 (upd H1 a hn) := S1.put (by simp) ga
    have fr : ∀ b ∈ A ++ B, G1 b = none ∧ upd H1 a hn b = H1 b := fun b hb => by
      refine ⟨(E1.mem b (by rcases List.mem_append.mp hb with z | z <;> simp [z])).1, upd_ne fun z => ?_⟩
      subst z
      exact nin (List.mem_append_left _ hb)
    have E2 := (q3 (G' := G1) (H' := upd H1 a hn) Sm.refl fr).2 od
    rw [set_same q1] at E2
    refine ⟨A ++ (a :: F'') ++ B, S2.perm (fun _ z => z) (fun b hb => ?_) ?_, E2⟩
    · have hb' : b ∈ A ∨ b = a ∨ b ∈ F'' ++ Fr ∨ b ∈ B := by
        simp only [List.mem_append, List.mem_cons] at hb ⊢
        rcases hb with ((z | z | z) | z) | z
        · exact .inl z
        · exact .inr (.inl z)
        · exact .inr (.inr (.inl (.inl z)))
        · exact .inr (.inr (.inr z))
        · exact .inr (.inr (.inl (.inr z)))
      rcases hb' with z | z | z | z
      · simp [z]
      · simp [z]
      · have := hsub b z
        simp only [List.mem_append] at this
        rcases this with q | q <;> simp [q]
      · simp [z]
    · have pm2 : (A ++ (a :: F'') ++ B ++ Fr).Perm (a :: (A ++ B ++ (F'' ++ Fr))) := by
        have p1 : (A ++ (a :: F'') ++ B ++ Fr).Perm (a :: (A ++ (F'' ++ (B ++ Fr)))) := by
          simp only [List.append_assoc, List.cons_append]
          exact List.perm_middle
        have p2 : (A ++ (F'' ++ (B ++ Fr))).Perm (A ++ B ++ (F'' ++ Fr)) := by
          rw [List.append_assoc A B]
          refine List.Perm.append_left A ?_
          rw [← List.append_assoc, ← List.append_assoc]
          exact List.Perm.append_right Fr List.perm_append_comm
        exact p1.trans (List.Perm.cons a p2)
      refine (pm2.nodup_iff).mpr (List.nodup_cons.mpr ⟨fun z => ?_, List.nodup_append.mpr ⟨nAB, hnd, fun x hx y hy exy => dj x hx y (hsub y hy) exy⟩⟩)
      rcases List.mem_append.mp z with q | q
      · exact nin (List.mem_append_left _ q)
      · exact nin (List.mem_append_right _ (hsub a q))

/-! ### x[j] = e -/
theorem PSet.imp {t t' : TSet} (h : PSet X t) (k : ∀ o i v H Q, t' o i v H Q → t o i v H Q) : PSet X t' := fun pins s σ H o i v ov iv u Q I ro ri rv q => h pins s σ H o i v ov iv u Q I ro ri rv (k _ _ _ _ _ q)
theorem PSet.or {t t' : TSet} (h : PSet X t) (h' : PSet X t') : PSet X (fun o i v H Q => t o i v H Q ∨ t' o i v H Q) := fun pins s σ H o i v ov iv u Q I ro ri rv q => q.elim (h pins s σ H o i v ov iv u Q I ro ri rv) (h' pins s σ H o i v ov iv u Q I ro ri rv)
/-- what a store does, by data -/
def rSetP (W : Wd) : TSet := fun o i v H Q => ∃ G a F' d0 k d d' Fa Fk, Sm G H ∧ o = .ref a ∧ Ow W G H d0 (a :: F') (.ref a) ∧ Ow W G H k Fk i ∧ Ow W G H d Fa v ∧ (F' ++ Fa).Nodup ∧ (∀ b ∈ F' ++ Fa, b ≠ a ∧ G b = none) ∧ G a = none ∧ setD d0 k d = some d' ∧
  ∀ hn F'', (∀ b ∈ F'', b ∈ F' ++ Fa) → F''.Nodup → Ow W G (upd H a hn) d' (a :: F'') (.ref a) → Q (upd H a hn)
theorem set_ok (hu : X.A.units + 1 < cLine) : PSet X (rSetP W) := by
  refine PSet.imp (PSet.or set_list (set_dict hu)) fun o i v H Q ⟨G, a, F', d0, k, d, d', Fa, Fk, sub, eo, o0, ok, od, nd, ne, ga, hs, q⟩ => ?_
  unfold setD at hs
  split at hs
  · rename_i xs n
    split at hs
    · rename_i m hm
      cases hs
      obtain ⟨a', vs, F'', e1, e2, _, hh, l⟩ := o0
      cases e1
      cases e2
      have hgm : xs[m]? = some (xs[m]'(ixN_seq hm).2.1) := List.getElem?_eq_getElem _
      obtain ⟨A, Fi, B, u, rfl, q1, q2, q3⟩ := l.cut hgm
      refine .inl ⟨a, vs, n, m, eo, ok.2, hh, by rw [l.length]; exact hm, ?_⟩
      have fr : ∀ b, b ∈ A ++ Fi ++ B ++ Fa → upd H a (.lst (vs.set m v)) b = H b := fun b hb => upd_ne (ne b hb).1
      have ol := q3 (G' := G) (H' := upd H a (.lst (vs.set m v))) Sm.refl (fun b hb => ⟨(ne b (by rcases List.mem_append.mp hb with z | z <;> simp [z])).2, fr b (by rcases List.mem_append.mp hb with z | z <;> simp [z])⟩) (od.frame Sm.refl fun b hb => ⟨(ne b (by simp [hb])).2, fr b (by simp [hb])⟩)
      refine q _ (A ++ Fa ++ B) (fun b hb => ?_) ?_ ⟨a, vs.set m v, A ++ Fa ++ B, rfl, rfl, ga, upd_same, ol⟩
      · simp only [List.mem_append] at hb ⊢
        rcases hb with (z | z) | z <;> simp [z]
      · have s1 : (A ++ B ++ Fa).Sublist (A ++ Fi ++ B ++ Fa) := (List.Sublist.append (List.sublist_append_left A Fi) (List.Sublist.refl B)).append (List.Sublist.refl Fa)
        refine (List.Perm.nodup_iff ?_).mp (nd.sublist s1)
        rw [List.append_assoc, List.append_assoc]
        exact List.Perm.append_left A List.perm_append_comm
    · cases hs
  · rename_i ks vs
    split at hs
    · rename_i hc
      cases hs
      simp only [Bool.and_eq_true, decide_eq_true_eq] at hc
      obtain ⟨⟨hk, hf⟩, hl⟩ := hc
      obtain ⟨a', us, F2, ho, e1, e2, _, hh, dd, l⟩ := o0
      cases e1
      cases e2
      obtain ⟨keys, k1, k2, rfl⟩ := dd.k
      obtain ⟨key, ek⟩ := keyD_of hk
      have en := od.nil_of hf
      subst en
      have ev := key_val ek ok
      obtain ⟨ks', vs', keys', us', F3, p1, p2, p3, p4, p5, p6⟩ := put_ok ek od k1 k2 l
      have hlen : (keys.zip us).length < sizeLine := by
        have e3 := congrArg List.length k1
        rw [List.length_map, List.length_map] at e3
        rw [List.length_zip, ← k2, Nat.min_self, ← e3]
        exact szlt hl
      refine .inr ⟨a, upd H a (.dK (putK (keys.zip us) key v)), eo, .inl ⟨_, key, hh, ev, hlen, rfl⟩, ?_⟩
      refine q _ F3 (fun b hb => by rw [List.append_nil]; exact p5.subset hb) ?_ ?_
      · rw [List.append_nil] at nd
        exact nd.sublist p5
      · rw [p1]
        refine ⟨a, us', F3, _, rfl, rfl, ga, upd_same, ⟨keys', p3, p4, by rw [p2]⟩, p6.frame Sm.refl fun b hb => ?_⟩
        have := ne b (by rw [List.append_nil]; exact p5.subset hb)
        exact ⟨this.2, upd_ne this.1⟩
    · cases hs
  · cases hs
theorem setD_owned {o k d d' : D} (h : setD o k d = some d') : owned o = true := by
  unfold setD at h
  split at h
  · rfl
  · rfl
  · cases h
theorem sub_read {i : Nat} {mj m : Env → R D} (h : tSm L W Wx (semSub i mj m) Z σ H) : tAsg (tE W Wx m) (gSub (tVar i) (tE W Wx mj) (rSetP W)) Z σ H := by
  obtain ⟨e, G, F, S, p⟩ := h
  refine ⟨e, G, F, S, p.go S.refl nomem fun d e1 y G1 H1 F1 Fa p1 S1 E1 r1 => ?_⟩
  cases c0 : Env.get e1 i with
  | none => rw [c0] at p1; exact p1.elim
  | some d00 =>
    rw [c0] at p1
    obtain ⟨A, Fi, B, _, ⟨v, q1, _⟩, _⟩ := E1.cut (get_some c0)
    have p1' : PostS L W Wx σ F G H Z ((mj e1).bind fun k e2 => (match Env.get e2 i with
      | some o => (R.of (setD o k d) e2).bind fun o' e3 => .ok .nx (Env.put e3 i o')
      | none => .no)) := p1
    refine ⟨v, q1, e1, G1, F1, S1.sta E1, p1'.go S1 (Ow.mem r1) fun k e2 kv G2 H2 F2 Fb p2 S2 E2 r2 => ?_⟩
    cases c1 : Env.get e2 i with
    | none => rw [c1] at p2; exact p2.elim
    | some d0 =>
      rw [c1] at p2
      obtain ⟨d', c2, p3⟩ := PostS.of (o := setD d0 k d) (k := fun o' e3 => .ok .nx (Env.put e3 i o')) p2
      obtain ⟨S3, k3⟩ := Stp.two S1 S2 (Ow.mem r1)
      have r1' : Ow W G2 H2 d Fa y := Ow.frame S2.sg (show Ow W G1 H1 d Fa y from r1) k3
      have S4 : Stp F G H (F2 ++ Fa) G2 H2 := S3.perm (fun _ z => z) (fun b hb => by rcases List.mem_append.mp hb with z | z <;> simp [z]) (S3.nd.sublist (List.Sublist.append (List.sublist_append_left F2 Fb) (List.Sublist.refl Fa)))
      obtain ⟨a, F', s1, o0, ga, nd, ne, fin⟩ := mut_slot S4 E2 (fun b hb => (r1'.mem b hb).1) c1 (setD_owned c2)
      rw [q1] at s1
      cases s1
      refine ⟨G2, a, F', d0, k, d, d', Fa, Fb, S2.sh, rfl, o0, r2, r1', nd, ne, ga, c2, fun hn F'' hsub hnd od => ?_⟩
      obtain ⟨F3, S5, E3⟩ := fin hn d' F'' [] (by rw [List.append_nil]; exact hsub) (by rw [List.append_nil]; exact hnd) od
      rw [List.append_nil] at S5
      exact p3 σ G2 _ F3 S5 E3 Kp.refl
theorem ps_subE {i : Nat} {x : Str} {yj y : Expr} {mj m : Env → R D} {p pos pos' : Pos} (hu : X.A.units + 1 < cLine) (hN : X.N[i]? = some x) (hv : Vis X.env.scope x) (hd : (x == ("__debug__" : Str)) = false) (hcd : (x == ("__classdict__" : Str)) = false) (hj : PE X yj (tE W Wx mj)) (h : PE X y (tE W Wx m))
    (ha : ∀ v, assign (.Subscript (.Name x p) yj pos') X.env v = (do
      let ov ← holding [v] (eval (.Name x p) X.env)
      let iv ← holding [v, ov] (eval yj X.env)
      standAt pos'
      holding [v, ov, iv] (setItem ov iv v)
      release [v, ov, iv] [])) (hs : swapsWithSole [.Subscript (.Name x p) yj pos'] y pos.line X.env = pure false) (hw : swappedStores [.Subscript (.Name x p) yj pos'] y X.env = pure none) :
    PS X (.Assign [.Subscript (.Name x p) yj pos'] y pos) (tSm L W Wx (semSub i mj m)) := PS.imp (ps_asg h (pg_sub (pe_var hN hv hd hcd) hj (set_ok hu) ha) hs hw rfl) fun _ _ _ h => sub_read h
end
end Wpk
set_option Elab.async false
set_option linter.all false
set_option maxRecDepth 100000
set_option maxHeartbeats 1000000
/-! P5: methods of built-in types. -/
namespace Wpk
open PySem PySem.Spec PyProof.Rows L2
section
variable {X : Cx} {L : List Nat} {W : Wd} {Wx : WX} {σ σ1 σ' : L2.St} {G G1 G2 G' H H1 H2 H' : Hp} {F F1 F2 Fa Fb Fv Fl : List Addr} {e e1 : Env} {Z : Ends} {v : V} {Q : VK}
/-- of a built-in type -/
def tyW (W : Wd) (T : String) (x : V) (H : Hp) : Prop := ∃ G d F, Sm G H ∧ Ow W G H d F x ∧ tyD d = some T
theorem ty_ok {T : String} (hK : X.K = W.K) : TyOk X T (tyW W T) := by
  intro pins σ H s x v I r ⟨G, d, F, sub, o, ht⟩
  cases d with
  | str z =>
    cases ht
    obtain ⟨_, rfl⟩ := o
    obtain ⟨t, rfl⟩ := r
    exact ⟨typeIs_str s _ t, fun _ e => nomatch e⟩
  | lst m xs =>
    cases ht
    obtain ⟨a, vs, F', rfl, q, l⟩ := o.sqL sub
    exact tyV_is I r (.inl ⟨rfl, vs, by rw [hK]; exact q⟩)
  | dct m t ks xs =>
    cases ht
    obtain ⟨a, vs, F', ho, rfl, q, dd, l⟩ := o.rdD sub
    cases r
    have ex : ∃ o, s.heap.get? a = some o ∧ o.ExactDict := by
      have z := q.ok I.hok
      unfold DHO at dd
      cases t with
      | true =>
        obtain ⟨_, _, _, rfl⟩ := dd
        obtain ⟨_, _, _, _, o, _, _, e, ex, _⟩ := z
        exact ⟨o, e, ex⟩
      | false =>
        obtain ⟨_, _, _, rfl⟩ := dd
        obtain ⟨_, _, _, _, o, _, _, e, ex, _⟩ := z
        exact ⟨o, e, ex⟩
    obtain ⟨o, e, ex⟩ := ex
    refine ⟨⟨o, e, ex.1⟩, fun b e2 => ?_⟩
    cases e2
    exact ⟨o, e, ex.2.1⟩
  | _ => cases ht
def gT (g : D → List D → Option D) (T : String) : List D → Option D
  | d :: ds => if tyD d = some T then g d ds else none
  | [] => none
theorem mt_read {ts : List String} {g : D → List D → Option D} {m : Env → R Od} {as : Env → R (List Od)} {T0 : String} (h0 : T0 ∈ ts) (h : tE W Wx (semMt ts g m as) σ H Q) : ∃ T, T ∈ ts ∧ tMG (tyW W T) (fun x xs => rPs W (gT g T) (x :: xs)) (tO W Wx m) (tOs W Wx as) σ H Q := by
  obtain ⟨e, G, F, S, p⟩ := h
  have p : Post (rD W) W Wx σ F G H Q ((m e).bind fun o e1 => match (o.res e1).bind tyD with
    | some T => if ts.contains T then (as e1).bind fun os e2 => (match o.res e2, resL e2 os with
      | some d, some ds => if tyD d = some T then R.of (g d ds) e2 else .no
      | _, _ => .no) else .no
    | none => .no) := p
  cases c : m e with
  | no => rw [c] at p; exact p.elim
  | exc x e1 =>
    rw [c] at p
    refine ⟨T0, h0, e, G, F, S, ?_⟩
    rw [c]
    exact p
  | ok o e1 =>
    rw [c] at p
    have p : Post (rD W) W Wx σ F G H Q (match (o.res e1).bind tyD with
      | some T => if ts.contains T then (as e1).bind fun os e2 => (match o.res e2, resL e2 os with
        | some d, some ds => if tyD d = some T then R.of (g d ds) e2 else .no
        | _, _ => .no) else .no
      | none => .no) := p
    cases c1 : (o.res e1).bind tyD with
    | none => rw [c1] at p; exact p.elim
    | some T =>
      rw [c1] at p
      dsimp only at p
      by_cases hT : ts.contains T = true
      · rw [if_pos hT] at p
        refine ⟨T, by simpa using hT, e, G, F, S, ?_⟩
        rw [c]
        intro v1 G1 H1 F1 Fa S1 E1 r1
        obtain ⟨d0, e0, ht⟩ := Option.bind_eq_some_iff.mp c1
        obtain ⟨Fx, o1, _⟩ := rO.view r1 E1 e0
        refine ⟨⟨G1, d0, Fx, S1.sh, o1, ht⟩, e1, G1, F1, S1.sta E1, p.go S1 (rO.mem r1) fun os e2 vs G2 H2 F2 Fb p2 S2 E2 r2 => ?_⟩
        obtain ⟨S12, k12⟩ := Stp.two S1 S2 (rO.mem r1)
        have r1' := rO.frame r1 S2.sg k12
        cases c2 : o.res e2 with
        | none => rw [c2] at p2; exact p2.elim
        | some d =>
          cases c3 : resL e2 os with
          | none => rw [c2, c3] at p2; exact p2.elim
          | some ds =>
            rw [c2, c3] at p2
            dsimp only at p2
            by_cases hd : tyD d = some T
            · rw [if_pos hd] at p2
              obtain ⟨Fy, o2, _⟩ := r1'.view E2 c2
              obtain ⟨d', c4, p4⟩ := Post.of (o := g d ds) p2
              refine ⟨G2, d :: ds, d', S2.sh, .cons ⟨Fy, o2⟩ (rOs.view r2 E2 c3), ?_, p4.fin S12.drop.drop E2⟩
              show (if tyD d = some T then g d ds else none) = some d'
              rw [if_pos hd]
              exact c4
            · rw [if_neg hd] at p2; exact p2.elim
      · rw [if_neg hT] at p; exact p.elim
theorem MtR.imp {id : String} {r r' : V → List V → Hp → VK → Prop} (h : MtR X id r) (k : ∀ x xs H Q, r' x xs H Q → r x xs H Q) : MtR X id r' := fun pins s σ H x xs v us Q I rx rv q => h pins s σ H x xs v us Q I rx rv (k _ _ _ _ q)
theorem vwc {d : D} {ds : List D} {x : V} {xs : List V} (h : Paired (fun v d => ∃ F0, Ow W G H d F0 v) (x :: xs) (d :: ds)) : (∃ F0, Ow W G H d F0 x) ∧ Paired (fun v d => ∃ F0, Ow W G H d F0 v) xs ds := by
  cases h with
  | cons r t => exact ⟨r, t⟩
theorem OwL.strs : ∀ {xs : List D} {ss : List (List Nat)} {F : List Addr} {vs : List V}, OwL W G H xs F vs → strsOf xs = some ss → vs = (ss.map sOf).map V.str
  | [], ss, F, vs, h, c => by cases c; exact h.2
  | x :: xs, ss, F, vs, h, c => by
    obtain ⟨F1, F2, v, vs', rfl, rfl, h1, h2⟩ := h
    cases x with
    | str z =>
      have c' : (strsOf xs).map (z :: ·) = some ss := c
      cases c2 : strsOf xs with
      | none => rw [c2] at c'; cases c'
      | some zs =>
        rw [c2] at c'
        cases c'
        obtain ⟨_, rfl⟩ := h1
        rw [h2.strs c2]
        rfl
    | _ => cases c
theorem lens_sOf (ss : List (List Nat)) : ((ss.map sOf).map (·.length)) = ss.map (·.length) := by
  rw [List.map_map]
  exact List.map_congr_left fun a _ => sOf_len a
theorem mt_joinE (hK : X.K = W.K) : MtR X "str.join" (fun x xs => rPs W (gT (mtD .join) "str") (x :: xs)) := MtR.imp mt_join fun x xs H Q ⟨G, ds, d, sub, pr, hg, nw⟩ => by
  cases ds with
  | nil => cases pr
  | cons d0 ds =>
    obtain ⟨⟨F0, o⟩, pr1⟩ := vwc pr
    cases d0 with
    | str a =>
      obtain ⟨_, rfl⟩ := o
      have J : ∀ {ys : List D} {F : List Addr} {vs : List V} {p : Addr}, OwL W G H ys F vs → joinD a ys = some d → (SqL X.K H p vs ∨ SqT X.K H p vs) → ∃ (b : Str) (p' : Addr) (zs : List Str), V.str (sOf a) = .str b ∧ [V.ref p] = [.ref p'] ∧ (SqL X.K H p' (zs.map V.str) ∨ SqT X.K H p' (zs.map V.str)) ∧ (zs.map (·.length)).sum + zs.length * b.length ≤ 16777216 ∧ Q (.str (Txt.join b zs)) H := fun {ys F vs p} l hj sq => by
        unfold joinD at hj
        cases c : strsOf ys with
        | none => rw [c] at hj; cases hj
        | some ss =>
          rw [c] at hj
          dsimp only at hj
          split at hj
          · rename_i hb
            cases hj
            rw [l.strs c] at sq
            refine ⟨sOf a, p, ss.map sOf, rfl, rfl, sq, by rw [lens_sOf, sOf_len, List.length_map]; exact hb, ?_⟩
            have ej : Txt.join (sOf a) (ss.map sOf) = sOf (TL.joinL a ss) := SX.join_S a ss
            rw [ej]
            exact nw.str sub
          · cases hj
      match ds, pr1, hg with
      | [.lst m ys], pr1, hg =>
        obtain ⟨w, F0, rfl, o⟩ := vw1 pr1
        obtain ⟨p, vs, F', rfl, q, l⟩ := o.sqL sub
        exact J l hg (.inl (by rw [hK]; exact q))
      | [.tup ys], pr1, hg =>
        obtain ⟨w, F0, rfl, o⟩ := vw1 pr1
        obtain ⟨p, vs, rfl, q, l⟩ := o.sqT sub
        exact J l hg (.inr (by rw [hK]; exact q))
    | _ => exact nomatch hg
theorem ow_strs : ∀ (ss : List (List Nat)), OwL W G H (ss.map D.str) [] ((ss.map sOf).map V.str)
  | [] => ⟨rfl, rfl⟩
  | s :: ss => ⟨[], [], .str (sOf s), (ss.map sOf).map V.str, rfl, rfl, ⟨rfl, rfl⟩, ow_strs ss⟩
theorem mt_splitE : MtR X "str.split" (fun x xs => rPs W (gT (mtD .split) "str") (x :: xs)) := MtR.imp mt_split fun x xs H Q ⟨G, ds, d, sub, pr, hg, nw⟩ => by
  cases ds with
  | nil => cases pr
  | cons d0 ds =>
    obtain ⟨⟨F0, o⟩, pr1⟩ := vwc pr
    cases d0 with
    | str a =>
      obtain ⟨_, rfl⟩ := o
      match ds, pr1, hg with
      | [.str b], pr1, hg =>
        obtain ⟨w, F0, rfl, o⟩ := vw1 pr1
        obtain ⟨_, rfl⟩ := o
        have hg' : (if b.isEmpty = false ∧ (b.all fun x => decide (x < 256)) = true ∧ a.length + 2 ≤ LN then some (D.lst true ((TL.spl b 0 [] a).map .str)) else none) = some d := hg
        split at hg'
        · rename_i hb
          cases hg'
          have hne : b ≠ [] := fun z => by rw [z] at hb; exact absurd hb.1 (by simp)
          refine ⟨sOf a, sOf b, rfl, rfl, ?_, by rw [sOf_len]; exact sz hb.2.2, fun p hp => ?_⟩
          · rw [sOf_len]
            cases b with
            | nil => exact absurd rfl hne
            | cons c b => rfl
          · have es : Txt.split (sOf a) (sOf b) = (TL.spl b 0 [] a).map sOf := SX.split_S hne hb.2.1
            rw [es]
            exact nw.lst sub (ow_strs _) hp
        · cases hg'
    | _ => exact nomatch hg
theorem flat_eq {d : D} {F : List Addr} {v : V} (o : Ow W G H d F v) (h : flatD d = true) : flatV v = true := by
  cases d with
  | non => obtain ⟨_, rfl⟩ := o; rfl
  | bl _ => obtain ⟨_, rfl⟩ := o; rfl
  | int _ => obtain ⟨_, rfl⟩ := o; rfl
  | str _ => obtain ⟨_, rfl⟩ := o; rfl
  | _ => cases h
theorem flats_eq : ∀ {ds : List D} {F : List Addr} {vs : List V}, OwL W G H ds F vs → ds.all flatD = true → vs.all flatV = true
  | [], _, _, h, _ => by rw [h.2]; rfl
  | d :: ds, F, vs, h, k => by
    obtain ⟨F1, F2, v, vs', _, rfl, h1, h2⟩ := h
    rw [List.all_cons, Bool.and_eq_true] at k
    rw [List.all_cons, flat_eq h1 k.1, flats_eq h2 k.2]
    rfl
theorem idx_at {y : D} {w : V} {Fy : List Addr} (oy : Ow W G H y Fy w) (hy : flatD y = true) : ∀ {ds : List D} {F : List Addr} {vs : List V} {n : Nat}, OwL W G H ds F vs → ds.all flatD = true → idxOf y ds = some n → ∃ z, vs[n]? = some z ∧ eqV z w = true ∧ ∀ (m : Nat) (z' : V), m < n → vs[m]? = some z' → eqV z' w = false
  | [], _, _, _, _, _, c => nomatch c
  | d :: ds, F, vs, n, h, k, c => by
    obtain ⟨F1, F2, v, vs', _, rfl, h1, h2⟩ := h
    rw [List.all_cons, Bool.and_eq_true] at k
    have c' : (if eqD d y = true then some 0 else (idxOf y ds).map (· + 1)) = some n := c
    split at c'
    · rename_i he
      cases c'
      refine ⟨v, rfl, by rw [eqV_flat h1 oy k.1 hy]; exact he, fun m z' hm => absurd hm (Nat.not_lt_zero m)⟩
    · rename_i he
      cases c2 : idxOf y ds with
      | none => rw [c2] at c'; cases c'
      | some n' =>
        rw [c2] at c'
        cases c'
        obtain ⟨z, q1, q2, q3⟩ := idx_at oy hy h2 k.2 c2
        refine ⟨z, q1, q2, fun m z' hm hz => ?_⟩
        cases m with
        | zero =>
          cases hz
          rw [eqV_flat h1 oy k.1 hy]
          simpa using he
        | succ m => exact q3 m z' (Nat.lt_of_succ_lt_succ hm) hz
theorem mt_lindexE (hK : X.K = W.K) : MtR X "list.index" (fun x xs => rPs W (gT (mtD .index) "list") (x :: xs)) := MtR.imp mt_index fun x xs H Q ⟨G, ds, d, sub, pr, hg, nw⟩ => by
  cases ds with
  | nil => cases pr
  | cons d0 ds =>
    obtain ⟨⟨F0, o⟩, pr1⟩ := vwc pr
    cases d0 with
    | lst m ys =>
      obtain ⟨a, vs, F', rfl, q, l⟩ := o.sqL sub
      match ds, pr1, hg with
      | [y], pr1, hg =>
        obtain ⟨w, F0, rfl, o⟩ := vw1 pr1
        have hg' : (if (flatD y && ys.all flatD) = true then (idxOf y ys).map (fun n => D.int n) else none) = some d := hg
        split at hg'
        · rename_i hf
          rw [Bool.and_eq_true] at hf
          cases c : idxOf y ys with
          | none => rw [c] at hg'; cases hg'
          | some n =>
            rw [c] at hg'
            cases hg'
            obtain ⟨z, q1, q2, q3⟩ := idx_at o hf.1 l hf.2 c
            exact ⟨a, vs, w, n, z, rfl, rfl, by rw [hK]; exact q, flat_eq o hf.1, flats_eq l hf.2, q1, q2, q3, nw.int sub⟩
        · cases hg'
    | str a =>
      have hg' : (if tyD (.str a) = some "list" then mtD .index (.str a) ds else none) = some d := hg
      have hn : ¬ tyD (.str a) = some "list" := fun z => absurd (show some "str" = some "list" from z) (by decide)
      rw [if_neg hn] at hg'
      cases hg'
    | _ => first | exact nomatch hg | (exact absurd (show (if _ then _ else none) = some d from hg) (by simp [tyD, mtD]))
theorem mt_sindexE : MtR X "str.index" (fun x xs => rPs W (gT (mtD .index) "str") (x :: xs)) := MtR.imp mt_sindex fun x xs H Q ⟨G, ds, d, sub, pr, hg, nw⟩ => by
  cases ds with
  | nil => cases pr
  | cons d0 ds =>
    obtain ⟨⟨F0, o⟩, pr1⟩ := vwc pr
    cases d0 with
    | str a =>
      obtain ⟨_, rfl⟩ := o
      match ds, pr1, hg with
      | [.str b], pr1, hg =>
        obtain ⟨w, F0, rfl, o⟩ := vw1 pr1
        obtain ⟨_, rfl⟩ := o
        have hg' : (match Builtin.Str.occurrences (sOf a) (sOf b) 0 a.length 1 with | i :: _ => some (D.int i) | [] => none) = some d := hg
        cases c : Builtin.Str.occurrences (sOf a) (sOf b) 0 a.length 1 with
        | nil => rw [c] at hg'; cases hg'
        | cons i rest =>
          rw [c] at hg'
          cases hg'
          exact ⟨sOf a, sOf b, i, rest, rfl, rfl, by rw [sOf_len]; exact c, nw.int sub⟩
    | lst m ys =>
      have hg' : (if tyD (.lst m ys) = some "str" then mtD .index (.lst m ys) ds else none) = some d := hg
      have hn : ¬ tyD (.lst m ys) = some "str" := fun z => absurd (show some "list" = some "str" from z) (by decide)
      rw [if_neg hn] at hg'
      cases hg'
    | _ => first | exact nomatch hg | (exact absurd (show (if _ then _ else none) = some d from hg) (by simp [tyD, mtD]))
/-! ### methods that change a slot's object -/
def rMut (W : Wd) (T : String) (g : D → List D → Option (D × D)) : V → List V → Hp → VK → Prop := fun x xs H Q => ∃ G a F' d0 ds d' r Fa, Sm G H ∧ x = .ref a ∧ Ow W G H d0 (a :: F') (.ref a) ∧ tyD d0 = some T ∧ OwL W G H ds Fa xs ∧ (F' ++ Fa).Nodup ∧ (∀ b ∈ F' ++ Fa, b ≠ a ∧ G b = none) ∧ G a = none ∧ owned d0 = true ∧ g d0 ds = some (d', r) ∧
  ∀ hn F'' Fr rv, (∀ b ∈ F'' ++ Fr, b ∈ F' ++ Fa) → (F'' ++ Fr).Nodup → Ow W G (upd H a hn) d' (a :: F'') (.ref a) → Ow W G (upd H a hn) r Fr rv → Q rv (upd H a hn)
theorem Post.of2 {α β γ : Type} {rp : Rp γ β} {Q : β → Hp → Prop} {o : Option α} {k : α → Env → R γ} (h : Post rp W Wx σ F G H Q ((R.of o e).bind k)) : ∃ a, o = some a ∧ Post rp W Wx σ F G H Q (k a e) := by
  cases o with
  | none => exact h.elim
  | some a => exact ⟨a, rfl, h⟩
theorem mut_read {i : Nat} {g : D → List D → Option (D × D)} {m : Env → R (List D)} {ts : List String} (h : tE W Wx (semMut ts g i m) σ H Q) : ∃ T, T ∈ ts ∧ tMG (tyW W T) (rMut W T g) (tVar i) (tVs W Wx m) σ H Q := by
  obtain ⟨e, G, F, S, p⟩ := h
  unfold semMut at p
  cases c : Env.get e i with
  | none => rw [c] at p; exact p.elim
  | some d0 =>
    rw [c] at p
    dsimp only at p
    cases c1 : tyD d0 with
    | none => rw [c1] at p; exact p.elim
    | some T =>
      rw [c1] at p
      dsimp only at p
      by_cases hT : (ts.contains T && owned d0) = true
      · rw [if_pos hT] at p
        rw [Bool.and_eq_true] at hT
        obtain ⟨A, Fi, B, eF, ⟨v, q1, q2⟩, q3⟩ := S.env.cut (get_some c)
        refine ⟨T, by simpa using hT.1, v, q1, ⟨G, d0, Fi, S.sub, q2, c1⟩, e, G, F, S, p.go S.refl nomem fun ds e1 vs G1 H1 F1 Fa p1 S1 E1 r1 => ?_⟩
        cases c2 : Env.get e1 i with
        | none => rw [c2] at p1; exact p1.elim
        | some d1 =>
          rw [c2] at p1
          dsimp only at p1
          by_cases h1 : owned d1 = true ∧ tyD d1 = some T
          · rw [if_pos h1] at p1
            have r1' : OwL W G1 H1 ds Fa vs := r1
            obtain ⟨q, c3, p3⟩ := Post.of2 (o := g d1 ds) p1
            obtain ⟨a, F', s1, o0, ga, nd, ne, fin⟩ := mut_slot S1 E1 (fun b hb => (r1'.mem b hb).1) c2 h1.1
            rw [q1] at s1
            cases s1
            refine ⟨G1, a, F', d1, ds, q.1, q.2, Fa, S1.sh, rfl, o0, h1.2, r1', nd, ne, ga, h1.1, c3, fun hn F'' Fr rv hsub hnd od or => ?_⟩
            obtain ⟨F3, S5, E3⟩ := fin hn q.1 F'' Fr hsub hnd od
            exact p3 rv G1 _ F3 Fr S5 E3 or
          · rw [if_neg h1] at p1; exact p1.elim
      · rw [if_neg hT] at p; exact p.elim
theorem mt_extE : MtR X "list.extend" (rMut W "list" (mutD .ext)) := MtR.imp mt_extend fun x xs H Q ⟨G, a, F', d0, ds, d', r, Fa, sub, ex, o0, ht, ods, nd, ne, ga, ow, hg, q⟩ => by
  subst ex
  match d0, ds, hg, o0, ods with
  | .lst true ys, [.lst true zs], hg, o0, ods =>
    have hg' : (if ys.length + zs.length ≤ LN then some (D.lst true (ys ++ zs), D.non) else none) = some (d', r) := hg
    split at hg'
    · rename_i hl
      cases hg'
      obtain ⟨a', vs, F2, e1, e2, _, hh, l⟩ := o0
      cases e1
      cases e2
      obtain ⟨A, B, w, ws', eA, rfl, ow1, ow2⟩ := ods
      obtain ⟨rfl, rfl⟩ := ow2
      rw [List.append_nil] at eA
      subst eA
      obtain ⟨b, ws, F3, rfl, rfl, gb, hb, l2⟩ := ow1
      refine ⟨a, b, vs, ws, rfl, rfl, hh, hb, by rw [l.length, l2.length]; exact sz hl, ?_⟩
      have fr : ∀ c ∈ F' ++ F3, upd H a (.lst (vs ++ ws)) c = H c := fun c hc => upd_ne (ne c (by rcases List.mem_append.mp hc with z | z <;> simp [z])).1
      have fr2 : ∀ c ∈ F' ++ F3, G c = none := fun c hc => (ne c (by rcases List.mem_append.mp hc with z | z <;> simp [z])).2
      have ol : OwL W G (upd H a (.lst (vs ++ ws))) (ys ++ zs) (F' ++ F3) (vs ++ ws) :=
        (l.frame Sm.refl fun c hc => ⟨fr2 c (by simp [hc]), fr c (by simp [hc])⟩).app (l2.frame Sm.refl fun c hc => ⟨fr2 c (by simp [hc]), fr c (by simp [hc])⟩)
      refine q _ (F' ++ F3) [] .non (fun c hc => ?_) ?_ ⟨a, vs ++ ws, F' ++ F3, rfl, rfl, ga, upd_same, ol⟩ ⟨rfl, rfl⟩
      · rw [List.append_nil] at hc
        rcases List.mem_append.mp hc with z | z <;> simp [z]
      · rw [List.append_nil]
        exact nd.sublist (List.Sublist.append (List.Sublist.refl F') (List.sublist_cons_self b F3))
    · cases hg'
  | .lst false _, _, hg, _, _ => exact nomatch hg
theorem OwL.erase : ∀ {ds : List D} {F : List Addr} {vs : List V} {k : Nat}, OwL W G H ds F vs → ∃ F', OwL W G H (ds.eraseIdx k) F' (vs.eraseIdx k) ∧ F'.Sublist F
  | [], F, vs, k, h => by
    obtain ⟨rfl, rfl⟩ := h
    exact ⟨[], ⟨rfl, rfl⟩, List.Sublist.refl []⟩
  | d :: ds, F, vs, k, h => by
    obtain ⟨F1, F2, v, vs', rfl, rfl, h1, h2⟩ := h
    cases k with
    | zero => exact ⟨F2, h2, List.sublist_append_right F1 F2⟩
    | succ k =>
      obtain ⟨F3, h3, s3⟩ := h2.erase (k := k)
      exact ⟨F1 ++ F3, ⟨F1, F3, v, vs'.eraseIdx k, rfl, rfl, h1, h3⟩, List.Sublist.append (List.Sublist.refl F1) s3⟩
theorem OwL.at {ds : List D} {F : List Addr} {vs : List V} {k : Nat} {d : D} (h : OwL W G H ds F vs) (hk : ds[k]? = some d) (hf : isF d = true) : ∃ v, vs[k]? = some v ∧ Ow W G H d [] v := by
  obtain ⟨A, Fi, B, v, rfl, q1, q2, _⟩ := h.cut hk
  have e := q2.nil_of hf
  subst e
  exact ⟨v, q1, q2⟩
theorem pop_core {a : Addr} {ys : List D} {F' : List Addr} {k : Nat} {y : D} (o0 : Ow W G H (.lst true ys) (a :: F') (.ref a)) (ga : G a = none) (nd : F'.Nodup) (ne : ∀ b ∈ F', b ≠ a ∧ G b = none) (hk : ys[k]? = some y) (hf : isF y = true)
    (q : ∀ hn F'' Fr rv, (∀ b ∈ F'' ++ Fr, b ∈ F') → (F'' ++ Fr).Nodup → Ow W G (upd H a hn) (.lst true (ys.eraseIdx k)) (a :: F'') (.ref a) → Ow W G (upd H a hn) y Fr rv → Q rv (upd H a hn)) :
    ∃ vs v, H a = some (.lst vs) ∧ vs.length = ys.length ∧ vs[k]? = some v ∧ Q v (upd H a (.lst (vs.eraseIdx k))) := by
  obtain ⟨a', vs, F2, e1, e2, _, hh, l⟩ := o0
  cases e1
  cases e2
  obtain ⟨v, hv, ov⟩ := l.at hk hf
  obtain ⟨F3, l3, s3⟩ := l.erase (k := k)
  refine ⟨vs, v, hh, l.length, hv, q _ F3 [] v (fun b hb => ?_) ?_ ⟨a, vs.eraseIdx k, F3, rfl, rfl, ga, upd_same, ?_⟩ (ov.keep Sm.refl)⟩
  · rw [List.append_nil] at hb
    exact s3.subset hb
  · rw [List.append_nil]
    exact nd.sublist s3
  · exact l3.frame Sm.refl fun b hb => ⟨(ne b (s3.subset hb)).2, upd_ne (ne b (s3.subset hb)).1⟩
theorem mt_popE : MtR X "list.pop" (rMut W "list" (mutD .pop)) := MtR.imp (MtR.or mt_pop mt_popAt) fun x xs H Q ⟨G, a, F', d0, ds, d', r, Fa, sub, ex, o0, ht, ods, nd, ne, ga, ow, hg, q⟩ => by
  subst ex
  match d0, ds, hg, o0, ods with
  | .lst true ys, [], hg, o0, ods =>
    obtain ⟨rfl, rfl⟩ := ods
    have hg' : (match ys[ys.length - 1]? with | some y => if isF y = true then some (D.lst true ys.dropLast, y) else none | none => none) = some (d', r) := hg
    cases c : ys[ys.length - 1]? with
    | none => rw [c] at hg'; cases hg'
    | some y =>
      rw [c] at hg'
      dsimp only at hg'
      split at hg'
      · rename_i hf
        cases hg'
        rw [List.append_nil] at nd ne q
        have ed : ys.dropLast = ys.eraseIdx (ys.length - 1) := by
          rw [List.eraseIdx_length_sub_one]
        rw [ed] at q
        obtain ⟨vs, v, h1, h2, h3, h4⟩ := pop_core o0 ga nd ne c hf q
        refine .inl ⟨a, vs, v, rfl, rfl, h1, by rw [h2]; exact h3, ?_⟩
        rw [← h2, List.eraseIdx_length_sub_one] at h4
        exact h4
      · cases hg'
  | .lst true ys, [.int i], hg, o0, ods =>
    obtain ⟨A, B, w, ws', eA, rfl, ow1, ow2⟩ := ods
    obtain ⟨rfl, rfl⟩ := ow2
    obtain ⟨rfl, rfl⟩ := ow1
    cases eA
    have hg' : (match L2.ixN ys.length i with | some k => (match ys[k]? with | some y => if isF y = true ∧ -9223372036854775808 ≤ i ∧ i < 9223372036854775808 then some (D.lst true (ys.eraseIdx k), y) else none | none => none) | none => none) = some (d', r) := hg
    cases c0 : L2.ixN ys.length i with
    | none => rw [c0] at hg'; cases hg'
    | some k =>
      rw [c0] at hg'
      dsimp only at hg'
      cases c : ys[k]? with
      | none => rw [c] at hg'; cases hg'
      | some y =>
        rw [c] at hg'
        dsimp only at hg'
        split at hg'
        · rename_i hf
          cases hg'
          simp only [List.append_nil] at nd ne q
          obtain ⟨vs, v, h1, h2, h3, h4⟩ := pop_core o0 ga nd ne c hf.1 q
          exact .inr ⟨a, vs, i, k, v, rfl, rfl, h1, by have := hf.2.1; omega, by have := hf.2.2; omega, by rw [h2]; exact (ixN_seq c0).1, h3, h4⟩
        · cases hg'
  | .lst false _, _, hg, _, _ => exact nomatch hg
end
end Wpk
set_option Elab.async false
set_option linter.all false
set_option maxRecDepth 100000
set_option maxHeartbeats 1000000
/-! P6: calls of methods. -/
namespace Wpk
open PySem PySem.Spec PyProof.Rows L2
def isCall0 : Expr → Bool
  | .Call (.Name _ _) [] [] _ => true
  | _ => false
section
variable {X : Cx} {L : List Nat} {W : Wd} {Wx : WX} {σ : L2.St} {H : Hp} {Q : VK}
theorem pe_anyT {ts : List String} {x : Expr} {t : String → TE} (h : ∀ T ∈ ts, PE X x (t T)) : PE X x (fun σ H Q => ∃ T, T ∈ ts ∧ t T σ H Q) := ⟨fun pins s σ H Q I ⟨T, hT, q⟩ => (h T hT).run pins s σ H Q I q⟩
theorem base_ok {o : Expr} {name : Str} {env : PySem.Env} {wh : Sem Value} (h : isCall0 o = false) : attributeBase o name env wh = wh := by
  cases o with
  | Call f args kws pos =>
    cases f with
    | Name x p =>
      cases args with
      | nil =>
        cases kws with
        | nil => cases h
        | cons _ _ => rfl
      | cons _ _ => rfl
    | _ => rfl
  | _ => rfl
/-- what a method call of some arguments asks of its text -/
structure MetOk (X : Cx) (o : Expr) (apos : Pos) (y : Expr) (ys : List Expr) (cpos : Pos) : Prop where
  base : isCall0 o = false
  line : (apos.endLine == cpos.line) = true
  few : (y :: ys).length < 30
  st : starEach (y :: ys) X.env = (false, eval y X.env) :: starEach ys X.env
  pl : (backTo cpos (starEach ys X.env)).any (·.1) = false
theorem MetOk.hfew {o : Expr} {apos : Pos} {y : Expr} {ys : List Expr} {cpos : Pos} (h : MetOk X o apos y ys cpos) : ((backTo cpos (starEach (y :: ys) X.env)).all (fun x => !x.1) && (backToKw cpos (keywordEach [] X.env)).all (fun x => x.1.isSome)
      && decide ((y :: ys).length + ([] : List Keyword).length + (if ([] : List Keyword).isEmpty then 0 else 1) < 30)) = true := by
  rw [h.st]
  have e1 : (backTo cpos ((false, eval y X.env) :: starEach ys X.env)).all (fun x => !x.1) = (true && (backTo cpos (starEach ys X.env)).all (fun x => !x.1)) := rfl
  have e2 : (backTo cpos (starEach ys X.env)).all (fun x => !x.1) = true := by
    have := h.pl
    rw [List.any_eq_false] at this
    rw [List.all_eq_true]
    intro x hx
    simpa using this x hx
  have e3 : (backToKw cpos (keywordEach [] X.env)).all (fun x => x.1.isSome) = true := rfl
  rw [e1, e2, e3]
  have := h.few
  simp only [Bool.and_self, Bool.true_and, decide_eq_true_eq]
  show (y :: ys).length + 0 + 0 < 30
  exact this
theorem pe_mtE {m : Mb} {o y : Expr} {ys : List Expr} {apos cpos : Pos} {mo : Env → R Od} {ma : Env → R (List Od)} {name : Str} {T0 : String} (hT : T0 ∈ mbT m) (hr : ∀ T ∈ mbT m, ∃ id, PlainAttrs T ∧ Slot T name id ∧ typeOf (.builtin id) = pure (.type "method_descriptor") ∧ MtR X id (fun x xs => rPs W (gT (mtD m) T) (x :: xs)))
    (hK : X.K = W.K) (ho : PE X o (tO W Wx mo)) (ha : PA X (y :: ys) (tOs W Wx ma)) (ok : MetOk X o apos y ys cpos) : PE X (.Call (.Attribute o name apos) (y :: ys) [] cpos) (tE W Wx (semMt (mbT m) (mtD m) mo ma)) := by
  refine PE.imp (pe_anyT (ts := mbT m) fun T hT => ?_) fun σ H Q h => mt_read hT h
  obtain ⟨id, h1, h2, h3, h4⟩ := hr T hT
  exact pe_mG (ty_ok hK) h1 h2 h3 h4 ho ha (base_ok ok.base) ok.hfew ok.line ok.st ok.pl
theorem pe_mutE {u : Mu} {i : Nat} {x : Str} {y : Expr} {ys : List Expr} {p apos cpos : Pos} {ma : Env → R (List D)} {name : Str} (hr : ∀ T ∈ muT u, ∃ id, PlainAttrs T ∧ Slot T name id ∧ typeOf (.builtin id) = pure (.type "method_descriptor") ∧ MtR X id (rMut W T (mutD u)))
    (hK : X.K = W.K) (hN : X.N[i]? = some x) (hv : Vis X.env.scope x) (hd : (x == ("__debug__" : Str)) = false) (hcd : (x == ("__classdict__" : Str)) = false) (ha : PA X (y :: ys) (tVs W Wx ma)) (ok : MetOk X (.Name x p) apos y ys cpos) : PE X (.Call (.Attribute (.Name x p) name apos) (y :: ys) [] cpos) (tE W Wx (semMut (muT u) (mutD u) i ma)) := by
  refine PE.imp (pe_anyT (ts := muT u) fun T hT => ?_) fun σ H Q h => mut_read h
  obtain ⟨id, h1, h2, h3, h4⟩ := hr T hT
  exact pe_mG (ty_ok hK) h1 h2 h3 h4 (pe_var hN hv hd hcd) ha (base_ok ok.base) ok.hfew ok.line ok.st ok.pl
theorem mut0_read {i : Nat} {g : D → List D → Option (D × D)} {ts : List String} (h : tE W Wx (semMut ts g i semVn) σ H Q) : ∃ T, T ∈ ts ∧ tMG0 (tyW W T) (rMut W T g) (tVar i) σ H Q := by
  obtain ⟨T, hT, v, q1, q2, e, G, F, S, p⟩ := mut_read h
  exact ⟨T, hT, v, q1, q2, p [] G H F [] S.refl S.env ⟨rfl, rfl⟩⟩
theorem pe_mut0E {u : Mu} {i : Nat} {x : Str} {p apos cpos : Pos} {name : Str} (hr : ∀ T ∈ muT u, ∃ id, PlainAttrs T ∧ Slot T name id ∧ typeOf (.builtin id) = pure (.type "method_descriptor") ∧ MtR X id (rMut W T (mutD u)))
    (hK : X.K = W.K) (hN : X.N[i]? = some x) (hv : Vis X.env.scope x) (hd : (x == ("__debug__" : Str)) = false) (hcd : (x == ("__classdict__" : Str)) = false) (hline : (apos.endLine == cpos.line) = true) : PE X (.Call (.Attribute (.Name x p) name apos) [] [] cpos) (tE W Wx (semMut (muT u) (mutD u) i semVn)) := by
  refine PE.imp (pe_anyT (ts := muT u) fun T hT => ?_) fun σ H Q h => mut0_read h
  obtain ⟨id, h1, h2, h3, h4⟩ := hr T hT
  exact pe_mG0 (ty_ok hK) h1 h2 h3 h4 (pe_var hN hv hd hcd) rfl hline
/-! ### which methods there are -/
def mbOf (x : Str) : Option Mb := if x = "join" then some .join else if x = "split" then some .split else if x = "index" then some .index else none
def muOf (x : Str) : Option Mu := if x = "extend" then some .ext else if x = "pop" then some .pop else none
theorem mbOf_ok {x : Str} {m : Mb} (hK : X.K = W.K) (h : mbOf x = some m) : (∃ T0, T0 ∈ mbT m) ∧ ∀ T ∈ mbT m, ∃ id, PlainAttrs T ∧ Slot T x id ∧ typeOf (.builtin id) = pure (.type "method_descriptor") ∧ MtR X id (fun x xs => rPs W (gT (mtD m) T) (x :: xs)) := by
  unfold mbOf at h
  split at h
  · rename_i e; cases h; subst e
    refine ⟨⟨"str", by simp [mbT]⟩, fun T hT => ?_⟩
    simp only [mbT, List.mem_singleton] at hT
    subst hT
    exact ⟨_, F.plainAttrs_str, F.slot_str_join, F.type_str_join, mt_joinE hK⟩
  split at h
  · rename_i e; cases h; subst e
    refine ⟨⟨"str", by simp [mbT]⟩, fun T hT => ?_⟩
    simp only [mbT, List.mem_singleton] at hT
    subst hT
    exact ⟨_, F.plainAttrs_str, F.slot_str_split, F.type_str_split, mt_splitE⟩
  split at h
  · rename_i e; cases h; subst e
    refine ⟨⟨"str", by simp [mbT]⟩, fun T hT => ?_⟩
    simp only [mbT, List.mem_cons, List.not_mem_nil, or_false] at hT
    rcases hT with rfl | rfl
    · exact ⟨_, F.plainAttrs_list, F.slot_list_index, F.type_list_index, mt_lindexE hK⟩
    · exact ⟨_, F.plainAttrs_str, F.slot_str_index, F.type_str_index, mt_sindexE⟩
  cases h
theorem muOf_ok {x : Str} {u : Mu} (h : muOf x = some u) : ∀ T ∈ muT u, ∃ id, PlainAttrs T ∧ Slot T x id ∧ typeOf (.builtin id) = pure (.type "method_descriptor") ∧ MtR X id (rMut W T (mutD u)) := by
  unfold muOf at h
  split at h
  · rename_i e; cases h; subst e
    intro T hT
    simp only [muT, List.mem_singleton] at hT
    subst hT
    exact ⟨_, F.plainAttrs_list, F.slot_list_extend, F.type_list_extend, mt_extE⟩
  split at h
  · rename_i e; cases h; subst e
    intro T hT
    simp only [muT, List.mem_singleton] at hT
    subst hT
    exact ⟨_, F.plainAttrs_list, F.slot_list_pop, F.type_list_pop, mt_popE⟩
  cases h
end
end Wpk
set_option Elab.async false
set_option linter.all false
set_option maxRecDepth 100000
set_option maxHeartbeats 1000000
/-! P8: dicts: subscripts, displays. -/
namespace Wpk
open PySem PySem.Spec PyProof.Rows L2
section
variable {X : Cx} {L : List Nat} {W : Wd} {Wx : WX} {σ : L2.St} {G G1 G' H H1 H' : Hp} {F F1 Fa : List Addr} {e : Env} {v : V} {Q : VK}
theorem PE.or2 {t t' : TE} {x : Expr} (h : PE X x t) (h' : PE X x t') : PE X x (fun σ H Q => t σ H Q ∨ t' σ H Q) := ⟨fun pins s σ H Q I q => q.elim (h.run pins s σ H Q I) (h'.run pins s σ H Q I)⟩
theorem sem2_split {g g1 g2 : D → D → Option D} (h : ∀ a b, g a b = g1 a b ∨ g a b = g2 a b) (m1 m2 : Env → R Od) (e : Env) : sem2 g m1 m2 e = sem2 g1 m1 m2 e ∨ sem2 g m1 m2 e = sem2 g2 m1 m2 e := by
  unfold sem2
  cases m1 e with
  | no => exact .inl rfl
  | exc x e1 => exact .inl rfl
  | ok x e1 =>
    dsimp only [R.bind]
    cases m2 e1 with
    | no => exact .inl rfl
    | exc y e2 => exact .inl rfl
    | ok y e2 =>
      dsimp only
      cases x.res e2 with
      | none => exact .inl rfl
      | some p =>
        cases y.res e2 with
        | none => exact .inl rfl
        | some q =>
          dsimp only
          rcases h p q with z | z
          · exact .inl (by rw [z])
          · exact .inr (by rw [z])
theorem tE_split {m m1 m2 : Env → R D} (h : ∀ e, m e = m1 e ∨ m e = m2 e) (q : tE W Wx m σ H Q) : tE W Wx m1 σ H Q ∨ tE W Wx m2 σ H Q := by
  obtain ⟨e, G, F, S, p⟩ := q
  rcases h e with z | z
  · rw [z] at p; exact .inl ⟨e, G, F, S, p⟩
  · rw [z] at p; exact .inr ⟨e, G, F, S, p⟩
/-- the part about dicts -/
def idxK (a b : D) : Option D := match a with
  | .dct _ false ks vs => if isKy b then (match getK ks vs b with
    | some d => if isF d then some d else none
    | none => none) else none
  | _ => none
theorem idxF_split (a b : D) : idxF a b = idxG a b ∨ idxF a b = idxK a b := by
  cases a with
  | dct m t ks vs =>
    cases t with
    | false => exact .inr rfl
    | true => exact .inl rfl
  | _ => exact .inl rfl
theorem dget_of {x y : V} {H : Hp} {Q : VK} (h : rP2 W idxK x y H Q) : ∃ a v, x = .ref a ∧ DGet H a y (some v) ∧ Q v H := by
  obtain ⟨G, d1, d2, d, F1, F2, sub, o1, o2, hg, nw⟩ := h
  cases d1 with
  | dct m t ks vs =>
    cases t with
    | true => cases hg
    | false =>
      have hg' : (if isKy d2 = true then (match getK ks vs d2 with | some d => if isF d = true then some d else none | none => none) else none) = some d := hg
      split at hg'
      · rename_i hk
        cases c : getK ks vs d2 with
        | none => rw [c] at hg'; cases hg'
        | some d' =>
          rw [c] at hg'
          dsimp only at hg'
          split at hg'
          · rename_i hf
            cases hg'
            obtain ⟨a, us, F', ho, rfl, q, dd, l⟩ := o1.rdD sub
            obtain ⟨keys, e1, e2, rfl⟩ := dd.k
            obtain ⟨key, ek⟩ := keyD_of hk
            have ev := key_val ek o2
            subst ev
            obtain ⟨u, hv, ou⟩ := (get_ok ek e1 e2 l).1 _ c hf
            exact ⟨a, u, rfl, .inl ⟨_, key, q, rfl, hv.symm⟩, nw.now sub ou⟩
          · cases hg'
      · cases hg'
  | _ => cases hg
theorem pe_ixF {a b : Expr} {m1 m2 : Env → R Od} {pos : Pos} (hK : X.K = W.K) (hu : X.A.units + 1 < cLine) (ha : PE X a (tO W Wx m1)) (hb : PE X b (tO W Wx m2)) (hs : PlainIx b) : PE X (.Subscript a b pos) (tE W Wx (sem2 idxF m1 m2)) := by
  refine PE.imp (PE.or2 (pe_ixE hK ha hb hs) (pe_dget hu ha hb hs)) fun σ H Q h => ?_
  rcases tE_split (sem2_split idxF_split m1 m2) h with z | z
  · exact .inl z
  · refine .inr (Rd1.mono (fun x H1 q => Rd1.mono (fun y H2 q => ?_) q) (sem2_read z))
    exact dget_of q
theorem pe_dict0 {pos : Pos} : PE X (.Dict [] [] pos) (tE W Wx (fun e => .ok (.dct true false [] []) e)) :=
  PE.imp pe_dnewK fun σ H Q ⟨e, G, F, S, p⟩ q hq => by
    obtain ⟨S2, k2⟩ := Stp.hold (o := .dK []) S.refl hq (fun b hb => S.env.mem b (by simpa using hb))
    exact p (.ref q) G _ F [q] S2 (S.env.frame Sm.refl fun b hb => k2 b (by simp [hb])) ⟨q, [], [], .dK [], rfl, rfl, S.sub.free hq, upd_same, ⟨[], rfl, rfl, rfl⟩, rfl, rfl⟩
end
end Wpk
set_option Elab.async false
set_option linter.all false
set_option maxRecDepth 100000
set_option maxHeartbeats 1000000
/-! P9: walks over dicts. -/
namespace Wpk
open PySem PySem.Spec PyProof.Rows L2
section
variable {X : Cx} {L : List Nat} {W : Wd} {Wx : WX} {σ : L2.St} {G G1 G2 G' H H1 H2 H' : Hp} {F F1 F2 Fa Fb : List Addr} {e e1 : Env} {v : V}
/-- a value that is walked; it may be held first -/
def WalkG (W : Wd) (k : It) (Q : L2.It → Hp → Prop) : V → Hp → Prop := fun v H1 => ∃ G1 d Fa is, Sm G1 H1 ∧ Fa.Nodup ∧ Ow W G1 H1 d Fa v ∧ itemsD k [d] = some is ∧ ∀ J G2 H2, Stp Fa G1 H1 [] G2 H2 → ItOk W J is G2 H2 [] → Q J H2
theorem it_readD {k : It} {m : Env → R D} {Q : L2.It → Hp → Prop} {d : D} (S : Sta W G H e F σ) (p : match semIt k (semVc m semVn) e with
  | .ok is e1 => ∀ J G1 H1 F1 Fa, Stp F G H (F1 ++ Fa) G1 H1 → EnvR W G1 H1 e1 F1 σ → (∀ b ∈ Fa, G1 b = none ∧ ∃ o, H1 b = some o) → ItOk W J is G1 H1 Fa → Q J H1
  | .exc x e1 => XPost W Wx σ F G H x e1
  | .no => False) (cm : m e = .ok d e1) : tE W Wx m σ H (fun v H1 => ∃ G1 Fa is, Sm G1 H1 ∧ Fa.Nodup ∧ Ow W G1 H1 d Fa v ∧ itemsD k [d] = some is ∧ ∀ J G2 H2, Stp Fa G1 H1 [] G2 H2 → ItOk W J is G2 H2 [] → Q J H2) := by
  refine ⟨e, G, F, S, ?_⟩
  unfold semIt semVc at p
  rw [cm] at p ⊢
  intro v G1 H1 F1 Fa S1 E1 r1
  have p' : (match R.of (itemsD k [d]) e1 with
    | .ok is e1 => ∀ J G1 H1 F1 Fa, Stp F G H (F1 ++ Fa) G1 H1 → EnvR W G1 H1 e1 F1 σ → (∀ b ∈ Fa, G1 b = none ∧ ∃ o, H1 b = some o) → ItOk W J is G1 H1 Fa → Q J H1
    | .exc x e1 => XPost W Wx σ F G H x e1
    | .no => False) := p
  cases ci : itemsD k [d] with
  | none => rw [ci] at p'; exact p'.elim
  | some is =>
    rw [ci] at p'
    obtain ⟨nF, nA, dj⟩ := List.nodup_append.mp S1.nd
    refine ⟨G1, Fa, is, S1.sh, nA, r1, rfl, fun J G2 H2 S2 ok => ?_⟩
    have hm : ∀ b ∈ F1, G1 b = none ∧ b ∉ Fa ∧ H1 b ≠ none := fun b hb => ⟨(E1.mem b hb).1, fun z => dj b hb b z rfl, fun z => by obtain ⟨o, q⟩ := (E1.mem b hb).2; rw [z] at q; cases q⟩
    have S3 := S2.beside nF hm
    have S4 : Stp F G H (F1 ++ []) G2 H2 := S1.trans (S3.perm (fun b hb => by rcases List.mem_append.mp hb with z | z <;> simp [z]) (fun b hb => by simpa using hb) (by rw [List.append_nil]; exact nF))
    exact p' J G2 H2 F1 [] S4 (E1.frame S2.sg fun b hb => S2.kept (hm b hb).1 (hm b hb).2.1 (hm b hb).2.2) (fun b hb => nomatch hb) ok
theorem it_readG {k : It} {m : Env → R D} {Q : L2.It → Hp → Prop} (h : tIm W Wx (semIt k (semVc m semVn)) σ H Q) : tE W Wx m σ H (WalkG W k Q) := by
  obtain ⟨e, G, F, S, p⟩ := h
  refine ⟨e, G, F, S, ?_⟩
  unfold semIt semVc at p
  cases cm : m e with
  | no => rw [cm] at p; exact p
  | exc x e1 => rw [cm] at p; exact p
  | ok d e1 =>
    rw [cm] at p
    intro v G1 H1 F1 Fa S1 E1 r1
    have p' : (match R.of (itemsD k [d]) e1 with
      | .ok is e1 => ∀ J G1 H1 F1 Fa, Stp F G H (F1 ++ Fa) G1 H1 → EnvR W G1 H1 e1 F1 σ → (∀ b ∈ Fa, G1 b = none ∧ ∃ o, H1 b = some o) → ItOk W J is G1 H1 Fa → Q J H1
      | .exc x e1 => XPost W Wx σ F G H x e1
      | .no => False) := p
    cases ci : itemsD k [d] with
    | none => rw [ci] at p'; exact p'.elim
    | some is =>
      rw [ci] at p'
      obtain ⟨nF, nA, dj⟩ := List.nodup_append.mp S1.nd
      refine ⟨G1, d, Fa, is, S1.sh, nA, r1, ci, fun J G2 H2 S2 ok => ?_⟩
      have hm : ∀ b ∈ F1, G1 b = none ∧ b ∉ Fa ∧ H1 b ≠ none := fun b hb => ⟨(E1.mem b hb).1, fun z => dj b hb b z rfl, fun z => by obtain ⟨o, q⟩ := (E1.mem b hb).2; rw [z] at q; cases q⟩
      have S3 := S2.beside nF hm
      have S4 : Stp F G H (F1 ++ []) G2 H2 := S1.trans (S3.perm (fun b hb => by rcases List.mem_append.mp hb with z | z <;> simp [z]) (fun b hb => by simpa using hb) (by rw [List.append_nil]; exact nF))
      exact p' J G2 H2 F1 [] S4 (E1.frame S2.sg fun b hb => S2.kept (hm b hb).1 (hm b hb).2.1 (hm b hb).2.2) (fun b hb => nomatch hb) ok
/-- what is a dict is held as it is -/
theorem hold_step {a : Addr} {u : HO} {x : Obj} (s : Sm G H) (hd : isDk u = true) (hg : G a = some u) (hh : H a = some u) : Stp [] G H [] (upd G a (.frz x u)) (upd H a (.frz x u)) := by
  refine ⟨fun b o h => ?_, fun b o h => ?_, List.nodup_nil, (fun b hb => nomatch hb), fun b o h g _ => ?_, fun b h _ => ?_, fun b g _ _ => ?_⟩
  · by_cases e : b = a
    · subst e
      rw [hg] at h
      cases h
      exact .inr ⟨hd, x, upd_same⟩
    · rw [upd_ne e]; exact .inl h
  · by_cases e : b = a
    · subst e
      rw [upd_same] at h
      cases h
      exact .inl upd_same
    · rw [upd_ne e] at h
      rw [upd_ne e]
      exact s b o h
  · have ne : b ≠ a := fun e => by rw [e, hg] at g; cases g
    rw [upd_ne ne]; exact h
  · by_cases e : b = a
    · subst e; rw [upd_same]; exact fun z => nomatch z
    · rw [upd_ne e]; exact h
  · have ne : b ≠ a := fun e => by rw [e, hg] at g; cases g
    rw [upd_ne ne]; exact g
/-- the value of an expression may be held -/
def tHold (t : TE) : TE := fun σ H Q => t σ H fun x H1 => Q x H1 ∨ ∃ d u, H1 d = some u ∧ Mut (some u) ∧ ∀ od, Q x (upd H1 d (.frz od u))
theorem pe_hold {x : Expr} {t : TE} (h : PE X x t) : PE X x (tHold t) := ⟨fun pins s σ H Q I hw => thn (h.run pins s σ H _ I hw) fun v s1 ⟨y, H1, I1, r, q⟩ => by
  rcases q with q | ⟨d, u, hd, mu, q⟩
  · exact ⟨y, H1, I1, r, q⟩
  · obtain ⟨od, I2⟩ := I1.lock hd mu
    exact ⟨y, _, I2, r, q od⟩⟩
theorem frz_step {a : Addr} {u : HO} {x : Obj} (s : Sm G H) (hd : isDk u = true) (hg : G a = some u) (hh : H a = some (.frz x u)) : Stp [] G H [] (upd G a (.frz x u)) H := by
  refine ⟨fun b o h => ?_, fun b o h => ?_, List.nodup_nil, (fun b hb => nomatch hb), fun b o h g _ => h, fun b h _ => h, fun b g _ _ => ?_⟩
  · by_cases e : b = a
    · subst e
      rw [hg] at h
      cases h
      exact .inr ⟨hd, x, upd_same⟩
    · rw [upd_ne e]; exact .inl h
  · by_cases e : b = a
    · subst e
      rw [upd_same] at h
      cases h
      exact .inl hh
    · rw [upd_ne e] at h
      exact s b o h
  · have ne : b ≠ a := fun e => by rw [e, hg] at g; cases g
    rw [upd_ne ne]; exact g
/-- a dict, frozen, held -/
theorem hold_dict {m : Bool} {ks vs : List D} (s : Sm G H) (nd : Fa.Nodup) (o : Ow W G H (.dct m false ks vs) Fa v) (hf : isFL vs = true) : ∃ (a : Addr) (keys : List Key) (us : List V), v = .ref a ∧ ks.map keyD = keys.map some ∧ keys.length = us.length ∧
    ((∃ od G2, H a = some (.frz od (.dK (keys.zip us))) ∧ Stp Fa G H [] G2 H ∧ G2 a = some (.frz od (.dK (keys.zip us))) ∧ OwL W G2 H vs [] us) ∨
     (H a = some (.dK (keys.zip us)) ∧ ∀ od, ∃ G2, Stp Fa G H [] G2 (upd H a (.frz od (.dK (keys.zip us)))) ∧ G2 a = some (.frz od (.dK (keys.zip us))) ∧ OwL W G2 (upd H a (.frz od (.dK (keys.zip us)))) vs [] us)) := by
  cases m with
  | true =>
    obtain ⟨a, us, F', ho, rfl, rfl, ga, hh, dd, l⟩ := o
    obtain ⟨keys, k1, k2, rfl⟩ := dd.k
    have l' := l.fz hf
    refine ⟨a, keys, us, rfl, k1, k2, .inr ⟨hh, fun od => ?_⟩⟩
    have S1 : Stp (a :: F') G H [] (addG G H (a :: F')) H := Stp.freeze s
    have g1 : addG G H (a :: F') a = some (.dK (keys.zip us)) := (addG_in (by simp)).trans hh
    have S2 := hold_step (x := od) S1.sh rfl g1 hh
    exact ⟨_, S1.trans S2, upd_same, l'.keep (S1.sg.trans S2.sg)⟩
  | false =>
    obtain ⟨rfl, a, us, ho, rfl, q, dd, l⟩ := o
    obtain ⟨keys, k1, k2, rfl⟩ := dd.k
    refine ⟨a, keys, us, rfl, k1, k2, ?_⟩
    rcases q with q | ⟨x, q⟩
    · rcases s a _ q with z | ⟨_, x, z⟩
      · refine .inr ⟨z, fun od => ?_⟩
        have S2 := hold_step (x := od) s rfl q z
        exact ⟨_, S2, upd_same, l.keep S2.sg⟩
      · have S2 := frz_step s rfl q z
        exact .inl ⟨x, _, z, S2, upd_same, l.keep S2.sg⟩
    · rcases s a _ q with z | ⟨d, _⟩
      · exact .inl ⟨x, G, z, Stp.refl s List.nodup_nil, q, l⟩
      · exact absurd d (by simp [isDk])
theorem held {a : Addr} {x : Obj} {u : HO} (s1 : Sm G1 G) (s2 : Sm G H) (h : G1 a = some (.frz x u)) : H a = some (.frz x u) := by
  rcases s1 a _ h with z | ⟨d, _⟩
  · rcases s2 a _ z with z | ⟨d, _⟩
    · exact z
    · exact absurd d (by simp [isDk])
  · exact absurd d (by simp [isDk])
theorem keys_at {ks : List D} {keys : List Key} (h : ks.map keyD = keys.map some) {i : Nat} {d : D} (hd : ks[i]? = some d) : ∃ k, keys[i]? = some k ∧ keyD d = some k := by
  have e := congrArg (fun l => l[i]?) h
  simp only [List.getElem?_map, hd] at e
  cases c : keys[i]? with
  | none => rw [c] at e; cases e
  | some k =>
    rw [c] at e
    exact ⟨k, rfl, Option.some.inj e⟩
theorem key_ow {d : D} {k : Key} (h : keyD d = some k) : Ow W G H d [] (kV k) := by
  cases d with
  | int i => cases h; exact ⟨rfl, rfl⟩
  | str s => cases h; exact ⟨rfl, rfl⟩
  | _ => cases h
theorem ItOk.keys {a : Addr} {x : Obj} {ks : List D} {keys : List Key} {us : List V} (k1 : ks.map keyD = keys.map some) (k2 : keys.length = us.length) (hg : G1 a = some (.frz x (.dK (keys.zip us)))) : ItOk W (Itk a x (keys.zip us)) ks G1 H1 [] := by
  intro i G H s1 s2 _
  have hh := held s1 s2 hg
  have hl : ks.length = keys.length := by simpa using congrArg List.length k1
  have hz : (keys.zip us).length = ks.length := by rw [List.length_zip, ← k2, Nat.min_self, hl]
  refine ⟨fun d hd => ?_, fun h => ⟨hh, by rw [hz]; exact h⟩⟩
  obtain ⟨k, e1, e2⟩ := keys_at k1 hd
  have hi := (List.getElem?_eq_some_iff.mp hd).1
  refine ⟨⟨hh, by rw [hz]; exact hi⟩, fun y H' ⟨e, k', v', ez, ey⟩ => ?_⟩
  subst e
  rw [List.getElem?_zip_eq_some] at ez
  rw [e1] at ez
  cases ez.1
  subst ey
  exact ⟨G, Stp.refl s2 List.nodup_nil, key_ow e2⟩
theorem ItOk.vals {a : Addr} {x : Obj} {vs : List D} {keys : List Key} {us : List V} (k2 : keys.length = us.length) (l : OwL W G1 H1 vs [] us) (hg : G1 a = some (.frz x (.dK (keys.zip us)))) : ItOk W (Itd a x (keys.zip us)) vs G1 H1 [] := by
  intro i G H s1 s2 _
  have hh := held s1 s2 hg
  have hz : (keys.zip us).length = vs.length := by rw [List.length_zip, k2, Nat.min_self, l.length]
  refine ⟨fun d hd => ?_, fun h => ⟨hh, by rw [hz]; exact h⟩⟩
  obtain ⟨u, e1, ou⟩ := l.get hd
  have hi := (List.getElem?_eq_some_iff.mp hd).1
  refine ⟨⟨hh, by rw [hz]; exact hi⟩, fun y H' ⟨e, k', ez⟩ => ?_⟩
  subst e
  rw [List.getElem?_zip_eq_some] at ez
  have e2 := ez.2
  rw [e1] at e2
  cases e2
  exact ⟨G, Stp.refl s2 List.nodup_nil, ou.keep s1⟩
theorem ItOk.itms {a : Addr} {x : Obj} {ks vs : List D} {keys : List Key} {us : List V} (k1 : ks.map keyD = keys.map some) (k2 : keys.length = us.length) (l : OwL W G1 H1 vs [] us) (hg : G1 a = some (.frz x (.dK (keys.zip us)))) : ItOk W (Iti a x (keys.zip us)) ((ks.zip vs).map fun p => .tup [p.1, p.2]) G1 H1 [] := by
  intro i G H s1 s2 _
  have hh := held s1 s2 hg
  have hl : ks.length = keys.length := by simpa using congrArg List.length k1
  have hv : vs.length = us.length := l.length.symm
  have hz : (keys.zip us).length = (ks.zip vs).length := by rw [List.length_zip, List.length_zip, hl, hv]
  refine ⟨fun d hd => ?_, fun h => ⟨hh, by rw [hz]; simpa using h⟩⟩
  rw [List.getElem?_map] at hd
  cases c : (ks.zip vs)[i]? with
  | none => rw [c] at hd; cases hd
  | some p =>
    rw [c] at hd
    cases hd
    have hi := (List.getElem?_eq_some_iff.mp c).1
    rw [List.getElem?_zip_eq_some] at c
    obtain ⟨k, e1, e2⟩ := keys_at k1 c.1
    obtain ⟨u, e3, ou⟩ := l.get c.2
    refine ⟨⟨hh, by rw [hz]; exact hi⟩, fun y H' ⟨T, k', v', ez, ey, hT, eH⟩ => ?_⟩
    subst eH
    subst ey
    rw [List.getElem?_zip_eq_some] at ez
    have z1 := ez.1
    have z2 := ez.2
    rw [e1] at z1
    rw [e3] at z2
    cases z1
    cases z2
    exact pair_new s2 hT (key_ow e2) (ou.keep s1)
/-! ### the rules -/
def isDc : D → Bool
  | .dct _ _ _ _ => true
  | _ => false
theorem PI.or2 {t t' : TI} {tg x : Expr} (h : PI X tg x t) (h' : PI X tg x t') : PI X tg x (fun σ H Q => t σ H Q ∨ t' σ H Q) := ⟨fun pins s σ H Q I q => q.elim (h.run pins s σ H Q I) (h'.run pins s σ H Q I)⟩
theorem semIt_range {m : Env → R (List D)} : semIt .range m = semIt0 .range m := rfl
theorem semIt_enum {m : Env → R (List D)} : semIt .enum m = semIt0 .enum m := rfl
/-- a dict that is walked: its object is known -/
theorem walk_dict {k : It} {Q : L2.It → Hp → Prop} {J : Addr → Obj → List (Key × V) → L2.It} (hi : ∀ d is, itemsD k [d] = some is → isDc d = true → ∃ m ks vs, d = .dct m false ks vs ∧ isFL vs = true)
    (hJ : ∀ (m : Bool) (ks vs is : List D) (keys : List Key) (us : List V) (a : Addr) (x : Obj) (G1 H1 : Hp), itemsD k [.dct m false ks vs] = some is → ks.map keyD = keys.map some → keys.length = us.length → OwL W G1 H1 vs [] us → G1 a = some (.frz x (.dK (keys.zip us))) → ItOk W (J a x (keys.zip us)) is G1 H1 [])
    {v : V} {H1 : Hp} (h : ∃ G1 d Fa is, Sm G1 H1 ∧ Fa.Nodup ∧ Ow W G1 H1 d Fa v ∧ itemsD k [d] = some is ∧ isDc d = true ∧ ∀ J G2 H2, Stp Fa G1 H1 [] G2 H2 → ItOk W J is G2 H2 [] → Q J H2) : (∃ d o kvs, v = .ref d ∧ H1 d = some (.frz o (.dK kvs)) ∧ Q (J d o kvs) H1) ∨ ∃ d u, H1 d = some u ∧ Mut (some u) ∧ ∀ od, ∃ d' o kvs, v = .ref d' ∧ (upd H1 d (.frz od u)) d' = some (.frz o (.dK kvs)) ∧ Q (J d' o kvs) (upd H1 d (.frz od u)) := by
  obtain ⟨G1, d, Fa, is, sub, nd, o, ci, hd, kq⟩ := h
  obtain ⟨m, ks, vs, rfl, hf⟩ := hi d is ci hd
  obtain ⟨a, keys, us, rfl, k1, k2, q⟩ := hold_dict sub nd o hf
  rcases q with ⟨od, G2, hh, S, hg, l⟩ | ⟨hh, q⟩
  · exact .inl ⟨a, od, _, rfl, hh, kq _ G2 H1 S (hJ m ks vs is keys us a od G2 H1 ci k1 k2 l hg)⟩
  · refine .inr ⟨a, _, hh, trivial, fun od => ?_⟩
    obtain ⟨G2, S, hg, l⟩ := q od
    exact ⟨a, od, _, rfl, upd_same, kq _ G2 _ S (hJ m ks vs is keys us a od G2 _ ci k1 k2 l hg)⟩
theorem pi_itemsE {es : List Expr} {kk : Nat} {tpos apos cpos : Pos} {x : Expr} {m : Env → R D} (h : PE X x (tE W Wx m)) (hb : isCall0 x = false) (hl : (apos.endLine == cpos.line) = true) : PI X (.Tuple es kk tpos) (.Call (.Attribute x "items" apos) [] [] cpos) (tIm W Wx (semIt .items (semVc m semVn))) := by
  refine PI.imp (pi_items (pe_hold h) (base_ok hb) hl) fun σ H Q z => ?_
  refine Rd1.mono (fun v H1 ⟨G1, d, Fa, is, sub, nd, o, ci, kq⟩ => ?_) (it_readG z)
  refine walk_dict (k := .items) (Q := Q) (fun d is c _ => ?_) (fun m ks vs is keys us a x G1 H1 c k1 k2 l hg => ?_) ⟨G1, d, Fa, is, sub, nd, o, ci, ?_, kq⟩
  · match d, c with
    | .dct m false ks vs, c =>
      have c' : (if isFL vs = true then some ((ks.zip vs).map fun p => D.tup [p.1, p.2]) else none) = some is := c
      split at c'
      · exact ⟨m, ks, vs, rfl, by assumption⟩
      · cases c'
  · have c' : (if isFL vs = true then some ((ks.zip vs).map fun p => D.tup [p.1, p.2]) else none) = some is := c
    split at c'
    · cases c'; exact ItOk.itms k1 k2 l hg
    · cases c'
  · match d, ci with
    | .dct m false ks vs, c => rfl
theorem pi_valuesE {tg : Expr} {apos cpos : Pos} {x : Expr} {m : Env → R D} (h : PE X x (tE W Wx m)) (hb : isCall0 x = false) (hl : (apos.endLine == cpos.line) = true) : PI X tg (.Call (.Attribute x "values" apos) [] [] cpos) (tIm W Wx (semIt .values (semVc m semVn))) := by
  refine PI.imp (pi_values (pe_hold h) (base_ok hb) hl) fun σ H Q z => ?_
  refine Rd1.mono (fun v H1 ⟨G1, d, Fa, is, sub, nd, o, ci, kq⟩ => ?_) (it_readG z)
  refine walk_dict (k := .values) (Q := Q) (fun d is c _ => ?_) (fun m ks vs is keys us a x G1 H1 c k1 k2 l hg => ?_) ⟨G1, d, Fa, is, sub, nd, o, ci, ?_, kq⟩
  · match d, c with
    | .dct m false ks vs, c =>
      have c' : (if isFL vs = true then some vs else none) = some is := c
      split at c'
      · exact ⟨m, ks, vs, rfl, by assumption⟩
      · cases c'
  · have c' : (if isFL vs = true then some vs else none) = some is := c
    split at c'
    · cases c'; exact ItOk.vals k2 l hg
    · cases c'
  · match d, ci with
    | .dct m false ks vs, c => rfl
/-- what is walked plainly: a dict, or anything else -/
theorem pi_plainF {tg : Expr} {x : Expr} {m : Env → R D} (hK : X.K = W.K) (h : PE X x (tE W Wx m)) : PI X tg x (tIm W Wx (semIt .plain (semVc m semVn))) := by
  refine PI.imp (PI.or2 (pi_plainE hK h) (pi_keys (pe_hold h))) fun σ H Q z => ?_
  obtain ⟨e, G, F, S, p⟩ := z
  cases cm : m e with
  | no => exact .inl ⟨e, G, F, S, by unfold semIt semVc at p; unfold semIt0 semVc; rw [cm] at p ⊢; exact p⟩
  | exc x e1 => exact .inl ⟨e, G, F, S, by unfold semIt semVc at p; unfold semIt0 semVc; rw [cm] at p ⊢; exact p⟩
  | ok d e1 =>
    by_cases hd : isDc d = true
    · refine .inr ?_
      have z2 := it_readD (k := .plain) (m := m) (Wx := Wx) (Q := Q) S p cm
      refine Rd1.mono (fun v H1 ⟨G1, Fa, is, sub, nd, o, ci, kq⟩ => ?_) z2
      have w := walk_dict (k := .plain) (Q := Q) (J := Itk) (fun d is c hd => ?_) (fun m ks vs is keys us a x G1 H1 c k1 k2 l hg => ?_) ⟨G1, d, Fa, is, sub, nd, o, ci, hd, kq⟩
      · rcases w with ⟨d, o, kvs, e1, e2, q⟩ | ⟨d, u, e1, e2, q⟩
        · exact .inl ⟨d, o, e1, .inl ⟨kvs, e2, q⟩⟩
        · refine .inr ⟨d, u, e1, e2, fun od => ?_⟩
          obtain ⟨d', o, kvs, z1, z2, z3⟩ := q od
          exact ⟨d', o, z1, .inl ⟨kvs, z2, z3⟩⟩
      · match d, c, hd with
        | .dct m false ks vs, c, _ =>
          have c' : (if isFL vs = true then some ks else none) = some is := c
          split at c'
          · exact ⟨m, ks, vs, rfl, by assumption⟩
          · cases c'
        | .dct m true ks vs, c, _ => exact nomatch c
      · have c' : (if isFL vs = true then some ks else none) = some is := c
        split at c'
        · cases c'; exact ItOk.keys k1 k2 hg
        · cases c'
    · refine .inl ⟨e, G, F, S, ?_⟩
      unfold semIt semVc semVn at p
      unfold semIt0 semVc semVn
      rw [cm] at p ⊢
      dsimp only [R.bind] at p ⊢
      have : itemsD .plain [d] = itemsD0 .plain [d] := by
        cases d with
        | dct => exact absurd rfl hd
        | _ => rfl
      rw [this] at p
      exact p
end
end Wpk
set_option Elab.async false
set_option linter.all false
set_option maxRecDepth 100000
set_option maxHeartbeats 1000000
/-! P10: instances: fields, properties, methods, making. -/
namespace Wpk
open PySem PySem.Spec PyProof.Rows L2
section
variable {X : Cx} {L : List Nat} {W : Wd} {Wx : WX} {σ : L2.St} {G G1 G2 G' H H1 H2 H' : Hp} {F F1 F2 Fa Fb : List Addr} {e e1 : Env} {v : V} {Q : VK}
theorem Ow.ins_at {m : Bool} {c : Nat} {fs : List Str} {xs : List D} (s : Sm G H) (o : Ow W G H (.ins m c fs xs) F v) : ∃ a dx vs F', v = .ref a ∧ H a = some (.ins (W.cA c) dx (fs.zip vs)) ∧ fs.length = vs.length ∧ OwL W G H xs F' vs := by
  cases m with
  | true =>
    obtain ⟨a, dx, vs, F', rfl, rfl, ga, hh, hl, l⟩ := o
    exact ⟨a, dx, vs, F', rfl, hh, hl, l⟩
  | false =>
    obtain ⟨rfl, a, dx, vs, rfl, q, hl, l⟩ := o
    exact ⟨a, dx, vs, [], rfl, (le_of s).ins _ _ _ _ q, hl, l⟩
theorem getF_ok : ∀ {fs : List Str} {xs : List D} {vs : List V} {F : List Addr} {f : Str} {d : D}, OwL W G H xs F vs → getF fs xs f = some d → isF d = true → ∃ v, (fs.zip vs).lookup f = some v ∧ Ow W G H d [] v
  | [], xs, vs, F, f, d, o, h, _ => by cases xs <;> cases h
  | g :: fs, [], vs, F, f, d, o, h, _ => by cases h
  | g :: fs, x :: xs, vs, F, f, d, o, h, hf => by
    obtain ⟨A, B, v, vs', rfl, rfl, o1, o2⟩ := o
    have h' : (if f = g then some x else getF fs xs f) = some d := h
    by_cases e : f = g
    · rw [if_pos e] at h'
      cases h'
      have e0 := o1.nil_of hf
      subst e0
      refine ⟨v, ?_, o1⟩
      show List.lookup f ((g, v) :: fs.zip vs') = some v
      rw [List.lookup_cons, beq_iff_eq.mpr e]
    · rw [if_neg e] at h'
      obtain ⟨u, hu, ou⟩ := getF_ok o2 h' hf
      refine ⟨u, ?_, ou⟩
      show List.lookup f ((g, v) :: fs.zip vs') = some u
      rw [List.lookup_cons, beq_eq_false_iff_ne.mpr e]
      exact hu
theorem getF_none : ∀ {fs : List Str} {vs : List V} {m : Str}, fs.contains m = false → (fs.zip vs).lookup m = none
  | [], vs, m, _ => by cases vs <;> rfl
  | g :: fs, [], m, _ => rfl
  | g :: fs, v :: vs, m, h => by
    rw [List.contains_cons, Bool.or_eq_false_iff] at h
    show List.lookup m ((g, v) :: fs.zip vs) = none
    rw [List.lookup_cons, h.1]
    exact getF_none h.2
/-! ### e.f -/
theorem fld_read {cs : List Nat} {f : Str} {m : Env → R Od} (hc : ∀ c ∈ cs, Cls X.K (W.cA c) ∧ NoAttr X.K (W.cA c) f) (h : tE W Wx (semFld cs f m) σ H Q) : tFld X.K (tO W Wx m) f σ H Q := by
  obtain ⟨e, G, F, S, p⟩ := h
  refine ⟨e, G, F, S, p.go S.refl nomem fun o e1 v G1 H1 F1 Fa p1 S1 E1 r1 => ?_⟩
  cases c1 : o.res e1 with
  | none => rw [c1] at p1; exact p1.elim
  | some d =>
    rw [c1] at p1
    obtain ⟨d', c2, p2⟩ := Post.of (o := fldD cs f d) p1
    obtain ⟨F0, od, _⟩ := r1.view E1 c1
    cases d with
    | ins m' c fs vs =>
      have c3 : (if cs.contains c = true then (match getF fs vs f with | some d => if isF d = true then some d else none | none => none) else none) = some d' := c2
      split at c3
      · rename_i hcc
        cases c4 : getF fs vs f with
        | none => rw [c4] at c3; cases c3
        | some d2 =>
          rw [c4] at c3
          dsimp only at c3
          split at c3
          · rename_i hf
            cases c3
            obtain ⟨a, dx, us, F', rfl, hh, hl, l⟩ := od.ins_at S1.sh
            obtain ⟨u, hu, ou⟩ := getF_ok l c4 hf
            obtain ⟨k1, k2⟩ := hc c (by simpa using hcc)
            exact ⟨a, _, dx, _, u, rfl, hh, k1, k2, hu, (p2.fin S1.drop E1).now S1.sh ou⟩
          · cases c3
      · cases c3
    | _ => cases c2
theorem pe_fldE {cs : List Nat} {f : Str} {x : Expr} {m : Env → R Od} {pos : Pos} (hc : ∀ c ∈ cs, Cls X.K (W.cA c) ∧ NoAttr X.K (W.cA c) f) (h : PE X x (tO W Wx m)) (hb : isCall0 x = false) : PE X (.Attribute x f pos) (tE W Wx (semFld cs f m)) :=
  PE.imp (pe_fld h (base_ok hb)) fun _ _ _ z => fld_read hc z
/-! ### properties -/
theorem nox_call {run : Nat → List D → R D} {f : Nat} {os : List Od} {e : Env} : (doCall run f os e).nox = doCall (fun f ds => (run f ds).nox) f os e := by
  unfold doCall
  cases lend os e with
  | none => rfl
  | some p =>
    obtain ⟨ds, e1⟩ := p
    dsimp only
    cases run f ds with
    | no => rfl
    | exc x fs =>
      dsimp only [R.nox]
      cases back os ds fs e1 <;> rfl
    | ok d fs =>
      dsimp only [R.nox]
      cases back os ds fs e1 <;> rfl
theorem sp_nox {run : List D → R D} {vs : List V} {E E' : XK} (h : spOf W (fun ds => (run ds).nox) vs H Q E) : spOf W run vs H Q E' := by
  obtain ⟨G, ds, F, s, nd, o, q⟩ := h
  refine ⟨G, ds, F, s, nd, o, ?_⟩
  dsimp only at q
  cases c : run ds with
  | no => rw [c] at q; exact q
  | exc x fs => rw [c] at q; exact (show False from q).elim
  | ok d fs => rw [c] at q; exact q
theorem prp_read {run : Nat → List D → R D} {c f : Nat} {m : Env → R Od} {E : XK} (h : tE W Wx (semPrp run c f m) σ H Q) : tProp (W.cA c) (spOf W (run f)) [] E (tO W Wx m) σ H Q := by
  obtain ⟨e, G, F, S, p⟩ := h
  refine ⟨e, G, F, S, p.go S.refl nomem fun o e1 v G1 H1 F1 Fa p1 S1 E1 r1 => ?_⟩
  cases c1 : o.res e1 with
  | none => rw [c1] at p1; exact p1.elim
  | some d =>
    rw [c1] at p1
    dsimp only at p1
    by_cases hd : isInc c d = true
    · rw [if_pos hd, nox_call] at p1
      obtain ⟨F0, od, _⟩ := r1.view E1 c1
      cases d with
      | ins m' c' fs vs =>
        have ec : c' = c := beq_iff_eq.mp hd
        subst ec
        obtain ⟨a, dx, us, F', rfl, hh, hl, l⟩ := od.ins_at S1.sh
        refine ⟨a, dx, _, rfl, hh, sp_nox (call_fin (vs := [.ref a]) p1 S1 E1 ?_)⟩
        rw [rOs]
        exact ⟨Fa, [], .ref a, [], by simp, rfl, r1, by rw [rOs]; exact ⟨rfl, rfl⟩⟩
      | _ => cases hd
    · rw [if_neg hd] at p1; exact p1.elim
theorem pe_prpE {run : Nat → List D → R D} {c f k : Nat} {g p : Addr} {fd : FuncData} {ps : List Str} {nm : Str} {x : Expr} {m : Env → R Od} {pos : Pos} (hc : Cls X.K (W.cA c)) (hp : PropOf X.K (W.cA c) nm p g) (Fn : FnG X.prog X.w X.K X.mg X.base (L2.CX X.prog X.w) k g fd ps (spOf W (run f))) (hr : Room (k + 1) X.A) (hG : Calm X.A) (hb : Binds X.K fd ps [])
    (h : PE X x (tO W Wx m)) (h0 : isCall0 x = false) : PE X (.Attribute x nm pos) (tE W Wx (semPrp run c f m)) := by
  refine PE.imp (pe_propG (E := fun _ _ _ => False) h hc hp Fn hr hG hb (fun pins σ H s er s' I q => ?_) (base_ok h0)) fun _ _ _ z => prp_read z
  obtain ⟨a, B, H', cls, dd, _, _, _, _, _, _, _, z⟩ := q
  exact z.elim
/-! ### methods -/
def tMethW (C : Addr) (nm : Str) (sp : Sp) (E : L2.St → XK) (ta : TE) (t : TA) : TE := fun σ H Q => ta σ H fun x H1 => ∃ a dx fs, x = .ref a ∧ H1 a = some (.ins C dx fs) ∧ fs.lookup nm = none ∧ t σ H1 fun vs H2 => sp (x :: vs) H2 Q (E σ)
theorem pe_methW {pl : Sem Bool} {CX : CXT} {k : Nat} {g C : Addr} {fd : FuncData} {ps : List Str} {sp : Sp} {E : L2.St → XK} {nm : Str} {pos apos : Pos} {o y : Expr} {ys : List Expr} {ta : TE} {t : TA} (ho : PE X o ta) (c : Cls X.K C) (hm : Meth X.K C nm g) (Fn : FnG X.prog X.w X.K X.mg X.base CX k g fd ps sp) (hr : Room k X.A) (hG : Calm X.A) (hb : Binds X.K fd ps []) (hx : ∀ σ, PassesAt CX X σ (E σ)) (ha : PA X (y :: ys) t)
    (hst : starEach (y :: ys) X.env = (false, eval y X.env) :: starEach ys X.env) (hpl : (backTo pos (starEach ys X.env)).any (·.1) = false)
    (ht : eval (.Call (.Attribute o nm apos) (y :: ys) [] pos) X.env = (do
      let ov ← eval o X.env
      standAt apos.atName
      let (q, first) ← holding [ov] (getMethod ov nm pl)
      callWith pos q first (backTo pos (starEach (y :: ys) X.env)) (backToKw pos (keywordEach [] X.env)))) : PE X (.Call (.Attribute o nm apos) (y :: ys) [] pos) (tMethW C nm sp E ta t) := by
  refine ⟨fun pins s σ H Q I h => PySem.W.methodCall_KW (pl := pl) (thn (ho.run pins s σ H _ I h) fun u s1 ⟨x, H1, I1, rx, a, dx, fs, ex, ea, l, q⟩ => ?_) ht⟩
  subst ex
  have eu : u = Value.ref a := rx
  subst eu
  refine getmeth_ok I1 ea c hm l (PySem.W.callWith_K (first := [.ref a]) (h₀ := X.base) I.ok.mod.kin hm.kp (thn (ha.run pos pins s1 σ H1 _ I1 q) fun us s2 ⟨vs, H2, I2, r, q2⟩ => ⟨I2.kIn, ?_⟩) hst hpl)
  exact run_fnG (us := .ref a :: us) (vs := .ref a :: vs) Fn hr hG hb (hx σ) I2 (.cons rfl r) q2
theorem pe_methW0 {pl : Sem Bool} {CX : CXT} {k : Nat} {g C : Addr} {fd : FuncData} {ps : List Str} {sp : Sp} {E : L2.St → XK} {nm : Str} {pos apos : Pos} {o : Expr} {ta : TE} (ho : PE X o ta) (c : Cls X.K C) (hm : Meth X.K C nm g) (Fn : FnG X.prog X.w X.K X.mg X.base CX k g fd ps sp) (hr : Room k X.A) (hG : Calm X.A) (hb : Binds X.K fd ps []) (hx : ∀ σ, PassesAt CX X σ (E σ))
    (ht : eval (.Call (.Attribute o nm apos) [] [] pos) X.env = (do
      let ov ← eval o X.env
      standAt apos.atName
      let (q, first) ← holding [ov] (getMethod ov nm pl)
      callWith pos q first (backTo pos (starEach [] X.env)) (backToKw pos (keywordEach [] X.env)))) : PE X (.Call (.Attribute o nm apos) [] [] pos) (tMethW C nm sp E ta tNil) := by
  refine ⟨fun pins s σ H Q I h => PySem.W.methodCall_KW (pl := pl) (thn (ho.run pins s σ H _ I h) fun u s1 ⟨x, H1, I1, rx, a, dx, fs, ex, ea, l, q⟩ => ?_) ht⟩
  subst ex
  have eu : u = Value.ref a := rx
  subst eu
  exact getmeth_ok I1 ea c hm l (PySem.W.callWith_K0 (first := [.ref a]) I1.kIn hm.kp (run_fnG (us := [.ref a]) (vs := [.ref a]) Fn hr hG hb (hx σ) I1 (.cons rfl .nil) q))
theorem meth_read {run : Nat → List D → R D} {c f : Nat} {nm : Str} {m : Env → R Od} {as : Env → R (List Od)} (h : tE W Wx (semMeth run c f nm m as) σ H Q) : tMethW (W.cA c) nm (spOf W (run f)) (WE Wx) (tO W Wx m) (tOs W Wx as) σ H Q := by
  obtain ⟨e, G, F, S, p⟩ := h
  refine ⟨e, G, F, S, p.go S.refl nomem fun o e1 v G1 H1 F1 Fa p1 S1 E1 r1 => ?_⟩
  cases c1 : o.res e1 with
  | none => rw [c1] at p1; exact p1.elim
  | some d =>
    rw [c1] at p1
    dsimp only at p1
    by_cases hd : isIns c nm d = true
    · rw [if_pos hd] at p1
      obtain ⟨F0, od, _⟩ := r1.view E1 c1
      cases d with
      | ins m' c' fs vs =>
        have hd' : (c' == c && !fs.contains nm) = true := hd
        rw [Bool.and_eq_true] at hd'
        have ec : c' = c := beq_iff_eq.mp hd'.1
        subst ec
        obtain ⟨a, dx, us, F', rfl, hh, hl, l⟩ := od.ins_at S1.sh
        refine ⟨a, dx, _, rfl, hh, getF_none (by simpa using hd'.2), e1, G1, F1, S1.sta E1, p1.go S1 r1.mem fun os e2 ws G2 H2 F2 Fb p2 S2 E2 r2 => ?_⟩
        obtain ⟨S3, k3⟩ := Stp.two S1 S2 r1.mem
        have r1' := r1.frame S2.sg k3
        have pm : (F2 ++ Fb ++ Fa).Perm (F2 ++ (Fa ++ Fb)) := by
          rw [List.append_assoc]
          exact List.Perm.append_left F2 List.perm_append_comm
        refine call_fin (Fa := Fa ++ Fb) p2 (S3.perm (fun _ z => z) (fun b hb => (pm.mem_iff).mpr hb) ((pm.nodup_iff).mp S3.nd)) E2 ?_
        rw [rOs]
        exact ⟨Fa, Fb, .ref a, ws, rfl, rfl, r1', r2⟩
      | _ => cases hd
    · rw [if_neg hd] at p1; exact p1.elim
theorem meth0_read {run : Nat → List D → R D} {c f : Nat} {nm : Str} {m : Env → R Od} (h : tE W Wx (semMeth run c f nm m semOn) σ H Q) : tMethW (W.cA c) nm (spOf W (run f)) (WE Wx) (tO W Wx m) tNil σ H Q := by
  refine Rd1.mono (fun x H1 ⟨a, dx, fs, h1, h2, h3, e, G, F, S, p⟩ => ⟨a, dx, fs, h1, h2, h3, ?_⟩) (meth_read h)
  refine p [] G H1 F [] S.refl S.env ?_
  rw [rOs]
  exact ⟨rfl, rfl⟩
/-! ### making -/
def tMakeW (C : Addr) (sp : Sp) (E : L2.St → XK) (t : TA) : TE := fun σ H Q => t σ H fun vs H1 => ∀ x dx, H1 x = none → H1 dx = none → dx ≠ x → sp (.ref x :: vs) (upd (upd H1 dx (.own x)) x (.ins C dx [])) (fun v H2 => v = .non ∧ Q (.ref x) H2) (E σ)
theorem run_makeW {CX : CXT} {k : Nat} {g C : Addr} {fd : FuncData} {ps : List Str} {sp : Sp} {E : XK} {pins : List (Addr × Obj)} {s : Shared} {us : List Value} {vs : List V} (M : Mk X.K C g) (Fn : FnG X.prog X.w X.K X.mg X.base CX k g fd ps sp) (hr : Room (k + 1) X.A) (hG : Calm X.A) (hb : Binds X.K fd ps []) (hx : PassesAt CX X σ E) (I : Inv X pins σ H s) (r : Vals vs us)
    (h : ∀ x dx, H x = none → H dx = none → dx ≠ x → sp (.ref x :: vs) (upd (upd H dx (.own x)) x (.ins C dx [])) (fun v H2 => v = .non ∧ Q (.ref x) H2) E) : wpAny (model X.prog X.w) X.A (call (.ref C) us) (EP X pins σ Q) X.xe s := by
  have hq := h (s.heap.objs.size + 1) s.heap.objs.size (I.hok.fresh (Nat.le_succ _)) (I.hok.fresh (Nat.le_refl _)) (Nat.ne_of_lt (Nat.lt_succ_self _))
  have J := Inv.made (C := C) I
  have rr : Vals (V.ref (s.heap.objs.size + 1) :: vs) (Value.ref (s.heap.objs.size + 1) :: us) := .cons rfl r
  have ln : (Value.ref (s.heap.objs.size + 1) :: us).length = ps.length := by rw [← rr.length]; exact Fn.len _ _ _ _ hq
  have bn := hb _ (Value.ref (s.heap.objs.size + 1) :: us) J.kIn (by rw [List.append_nil]; exact ln)
  rw [List.append_nil] at bn
  refine wpAny_call (make_map (f := g) I.kIn M.makes M.init (beq_iff_eq.mp M.fn) (codeAny_mono (Fn.run _ X.stack _ _ ⟨Value.ref (s.heap.objs.size + 1) :: us, []⟩ _ _ _ E (hr.make C us []) (hG.make C us []) (J.env0.make C us []) bn rr hq) fun z s' hz => ?_))
  cases z with
  | error er => exact hx pins _ _ er s' J hz
  | ok fl =>
    cases fl with
    | ret u =>
      obtain ⟨w, H3, J3, rw', ew, q3⟩ := J.after hz
      subst ew
      exact ⟨rw', V.ref _, H3, J3, rfl, q3⟩
    | next => exact hz.elim
    | brk => exact hz.elim
    | cont => exact hz.elim
theorem pe_makeW {CX : CXT} {k : Nat} {g C : Addr} {fd : FuncData} {ps : List Str} {sp : Sp} {E : L2.St → XK} {nm : Str} {p pos : Pos} {y : Expr} {ys : List Expr} {t : TA} (M : Mk X.K C g) (Fn : FnG X.prog X.w X.K X.mg X.base CX k g fd ps sp) (hr : Room (k + 1) X.A) (hG : Calm X.A) (hg : Gl X nm) (hm : X.mg nm = some (.ref C)) (hb : Binds X.K fd ps []) (hx : ∀ σ, PassesAt CX X σ (E σ))
    (ha : PA X (y :: ys) t) (hdb : (nm == ("__debug__" : Str)) = false) (he : starEach (y :: ys) X.env = (false, eval y X.env) :: starEach ys X.env) (hpl : (backTo pos (starEach ys X.env)).any (·.1) = false) : PE X (.Call (.Name nm p) (y :: ys) [] pos) (tMakeW C sp E t) := by
  refine ⟨fun pins s σ H Q I h => wpAny_Call_Name_kw (ld_glob I hg hm ?_ hdb)⟩
  exact PySem.W.callWith_K (h₀ := X.base) I.ok.mod.kin M.kp (thn (ha.run pos pins s σ H _ I h) fun us s1 ⟨vs, H1, I1, r, q⟩ => ⟨I1.kIn, run_makeW M Fn hr hG hb (hx σ) I1 r q⟩) he hpl
theorem pe_makeW0 {CX : CXT} {k : Nat} {g C : Addr} {fd : FuncData} {ps : List Str} {sp : Sp} {E : L2.St → XK} {nm : Str} {p pos : Pos} (M : Mk X.K C g) (Fn : FnG X.prog X.w X.K X.mg X.base CX k g fd ps sp) (hr : Room (k + 1) X.A) (hG : Calm X.A) (hg : Gl X nm) (hm : X.mg nm = some (.ref C)) (hb : Binds X.K fd ps []) (hx : ∀ σ, PassesAt CX X σ (E σ))
    (hdb : (nm == ("__debug__" : Str)) = false) : PE X (.Call (.Name nm p) [] [] pos) (tMakeW C sp E tNil) := by
  refine ⟨fun pins s σ H Q I h => wpAny_Call_Name_kw (ld_glob I hg hm ?_ hdb)⟩
  exact PySem.W.callWith_K0 I.kIn M.kp (run_makeW (us := []) M Fn hr hG hb (hx σ) I .nil h)
theorem call_mid {Fl F' : List Addr} {e2 : Env} (T2 : Stp F G H (F2 ++ Fl) G2 H2) (E2 : EnvR W G2 H2 e2 F2 σ) (S3 : Stp Fl G2 H2 F' G' H') : Stp F G H (F2 ++ F') G' H' ∧ EnvR W G' H' e2 F2 σ := by
  obtain ⟨nF2, nFl, dj⟩ := List.nodup_append.mp T2.nd
  have m2 : ∀ b ∈ F2, G2 b = none ∧ b ∉ Fl ∧ H2 b ≠ none := fun b hb => ⟨(E2.mem b hb).1, fun z => dj b hb b z rfl, fun z => by obtain ⟨o, q⟩ := (E2.mem b hb).2; rw [z] at q; cases q⟩
  have S4 := S3.beside nF2 m2
  have nd4 : (F2 ++ F').Nodup := (List.perm_append_comm.nodup_iff).mp S4.nd
  refine ⟨T2.trans (S4.perm (fun b hb => ?_) (fun b hb => ?_) nd4), E2.frame S3.sg fun b hb => S3.kept (m2 b hb).1 (m2 b hb).2.1 (m2 b hb).2.2⟩
  · rw [List.mem_append] at hb ⊢; exact hb.symm
  · rw [List.mem_append] at hb ⊢; exact hb.symm
theorem Stp.newIns {x dx : Addr} {o : HO} (s : Sm G H) (hx : H x = none) (hd : H dx = none) : Stp [] G H [x] G (upd (upd H dx (.own x)) x o) := by
  have gx := s.free hx
  have gd := s.free hd
  refine ⟨Sm.refl, (s.upd gd).upd gx, by simp, fun b hb => ?_, fun b z h _ _ => ?_, fun b h _ => ?_, fun _ h _ _ => h⟩
  · have e : b = x := by simpa using hb
    subst e
    exact .inr hx
  · rw [upd_ne (ne_of_none h hx), upd_ne (ne_of_none h hd)]; exact h
  · have n1 : b ≠ x := fun e => by rw [e] at h; exact h hx
    have n2 : b ≠ dx := fun e => by rw [e] at h; exact h hd
    rw [upd_ne n1, upd_ne n2]; exact h
theorem mk_read {run : Nat → List D → R D} {c f : Nat} {m : Env → R (List Od)} (h : tE W Wx (semMk run c f m) σ H Q) : tMakeW (W.cA c) (spOf W (run f)) (WE Wx) (tOs W Wx m) σ H Q := by
  obtain ⟨e, G, F, S, p⟩ := h
  refine ⟨e, G, F, S, p.go S.refl nomem fun os e1 vs G1 H1 F1 Fa p1 S1 E1 r1 => ?_⟩
  intro x dx hx hdx ne
  unfold doMake at p1
  cases cl : lend os e1 with
  | none => rw [cl] at p1; exact p1.elim
  | some pr =>
    obtain ⟨ds, e2⟩ := pr
    rw [cl] at p1
    dsimp only at p1
    obtain ⟨G2, F2, Fl, S2, E2, o2, sl⟩ := lend_ok cl r1 E1 S1.nd S1.sh
    have T2 := S1.trans S2
    have Sn := Stp.newIns (o := .ins (W.cA c) dx []) S2.sh hx hdx
    have all : ∀ b ∈ F2 ++ Fl, G2 b = none ∧ b ∉ ([] : List Addr) ∧ H1 b ≠ none := fun b hb => by
      have z : G2 b = none ∧ ∃ o, H1 b = some o := (List.mem_append.mp hb).elim (E2.mem b) (o2.mem b)
      exact ⟨z.1, (fun y => nomatch y), fun y => by obtain ⟨o, q⟩ := z.2; rw [y] at q; cases q⟩
    have S5 := Sn.beside T2.nd all
    have nx : x ∉ F2 ++ Fl := fun z => (all x z).2.2 hx
    have nd5 : (F2 ++ (x :: Fl)).Nodup := by
      have z : ([x] ++ (F2 ++ Fl)).Nodup := S5.nd
      refine (List.Perm.nodup_iff ?_).mp z
      show (x :: (F2 ++ Fl)).Perm (F2 ++ x :: Fl)
      exact (List.perm_middle).symm
    have T3 : Stp F G H (F2 ++ (x :: Fl)) G2 (upd (upd H1 dx (.own x)) x (.ins (W.cA c) dx [])) := T2.trans (S5.perm (fun b hb => by simpa using hb) (fun b hb => by
      simp only [List.mem_append, List.mem_cons] at hb ⊢
      rcases hb with z | z | z <;> simp [z]) nd5)
    have kp : ∀ b ∈ F2 ++ Fl, G2 b = none ∧ (upd (upd H1 dx (.own x)) x (.ins (W.cA c) dx [])) b = H1 b := fun b hb => Sn.kept (all b hb).1 (all b hb).2.1 (all b hb).2.2
    have E3 := E2.frame (G' := G2) (H' := upd (upd H1 dx (.own x)) x (.ins (W.cA c) dx [])) Sm.refl fun b hb => kp b (List.mem_append_left _ hb)
    have o3 := o2.frame (G' := G2) (H' := upd (upd H1 dx (.own x)) x (.ins (W.cA c) dx [])) Sm.refl fun b hb => kp b (List.mem_append_right _ hb)
    have gx := S2.sh.free hx
    refine ⟨G2, .ins true c [] [] :: ds, x :: Fl, T3.sh, (List.nodup_append.mp nd5).2.1, ⟨[x], Fl, .ref x, vs, rfl, rfl, ⟨x, dx, [], [], rfl, rfl, gx, upd_same, rfl, rfl, rfl⟩, o3⟩, ?_⟩
    cases cr : run f (.ins true c [] [] :: ds) with
    | no => rw [cr] at p1; exact p1
    | exc z fs =>
      rw [cr] at p1
      dsimp only at p1
      intro G' H' F' cls dy S6 fin rx
      obtain ⟨T7, E7⟩ := call_mid T3 E3 S6
      obtain ⟨A, B, w, ws, rfl, ew, f1, f2⟩ := fin
      cases ew
      cases cb : back os ds fs.tail e2 with
      | none => rw [cb] at p1; exact p1.elim
      | some e3 =>
        rw [cb] at p1
        have ndB : (F2 ++ B).Nodup := T7.nd.sublist (List.Sublist.append (List.Sublist.refl F2) (List.sublist_append_right A B))
        obtain ⟨F3, E8, m8, n8⟩ := back_ok cb f1 sl E7 ndB
        have p2 : XPost W Wx σ F G H z e3 := p1
        exact p2 G' H' F3 cls dy (T7.perm (fun _ y => y) (fun b hb => by rcases m8 b hb with y | y <;> simp [y]) n8) E8 rx
    | ok d fs =>
      rw [cr] at p1
      intro v G' H' F' Fv S6 fin od
      obtain ⟨T7, E7⟩ := call_mid T3 E3 S6
      obtain ⟨A, B, w, ws, rfl, ew, f1, f2⟩ := fin
      cases ew
      match d, fs, p1, od with
      | .non, some d' :: fs, p1, od =>
        obtain ⟨rfl, rfl⟩ := od
        refine ⟨rfl, ?_⟩
        have p1 : Post (rD W) W Wx σ F G H Q (match back os ds fs e2 with | some e2 => .ok d' e2 | none => .no) := p1
        have od' : Ow W G' H' d' A (.ref x) := f2
        cases cb : back os ds fs e2 with
        | none => rw [cb] at p1; exact p1.elim
        | some e3 =>
          rw [cb] at p1
          rw [List.append_nil] at T7
          have ndB : (F2 ++ B).Nodup := T7.nd.sublist (List.Sublist.append (List.Sublist.refl F2) (List.sublist_append_right A B))
          obtain ⟨F3, E8, m8, n8⟩ := back_ok cb f1 sl E7 ndB
          have p2 : Post (rD W) W Wx σ F G H Q (.ok d' e3) := p1
          have nd7 := T7.nd
          refine p2 (.ref x) G' H' F3 A (T7.perm (fun _ y => y) (fun b hb => ?_) ?_) E8 od'
          · rcases List.mem_append.mp hb with y | y
            · rcases m8 b y with y | y <;> simp [y]
            · simp [y]
          · obtain ⟨n2, nAB, dj⟩ := List.nodup_append.mp nd7
            obtain ⟨nA, nB, djAB⟩ := List.nodup_append.mp nAB
            refine List.nodup_append.mpr ⟨n8, nA, fun a ha b hb eab => ?_⟩
            subst eab
            rcases m8 a ha with y | y
            · exact dj a y a (List.mem_append_left _ hb) rfl
            · exact djAB a hb a y rfl
      | .non, [], p1, od => exact p1.elim
      | .non, none :: fs, p1, od => exact p1.elim
      | .bl _, _, p1, _ => exact p1.elim
      | .int _, _, p1, _ => exact p1.elim
      | .str _, _, p1, _ => exact p1.elim
      | .tup _, _, p1, _ => exact p1.elim
      | .lst _ _, _, p1, _ => exact p1.elim
      | .dct _ _ _ _, _, p1, _ => exact p1.elim
      | .ins _ _ _ _, _, p1, _ => exact p1.elim
      | .ty _, _, p1, _ => exact p1.elim
      | .cls _, _, p1, _ => exact p1.elim
      | .fn _, _, p1, _ => exact p1.elim
      | .ksq _, _, p1, _ => exact p1.elim
theorem mk0_read {run : Nat → List D → R D} {c f : Nat} (h : tE W Wx (semMk run c f semOn) σ H Q) : tMakeW (W.cA c) (spOf W (run f)) (WE Wx) tNil σ H Q := by
  obtain ⟨e, G, F, S, p⟩ := mk_read h
  refine p [] G H F [] S.refl S.env ?_
  rw [rOs]
  exact ⟨rfl, rfl⟩
/-! ### self.f = e -/
theorem putFs_ok {f : Str} {d : D} {v : V} {Fa : List Addr} (od : Ow W G H d Fa v) : ∀ {fs : List Str} {xs : List D} {vs : List V} {F : List Addr}, OwL W G H xs F vs → fs.length = vs.length →
    ∃ us F3, putF f v (fs.zip vs) = (putFs fs xs f d).1.zip us ∧ (putFs fs xs f d).1.length = us.length ∧ OwL W G H (putFs fs xs f d).2 F3 us ∧ (∀ b ∈ F3, b ∈ F ++ Fa) ∧ ((F ++ Fa).Nodup → F3.Nodup)
  | [], xs, vs, F, o, hl => by
    cases vs with
    | cons _ _ => cases hl
    | nil =>
      cases xs with
      | cons _ _ => obtain ⟨_, _, _, _, _, z, _⟩ := o; cases z
      | nil => exact ⟨[v], Fa, rfl, rfl, OwL.one od, fun b hb => by simp [hb], fun nd => (List.nodup_append.mp nd).2.1⟩
  | g :: fs, xs, [], F, o, hl => by cases hl
  | g :: fs, [], v0 :: vs, F, o, hl => by cases o.2
  | g :: fs, x :: xs, v0 :: vs, F, o, hl => by
    obtain ⟨A, B, w, ws, rfl, ew, o1, o2⟩ := o
    cases ew
    have hl' : fs.length = vs.length := by simpa using hl
    by_cases e : g = f
    · have ep : putFs (g :: fs) (x :: xs) f d = (g :: fs, d :: xs) := if_pos e
      rw [ep]
      refine ⟨v :: vs, Fa ++ B, ?_, by simpa using hl', ⟨Fa, B, v, vs, rfl, rfl, od, o2⟩, fun b hb => ?_, fun nd => ?_⟩
      · show putF f v ((g, v0) :: fs.zip vs) = _
        unfold putF
        rw [if_pos e]
        rfl
      · simp only [List.mem_append] at hb ⊢
        rcases hb with z | z <;> simp [z]
      · have s1 : (B ++ Fa).Sublist (A ++ B ++ Fa) := by
          rw [List.append_assoc]
          exact List.sublist_append_right A (B ++ Fa)
        exact (List.perm_append_comm.nodup_iff).mp (nd.sublist s1)
    · have ep : putFs (g :: fs) (x :: xs) f d = (g :: (putFs fs xs f d).1, x :: (putFs fs xs f d).2) := if_neg e
      rw [ep]
      obtain ⟨us, F3, h1, h2, h3, h4, h5⟩ := putFs_ok od o2 hl'
      refine ⟨v0 :: us, A ++ F3, ?_, by simpa using h2, ⟨A, F3, v0, us, rfl, rfl, o1, h3⟩, fun b hb => ?_, fun nd => ?_⟩
      · show putF f v ((g, v0) :: fs.zip vs) = _
        unfold putF
        rw [if_neg e, h1]
        rfl
      · rcases List.mem_append.mp hb with z | z
        · simp [z]
        · have := h4 b z
          simp only [List.mem_append] at this ⊢
          rcases this with y | y <;> simp [y]
      · rw [List.append_assoc] at nd
        obtain ⟨nA, nB, dj⟩ := List.nodup_append.mp nd
        exact List.nodup_append.mpr ⟨nA, h5 nB, fun p hp q hq epq => dj p hp q (h4 q hq) epq⟩
variable {Z : Ends}
theorem sfld_read {cs : List Nat} {i : Nat} {f : Str} {m : Env → R D} (hc : ∀ c ∈ cs, Cls X.K (W.cA c) ∧ NoAttr X.K (W.cA c) f) (h : tSm L W Wx (semSfld cs i f m) Z σ H) : sFld X.K (tVar i) (tE W Wx m) f Z σ H := by
  obtain ⟨e, G, F, S, p⟩ := h
  refine ⟨e, G, F, S, p.go S.refl nomem fun d e1 y G1 H1 F1 Fa p1 S1 E1 r1 => ?_⟩
  match c0 : Env.get e1 i, p1 with
  | some (.ins true c fs xs), p1 =>
    have p1 : PostS L W Wx σ F G H Z (if (cs.contains c && decide (fs.length < 1000) && decide (fs.length = xs.length)) = true then .ok .nx (Env.put e1 i (.ins true c (putFs fs xs f d).1 (putFs fs xs f d).2)) else .no) := p1
    by_cases hcc : (cs.contains c && decide (fs.length < 1000) && decide (fs.length = xs.length)) = true
    · rw [if_pos hcc] at p1
      simp only [Bool.and_eq_true, decide_eq_true_eq] at hcc
      obtain ⟨⟨h1, h2⟩, h3⟩ := hcc
      obtain ⟨a, F', s1, o0, ga, nd, ne, fin⟩ := mut_slot S1 E1 (fun b hb => (Ow.mem r1 b hb).1) c0 rfl
      obtain ⟨a', dx, us, F2, e1', e2', _, hh, hl, l⟩ := o0
      cases e1'
      cases e2'
      obtain ⟨k1, k2⟩ := hc c (by simpa using h1)
      refine ⟨.ref a, s1, a, W.cA c, dx, fs.zip us, rfl, hh, k1, k2, by rw [List.length_zip, ← hl, Nat.min_self]; exact h2, ?_⟩
      have fr : ∀ b, b ∈ F' ++ Fa → ∀ hn, upd H1 a hn b = H1 b := fun b hb hn => upd_ne (ne b hb).1
      have od' : Ow W G1 (upd H1 a (.ins (W.cA c) dx (putF f y (fs.zip us)))) d Fa y := Ow.frame Sm.refl (show Ow W G1 H1 d Fa y from r1) fun b hb => ⟨(ne b (by simp [hb])).2, fr b (by simp [hb]) _⟩
      have l' : OwL W G1 (upd H1 a (.ins (W.cA c) dx (putF f y (fs.zip us)))) xs F' us := l.frame Sm.refl fun b hb => ⟨(ne b (by simp [hb])).2, fr b (by simp [hb]) _⟩
      obtain ⟨ws, F3, q1, q2, q3, q4, q5⟩ := putFs_ok (f := f) od' l' hl
      obtain ⟨F4, S5, E3⟩ := fin (.ins (W.cA c) dx (putF f y (fs.zip us))) (.ins true c (putFs fs xs f d).1 (putFs fs xs f d).2) F3 [] (by rw [List.append_nil]; exact q4) (by rw [List.append_nil]; exact q5 nd) ⟨a, dx, ws, F3, rfl, rfl, ga, by rw [upd_same, q1], q2, q3⟩
      rw [List.append_nil] at S5
      exact p1 σ G1 _ F4 S5 E3 Kp.refl
    · rw [if_neg hcc] at p1; exact p1.elim
  | none, p1 => exact p1.elim
  | some (.ins false _ _ _), p1 => exact p1.elim
  | some .non, p1 => exact p1.elim
  | some (.bl _), p1 => exact p1.elim
  | some (.int _), p1 => exact p1.elim
  | some (.str _), p1 => exact p1.elim
  | some (.tup _), p1 => exact p1.elim
  | some (.lst _ _), p1 => exact p1.elim
  | some (.dct _ _ _ _), p1 => exact p1.elim
  | some (.ty _), p1 => exact p1.elim
  | some (.cls _), p1 => exact p1.elim
  | some (.fn _), p1 => exact p1.elim
  | some (.ksq _), p1 => exact p1.elim
theorem ps_sfldE {cs : List Nat} {i : Nat} {f x : Str} {y : Expr} {m : Env → R D} {p pos pos' : Pos} (hc : ∀ c ∈ cs, Cls X.K (W.cA c) ∧ NoAttr X.K (W.cA c) f) (hN : X.N[i]? = some x) (hv : Vis X.env.scope x) (hd : (x == ("__debug__" : Str)) = false) (hcd : (x == ("__classdict__" : Str)) = false) (h : PE X y (tE W Wx m))
    (hs : swapsWith y (some (.Attribute (.Name x p) f pos')) pos.line X.env = pure false) : PS X (.Assign [.Attribute (.Name x p) f pos'] y pos) (tSm L W Wx (semSfld cs i f m)) := PS.imp (ps_fld (pe_var hN hv hd hcd) h hs) fun _ _ _ z => sfld_read hc z
end
end Wpk
set_option Elab.async false
set_option linter.all false
set_option maxRecDepth 100000
set_option maxHeartbeats 1000000
/-! P11: further built-ins. -/
namespace Wpk
open PySem PySem.Spec PyProof.Rows L2
theorem sOf_ofS (z : Str) : sOf (ofS z) = z := by
  obtain ⟨c⟩ := z
  rfl
theorem kitT : ∀ a ∈ ["NoneType", "bool", "int", "str", "list", "tuple", "dict"], ∀ b ∈ okTys, kitB a b = some (isTy a b) := by decide +kernel
section
variable {X : Cx} {L : List Nat} {W : Wd} {Wx : WX} {σ : L2.St} {G H : Hp} {F : List Addr} {v : V} {Q : VK}
theorem ty_of {d : D} {a : String} (s : Sm G H) (o : Ow W G H d F v) (h : tyNm d = some a) : TyX W.K H v (.type a) ∧ a ∈ ["NoneType", "bool", "int", "str", "list", "tuple", "dict"] := by
  cases d with
  | non => cases h; obtain ⟨_, rfl⟩ := o; exact ⟨.base .non, by decide⟩
  | bl b => cases h; obtain ⟨_, rfl⟩ := o; exact ⟨.base (.bl b), by decide⟩
  | int b => cases h; obtain ⟨_, rfl⟩ := o; exact ⟨.base (.int b), by decide⟩
  | str b => cases h; obtain ⟨_, rfl⟩ := o; exact ⟨.base (.str _), by decide⟩
  | lst m xs =>
    cases h
    obtain ⟨p, vs, F', rfl, q, l⟩ := o.rdL s
    refine ⟨?_, by decide⟩
    rcases q with q | ⟨x, q⟩
    · exact .base (.lst q)
    · exact .base (.frz q)
  | ksq xs =>
    cases h
    obtain ⟨p, vs, rfl, q, l⟩ := o.sqK s
    refine ⟨?_, by decide⟩
    rcases q with (q | ⟨x, q⟩) | ⟨ob, its, n, q1, q2, _⟩
    · exact .base (.lst q)
    · exact .base (.frz q)
    · exact .kList q1 q2
  | tup xs =>
    cases h
    obtain ⟨p, vs, rfl, q, l⟩ := o.sqT s
    refine ⟨?_, by decide⟩
    rcases q with (q | ⟨x, q⟩) | ⟨ob, its, n, q1, q2, _⟩
    · exact .base (.tup q)
    · exact .fTuple q
    · exact .kTuple q1 q2
  | dct m t ks xs =>
    cases t with
    | true => cases h
    | false =>
      cases h
      obtain ⟨p, vs, F', ho, rfl, q, dd, l⟩ := o.rdD s
      obtain ⟨keys, k1, k2, rfl⟩ := dd.k
      refine ⟨?_, by decide⟩
      rcases q with q | ⟨x, q⟩
      · exact .base (.dK q)
      · exact .fDict q
  | _ => cases h
/-- a tuple as it stands in the heap -/
theorem sqT_heap {pins : List (Addr × Obj)} {s : Shared} {p : Addr} {cs : List V} (I : Inv X pins σ H s) (q : SqT X.K H p cs) : ∃ od its n sl, s.heap.get? p = some ⟨.type "tuple", od, .seq its n, sl⟩ ∧ Vals cs its.toList := by
  rcases q with q | ⟨o, its, n, q1, q2, q3, _, q5⟩
  · obtain ⟨_, its, rv, o, h1, h2, n, h3⟩ := (show ObjOk X.prog X.w H s.heap p (.tup cs) from q.ok I.hok)
    obtain ⟨oc, od, dt, sl⟩ := o
    simp only at h2 h3
    subst h2 h3
    exact ⟨od, _, n, sl, h1, by simpa using rv⟩
  · obtain ⟨oc, od, dt, sl⟩ := o
    simp only at q2 q3
    subst q2 q3
    exact ⟨od, its, n, sl, I.kIn _ _ q1, q5⟩
theorem tys_vals : ∀ {ts : List D} {vs : List V} {us : List Value} {F : List Addr} {a : String} {b : Bool} {K : PySem.W.Frag}, a ∈ ["NoneType", "bool", "int", "str", "list", "tuple", "dict"] → OwL W G H ts F vs → Vals vs us → isTys a ts = some b → PySem.W.kitAny K (.type a) us = some b
  | [], vs, us, F, a, b, K, ha, o, r, h => by
    obtain ⟨_, rfl⟩ := o
    cases r
    exact h
  | t :: ts, vs, us, F, a, b, K, ha, o, r, h => by
    obtain ⟨A, B, v, vs', rfl, rfl, o1, o2⟩ := o
    match us, r with
    | u :: us, .cons r1 r2 =>
      cases t with
      | ty n =>
        have h' : (if okTys.contains n = true then (if isTy a n = true then some true else isTys a ts) else none) = some b := h
        split at h'
        · rename_i hn
          obtain ⟨_, rfl⟩ := o1
          have eu : u = .type n := r1
          subst eu
          refine kitAny_cons (kit_ty (kitT a ha n (by simpa using hn))) (fun e => ?_) (fun e => ?_)
          · rw [e] at h'
            exact tys_vals ha o2 r2 h'
          · rw [e] at h'
            exact (Option.some.inj h').symm
        · cases h'
      | _ => cases h
theorem bi_isi (hK : X.K = W.K) : CallR X (.builtin "isinstance") (rPs W isiD) := by
  intro pins s σ H xs us Q I r ⟨G, ds, d, sub, pr, hg, nw⟩
  match ds, pr, hg with
  | [x, .ty b], pr, hg =>
    obtain ⟨v, v', F0, F1, rfl, o, o'⟩ := vw2 pr
    have hg' : (match tyNm x with | some a => if okTys.contains b = true then some (D.bl (isTy a b)) else none | none => none) = some d := hg
    cases c : tyNm x with
    | none => rw [c] at hg'; cases hg'
    | some a =>
      rw [c] at hg'
      dsimp only at hg'
      split at hg'
      · rename_i hb
        cases hg'
        obtain ⟨_, rfl⟩ := o'
        obtain ⟨t1, t2⟩ := ty_of sub o c
        refine call_isi pins s σ H [v, .ty b] us Q I r ⟨v, .ty b, .type a, .type b, isTy a b, rfl, .ty b, by rw [hK]; exact t1, kit_ty (kitT a t2 b (by simpa using hb)), nw.bl sub⟩
      · cases hg'
  | [x, .tup ts], pr, hg =>
    obtain ⟨v, v', F0, F1, rfl, o, o'⟩ := vw2 pr
    have hg' : (match tyNm x with | some a => (isTys a ts).map D.bl | none => none) = some d := hg
    cases c : tyNm x with
    | none => rw [c] at hg'; cases hg'
    | some a =>
      rw [c] at hg'
      dsimp only at hg'
      cases c2 : isTys a ts with
      | none => rw [c2] at hg'; cases hg'
      | some k =>
        rw [c2] at hg'
        cases hg'
        obtain ⟨t1, t2⟩ := ty_of sub o c
        obtain ⟨p, cs, rfl, q, l⟩ := o'.sqT sub
        obtain ⟨u1, u2, rfl, r1, r2⟩ := vals2 r
        cases (show u2 = Value.ref p from r2)
        obtain ⟨P, Z, pp, hx⟩ := kit_of I r1 (by rw [hK]; exact t1)
        obtain ⟨od, its, n, sl, h1, rv⟩ := sqT_heap (cs := cs) I (by rw [hK]; exact q)
        obtain ⟨its⟩ := its
        exact PySem.W.kia_tup Z I.kIn pp h1 (tys_vals t2 l rv c2) hx fun tk => ⟨.bl k, H, I.tok tk, rfl, nw.bl sub⟩
theorem bi_str2 : CallR X (.type "str") (rPs W strD) := by
  intro pins s σ H xs us Q I r ⟨G, ds, d, sub, pr, hg, nw⟩
  match ds, pr, hg with
  | [.int i], pr, hg =>
    obtain ⟨v, F0, rfl, o⟩ := vw1 pr
    obtain ⟨_, rfl⟩ := o
    have hg' : (if i.natAbs.log2 < 1920 then some (D.str (ofS (Str.ofString (toString i)))) else none) = some d := hg
    split at hg'
    · rename_i h
      cases hg'
      refine call_str_int pins s σ H _ us Q I r ⟨i, rfl, h, ?_⟩
      have z := nw.str sub
      rw [sOf_ofS] at z
      exact z
    · cases hg'
  | [.str a], pr, hg =>
    obtain ⟨v, F0, rfl, o⟩ := vw1 pr
    obtain ⟨_, rfl⟩ := o
    cases hg
    obtain ⟨u, rfl, t, rfl⟩ := vals1 r
    exact PySem.P.str_of_str ⟨.str (sOf a), H, I, ⟨t, rfl⟩, nw.str sub⟩
theorem repr_cont {pins : List (Addr × Obj)} {σ : L2.St} {s : Shared} {d d' : D} {F : List Addr} {a : Addr} (hK : X.K = W.K) (hG : Calm X.A) (hu : X.A.units + 65 < cLine) (sub : Sm G H) (o : Ow W G H d F (.ref a)) (hr : reprC d = some d') (nw : Nw W G H d' Q) (I : Inv X pins σ H s) : wpAny (model X.prog X.w) X.A (call (.builtin "repr") [.ref a]) (EP X pins σ Q) X.xe s := by
  unfold reprC at hr
  split at hr
  · rename_i c
    cases hr
    rw [Bool.and_eq_true, Bool.and_eq_true, decide_eq_true_eq] at c
    obtain ⟨⟨c1, c2⟩, c3⟩ := c
    have lay := lay_toPD 60 d c1
    have dp := o.dp sub c1
    rw [← hK] at dp
    obtain ⟨as, rd⟩ := Dp.reads I (toPD d) _ (.ref a) dp rfl
    have z := nw.str sub
    rw [sOf_ofS] at z
    exact repr_of_reads' rd c2 (PyData.noDict_hsm (PyData.hasDict_of_canLay _ lay.1)) hG (by have := lay.2; omega) (fun _ _ e => e) (fun h' u tk hk => ⟨.str _, H, I.kept (t' := tk) hk, ⟨u, rfl⟩, z⟩) (sz c3)
  · cases hr
theorem bi_repr2 (hK : X.K = W.K) (hG : Calm X.A) (hu : X.A.units + 65 < cLine) : CallR X (.builtin "repr") (rPs W reprD) := by
  intro pins s σ H xs us Q I r ⟨G, ds, d, sub, pr, hg, nw⟩
  match ds, pr, hg with
  | [.int i], pr, hg =>
    obtain ⟨v, F0, rfl, o⟩ := vw1 pr
    obtain ⟨_, rfl⟩ := o
    have hg' : (if i.natAbs.log2 < 1920 then some (D.str (ofS (Str.ofString (toString i)))) else none) = some d := hg
    split at hg'
    · rename_i h
      cases hg'
      obtain ⟨u, rfl, t, rfl⟩ := vals1 r
      have z := nw.str sub
      rw [sOf_ofS] at z
      exact PySem.P.repr_of_int h ⟨.str _, H, I.tok _, ⟨_, rfl⟩, z⟩
    · cases hg'
  | [.bl b], pr, hg =>
    obtain ⟨v, F0, rfl, o⟩ := vw1 pr
    obtain ⟨_, rfl⟩ := o
    cases hg
    obtain ⟨u, rfl, e⟩ := vals1 r
    cases (show u = .bool b from e)
    have z := nw.str sub
    rw [sOf_ofS] at z
    refine PySem.P.repr_of_bool ⟨.str (Str.ofString (if b then "True" else "False")), H, I.tok _, ⟨s.toks, ?_⟩, z⟩
    cases b <;> rfl
  | [.non], pr, hg =>
    obtain ⟨v, F0, rfl, o⟩ := vw1 pr
    obtain ⟨_, rfl⟩ := o
    cases hg
    obtain ⟨u, rfl, e⟩ := vals1 r
    cases (show u = .none from e)
    have z := nw.str sub
    rw [sOf_ofS] at z
    exact PySem.P.repr_of_none ⟨.str _, H, I.tok _, ⟨_, rfl⟩, z⟩
  | [.str a], pr, hg =>
    obtain ⟨v, F0, rfl, o⟩ := vw1 pr
    obtain ⟨_, rfl⟩ := o
    have hg' : (if (reprText (sOf a)).length ≤ LN then some (D.str (ofS (reprText (sOf a)))) else none) = some d := hg
    split at hg'
    · rename_i c
      cases hg'
      obtain ⟨u, rfl, t, rfl⟩ := vals1 r
      have z := nw.str sub
      rw [sOf_ofS] at z
      exact PySem.P.repr_of_str ⟨.str _, H, I.tok _, ⟨_, rfl⟩, z⟩ (sz c)
    · cases hg'
  | [.lst m xs], pr, hg =>
    obtain ⟨v, F0, rfl, o⟩ := vw1 pr
    obtain ⟨a, vs, F', rfl, _⟩ := o.rdL sub
    obtain ⟨u, rfl, e⟩ := vals1 r
    cases (show u = .ref a from e)
    exact repr_cont hK hG hu sub o hg nw I
  | [.tup xs], pr, hg =>
    obtain ⟨v, F0, rfl, o⟩ := vw1 pr
    obtain ⟨a, vs, rfl, _⟩ := o.sqT sub
    obtain ⟨u, rfl, e⟩ := vals1 r
    cases (show u = .ref a from e)
    exact repr_cont hK hG hu sub o hg nw I
theorem bi_int2 : CallR X (.type "int") (rPs W int2D) := by
  intro pins s σ H xs us Q I r ⟨G, ds, d, sub, pr, hg, nw⟩
  match ds, pr, hg with
  | [.int i], pr, hg =>
    obtain ⟨v, F0, rfl, o⟩ := vw1 pr
    obtain ⟨_, rfl⟩ := o
    cases hg
    exact call_int1 pins s σ H _ us Q I r (.inl ⟨i, rfl, nw.int sub⟩)
  | [.bl i], pr, hg =>
    obtain ⟨v, F0, rfl, o⟩ := vw1 pr
    obtain ⟨_, rfl⟩ := o
    cases hg
    exact call_int1 pins s σ H _ us Q I r (.inr ⟨i, rfl, nw.int sub⟩)
  | [.str a], pr, hg =>
    obtain ⟨v, F0, rfl, o⟩ := vw1 pr
    obtain ⟨_, rfl⟩ := o
    have hg' : (match PySem.intText? (sOf a) with | some n => if a.length ≤ 640 then some (D.int n) else none | none => none) = some d := hg
    cases c : PySem.intText? (sOf a) with
    | none => rw [c] at hg'; cases hg'
    | some n =>
      rw [c] at hg'
      dsimp only at hg'
      split at hg'
      · rename_i h
        cases hg'
        exact call_int_str pins s σ H _ us Q I r ⟨sOf a, n, rfl, c, by rw [sOf_len]; exact h, nw.int sub⟩
      · cases hg'
/-! ### sorting -/
theorem insI_perm (i : Int) : ∀ l : List Int, (insI i l).Perm (i :: l)
  | [] => .refl _
  | j :: l => by
    unfold insI
    split
    · exact .refl _
    · exact ((insI_perm i l).cons j).trans (.swap i j l)
theorem srtI_perm : ∀ l : List Int, (srtI l).Perm l
  | [] => .refl _
  | i :: l => (insI_perm i _).trans ((srtI_perm l).cons i)
theorem insI_sorted (i : Int) : ∀ {l : List Int}, l.Pairwise (· ≤ ·) → (insI i l).Pairwise (· ≤ ·)
  | [], _ => by simp [insI]
  | j :: l, h => by
    rw [List.pairwise_cons] at h
    unfold insI
    split
    · rename_i c
      refine List.pairwise_cons.mpr ⟨fun x hx => ?_, List.pairwise_cons.mpr h⟩
      rcases List.mem_cons.mp hx with rfl | hx
      · exact c
      · exact Int.le_trans c (h.1 x hx)
    · rename_i c
      refine List.pairwise_cons.mpr ⟨fun x hx => ?_, insI_sorted i h.2⟩
      rcases List.mem_cons.mp ((insI_perm i l).mem_iff.mp hx) with rfl | hx
      · omega
      · exact h.1 x hx
theorem srtI_sorted : ∀ l : List Int, (srtI l).Pairwise (· ≤ ·)
  | [] => .nil
  | i :: l => insI_sorted i (srtI_sorted l)
theorem sorted_eq {l l' : List Int} (p : l.Perm l') (h : l.Pairwise (· ≤ ·)) (h' : l'.Pairwise (· ≤ ·)) : l = l' := p.eq_of_pairwise (fun a b _ _ x y => Int.le_antisymm x y) h h'
theorem ow_intsL : ∀ (is : List Int), OwL W G H (is.map D.int) [] (is.map V.int)
  | [] => ⟨rfl, rfl⟩
  | i :: is => ⟨[], [], .int i, is.map V.int, rfl, rfl, ⟨rfl, rfl⟩, ow_intsL is⟩
theorem minOf_ok : ∀ (i : Int) (is : List Int), minOf i is ∈ i :: is ∧ ∀ y ∈ i :: is, minOf i is ≤ y
  | i, [] => ⟨by simp [minOf], by simp [minOf]⟩
  | i, j :: js => by
    have h := minOf_ok (if j < i then j else i) js
    have e : minOf i (j :: js) = minOf (if j < i then j else i) js := rfl
    rw [e]
    have h0 := h.2 _ (List.mem_cons_self ..)
    have hi : (if j < i then j else i) ≤ i := by split <;> omega
    have hj : (if j < i then j else i) ≤ j := by split <;> omega
    refine ⟨?_, fun y hy => ?_⟩
    · rcases List.mem_cons.mp h.1 with z | z
      · rw [z]; split <;> simp
      · simp [z]
    · rcases List.mem_cons.mp hy with rfl | hy
      · exact Int.le_trans h0 hi
      · rcases List.mem_cons.mp hy with rfl | hy
        · exact Int.le_trans h0 hj
        · exact h.2 y (List.mem_cons_of_mem _ hy)
theorem maxOf_ok : ∀ (i : Int) (is : List Int), maxOf i is ∈ i :: is ∧ ∀ y ∈ i :: is, y ≤ maxOf i is
  | i, [] => ⟨by simp [maxOf], by simp [maxOf]⟩
  | i, j :: js => by
    have h := maxOf_ok (if i < j then j else i) js
    have e : maxOf i (j :: js) = maxOf (if i < j then j else i) js := rfl
    rw [e]
    have h0 := h.2 _ (List.mem_cons_self ..)
    have hi : i ≤ (if i < j then j else i) := by split <;> omega
    have hj : j ≤ (if i < j then j else i) := by split <;> omega
    refine ⟨?_, fun y hy => ?_⟩
    · rcases List.mem_cons.mp h.1 with z | z
      · rw [z]; split <;> simp
      · simp [z]
    · rcases List.mem_cons.mp hy with rfl | hy
      · exact Int.le_trans hi h0
      · rcases List.mem_cons.mp hy with rfl | hy
        · exact Int.le_trans hj h0
        · exact h.2 y (List.mem_cons_of_mem _ hy)
theorem bi_minL (hK : X.K = W.K) (hc : X.calm = true) : CallR X (.builtin "min") (rPs W minLD) := by
  intro pins s σ H xs us Q I r ⟨G, ds, d, sub, pr, hg, nw⟩
  match ds, pr, hg with
  | [.lst m ys], pr, hg =>
    obtain ⟨v, F0, rfl, o⟩ := vw1 pr
    have hg' : (match intsOf ys with | some (i :: is) => some (D.int (minOf i is)) | _ => none) = some d := hg
    match c : intsOf ys, hg' with
    | some (i :: is), hg' =>
      cases hg'
      obtain ⟨a, vs, F', rfl, q, l⟩ := o.sqL sub
      rw [l.ints c] at q
      refine cr_min hc pins s σ H _ us Q I r ⟨a, i :: is, rfl, by rw [hK]; exact q, by simp, fun m' h1 h2 => ?_⟩
      have ok := minOf_ok i is
      have e : m' = minOf i is := Int.le_antisymm (h2 _ ok.1) (ok.2 _ h1)
      subst e
      exact nw.int sub
    | some [], hg' => cases hg'
    | none, hg' => cases hg'
theorem bi_maxL (hK : X.K = W.K) (hc : X.calm = true) : CallR X (.builtin "max") (rPs W maxLD) := by
  intro pins s σ H xs us Q I r ⟨G, ds, d, sub, pr, hg, nw⟩
  match ds, pr, hg with
  | [.lst m ys], pr, hg =>
    obtain ⟨v, F0, rfl, o⟩ := vw1 pr
    have hg' : (match intsOf ys with | some (i :: is) => some (D.int (maxOf i is)) | _ => none) = some d := hg
    match c : intsOf ys, hg' with
    | some (i :: is), hg' =>
      cases hg'
      obtain ⟨a, vs, F', rfl, q, l⟩ := o.sqL sub
      rw [l.ints c] at q
      refine cr_max hc pins s σ H _ us Q I r ⟨a, i :: is, rfl, by rw [hK]; exact q, by simp, fun m' h1 h2 => ?_⟩
      have ok := maxOf_ok i is
      have e : m' = maxOf i is := Int.le_antisymm (ok.2 _ h1) (h2 _ ok.1)
      subst e
      exact nw.int sub
    | some [], hg' => cases hg'
    | none, hg' => cases hg'
end
end Wpk
set_option Elab.async false
set_option linter.all false
set_option maxRecDepth 100000
set_option maxHeartbeats 1000000
/-! P12: zip. -/
namespace Wpk
open PySem PySem.Spec PyProof.Rows L2 RZ
section
variable {X : Cx} {L : List Nat} {W : Wd} {Wx : WX} {σ : L2.St} {G G1 H H1 : Hp} {F Fa Fb : List Addr} {v : V}
theorem zip_at {xs ys : List D} {i : Nat} {d : D} (h : ((xs.zip ys).map fun p => D.tup [p.1, p.2])[i]? = some d) : ∃ x y, xs[i]? = some x ∧ ys[i]? = some y ∧ d = .tup [x, y] := by
  rw [List.getElem?_map] at h
  cases c : (xs.zip ys)[i]? with
  | none => rw [c] at h; cases h
  | some p =>
    rw [c] at h
    cases h
    rw [List.getElem?_zip_eq_some] at c
    exact ⟨p.1, p.2, c.1, c.2, rfl⟩
theorem zip_end {xs ys : List D} {i : Nat} (h : ((xs.zip ys).map fun p => D.tup [p.1, p.2]).length ≤ i) : xs.length ≤ i ∨ ys.length ≤ i := by
  rw [List.length_map, List.length_zip] at h
  omega
theorem ItOk.zipL {K : PySem.W.Frag} {a b : Addr} {vs ws : List V} {ds es : List D} (h : ∀ G H, Sm G1 G → Sm G H → (∀ b ∈ Fa, G b = none ∧ H b = H1 b) → SqL K H a vs) (o : OwL W G1 H1 ds [] vs) (h' : ∀ G H, Sm G1 G → Sm G H → (∀ b ∈ Fa, G b = none ∧ H b = H1 b) → SqL K H b ws) (o' : OwL W G1 H1 es [] ws) : ItOk W (Itz K a b) ((ds.zip es).map fun p => D.tup [p.1, p.2]) G1 H1 Fa := by
  intro i G H s1 s2 k
  have q := h G H s1 s2 k
  have q' := h' G H s1 s2 k
  refine ⟨fun d hd => ?_, fun hl => ⟨vs, ws, q, q', by rw [o.length, o'.length]; exact zip_end hl⟩⟩
  obtain ⟨x, y, hx, hy, rfl⟩ := zip_at hd
  obtain ⟨u, hu, ou⟩ := o.get hx
  obtain ⟨w, hw, ow⟩ := o'.get hy
  refine ⟨⟨vs, ws, u, w, q, q', hu, hw⟩, fun z H' ⟨T, u', w', ez, hT, eH, e1, e2⟩ => ?_⟩
  subst ez eH
  have z1 := e1 vs q
  have z2 := e2 ws q'
  rw [hu] at z1
  rw [hw] at z2
  cases z1
  cases z2
  exact pair_new s2 hT (ou.keep s1) (ow.keep s1)
theorem ItOk.zipT {K : PySem.W.Frag} {a b : Addr} {vs ws : List V} {ds es : List D} (h : ∀ G H, Sm G1 G → Sm G H → SqT K H a vs) (o : OwL W G1 H1 ds [] vs) (h' : ∀ G H, Sm G1 G → Sm G H → SqT K H b ws) (o' : OwL W G1 H1 es [] ws) : ItOk W (ItzT K a b) ((ds.zip es).map fun p => D.tup [p.1, p.2]) G1 H1 Fa := by
  intro i G H s1 s2 k
  have q := h G H s1 s2
  have q' := h' G H s1 s2
  refine ⟨fun d hd => ?_, fun hl => ⟨vs, ws, q, q', by rw [o.length, o'.length]; exact zip_end hl⟩⟩
  obtain ⟨x, y, hx, hy, rfl⟩ := zip_at hd
  obtain ⟨u, hu, ou⟩ := o.get hx
  obtain ⟨w, hw, ow⟩ := o'.get hy
  refine ⟨⟨vs, ws, u, w, q, q', hu, hw⟩, fun z H' ⟨T, u', w', ez, hT, eH, e1, e2⟩ => ?_⟩
  subst ez eH
  have z1 := e1 vs q
  have z2 := e2 ws q'
  rw [hu] at z1
  rw [hw] at z2
  cases z1
  cases z2
  exact pair_new s2 hT (ou.keep s1) (ow.keep s1)
theorem zip_cases {ds is : List D} (h : itemsD0 .zip ds = some is) : (∃ m1 xs m2 ys, ds = [.lst m1 xs, .lst m2 ys] ∧ isFL xs = true ∧ isFL ys = true ∧ is = (xs.zip ys).map fun p => D.tup [p.1, p.2]) ∨ ∃ xs ys, ds = [.tup xs, .tup ys] ∧ is = (xs.zip ys).map fun p => D.tup [p.1, p.2] := by
  unfold itemsD0 at h
  split at h
  all_goals first | (rename_i e _; cases e; done) | (rename_i e; cases e; done) | skip
  · rename_i m1 xs m2 ys _
    split at h
    · rename_i hf
      rw [Bool.and_eq_true] at hf
      cases h
      exact .inl ⟨m1, xs, m2, ys, rfl, hf.1, hf.2, rfl⟩
    · cases h
  · rename_i xs ys _
    cases h
    exact .inr ⟨xs, ys, rfl, rfl⟩
  · cases h
theorem pi_zipE {es : List Expr} {kk : Nat} {tpos : Pos} {x y : Expr} {m : Env → R (List D)} {p pos : Pos} (hK : X.K = W.K) (hg : Gl X "zip") (hm : X.mg "zip" = none) (ha : PA X [x, y] (tVs W Wx m)) (hs : starEach [x, y] X.env = (false, eval x X.env) :: starEach [y] X.env) (hpl : (backTo pos (starEach [y] X.env)).any (·.1) = false) :
    PI X (.Tuple es kk tpos) (.Call (.Name "zip" p) [x, y] [] pos) (tIm W Wx (semIt0 .zip m)) := by
  refine PI.imp (pi_zipA hg hm ha hs hpl) fun σ H Q h => ?_
  refine Rd1.mono (fun vs H1 q => ?_) (it_read h)
  obtain ⟨G2, ds, Fb, is, sub, o, ci, k⟩ := q
  rcases zip_cases ci with ⟨m1, xs, m2, ys, rfl, hf1, hf2, rfl⟩ | ⟨xs, ys, rfl, rfl⟩
  · have fr := OwL.mem o
    obtain ⟨A, B, v, vs', rfl, rfl, o1, o2⟩ := o
    obtain ⟨A', B', v', vs'', rfl, rfl, o3, o4⟩ := o2
    obtain ⟨rfl, rfl⟩ := o4
    obtain ⟨a, us, rfl, l, sq⟩ := walk_sqL hK o1 hf1
    obtain ⟨b, ws, rfl, l', sq'⟩ := walk_sqL hK o3 hf2
    have c1 : ∀ G H, Sm G2 G → Sm G H → (∀ b ∈ A ++ (A' ++ []), G b = none ∧ H b = H1 b) → SqL X.K H a us := fun G H s1 s2 z => sq G H s1 s2 fun b hb => z b (by simp [hb])
    have c2 : ∀ G H, Sm G2 G → Sm G H → (∀ b ∈ A ++ (A' ++ []), G b = none ∧ H b = H1 b) → SqL X.K H b ws := fun G H s1 s2 z => sq' G H s1 s2 fun b hb => z b (by simp [hb])
    exact ⟨a, b, us, ws, rfl, .inl ⟨c1 G2 H1 Sm.refl sub fun b hb => ⟨(fr b hb).1, rfl⟩, c2 G2 H1 Sm.refl sub fun b hb => ⟨(fr b hb).1, rfl⟩, k _ (ItOk.zipL c1 l c2 l')⟩⟩
  · obtain ⟨A, B, v, vs', rfl, rfl, o1, o2⟩ := o
    obtain ⟨A', B', v', vs'', rfl, rfl, o3, o4⟩ := o2
    obtain ⟨rfl, rfl⟩ := o4
    obtain ⟨rfl, a, us, rfl, q1, l⟩ := o1
    obtain ⟨rfl, b, ws, rfl, q2, l'⟩ := o3
    have c1 : ∀ G H, Sm G2 G → Sm G H → SqT X.K H a us := fun G H s1 s2 => by rw [hK]; exact (le_of (s1.trans s2)).sqT q1
    have c2 : ∀ G H, Sm G2 G → Sm G H → SqT X.K H b ws := fun G H s1 s2 => by rw [hK]; exact (le_of (s1.trans s2)).sqT q2
    exact ⟨a, b, us, ws, rfl, .inr ⟨c1 G2 H1 Sm.refl sub, c2 G2 H1 Sm.refl sub, k _ (ItOk.zipT c1 l c2 l')⟩⟩
theorem semIt_zip {m : Env → R (List D)} : semIt .zip m = semIt0 .zip m := rfl
end
end Wpk
set_option Elab.async false
set_option linter.all false
set_option maxRecDepth 100000
set_option maxHeartbeats 1000000
/-! P13: calls of own methods, by their text. -/
namespace Wpk
open PySem PySem.Spec PyProof.Rows L2
section
variable {X : Cx} {L : List Nat} {W : Wd} {Wx : WX} {σ : L2.St} {G H : Hp} {F : List Addr} {v : V} {Q : VK}
theorem ht_ok {o : Expr} {nm : Str} {apos pos : Pos} {args : List Expr} {env : PySem.Env} (hbase : attributeBase o nm env (eval o env) = eval o env) (hform : methodCallForm (args.length + ([] : List Keyword).length) (backTo pos (starEach args env)) (backToKw pos (keywordEach [] env)) = true) (hline : (apos.endLine == pos.line) = true) :
    eval (.Call (.Attribute o nm apos) args [] pos) env = (do
      let ov ← eval o env
      standAt apos.atName
      let (q, first) ← holding [ov] (getMethod ov nm (do return (← importBound o env).getD true))
      callWith pos q first (backTo pos (starEach args env)) (backToKw pos (keywordEach [] env))) := by
  rw [arm_eval_Call, hbase]
  have hpos : methodCallPos true o env apos pos = pure pos := by unfold methodCallPos; simp [hline]
  congr 1
  funext ov
  congr 1
  funext _
  unfold methodCall
  rw [hform, hpos]
  congr 1
theorem form0 {pos : Pos} {env : PySem.Env} : methodCallForm (([] : List Expr).length + ([] : List Keyword).length) (backTo pos (starEach [] env)) (backToKw pos (keywordEach [] env)) = true := rfl
theorem pe_methE {run : Nat → List D → R D} {c f k : Nat} {g : Addr} {fd : FuncData} {ps : List Str} {nm : Str} {o y : Expr} {ys : List Expr} {apos cpos : Pos} {mo : Env → R Od} {ma : Env → R (List Od)} (tk : Takes X Wx) (hc : Cls X.K (W.cA c)) (hm : Meth X.K (W.cA c) nm g) (Fn : FnG X.prog X.w X.K X.mg X.base (L2.CX X.prog X.w) k g fd ps (spOf W (run f))) (hr : Room k X.A) (hG : Calm X.A) (hb : Binds X.K fd ps [])
    (ho : PE X o (tO W Wx mo)) (ha : PA X (y :: ys) (tOs W Wx ma)) (ok : MetOk X o apos y ys cpos) : PE X (.Call (.Attribute o nm apos) (y :: ys) [] cpos) (tE W Wx (semMeth run c f nm mo ma)) :=
  PE.imp (pe_methW (E := WE Wx) ho hc hm Fn hr hG hb (fun σ => passAt tk σ) ha ok.st ok.pl (ht_ok (base_ok ok.base) ok.hfew ok.line)) fun _ _ _ h => meth_read h
theorem pe_meth0E {run : Nat → List D → R D} {c f k : Nat} {g : Addr} {fd : FuncData} {ps : List Str} {nm : Str} {o : Expr} {apos cpos : Pos} {mo : Env → R Od} (tk : Takes X Wx) (hc : Cls X.K (W.cA c)) (hm : Meth X.K (W.cA c) nm g) (Fn : FnG X.prog X.w X.K X.mg X.base (L2.CX X.prog X.w) k g fd ps (spOf W (run f))) (hr : Room k X.A) (hG : Calm X.A) (hb : Binds X.K fd ps [])
    (ho : PE X o (tO W Wx mo)) (h0 : isCall0 o = false) (hl : (apos.endLine == cpos.line) = true) : PE X (.Call (.Attribute o nm apos) [] [] cpos) (tE W Wx (semMeth run c f nm mo semOn)) :=
  PE.imp (pe_methW0 (E := WE Wx) ho hc hm Fn hr hG hb (fun σ => passAt tk σ) (ht_ok (base_ok h0) form0 hl)) fun _ _ _ h => meth0_read h
theorem pe_mkE {run : Nat → List D → R D} {c f k : Nat} {g : Addr} {fd : FuncData} {ps : List Str} {nm : Str} {p pos : Pos} {y : Expr} {ys : List Expr} {ma : Env → R (List Od)} (tk : Takes X Wx) (M : Mk X.K (W.cA c) g) (Fn : FnG X.prog X.w X.K X.mg X.base (L2.CX X.prog X.w) k g fd ps (spOf W (run f))) (hr : Room (k + 1) X.A) (hG : Calm X.A) (hg : Gl X nm) (hm : X.mg nm = some (.ref (W.cA c))) (hb : Binds X.K fd ps [])
    (ha : PA X (y :: ys) (tOs W Wx ma)) (hdb : (nm == ("__debug__" : Str)) = false) (he : starEach (y :: ys) X.env = (false, eval y X.env) :: starEach ys X.env) (hpl : (backTo pos (starEach ys X.env)).any (·.1) = false) : PE X (.Call (.Name nm p) (y :: ys) [] pos) (tE W Wx (semMk run c f ma)) :=
  PE.imp (pe_makeW (E := WE Wx) M Fn hr hG hg hm hb (fun σ => passAt tk σ) ha hdb he hpl) fun _ _ _ h => mk_read h
theorem pe_mk0E {run : Nat → List D → R D} {c f k : Nat} {g : Addr} {fd : FuncData} {ps : List Str} {nm : Str} {p pos : Pos} (tk : Takes X Wx) (M : Mk X.K (W.cA c) g) (Fn : FnG X.prog X.w X.K X.mg X.base (L2.CX X.prog X.w) k g fd ps (spOf W (run f))) (hr : Room (k + 1) X.A) (hG : Calm X.A) (hg : Gl X nm) (hm : X.mg nm = some (.ref (W.cA c))) (hb : Binds X.K fd ps [])
    (hdb : (nm == ("__debug__" : Str)) = false) : PE X (.Call (.Name nm p) [] [] pos) (tE W Wx (semMk run c f semOn)) :=
  PE.imp (pe_makeW0 (E := WE Wx) M Fn hr hG hg hm hb (fun σ => passAt tk σ) hdb) fun _ _ _ h => mk0_read h
/-- a built-in type's name -/
def tyOf (x : Str) : Option String := if x = "int" then some "int" else if x = "bool" then some "bool" else if x = "str" then some "str" else if x = "list" then some "list" else if x = "tuple" then some "tuple" else if x = "dict" then some "dict" else none
theorem tyOf_ok {x : Str} {T : String} (h : tyOf x = some T) : bootBuiltins x = some (.type T) ∧ x ≠ "__name__" := by
  unfold tyOf at h
  split at h
  · rename_i e; cases h; subst e; exact ⟨by decide +kernel, by decide⟩
  split at h
  · rename_i e; cases h; subst e; exact ⟨by decide +kernel, by decide⟩
  split at h
  · rename_i e; cases h; subst e; exact ⟨by decide +kernel, by decide⟩
  split at h
  · rename_i e; cases h; subst e; exact ⟨by decide +kernel, by decide⟩
  split at h
  · rename_i e; cases h; subst e; exact ⟨by decide +kernel, by decide⟩
  split at h
  · rename_i e; cases h; subst e; exact ⟨by decide +kernel, by decide⟩
  cases h
def bi2Of (x : Str) (n : Nat) : Option Bi2 :=
  if x = "isinstance" then (if n = 2 then some .isi else none) else if x = "repr" then (if n = 1 then some .repr else none) else if x = "str" then (if n = 1 then some .str else none) else
  if x = "int" then (if n = 1 then some .int else none) else if x = "sorted" then (if n = 1 then some .sorted else none) else if x = "min" then (if n = 1 then some .minL else none) else if x = "max" then (if n = 1 then some .maxL else none) else if x = "dict" then (if n = 1 then some .dictL else none) else none
end
end Wpk
set_option Elab.async false
set_option linter.all false
set_option maxRecDepth 100000
set_option maxHeartbeats 1000000
/-! P14: enumerate of a text. -/
namespace Wpk
open PySem PySem.Spec PyProof.Rows L2
/-- the signs of a text, each in a new pair -/
def Itse (x : Str) : L2.It :=
  ⟨fun i _ => i < x.cps.size, fun i H v H' => ∃ T c, v = .ref T ∧ H T = none ∧ H' = upd H T (.tup [.int (i : Nat), .str ⟨#[c]⟩]) ∧ x.cps[i]? = some c, fun i _ => x.cps.size ≤ i⟩
theorem turn_enumS {P : Program} {w : World} {K : PySem.W.Frag} {elts : List Expr} {kk : Nat} {tpos : Pos} (e it : Addr) (x : Str) (t : Tok) :
    Turn P w K (.Tuple elts kk tpos) (Itse x) [e, it] e (fun i h => (∃ old, IsEnum h e it ((i : Nat) : Int) old) ∧ h.IsStrIter it (strIterType x) x t i ∧ e ≠ it ∧ i ≤ x.cps.size) where
  mem := by simp
  obj := fun i h st b hb => by
    obtain ⟨⟨old, he⟩, ⟨o, ho, hc, hd⟩, _⟩ := st
    rcases (show b = e ∨ b = it by simpa using hb) with z | z
    · subst z; exact ⟨_, he, fun v q => nomatch q⟩
    · subst z; exact ⟨o, ho, fun v q => by rw [hd] at q; cases q⟩
  keep := fun i h h' ⟨⟨old, he⟩, ⟨o, ho, r⟩, hne, hl⟩ k => ⟨⟨old, k e (by simp) _ he⟩, ⟨o, k it (by simp) o ho, r⟩, hne, hl⟩
  item := by
    intro X hP hw hK hc i pins s σ H E I hf st hg
    subst hP hw hK
    obtain ⟨⟨old, he⟩, hit, hne, _⟩ := st
    have hel : e < s.heap.objs.size := Heap.lt_size he
    have hil : it < s.heap.objs.size := by obtain ⟨_, q, _⟩ := hit; exact Heap.lt_size q
    have D := Draws.text (prog := X.prog) (w := X.w) (A := X.A.in1) (show X.A.in1.handled = none from I.ok.hd hc) it x t
    refine wpAny_pyNext_enum_itemD D he hit hg hne (by simpa using hne) fun v h' tk hv ho hit' hT hsz hk => ?_
    obtain ⟨c, u, hcx, rfl⟩ := hv
    refine ⟨_, rfl, wpAny_letOwnedTupleGo_enum (s := { s with heap := h', toks := tk + 1 }) ho fun h2 he2 sb => ?_⟩
    have hT2 : h2.get? s.heap.objs.size = some { cls := .type "tuple", data := .seq #[.int i tk, .str ⟨#[c]⟩ u] } := (sb.2 _ (Nat.ne_of_gt hel)).trans hT
    have new : ObjOk X.prog X.w (upd H s.heap.objs.size (.tup [.int (i : Nat), .str ⟨#[c]⟩])) h2 s.heap.objs.size (.tup [.int (i : Nat), .str ⟨#[c]⟩]) :=
      ⟨by show 2 ≤ sizeLine; decide, [.int i tk, .str ⟨#[c]⟩ u], .cons ⟨_, rfl⟩ (.cons ⟨_, rfl⟩ .nil), ⟨_, hT2, rfl, _, rfl⟩⟩
    have J : Inv X pins σ (upd H s.heap.objs.size (.tup [.int (i : Nat), .str ⟨#[c]⟩])) { s with heap := h2, toks := tk + 1 } :=
      I.turnedNew (ch := [e, it]) (fun b ob hb q => (sb.2 b (fun z => hb (by simp [z]))).trans (hk b ob (fun z => hb (by simp [z])) (fun z => hb (by simp [z])) q)) hf (Nat.le_refl _) new
    have e1 : ((i + 1 : Nat) : Int) = (i : Int) + 1 := by omega
    obtain ⟨o3, ho3, r3⟩ := hit'
    have hgi : i < x.cps.size := hg
    refine ⟨.ref s.heap.objs.size, _, J, rfl, ⟨_, c, rfl, I.hok.fresh (Nat.le_refl _), rfl, hcx⟩, ⟨⟨_, by rw [e1]; exact he2⟩, ⟨o3, (sb.2 it (Ne.symm hne)).trans ho3, r3⟩, hne, hgi⟩, fun b hb => ?_⟩
    have hb' : b < s.heap.objs.size := by
      rcases (show b = e ∨ b = it by simpa using hb) with z | z
      · rw [z]; exact hel
      · rw [z]; exact hil
    rw [upd_ne (Nat.ne_of_lt hb')]
    exact (hf b hb).1
  done := by
    intro X hP hw hK hc i pins s σ H E I hf st hg
    subst hP hw hK
    obtain ⟨⟨old, he⟩, hit, hne, hl⟩ := st
    obtain ⟨f0, f1, f2, f3, f4, f5⟩ := hf it (by simp)
    have en : i = x.cps.size := Nat.le_antisymm hl hg
    subst en
    have D := Draws.text (prog := X.prog) (w := X.w) (A := X.A.in1) (show X.A.in1.handled = none from I.ok.hd hc) it x t
    refine wpAny_pyNext_enum_endD (n := x.cps.size) D he hit fun h' eb => ⟨rfl, ?_⟩
    have eb' : ∀ b o, b ≠ it → s.heap.get? b = some o → h'.get? b = some o := fun b o hb q => eb b o hb q
    exact I.turned (t' := s.toks) eb' f0 f1 f3 f4 f5
  self := fun A i s Q E st h => let ⟨⟨_, he⟩, _⟩ := st; wpAny_pyIter_enum he h
def iEnumLS (K : PySem.W.Frag) (ta : TA) : TI := fun σ H R => ta σ H fun vs H1 => (∃ a xs, vs = [.ref a] ∧ SqL K H1 a xs ∧ R (Ite K a) H1) ∨ ∃ x, vs = [.str x] ∧ R (Itse x) H1
theorem pi_enumLS {X : Cx} {y : Expr} {ta : TA} {p pos tpos : Pos} {elts : List Expr} {kk : Nat} (hg : Gl X "enumerate") (hm : X.mg "enumerate" = none) (ha : PA X [y] ta) (hs : starEach [y] X.env = [(false, eval y X.env)]) :
    PI X (.Tuple elts kk tpos) (.Call (.Name "enumerate" p) [y] [] pos) (iEnumLS X.K ta) := by
  refine ⟨fun pins s σ H R I h => ?_⟩
  refine Call_ (ld_blt I hg hm boot_enumerate (PyProof.Rows.callWith_type1 (thn (ha.run pos pins s σ H _ I h) fun us s1 z => ?_) hs rfl))
  obtain ⟨vs, H1, I1, r1, q1⟩ := z
  have fp : ∀ b ∈ [s1.heap.objs.size + 1, s1.heap.objs.size], s1.heap.objs.size ≤ b := fun b hb => by
    rcases (show b = s1.heap.objs.size + 1 ∨ b = s1.heap.objs.size by simpa using hb) with z | z
    · rw [z]; exact Nat.le_add_right _ _
    · rw [z]; exact Nat.le_refl _
  rcases q1 with ⟨a, xs, ex, hq, q⟩ | ⟨x, ex, q⟩
  · subst ex
    cases r1 with
    | cons r rr =>
      cases rr
      cases r
      obtain ⟨its, rv, p', hz⟩ := I1.list hq
      refine call_enumerate_list p'.isList fun h' he hit hsz hk => wpAny_pyIter_enum he ?_
      have I2 : Inv X pins σ H1 { s1 with heap := h' } := I1.kept (t' := s1.toks) hk
      exact ⟨s1.heap.objs.size + 1, [s1.heap.objs.size + 1, s1.heap.objs.size], _, _, H1, rfl, I2, turn_enum a (s1.heap.objs.size + 1) s1.heap.objs.size, ⟨⟨.none, he⟩, hit, Nat.succ_ne_self _⟩, fun b hb => I1.fpOk (fp b hb) (I1.hok.fresh (fp b hb)), q⟩
  · subst ex
    obtain ⟨u, rfl, t, rfl⟩ := vals1 r1
    refine call_enumerate_str fun h' he hit hsz hk => wpAny_pyIter_enum he ?_
    have J : Inv X pins σ H1 { s1 with heap := h' } := I1.kept (t' := s1.toks) hk
    exact ⟨s1.heap.objs.size + 1, [s1.heap.objs.size + 1, s1.heap.objs.size], _, _, H1, rfl, J, turn_enumS (s1.heap.objs.size + 1) s1.heap.objs.size x t, ⟨⟨.none, he⟩, hit, Nat.succ_ne_self _, Nat.zero_le _⟩, fun b hb => I1.fpOk (fp b hb) (I1.hok.fresh (fp b hb)), q⟩
section
variable {X : Cx} {W : Wd} {Wx : WX} {σ : L2.St} {G1 H1 : Hp} {Fa : List Addr}
theorem ItOk.enumS (s : List Nat) : ItOk W (Itse (sOf s)) ((s.zipIdx).map fun p => D.tup [.int p.2, .str [p.1]]) G1 H1 Fa := by
  intro i G H s1 s2 k
  have hz : (sOf s).cps.size = s.length := by simp [sOf]
  refine ⟨fun d hd => ?_, fun hl => by show (sOf s).cps.size ≤ i; rw [hz]; simpa using hl⟩
  rw [List.getElem?_map, List.getElem?_zipIdx] at hd
  cases c : s[i]? with
  | none => rw [c] at hd; cases hd
  | some x =>
    rw [c] at hd
    cases hd
    have hi := (List.getElem?_eq_some_iff.mp c).1
    refine ⟨by show i < (sOf s).cps.size; rw [hz]; exact hi, fun y H' ⟨T, c', ey, hT, eH, hc'⟩ => ?_⟩
    subst ey eH
    have e : (sOf s).cps[i]? = s[i]? := by simp [sOf]
    rw [e, c] at hc'
    cases hc'
    exact pair_new (W := W) (d1 := .int ((0 + i : Nat) : Int)) (d2 := .str [x]) (x := .int (i : Nat)) (y := .str ⟨#[x]⟩) s2 hT ⟨rfl, by simp⟩ ⟨rfl, rfl⟩
theorem pi_enumE {es : List Expr} {kk : Nat} {tpos : Pos} {x : Expr} {m : Env → R D} {p pos : Pos} (hK : X.K = W.K) (hg : Gl X "enumerate") (hm : X.mg "enumerate" = none) (ha : PE X x (tE W Wx m)) (hs : starEach [x] X.env = [(false, eval x X.env)]) :
    PI X (.Tuple es kk tpos) (.Call (.Name "enumerate" p) [x] [] pos) (tIm W Wx (semIt0 .enum (semVc m semVn))) := by
  refine PI.imp (pi_enumLS hg hm (pa_cons ha pa_nil hs) hs) fun σ H Q h => ?_
  refine Rd1.mono (fun v H1 q => ?_) (it_read1 h)
  obtain ⟨G2, ds, Fb, is, sub, o, ci, k⟩ := q
  match ds, o, ci with
  | [d], o, ci =>
    obtain ⟨v1, e1, o1⟩ := o.single
    cases e1
    cases d with
    | lst b xs =>
      have ci' : (if isFL xs = true then some (xs.zipIdx.map fun p => D.tup [.int p.2, p.1]) else none) = some is := ci
      split at ci'
      · rename_i hf
        cases ci'
        obtain ⟨a, vs, rfl, l, sq⟩ := walk_sqL hK o1 hf
        exact .inl ⟨a, vs, rfl, sq G2 H1 Sm.refl sub fun b hb => ⟨(o1.mem b hb).1, rfl⟩, k _ (ItOk.enum sq l)⟩
      · cases ci'
    | str s =>
      cases ci
      obtain ⟨rfl, rfl⟩ := o1
      exact .inr ⟨sOf s, rfl, k _ (ItOk.enumS s)⟩
    | _ => exact nomatch ci
  | [], o, ci => exact nomatch ci
  | d :: d2 :: ds, o, ci =>
    obtain ⟨_, _, _, _, _, e2, _, o2⟩ := o
    cases e2
    obtain ⟨_, _, _, _, _, e3, _⟩ := o2
    cases e3
end
end Wpk
set_option Elab.async false
set_option linter.all false
set_option maxRecDepth 100000
/-! P15: calls whose last arguments are filled in by defaults; classmethods; classes held by a name. -/
namespace Wpk
open PySem PySem.Spec PyProof.Rows L2
section
variable {X : Cx} {L : List Nat} {W : Wd} {Wx : WX} {σ σ1 σ' : L2.St} {G G1 G2 G' H H1 H2 H' : Hp} {F F1 F2 Fa Fb Fv Fl : List Addr} {e e1 : Env} {Q : VK} {v : V}
theorem ros_vals : ∀ {ds : List D} {dvs : List V}, OwL W G H ds [] dvs → rOs W σ G H (ds.map Od.val) [] dvs
  | [], dvs, o => by rw [List.map_nil, rOs]; exact o
  | d :: ds, dvs, o => by
    obtain ⟨A, B, v, vs', e1, rfl, h1, h2⟩ := o
    obtain ⟨rfl, rfl⟩ := List.append_eq_nil_iff.mp e1.symm
    rw [List.map_cons, rOs]
    exact ⟨[], [], v, vs', rfl, rfl, h1, ros_vals h2⟩
theorem rOs.app : ∀ {os : List Od} {Fa : List Addr} {vs : List V} {ds : List D} {dvs : List V}, rOs W σ G H os Fa vs → OwL W G H ds [] dvs → rOs W σ G H (os ++ ds.map Od.val) Fa (vs ++ dvs)
  | [], Fa, vs, ds, dvs, r, o => by
    rw [rOs] at r
    obtain ⟨rfl, rfl⟩ := r
    exact ros_vals o
  | x :: os, Fa, vs, ds, dvs, r, o => by
    rw [rOs] at r
    obtain ⟨A, B, v, vs', rfl, rfl, h1, h2⟩ := r
    rw [List.cons_append, rOs]
    exact ⟨A, B, v, vs' ++ dvs, rfl, rfl, h1, rOs.app h2 o⟩
theorem fill_bind {β : Type} {m : Env → R (List Od)} {ds : List D} {e : Env} {k : List Od → Env → R β} : (semFill m ds e).bind k = (m e).bind fun os e1 => k (os ++ ds.map Od.val) e1 := by
  unfold semFill
  cases m e <;> rfl
/-- what stands for the parameters that are not written -/
structure Dfl (W : Wd) (fd : FuncData) (ps : List Str) (ds : List D) : Prop where
  ex : ∃ us vs, Binds W.K fd ps us ∧ Vals vs us ∧ ∀ G H, OwL W G H ds [] vs
theorem Dfl.nil {fd : FuncData} {ps : List Str} (h : Binds W.K fd ps []) : Dfl W fd ps [] := ⟨[], [], h, .nil, fun _ _ => ⟨rfl, rfl⟩⟩
variable {CX : CXT} {k : Nat} {f C : Addr} {fd : FuncData} {ps : List Str} {sp : Sp} {E : L2.St → XK} {us : List Value} {dvs : List V}
theorem run_fnGD {pins : List (Addr × Obj)} {s : Shared} {ws : List Value} {vs : List V} (Fn : FnG X.prog X.w X.K X.mg X.base CX k f fd ps sp) (hr : Room k X.A) (hG : Calm X.A) (hb : Binds X.K fd ps us) (hd : Vals dvs us) (hx : PassesAt CX X σ (E σ))
    (I : Inv X pins σ H s) (r : Vals vs ws) (h : sp (vs ++ dvs) H Q (E σ)) : wpAny (model X.prog X.w) X.A (call (.ref f) ws) (EP X pins σ Q) X.xe s := by
  have hl : (ws ++ us).length = ps.length := by
    have := Fn.len _ _ _ _ h
    rw [List.length_append] at this ⊢
    rw [← r.length, ← hd.length]; exact this
  refine wpAny_call (codeAny_mono (Fn.run X.A X.stack s H ⟨ws, []⟩ (ws ++ us) (vs ++ dvs) Q (E σ) hr hG I.env0 (hb s ws I.kIn hl) (r.append hd) h) fun r s' hq => ?_)
  have z := ret_of hx I hq
  cases r with
  | error e => exact z
  | ok fl => cases fl <;> exact z
variable {x nm : Str} {p pos apos : Pos} {y o : Expr} {ys : List Expr} {ta : TE} {t : TA}
theorem pe_callGD (Fn : FnG X.prog X.w X.K X.mg X.base CX k f fd ps sp) (hr : Room k X.A) (hG : Calm X.A) (hg : Gl X x) (hm : X.mg x = some (.ref f)) (hk : PySem.W.keepIn X.K (.ref f) = true) (hb : Binds X.K fd ps us) (hd : Vals dvs us) (hx : ∀ σ, PassesAt CX X σ (E σ))
    (ha : PA X (y :: ys) t) (hdb : (x == ("__debug__" : Str)) = false) (he : starEach (y :: ys) X.env = (false, eval y X.env) :: starEach ys X.env) (hpl : (backTo pos (starEach ys X.env)).any (·.1) = false) :
    PE X (.Call (.Name x p) (y :: ys) [] pos) (tCallSD sp dvs E t) := by
  refine ⟨fun pins s σ H Q I h => wpAny_Call_Name_kw (ld_glob I hg hm ?_ hdb)⟩
  exact PySem.W.callWith_K (h₀ := X.base) I.ok.mod.kin hk (thn (ha.run pos pins s σ H _ I h) fun ws s1 ⟨vs, H1, I1, r, q⟩ => ⟨I1.kIn, run_fnGD Fn hr hG hb hd (hx σ) I1 r q⟩) he hpl
theorem call_readD {run : Nat → List D → R D} {f : Nat} {ds : List D} {m : Env → R (List Od)} (od : ∀ G H, OwL W G H ds [] dvs) (h : tE W Wx (semCall run f (semFill m ds)) σ H Q) : tCallSD (spOf W (run f)) dvs (WE Wx) (tOs W Wx m) σ H Q := by
  obtain ⟨e, G, F, S, p⟩ := h
  unfold semCall at p
  rw [fill_bind] at p
  exact ⟨e, G, F, S, p.go S.refl nomem fun os e1 vs G1 H1 F1 Fa p1 S1 E1 r1 => call_fin p1 S1 E1 (r1.app (od G1 H1))⟩
theorem pe_callED {run : Nat → List D → R D} {f : Nat} {k : Nat} {fA : Addr} {ds : List D} {m : Env → R (List Od)} (hK : X.K = W.K)
    (tk : Takes X Wx) (Fn : FnG X.prog X.w X.K X.mg X.base (L2.CX X.prog X.w) k fA fd ps (spOf W (run f))) (hr : Room k X.A) (hG : Calm X.A) (hg : Gl X x) (hm : X.mg x = some (.ref fA)) (hk : PySem.W.keepIn X.K (.ref fA) = true) (hd : Dfl W fd ps ds)
    (ha : PA X (y :: ys) (tOs W Wx m)) (hdb : (x == ("__debug__" : Str)) = false) (he : starEach (y :: ys) X.env = (false, eval y X.env) :: starEach ys X.env) (hpl : (backTo pos (starEach ys X.env)).any (·.1) = false) :
    PE X (.Call (.Name x p) (y :: ys) [] pos) (tE W Wx (semCall run f (semFill m ds))) := by
  obtain ⟨us, vs, hb, hv, od⟩ := hd.ex
  exact PE.imp (pe_callGD (E := WE Wx) Fn hr hG hg hm hk (by rw [hK]; exact hb) hv (fun σ => passAt tk σ) ha hdb he hpl) fun _ _ _ h => call_readD od h

/-! ### making, filled in -/
def tMakeD (C : Addr) (sp : Sp) (dvs : List V) (E : L2.St → XK) (t : TA) : TE := fun σ H Q => t σ H fun vs H1 => ∀ x dx, H1 x = none → H1 dx = none → dx ≠ x → sp (.ref x :: (vs ++ dvs)) (upd (upd H1 dx (.own x)) x (.ins C dx [])) (fun v H2 => v = .non ∧ Q (.ref x) H2) (E σ)
theorem run_makeD {g : Addr} {E : XK} {pins : List (Addr × Obj)} {s : Shared} {ws : List Value} {vs : List V} (M : Mk X.K C g) (Fn : FnG X.prog X.w X.K X.mg X.base CX k g fd ps sp) (hr : Room (k + 1) X.A) (hG : Calm X.A) (hb : Binds X.K fd ps us) (hd : Vals dvs us) (hx : PassesAt CX X σ E) (I : Inv X pins σ H s) (r : Vals vs ws)
    (h : ∀ x dx, H x = none → H dx = none → dx ≠ x → sp (.ref x :: (vs ++ dvs)) (upd (upd H dx (.own x)) x (.ins C dx [])) (fun v H2 => v = .non ∧ Q (.ref x) H2) E) : wpAny (model X.prog X.w) X.A (call (.ref C) ws) (EP X pins σ Q) X.xe s := by
  have hq := h (s.heap.objs.size + 1) s.heap.objs.size (I.hok.fresh (Nat.le_succ _)) (I.hok.fresh (Nat.le_refl _)) (Nat.ne_of_lt (Nat.lt_succ_self _))
  have J := Inv.made (C := C) I
  have r0 : Vals (V.ref (s.heap.objs.size + 1) :: vs) (Value.ref (s.heap.objs.size + 1) :: ws) := .cons rfl r
  have rr := r0.append hd
  have ln : ((Value.ref (s.heap.objs.size + 1) :: ws) ++ us).length = ps.length := by rw [← rr.length]; exact Fn.len _ _ _ _ hq
  have bn := hb _ (Value.ref (s.heap.objs.size + 1) :: ws) J.kIn ln
  refine wpAny_call (make_map (f := g) I.kIn M.makes M.init (beq_iff_eq.mp M.fn) (codeAny_mono (Fn.run _ X.stack _ _ ⟨Value.ref (s.heap.objs.size + 1) :: ws, []⟩ _ _ _ E (hr.make C ws []) (hG.make C ws []) (J.env0.make C ws []) bn rr hq) fun z s' hz => ?_))
  cases z with
  | error er => exact hx pins _ _ er s' J hz
  | ok fl =>
    cases fl with
    | ret u =>
      obtain ⟨w, H3, J3, rw', ew, q3⟩ := J.after hz
      subst ew
      exact ⟨rw', V.ref _, H3, J3, rfl, q3⟩
    | next => exact hz.elim
    | brk => exact hz.elim
    | cont => exact hz.elim
theorem pe_makeD {g : Addr} (M : Mk X.K C g) (Fn : FnG X.prog X.w X.K X.mg X.base CX k g fd ps sp) (hr : Room (k + 1) X.A) (hG : Calm X.A) (hg : Gl X nm) (hm : X.mg nm = some (.ref C)) (hb : Binds X.K fd ps us) (hd : Vals dvs us) (hx : ∀ σ, PassesAt CX X σ (E σ))
    (ha : PA X (y :: ys) t) (hdb : (nm == ("__debug__" : Str)) = false) (he : starEach (y :: ys) X.env = (false, eval y X.env) :: starEach ys X.env) (hpl : (backTo pos (starEach ys X.env)).any (·.1) = false) : PE X (.Call (.Name nm p) (y :: ys) [] pos) (tMakeD C sp dvs E t) := by
  refine ⟨fun pins s σ H Q I h => wpAny_Call_Name_kw (ld_glob I hg hm ?_ hdb)⟩
  exact PySem.W.callWith_K (h₀ := X.base) I.ok.mod.kin M.kp (thn (ha.run pos pins s σ H _ I h) fun us s1 ⟨vs, H1, I1, r, q⟩ => ⟨I1.kIn, run_makeD M Fn hr hG hb hd (hx σ) I1 r q⟩) he hpl
/-- .. the class held by a name of the def -/
def tMakeV (i : Nat) (C : Addr) (sp : Sp) (E : L2.St → XK) (t : TA) : TE := fun σ H Q => σ[i]? = some (some (.ref C)) ∧ tMakeW C sp E t σ H Q
theorem pe_makeV {g : Addr} {i : Nat} (M : Mk X.K C g) (Fn : FnG X.prog X.w X.K X.mg X.base CX k g fd ps sp) (hr : Room (k + 1) X.A) (hG : Calm X.A) (hN : X.N[i]? = some nm) (hv : Vis X.env.scope nm) (hb : Binds X.K fd ps []) (hx : ∀ σ, PassesAt CX X σ (E σ))
    (ha : PA X (y :: ys) t) (hdb : (nm == ("__debug__" : Str)) = false) (hcd : (nm == ("__classdict__" : Str)) = false) (he : starEach (y :: ys) X.env = (false, eval y X.env) :: starEach ys X.env) (hpl : (backTo pos (starEach ys X.env)).any (·.1) = false) : PE X (.Call (.Name nm p) (y :: ys) [] pos) (tMakeV i C sp E t) := by
  refine ⟨fun pins s σ H Q I ⟨hs, h⟩ => ?_⟩
  refine wpAny_Call_Name_kw (thn ((pe_var (pos := p) hN hv hdb hcd).run pins s σ H (fun v H1 => v = .ref C ∧ H1 = H) I ⟨.ref C, hs, rfl, rfl⟩) fun u s1 ⟨v, H1, I1, r1, q1, q2⟩ => ?_)
  subst q1 q2
  cases r1
  exact PySem.W.callWith_K (h₀ := X.base) I.ok.mod.kin M.kp (thn (ha.run pos pins s1 σ _ _ I1 h) fun us s2 ⟨vs, H2, I2, r, q⟩ => ⟨I2.kIn, run_makeW M Fn hr hG hb (hx σ) I2 r q⟩) he hpl

/-! ### classmethods -/
def tCMethG (C : Addr) (sp : Sp) (dvs : List V) (E : L2.St → XK) (t : TA) : TE := fun σ H Q => t σ H fun vs H1 => sp (.ref C :: (vs ++ dvs)) H1 Q (E σ)
theorem pe_cmethG {g q0 : Addr} {mc : Value} {pl : Sem Bool} (hg : Gl X x) (hm : X.mg x = some (.ref C)) (hdb : (x == ("__debug__" : Str)) = false) (r : ClX.CRead X.K C mc) (c : ClX.CMet X.K C mc nm q0 g) (Fn : FnG X.prog X.w X.K X.mg X.base CX k g fd ps sp) (hr : Room k X.A) (hG : Calm X.A) (hb : Binds X.K fd ps us) (hd : Vals dvs us) (hx : ∀ σ, PassesAt CX X σ (E σ))
    (ha : PA X (y :: ys) t) (he : starEach (y :: ys) X.env = (false, eval y X.env) :: starEach ys X.env) (hpl : (backTo pos (starEach ys X.env)).any (·.1) = false)
    (ht : eval (.Call (.Attribute (.Name x p) nm apos) (y :: ys) [] pos) X.env = (do
      let ov ← eval (.Name x p) X.env
      standAt apos.atName
      let (f, first) ← holding [ov] (getMethod ov nm pl)
      callWith pos f first (backTo pos (starEach (y :: ys) X.env)) (backToKw pos (keywordEach [] X.env)))) :
    PE X (.Call (.Attribute (.Name x p) nm apos) (y :: ys) [] pos) (tCMethG C sp dvs E t) := by
  refine ⟨fun pins s σ H Q I h => PySem.W.methodCall_KW (pl := pl) (ld_glob I hg hm ?_ hdb) ht⟩
  refine ClX.getmethcm_ok I r c fun s2 I2 => ?_
  refine ClX.callwith_cm I2 (ClX.base_none I (Nat.le_refl _)) c.fi (thn (ha.run pos _ s2 σ H _ I2 h) fun ws s3 ⟨vs, H2, I3, rv, q2⟩ => ⟨⟨ClX.pin_at I3, I3.kIn⟩, ?_⟩) he hpl
  have hl : (Value.ref C :: (ws ++ us)).length = ps.length := by
    have := Fn.len _ _ _ _ q2
    rw [List.length_cons, List.length_append] at this ⊢
    rw [← rv.length, ← hd.length]; exact this
  refine wpAny_call (PySem.W.method_call (ClX.pin_at I3) (codeAny_mono (Fn.run X.A X.stack s3 H2 ⟨.ref C :: ws, []⟩ (.ref C :: (ws ++ us)) (.ref C :: (vs ++ dvs)) Q (E σ) hr hG I3.env0 (hb s3 (.ref C :: ws) I3.kIn hl) (.cons rfl (rv.append hd)) q2) fun r s' hq => ?_))
  have z := ret_of (hx σ) I3 hq
  cases r with
  | error e => exact z
  | ok fl =>
    cases fl with
    | ret u => exact ClX.unpinE z
    | next => exact z
    | brk => exact z
    | cont => exact z
theorem cmeth_read {run : Nat → List D → R D} {f c : Nat} {ds : List D} {m : Env → R (List Od)} (od : ∀ G H, OwL W G H ds [] dvs) (h : tE W Wx (semCall run f (semOc (semOv (fun e => .ok (.cls c) e)) (semFill m ds))) σ H Q) : tCMethG (W.cA c) (spOf W (run f)) dvs (WE Wx) (tOs W Wx m) σ H Q := by
  obtain ⟨e, G, F, S, p⟩ := h
  have e0 : semCall run f (semOc (semOv (fun e => .ok (.cls c) e)) (semFill m ds)) e = (m e).bind fun os e1 => doCall run f (.val (.cls c) :: (os ++ ds.map Od.val)) e1 := by
    show ((semFill m ds e).bind fun xs e2 => R.ok (Od.val (.cls c) :: xs) e2).bind (fun os e1 => doCall run f os e1) = _
    rw [fill_bind]
    cases m e <;> rfl
  rw [e0] at p
  refine ⟨e, G, F, S, p.go S.refl nomem fun os e1 vs G1 H1 F1 Fa p1 S1 E1 r1 => call_fin p1 S1 E1 ?_⟩
  rw [rOs]
  exact ⟨[], Fa, .ref (W.cA c), vs ++ dvs, rfl, rfl, ⟨rfl, rfl⟩, r1.app (od G1 H1)⟩
theorem mkD_read {run : Nat → List D → R D} {c f : Nat} {ds : List D} {m : Env → R (List Od)} (od : ∀ G H, OwL W G H ds [] dvs) (h : tE W Wx (semMk run c f (semFill m ds)) σ H Q) : tMakeD (W.cA c) (spOf W (run f)) dvs (WE Wx) (tOs W Wx m) σ H Q := by
  obtain ⟨e, G, F, S, p⟩ := mk_read h
  unfold tOs Rd1 at *
  refine ⟨e, G, F, S, ?_⟩
  unfold semFill at p
  cases c1 : m e with
  | no => rw [c1] at p; exact p
  | exc x e1 => rw [c1] at p; exact p
  | ok os e1 =>
    rw [c1] at p
    intro vs G' H' F' Fv S' E' r'
    exact p (vs ++ dvs) G' H' F' Fv S' E' (r'.app (od G' H'))
theorem pe_mkED {run : Nat → List D → R D} {f c : Nat} {k : Nat} {fA : Addr} {ds : List D} {m : Env → R (List Od)} (hK : X.K = W.K)
    (tk : Takes X Wx) (M : Mk X.K (W.cA c) fA) (Fn : FnG X.prog X.w X.K X.mg X.base (L2.CX X.prog X.w) k fA fd ps (spOf W (run f))) (hr : Room (k + 1) X.A) (hG : Calm X.A) (hg : Gl X nm) (hm : X.mg nm = some (.ref (W.cA c))) (hd : Dfl W fd ps ds)
    (ha : PA X (y :: ys) (tOs W Wx m)) (hdb : (nm == ("__debug__" : Str)) = false) (he : starEach (y :: ys) X.env = (false, eval y X.env) :: starEach ys X.env) (hpl : (backTo pos (starEach ys X.env)).any (·.1) = false) :
    PE X (.Call (.Name nm p) (y :: ys) [] pos) (tE W Wx (semMk run c f (semFill m ds))) := by
  obtain ⟨us, vs, hb, hv, od⟩ := hd.ex
  exact PE.imp (pe_makeD (E := WE Wx) M Fn hr hG hg hm (by rw [hK]; exact hb) hv (fun σ => passAt tk σ) ha hdb he hpl) fun _ _ _ h => mkD_read od h
theorem pe_cmethE {run : Nat → List D → R D} {f c : Nat} {k : Nat} {fA q0 : Addr} {mc : Value} {ds : List D} {m : Env → R (List Od)} (hK : X.K = W.K)
    (tk : Takes X Wx) (r : ClX.CRead X.K (W.cA c) mc) (cm : ClX.CMet X.K (W.cA c) mc nm q0 fA) (Fn : FnG X.prog X.w X.K X.mg X.base (L2.CX X.prog X.w) k fA fd ps (spOf W (run f))) (hr : Room k X.A) (hG : Calm X.A) (hg : Gl X x) (hm : X.mg x = some (.ref (W.cA c))) (hd : Dfl W fd ps ds)
    (ha : PA X (y :: ys) (tOs W Wx m)) (hdb : (x == ("__debug__" : Str)) = false) (mo : MetOk X (.Name x p) apos y ys pos) :
    PE X (.Call (.Attribute (.Name x p) nm apos) (y :: ys) [] pos) (tE W Wx (semCall run f (semOc (semOv (fun e => .ok (.cls c) e)) (semFill m ds)))) := by
  obtain ⟨us, vs, hb, hv, od⟩ := hd.ex
  exact PE.imp (pe_cmethG (E := WE Wx) hg hm hdb r cm Fn hr hG (by rw [hK]; exact hb) hv (fun σ => passAt tk σ) ha mo.st mo.pl (ht_ok (base_ok mo.base) mo.hfew mo.line)) fun _ _ _ h => cmeth_read od h
/-- the class of a slot -/
theorem pe_mkVE {run : Nat → List D → R D} {i : Nat} {tb : List (Nat × Nat)} {k : Nat} {m : Env → R (List Od)} (tk : Takes X Wx)
    (hM : ∀ c f, tb.lookup c = some f → ∃ fA fd ps, Mk X.K (W.cA c) fA ∧ Binds X.K fd ps [] ∧ FnG X.prog X.w X.K X.mg X.base (L2.CX X.prog X.w) k fA fd ps (spOf W (run f))) (hr : Room (k + 1) X.A) (hG : Calm X.A) (hN : X.N[i]? = some nm) (hv : Vis X.env.scope nm)
    (ha : PA X (y :: ys) (tOs W Wx m)) (hdb : (nm == ("__debug__" : Str)) = false) (hcd : (nm == ("__classdict__" : Str)) = false) (he : starEach (y :: ys) X.env = (false, eval y X.env) :: starEach ys X.env) (hpl : (backTo pos (starEach ys X.env)).any (·.1) = false) :
    PE X (.Call (.Name nm p) (y :: ys) [] pos) (tE W Wx (semMkV run i tb m)) := by
  refine ⟨fun pins s σ H Q I h => ?_⟩
  obtain ⟨e, G, F, S, p⟩ := h
  unfold semMkV at p
  cases c0 : Env.get e i with
  | none => rw [c0] at p; exact p.elim
  | some d =>
    rw [c0] at p
    cases d with
    | cls c =>
      dsimp only at p
      cases c1 : tb.lookup c with
      | none => rw [c1] at p; exact p.elim
      | some f =>
        rw [c1] at p
        obtain ⟨A, Fi, B, _, ⟨v, q1, q2⟩, _⟩ := S.env.cut (get_some c0)
        obtain ⟨_, rfl⟩ := q2
        obtain ⟨fA, fd, ps, M, hb, Fn⟩ := hM c f c1
        exact (pe_makeV (E := WE Wx) M Fn hr hG hN hv hb (fun σ => passAt tk σ) ha hdb hcd he hpl).run pins s σ H Q I ⟨q1, mk_read ⟨e, G, F, S, p⟩⟩
    | _ => exact p.elim
end
end Wpk
set_option Elab.async false
set_option linter.all false
set_option maxRecDepth 100000
/-! P16: sets of texts: how many there are. -/
namespace Wpk
open PySem PySem.Spec PyProof.Rows L2
/-- the texts that are met first -/
def metS (f : Nat → Str) : Nat → List Str
  | 0 => []
  | i + 1 => if (metS f i).any (· == f i) then metS f i else metS f i ++ [f i]
theorem metS_le (f : Nat → Str) : ∀ i, (metS f i).length ≤ i
  | 0 => Nat.le_refl 0
  | i + 1 => by
    have := metS_le f i
    unfold metS
    split
    · omega
    · simp; omega
theorem metS_any (f : Nat → Str) (i : Nat) (x : Str) : (metS f (i + 1)).any (· == x) = ((metS f i).any (· == x) || decide (x = f i)) := by
  show (if (metS f i).any (· == f i) then metS f i else metS f i ++ [f i]).any (· == x) = _
  by_cases c : (metS f i).any (· == f i) = true
  · rw [if_pos c]
    by_cases e : x = f i
    · subst e; rw [c]; rfl
    · rw [decide_eq_false e, Bool.or_false]
  · rw [if_neg c, List.any_append]
    congr 1
    simp only [List.any_cons, List.any_nil, Bool.or_false]
    by_cases e : x = f i
    · subst e; simp
    · rw [decide_eq_false e]; simpa using fun z => e z.symm
theorem metS_len (f : Nat → Str) (i : Nat) : (metS f (i + 1)).length = if (metS f i).any (· == f i) then (metS f i).length else (metS f i).length + 1 := by
  show (if (metS f i).any (· == f i) then metS f i else metS f i ++ [f i]).length = _
  split <;> simp
section
variable {prog : Program} {w : World} {A : Around} {R : Result → Shared → Prop} {J : Addr} {fp wr : List Addr} {Gn : Array GenState → Array GenState → Prop} {n : Nat} {Pv : Nat → Value → Prop} {St : Nat → Shared → Prop}
/-- the loop of set(..) over texts -/
theorem upd_texts (W : WalksS prog w A.in1 J fp wr Gn n Pv St) (S : Addr) (off : S ∉ fp) (f : Nat → Str) (hf : ∀ i v, Pv i v → ∃ t, v = .str (f i) t) (few : n + 1 < scanBound) : ∀ (m i : Nat) (s : Shared), n - i = m → i ≤ n → St i s →
      s.heap.SetOf (PySem.strKind prog w) S (fun x => (metS f i).any (· == x)) (metS f i).length →
      (∀ z, Moved (S :: wr) Gn s z → z.heap.SetOf (PySem.strKind prog w) S (fun x => (metS f n).any (· == x)) (metS f n).length → R (.ok (.ret .none)) z) →
      codeAny (model prog w) A (.builtin "set.update.loop" ⟨[.ref S, .ref J], []⟩) R s := by
  have offw : S ∉ wr := fun z => off (W.sub _ z)
  have wider : ∀ b ∈ wr, b ∈ S :: wr := fun b z => List.mem_cons_of_mem _ z
  intro m
  induction m with
  | zero =>
    intro i s hm hi st hS fin
    obtain rfl : i = n := by omega
    refine codeAny_builtin PyProof.Rows.F.entry_set_update_loop ?_
    rw [Around.under_plainId PyProof.Rows.F.plain_set_update_loop _]
    show wpAny _ A.in1 (pyNext (.ref J) >>= _) _ _ s
    refine wpAny_bind (W.done s _ _ st fun z mv => ?_)
    show wpAny _ A.in1 (ret Value.none) _ _ z
    refine wpAny_pure (fin z (mv.mono wider) ?_)
    obtain ⟨o, es, ep, tb, ho, more⟩ := hS
    exact ⟨o, es, ep, tb, mv.heap S _ offw ho, more⟩
  | succ m ih =>
    intro i s hm hi st hS fin
    have lt : i < n := by omega
    refine codeAny_builtin PyProof.Rows.F.entry_set_update_loop ?_
    rw [Around.under_plainId PyProof.Rows.F.plain_set_update_loop _]
    show wpAny _ A.in1 (pyNext (.ref J) >>= _) _ _ s
    refine wpAny_bind (W.item i s _ _ lt st fun v z hP st' mv => ?_)
    obtain ⟨t, rfl⟩ := hf i v hP
    have hz : z.heap.SetOf (PySem.strKind prog w) S (fun x => (metS f i).any (· == x)) (metS f i).length := by
      obtain ⟨o, es, ep, tb, ho, more⟩ := hS
      exact ⟨o, es, ep, tb, mv.heap S _ offw ho, more⟩
    show wpAny _ A.in1 (holding [Value.str (f i) t] (setAdd S (.str (f i) t)) >>= _) _ _ z
    refine wpAny_bind (wpAny_holding ?_)
    unfold setAdd
    refine wpAny_holding (wpAny_bind ((PySem.strKind prog w).pyHash (k := f i) (strKind_is _ _ _ _) ?_))
    have room : (metS f i).length + 1 < scanBound := by have := metS_le f i; omega
    refine wpAny_setAddHashed_of (knd := PySem.strKind prog w) (s := { z with toks := z.toks + 1 }) (strKind_is _ _ _ _) rfl hz room fun h2 sb h3 => ?_
    have h4 : h2.SetOf (PySem.strKind prog w) S (fun x => (metS f (i + 1)).any (· == x)) (metS f (i + 1)).length :=
      PyProof.Rows.SetOf_congr h3 (fun x => (metS_any f i x).symm) (metS_len f i).symm
    refine wpAny_pure ⟨plainId_quiet PyProof.Rows.F.plain_set_update_loop _, ih (i + 1) _ (by omega) lt (W.frame _ z _ _ st' (Nat.le_succ _) fun b hb o e => ?_) h4 fun y mv2 h5 => ?_⟩
    · have ne : b ≠ S := fun q => off (q ▸ hb)
      rw [sb.2 b ne]
      exact e
    · refine fin y (Moved.trans W.gtrans ((mv.mono wider).then_heap (Nat.le_succ _) fun b o hb e => ?_) mv2) h5
      have ne : b ≠ S := fun q => hb (by rw [q]; exact List.mem_cons_self)
      rw [sb.2 b ne]
      exact e
end
/-- a new set -/
abbrev nset (led : Bool) : Obj := { cls := .type "set", dict := none, data := .set #[] 0 (.fresh 0 0 led) }
section
variable {prog : Program} {w : World} {A : Around} {E : Value → Shared → Prop} {R : Fin → Shared → Prop} {hp : Heap} {g : Array GenState} {d : Drawn} {tk : Nat} {os : OsState}
set_option maxHeartbeats 3200000 in
/-- set.__init__(S, xs), xs a list or a tuple: what is left is the loop -/
theorem init_seq {T : String} {l S : Addr} {its : Array Value} {nl : Nat} {od : Option Addr} {osl : Array (Option Value)} {led : Bool} (g8 : isSubtype (.type T) (.type "set") = pure false) (g9 : isSubtype (.type T) (.type "frozenset") = pure false) (g10 : (Value.type T == Value.type "dict") = false)
    (at0 : hp.get? S = some (nset led)) (at1 : hp.get? l = some { cls := .type T, dict := od, data := .seq its nl, slots := osl })
    (h : wpAny (model prog w) A (pyIter (.ref l)) (fun a s' => wpAny (model prog w) A (runValue (Code.builtin "set.update.loop" ⟨[Value.ref S, a], []⟩)) (fun _ s'' => R (.done (.ret .none)) s'') E s') E ⟨hp, g, d, tk, os⟩) :
    wpAny (model prog w) A (Builtin.«set.__init__» ⟨[.ref S, .ref l], []⟩) R E ⟨hp, g, d, tk, os⟩ := by
  unfold Builtin.«set.__init__» noKeywords Builtin.Frozenset.updateFrom
  generalize hPI : pyIter = PI at h ⊢
  wp_walk
  refine wpAny_mono h (fun a s' z => wpAny_bind (wpAny_mono z (fun _ s'' z => wpAny_pure (show wpAny _ _ (ret Value.none) _ _ _ from wpAny_pure z)) fun _ _ z => z)) fun _ _ z => z
end
section
variable {prog : Program} {w : World} {A : Around} {E : Value → Shared → Prop} {s : Shared}
set_option maxHeartbeats 3200000 in
/-- set(x): a new set, its __init__ -/
theorem set_call {l : Addr} {R0 : Shared → Prop} {Q : Value → Shared → Prop} (hinit : ∀ (led : Bool) (E' : Value → Shared → Prop), wpAny (model prog w) A.in1.in1 (Builtin.«set.__init__» ⟨[.ref s.heap.objs.size, .ref l], []⟩) (fun r z => r = .done (.ret .none) ∧ R0 z) E' { s with heap := s.heap.push (nset led) })
    (h : ∀ z, R0 z → Q (.ref s.heap.objs.size) z) : wpAny (model prog w) A (call (.type "set") [.ref l]) Q E s := by
  obtain ⟨c0, c1, mr⟩ := PySem.F.called_set.mro
  have g1 := PySem.F.called_set.made
  have g2 := PySem.F.called_set.sub
  refine wpAny_call (codeAny_of_tree (show wpAny _ _ (callAny (.type "set") _) _ _ _ from ?_))
  refine wpAny_pure ⟨Code.quiet_builtin _ (by decide +kernel), codeAny_builtin PySem.F.entry_type_call ?_⟩
  rw [Around.under_plain (weight_type_call_type "set" [.ref l] []) rfl]
  have g3 := PySem.F.called_set.notType
  have g4 := PySem.F.called_set.canCreate
  have g5 := PySem.F.typeCall_set_1 (.ref l)
  repeat (any_goals (first | assumption | wp_step))
  refine codeAny_mono (code_set_new_1 (.ref l) (E := E) (Q₁ := fun ob z => ∃ led : Bool, ob = .ref s.heap.objs.size ∧ z = { s with heap := s.heap.push { cls := .type "set", dict := none, data := .set #[] 0 (.fresh 0 0 led) } }) fun led => ⟨led, rfl, rfl⟩) fun r z hr => ?_
  match r, hr with
  | .error er, hr => exact hr
  | .ok (.ret ob), hr =>
    obtain ⟨led, rfl, rfl⟩ := hr
    have at0 : (s.heap.push (nset led)).get? s.heap.objs.size = some (nset led) := Heap.get?_push_size _ rfl
    have ty0 : Shared.TypeIs { s with heap := s.heap.push (nset led) } (.ref s.heap.objs.size) "set" := ⟨_, at0, rfl⟩
    have g6 := PySem.F.called_set.init.lookup
    have g7 := PySem.F.called_set.init.bind (.ref s.heap.objs.size)
    repeat (any_goals (first | assumption | wp_step))
    refine codeAny_mono (codeAny_call_builtin (R := wants (fun r z => r = .none ∧ R0 z) E) PySem.F.called_set.init.plain PySem.F.entry_set_init (check_set_init_1 ty0 ?_)) fun r z hr => ?_
    · refine wpAny_mono (hinit led E) (fun r z hz => ?_) fun _ _ z => z
      obtain ⟨rfl, hz⟩ := hz
      exact ⟨rfl, hz⟩
    · match r, hr with
      | .error er, hr => exact hr
      | .ok (.ret u), hr =>
        obtain ⟨rfl, hz⟩ := hr
        repeat (any_goals (first | assumption | wp_step))
        exact h _ hz
      | .ok .next, hr => exact hr.elim
      | .ok .brk, hr => exact hr.elim
      | .ok .cont, hr => exact hr.elim
  | .ok .next, hr => exact hr.elim
  | .ok .brk, hr => exact hr.elim
  | .ok .cont, hr => exact hr.elim
/-- set(xs), xs a list of texts -/
theorem set_texts {l : Addr} {its : Array Value} {f : Nat → Str} {Q : Value → Shared → Prop} (calm : A.handled = none) (hl : s.heap.IsList l its) (hf : ∀ (i : Nat) (v : Value), its[i]? = some v → ∃ t, v = .str (f i) t) (few : its.size + 1 < scanBound)
    (h : ∀ (h' : Heap) (tk : Nat), h'.SetOf (PySem.strKind prog w) s.heap.objs.size (fun x => (metS f its.size).any (· == x)) (metS f its.size).length → (∀ b o, b < s.heap.objs.size → s.heap.get? b = some o → h'.get? b = some o) → Q (.ref s.heap.objs.size) { s with heap := h', toks := tk }) :
    wpAny (model prog w) A (call (.type "set") [.ref l]) Q E s := by
  refine set_call (R0 := fun z => ∃ h' tk, z = { s with heap := h', toks := tk } ∧ h'.SetOf (PySem.strKind prog w) s.heap.objs.size (fun x => (metS f its.size).any (· == x)) (metS f its.size).length ∧ (∀ b o, b < s.heap.objs.size → s.heap.get? b = some o → h'.get? b = some o)) (fun led E' => ?_) fun z ⟨h', tk, e, hS, kp⟩ => by rw [e]; exact h h' tk hS kp
  have at0 : (s.heap.push (nset led)).get? s.heap.objs.size = some (nset led) := Heap.get?_push_size _ rfl
  obtain ⟨ol, hol, hcl, nl, hdl⟩ := hl
  obtain ⟨oc, od, odt, osl⟩ := ol
  obtain rfl : oc = .type "list" := hcl
  obtain rfl : odt = .seq its nl := hdl
  have at1 : (s.heap.push (nset led)).get? l = some { cls := .type "list", dict := od, data := .seq its nl, slots := osl } := Heap.get?_push_of_some _ hol
  have isl : (s.heap.push (nset led)).IsList l its := ⟨_, at1, rfl, nl, rfl⟩
  refine init_seq PySem.F.sub_list_set PySem.F.sub_list_frozenset (by decide) at0 at1 (wpAny_pyIter_list isl ?_)
  refine wpAny_runValue ?_
  have below : l < s.heap.objs.size := Heap.lt_size hol
  have calm3 : A.in1.in1.in1.handled = none := by simp [calm]
  have ne1 : l ≠ (s.heap.push (nset led)).objs.size := by
    rw [Heap.size_push]
    exact (Nat.ne_of_lt (Nat.lt_succ_of_lt below))
  have off : s.heap.objs.size ∉ [(s.heap.push (nset led)).objs.size, l] := by
    rw [Heap.size_push]
    simp only [List.mem_cons, List.not_mem_nil, or_false, not_or]
    exact ⟨(Nat.ne_of_lt (Nat.lt_succ_self _)), (Nat.ne_of_gt below)⟩
  refine upd_texts ((Walks.list calm3 _ l ne1 its).toS) s.heap.objs.size off f hf few (its.size - 0) 0 _ (by omega) (Nat.zero_le _) ⟨⟨_, Heap.get?_push_size _ rfl, rfl, rfl⟩, (isl.push _)⟩ ?start ?fin
  case start =>
    have at2 := Heap.get?_push_of_some { cls := .type "list_iterator", data := .fields #[.ref l, .int 0 0] } at0
    exact PyProof.Rows.SetOf_congr ((PyProof.Rows.setObjOf_fresh (knd := PySem.strKind prog w) led).setOf at2 (by unfold scanBound; omega)) (fun _ => rfl) rfl
  case fin =>
    rintro ⟨h', g', d', tk', os'⟩ mv hS'
    obtain rfl : g' = s.gens := mv.gens
    obtain rfl : d' = s.drawn := mv.drawn
    obtain rfl : os' = s.os := mv.os
    refine ⟨rfl, h', tk', rfl, hS', fun b o hb e => ?_⟩
    refine mv.heap b o ?_ (Heap.get?_push_of_some _ (Heap.get?_push_of_some _ e))
    rw [Heap.size_push]
    simp only [List.mem_cons, List.not_mem_nil, or_false, not_or]
    exact ⟨(Nat.ne_of_lt hb), (Nat.ne_of_lt (Nat.lt_succ_of_lt hb))⟩
/-- set(xs), xs a tuple of texts -/
theorem set_textsT {l : Addr} {its : Array Value} {f : Nat → Str} {Q : Value → Shared → Prop} (calm : A.handled = none) (hl : s.heap.IsTuple l its) (hf : ∀ (i : Nat) (v : Value), its[i]? = some v → ∃ t, v = .str (f i) t) (few : its.size + 1 < scanBound)
    (h : ∀ (h' : Heap) (tk : Nat), h'.SetOf (PySem.strKind prog w) s.heap.objs.size (fun x => (metS f its.size).any (· == x)) (metS f its.size).length → (∀ b o, b < s.heap.objs.size → s.heap.get? b = some o → h'.get? b = some o) → Q (.ref s.heap.objs.size) { s with heap := h', toks := tk }) :
    wpAny (model prog w) A (call (.type "set") [.ref l]) Q E s := by
  refine set_call (R0 := fun z => ∃ h' tk, z = { s with heap := h', toks := tk } ∧ h'.SetOf (PySem.strKind prog w) s.heap.objs.size (fun x => (metS f its.size).any (· == x)) (metS f its.size).length ∧ (∀ b o, b < s.heap.objs.size → s.heap.get? b = some o → h'.get? b = some o)) (fun led E' => ?_) fun z ⟨h', tk, e, hS, kp⟩ => by rw [e]; exact h h' tk hS kp
  have at0 : (s.heap.push (nset led)).get? s.heap.objs.size = some (nset led) := Heap.get?_push_size _ rfl
  obtain ⟨ol, hol, hcl, nl, hdl⟩ := hl
  obtain ⟨oc, od, odt, osl⟩ := ol
  obtain rfl : oc = .type "tuple" := hcl
  obtain rfl : odt = .seq its nl := hdl
  have at1 : (s.heap.push (nset led)).get? l = some { cls := .type "tuple", dict := od, data := .seq its nl, slots := osl } := Heap.get?_push_of_some _ hol
  have isl : (s.heap.push (nset led)).IsTuple l its := ⟨_, at1, rfl, nl, rfl⟩
  refine init_seq PySem.F.sub_tuple_set PySem.F.sub_tuple_frozenset (by decide) at0 at1 (wpAny_pyIter_tuple isl ?_)
  refine wpAny_runValue ?_
  have below : l < s.heap.objs.size := Heap.lt_size hol
  have calm3 : A.in1.in1.in1.handled = none := by simp [calm]
  have ne1 : l ≠ (s.heap.push (nset led)).objs.size := by
    rw [Heap.size_push]
    exact (Nat.ne_of_lt (Nat.lt_succ_of_lt below))
  have off : s.heap.objs.size ∉ [(s.heap.push (nset led)).objs.size, l] := by
    rw [Heap.size_push]
    simp only [List.mem_cons, List.not_mem_nil, or_false, not_or]
    exact ⟨(Nat.ne_of_lt (Nat.lt_succ_self _)), (Nat.ne_of_gt below)⟩
  refine upd_texts ((Walks.tuple calm3 _ l ne1 its).toS) s.heap.objs.size off f hf few (its.size - 0) 0 _ (by omega) (Nat.zero_le _) ⟨⟨_, Heap.get?_push_size _ rfl, rfl, rfl⟩, (isl.push _)⟩ ?start ?fin
  case start =>
    have at2 := Heap.get?_push_of_some { cls := .type "tuple_iterator", data := .fields #[.ref l, .int 0 0] } at0
    exact PyProof.Rows.SetOf_congr ((PyProof.Rows.setObjOf_fresh (knd := PySem.strKind prog w) led).setOf at2 (by unfold scanBound; omega)) (fun _ => rfl) rfl
  case fin =>
    rintro ⟨h', g', d', tk', os'⟩ mv hS'
    obtain rfl : g' = s.gens := mv.gens
    obtain rfl : d' = s.drawn := mv.drawn
    obtain rfl : os' = s.os := mv.os
    refine ⟨rfl, h', tk', rfl, hS', fun b o hb e => ?_⟩
    refine mv.heap b o ?_ (Heap.get?_push_of_some _ (Heap.get?_push_of_some _ e))
    rw [Heap.size_push]
    simp only [List.mem_cons, List.not_mem_nil, or_false, not_or]
    exact ⟨(Nat.ne_of_lt hb), (Nat.ne_of_lt (Nat.lt_succ_of_lt hb))⟩
end
end Wpk
set_option Elab.async false
set_option linter.all false
set_option maxRecDepth 100000
/-! P17: len(set(..)) of texts. -/
namespace Wpk
open PySem PySem.Spec PyProof.Rows L2
theorem strs_vals : ∀ {ss : List Str} {us : List Value}, Vals (ss.map V.str) us → ∀ (i : Nat) (v : Value), us[i]? = some v → ∃ t, v = .str (ss.getD i Str.empty) t
  | [], _, .nil, i, v, h => by simp at h
  | s :: ss, _, .cons r q, 0, v, h => by
    simp at h
    subst h
    exact r
  | s :: ss, _, .cons r q, i + 1, v, h => by
    simp at h
    obtain ⟨t, e⟩ := strs_vals q i v h
    exact ⟨t, by rw [e]; rfl⟩
/-- len(set(xs)) -/
def tLenT (K : PySem.W.Frag) (ta : TE) : TE := fun σ H Q => ta σ H fun x H1 => ∃ (l : Addr) (ss : List Str), x = .ref l ∧ (SqL K H1 l (ss.map V.str) ∨ SqT K H1 l (ss.map V.str)) ∧ ss.length ≤ 4000 ∧ Q (.int ((metS (fun i => ss.getD i Str.empty) ss.length).length : Nat)) H1
theorem pe_lenT {X : Cx} {a : Expr} {ta : TE} {p p2 q pos : Pos} (hg : Gl X "len") (hm : X.mg "len" = none) (hg2 : Gl X "set") (hm2 : X.mg "set" = none) (ha : PE X a ta) (hc : X.calm = true)
    (na : starEach [a] X.env = (false, eval a X.env) :: starEach [] X.env) : PE X (.Call (.Name "len" p) [.Call (.Name "set" p2) [a] [] q] [] pos) (tLenT X.K ta) := by
  refine ⟨fun pins s σ H Q I h => Call_ (ld_blt I hg hm boot_len (PyProof.Rows.callWith_builtin1 (PyProof.Rows.args_cons (Call_ (ld_blt I hg2 hm2 boot_set ?_)) rfl) rfl rfl))⟩
  refine PyProof.Rows.callWith_type1 (PyProof.Rows.args_cons (thn (ha.run pins s σ H _ I h) fun v s1 ⟨x, H1, I1, r1, q1⟩ => PyProof.Rows.args_nil ?_) na) na rfl
  obtain ⟨l, ss, rfl, hq, hl, q1⟩ := q1
  cases r1
  have few : ∀ {its : List Value}, Vals (ss.map V.str) its → its.toArray.size = ss.length := fun r => by rw [List.size_toArray, ← r.length, List.length_map]
  have fin : ∀ {its : List Value} (h' : Heap) (tk : Nat), its.toArray.size = ss.length → h'.SetOf (PySem.strKind X.prog X.w) s1.heap.objs.size (fun x => (metS (fun i => ss.getD i Str.empty) its.toArray.size).any (· == x)) (metS (fun i => ss.getD i Str.empty) its.toArray.size).length →
      (∀ b o, b < s1.heap.objs.size → s1.heap.get? b = some o → h'.get? b = some o) → wpAny (model X.prog X.w) X.A (PySem.call (.builtin "len") [.ref s1.heap.objs.size]) (EP X pins σ Q) X.xe { s1 with heap := h', toks := tk } := fun {its} h' tk hn hS hk => by
    rw [hn] at hS
    obtain ⟨o, es, ep, t, ho, hex, hd, _, _, _, hf, hn2⟩ := hS
    have hle := metS_le (fun i => ss.getD i Str.empty) ss.length
    have I2 : Inv X pins σ H1 { s1 with heap := h', toks := tk } := I1.kept fun b o e => hk b o (Heap.lt_size e) e
    exact call_len_set ho hex hd hf (by rw [hn2] <;> omega) ⟨.int ((metS (fun i => ss.getD i Str.empty) ss.length).length : Nat), H1, I2.tok _, ⟨_, by rw [hn2]⟩, q1⟩
  rcases hq with hq | hq
  · obtain ⟨its, r, pl, hz⟩ := I1.list hq
    have hn := few r
    exact set_texts (f := fun i => ss.getD i Str.empty) (I1.ok.hd hc) pl.isList (fun i v hv => strs_vals r i v (by simpa using hv)) (by rw [hn]; unfold scanBound; omega) fun h' tk hS hk => PyProof.Rows.args_nil (fin h' tk hn hS hk)
  · obtain ⟨its, r, pl, hz⟩ := I1.tuple hq
    have hn := few r
    exact set_textsT (f := fun i => ss.getD i Str.empty) (I1.ok.hd hc) pl (fun i v hv => strs_vals r i v (by simpa using hv)) (by rw [hn]; unfold scanBound; omega) fun h' tk hS hk => PyProof.Rows.args_nil (fin h' tk hn hS hk)
/-- the texts, each once -/
theorem metS_ded (ss : List (List Nat)) : ∀ i, i ≤ ss.length → metS (fun i => (ss.map sOf).getD i Str.empty) i = (dedS (ss.take i)).map sOf
  | 0, _ => by simp [metS, dedS]
  | i + 1, hi => by
    have ih := metS_ded ss i (by omega)
    have hlt : i < ss.length := hi
    have e1 : (ss.map sOf).getD i Str.empty = sOf ss[i] := by simp [List.getD_eq_getElem?_getD, List.getElem?_eq_getElem hlt]
    have e2 : ss.take (i + 1) = ss.take i ++ [ss[i]] := by rw [List.take_add_one, List.getElem?_eq_getElem hlt]; rfl
    have e3 : dedS (ss.take i ++ [ss[i]]) = dedStep (dedS (ss.take i)) ss[i] := by unfold dedS; rw [List.foldl_append]; rfl
    unfold metS
    rw [e1, ih, e2, e3]
    unfold dedStep
    have e4 : ((dedS (ss.take i)).map sOf).any (· == sOf ss[i]) = (dedS (ss.take i)).contains ss[i] := by
      rw [List.any_map, List.contains_eq_any_beq]
      congr 1
      funext z
      show (sOf z == sOf ss[i]) = (ss[i] == z)
      by_cases ez : z = ss[i]
      · subst ez; simp
      · have : sOf z ≠ sOf ss[i] := fun q => ez (sOf_inj q)
        rw [beq_eq_false_iff_ne.mpr this, beq_eq_false_iff_ne.mpr (fun q => ez q.symm)]
    rw [e4]
    split <;> simp
section
variable {X : Cx} {W : Wd} {Wx : WX} {σ : L2.St} {G H : Hp} {F : List Addr} {Q : VK} {v : V}
theorem lenT_read {m : Env → R Od} (hK : X.K = W.K) (h : tE W Wx (semBi lenSetD (semOc m semOn)) σ H Q) : tLenT X.K (tO W Wx m) σ H Q := by
  have z : tCB (rPs W lenSetD) (tOs W Wx (semOc m semOn)) σ H Q := bi_read h
  obtain ⟨e, G, F, S, p⟩ := z
  unfold semOc at p
  refine ⟨e, G, F, S, ?_⟩
  cases c : m e with
  | no => rw [c] at p; exact p
  | exc x e1 => rw [c] at p; exact p
  | ok o e1 =>
    rw [c] at p
    intro v G1 H1 F1 Fa S1 E1 r1
    have q := p [v] G1 H1 F1 Fa S1 E1 (by rw [rOs]; exact ⟨Fa, [], v, [], by simp, rfl, r1, by rw [rOs]; exact ⟨rfl, rfl⟩⟩)
    obtain ⟨G2, ds, d, sub, pr, hd, nw⟩ := q
    obtain ⟨d1, F0, rfl, o1⟩ : ∃ d1 F0, ds = [d1] ∧ Ow W G2 H1 d1 F0 v := by
      cases pr with
      | cons a b =>
        cases b
        obtain ⟨F0, o⟩ := a
        exact ⟨_, F0, rfl, o⟩
    have key : ∀ (xs : List D) (vs : List V) (F' : List Addr), OwL W G2 H1 xs F' vs → (∀ l, v = .ref l → (SqL X.K H1 l vs ∨ SqT X.K H1 l vs)) → (∃ l, v = .ref l) → lenSetL xs = some d → ∃ (l : Addr) (ss : List Str), v = .ref l ∧ (SqL X.K H1 l (ss.map V.str) ∨ SqT X.K H1 l (ss.map V.str)) ∧ ss.length ≤ 4000 ∧ Q (.int ((metS (fun i => ss.getD i Str.empty) ss.length).length : Nat)) H1 := fun xs vs F' l hq hl hx => by
      obtain ⟨a, rfl⟩ := hl
      unfold lenSetL at hx
      cases cs : strsOf xs with
      | none => rw [cs] at hx; cases hx
      | some ss =>
        rw [cs] at hx
        dsimp only at hx
        split at hx
        · rename_i hle
          cases hx
          have hv := l.strs cs
          subst hv
          refine ⟨a, ss.map sOf, rfl, ?_, by simpa using hle, ?_⟩
          · simpa using hq a rfl
          · have := metS_ded ss ss.length (Nat.le_refl _)
            rw [List.length_map, this, List.take_length, List.length_map]
            exact nw.int sub
        · cases hx
    cases d1 with
    | lst mm xs =>
      obtain ⟨a, vs, F', rfl, q, l⟩ := o1.sqL sub
      exact key xs vs F' l (fun l' e => by cases e; rw [hK]; exact .inl q) ⟨a, rfl⟩ hd
    | tup xs =>
      obtain ⟨a, vs, rfl, q, l⟩ := o1.sqT sub
      exact key xs vs [] l (fun l' e => by cases e; rw [hK]; exact .inr q) ⟨a, rfl⟩ hd
    | _ => exact nomatch hd
theorem pe_lenSetE {a : Expr} {m : Env → R Od} {p p2 q pos : Pos} (hK : X.K = W.K) (hg : Gl X "len") (hm : X.mg "len" = none) (hg2 : Gl X "set") (hm2 : X.mg "set" = none) (ha : PE X a (tO W Wx m)) (hc : X.calm = true)
    (na : starEach [a] X.env = (false, eval a X.env) :: starEach [] X.env) : PE X (.Call (.Name "len" p) [.Call (.Name "set" p2) [a] [] q] [] pos) (tE W Wx (semBi lenSetD (semOc m semOn))) :=
  PE.imp (pe_lenT hg hm hg2 hm2 ha hc na) fun _ _ _ h => lenT_read hK h
end
end Wpk
set_option Elab.async false
set_option linter.all false
set_option maxRecDepth 100000
/-! P18: a value that is frozen at once. -/
namespace Wpk
open PySem PySem.Spec PyProof.Rows L2
section
variable {X : Cx} {W : Wd} {Wx : WX} {σ : L2.St} {G G1 G2 H H1 H2 : Hp} {F F1 F2 Fa Fb : List Addr} {e e1 : Env} {Q : VK} {v : V}
theorem fz_read {m : Env → R D} (h : tE W Wx (semFz m) σ H Q) : tE W Wx m σ H Q := by
  obtain ⟨e, G, F, S, p⟩ := h
  refine ⟨e, G, F, S, p.go S.refl nomem fun d e2 v G2 H2 F2 Fb p2 S2 E2 r2 => ?_⟩
  have r2 : Ow W G2 H2 d Fb v := r2
  have nd : (F2 ++ (Fb ++ [])).Nodup := by rw [List.append_nil]; exact S2.nd
  obtain ⟨S3, k3⟩ := Stp.freezeMid (A := F2) (Fa := Fb) (B := []) S2.sh nd fun b hb => E2.mem b (by simpa using hb)
  rw [List.append_nil, List.append_nil] at S3
  have E3 : EnvR W (addG G2 H2 Fb) H2 e2 F2 σ := E2.frame (addG_same S2.sh) fun b hb => ⟨k3 b (by simpa using hb), rfl⟩
  have o3 : Ow W (addG G2 H2 Fb) H2 (frz d) [] v := Ow.frz (addG_same S2.sh) r2 fun b hb => addG_in hb
  exact p2 v (addG G2 H2 Fb) H2 F2 [] (by rw [List.append_nil]; exact S2.trans S3) E3 o3
theorem pe_fz {m : Env → R D} {x : Expr} (h : PE X x (tE W Wx m)) : PE X x (tE W Wx (semFz m)) := PE.imp h fun _ _ _ z => fz_read z
end
end Wpk
set_option Elab.async false
set_option linter.all false
set_option maxRecDepth 100000
set_option maxHeartbeats 1000000
/-! Q1: sorted of texts, of a tuple, of a set. -/
namespace Wpk
open PySem PySem.Spec PyProof.Rows L2
/-! ### plain laws -/
theorem ltS_iff : ∀ a b : List Nat, ltS a b = decide (a < b)
  | [], [] => by simp [ltS]
  | _ :: _, [] => by simp [ltS]
  | [], _ :: _ => by simp [ltS]
  | a :: as, b :: bs => by
    unfold ltS
    rw [ltS_iff as bs]
    by_cases h1 : a < b
    · simp [h1, List.cons_lt_cons_iff]
    · by_cases h2 : a = b
      · subst h2; simp [List.cons_lt_cons_iff]
      · simp [h1, h2, List.cons_lt_cons_iff]
theorem insS_perm (i : List Nat) : ∀ l, (insS i l).Perm (i :: l)
  | [] => .refl _
  | j :: l => by
    unfold insS
    split
    · exact ((insS_perm i l).cons j).trans (.swap i j l)
    · exact .refl _
theorem srtS_perm : ∀ l, (srtS l).Perm l
  | [] => .refl _
  | i :: l => (insS_perm i (srtS l)).trans ((srtS_perm l).cons i)
abbrev LeS (a b : List Nat) : Prop := ¬ b < a
theorem leS_trans {a b c : List Nat} (h1 : LeS a b) (h2 : LeS b c) : LeS a c := by
  have h1 : a ≤ b := List.not_lt.mp h1
  have h2 : b ≤ c := List.not_lt.mp h2
  exact List.not_lt.mpr (List.le_trans h1 h2)
theorem insS_sorted (i : List Nat) : ∀ {l}, l.Pairwise LeS → (insS i l).Pairwise LeS
  | [], _ => List.pairwise_singleton _ _
  | j :: l, h => by
    rw [List.pairwise_cons] at h
    unfold insS
    split
    · rename_i c
      rw [ltS_iff, decide_eq_true_eq] at c
      refine List.pairwise_cons.mpr ⟨fun x hx => ?_, insS_sorted i h.2⟩
      rcases List.mem_cons.mp ((insS_perm i l).mem_iff.mp hx) with z | z
      · subst z; exact List.lt_asymm c
      · exact h.1 x z
    · rename_i c
      rw [ltS_iff, decide_eq_true_eq] at c
      refine List.pairwise_cons.mpr ⟨fun x hx => ?_, List.pairwise_cons.mpr h⟩
      rcases List.mem_cons.mp hx with z | z
      · subst z; exact c
      · exact leS_trans c (h.1 x z)
theorem srtS_sorted : ∀ l, (srtS l).Pairwise LeS
  | [] => .nil
  | i :: l => insS_sorted i (srtS_sorted l)
theorem sortedS_eq {l l' : List (List Nat)} (p : l.Perm l') (h : l.Pairwise LeS) (h' : l'.Pairwise LeS) : l = l' := p.eq_of_pairwise (fun a b _ _ x y => List.le_antisymm (List.not_lt.mp x) (List.not_lt.mp y)) h h'
end Wpk
namespace SrtO
open PySem PyProof.Rows Srt
section
variable {prog : Program} {w : World} {A : Around} {E : Value → Shared → Prop} {s : Shared}
def sv : Value → List Nat
  | .str x _ => x.cps.toList
  | _ => []
def ltSv (v u : Value) : Bool := decide (sv v < sv u)
theorem swo_str : Swo ltSv := by
  refine ⟨fun x y h => ?_, fun x y z h1 h2 => ?_⟩
  · have a := of_decide_eq_true (p := sv x < sv y) h
    exact decide_eq_false (p := sv y < sv x) (List.lt_asymm a)
  · have a := of_decide_eq_false (p := sv y < sv x) h1
    have b := of_decide_eq_false (p := sv z < sv y) h2
    exact decide_eq_false (p := sv z < sv x) (Wpk.leS_trans a b)
theorem str_cmp {vs : List Value} {ss : List PySem.Str} (hI : StrsAre vs ss) : Cmp prog w A s oneType' (fun p => p.1 ∈ vs) (lt2 ltSv) := by
  intro p q hm hm'
  obtain ⟨a, t, e⟩ := hI.all _ hm
  obtain ⟨b, u, e'⟩ := hI.all _ hm'
  show wpAny (model prog w) A (keyLt' oneType' p.1 q.1) (fun r s' => s' = s ∧ r = ltSv p.1 q.1) (fun _ _ => False) s
  rw [e, e', keyLt'_oneType]
  exact oneLt_str ⟨rfl, rfl⟩
theorem strs_sortable {a : Addr} {vs : List Value} {ss : List PySem.Str} (hI : StrsAre vs ss) (h2 : 2 ≤ vs.length) : SortableO prog w A s a vs ltSv := by
  intro h' _
  refine ⟨oneType', fun Q E hq => ?_, str_cmp hI⟩
  match vs, hI, h2 with
  | v1 :: v2 :: rest, hI, _ =>
    rw [keyKind_strs hI]
    exact wpAny_pure hq
  | [], _, h => exact absurd h (by decide)
  | [v], _, h => exact absurd h (by simp)
theorem strs_out {vs out : List Value} {ss : List PySem.Str} (hI : StrsAre vs ss) (hs : Srtd ltSv out) (hb : Stb ltSv out vs) : StrsAre out (out.map strOf) ∧ (out.map strOf).Perm ss ∧ (out.map strOf).Pairwise (fun a b => ¬ b.cps.toList < a.cps.toList) := by
  have hall : ∀ v ∈ out, ∃ x t, v = Value.str x t := fun v hv => hI.all v (hb.perm.mem_iff.mp hv)
  refine ⟨strsAre_map out hall, ?_, ?_⟩
  · have q := hb.perm.map strOf
    rw [hI.strs] at q
    exact q
  · refine List.pairwise_map.mpr (List.Pairwise.imp_of_mem (fun {x y} hx hy h => ?_) hs)
    obtain ⟨a, t, rfl⟩ := hall x hx
    obtain ⟨b, u, rfl⟩ := hall y hy
    exact of_decide_eq_false (p := b.cps.toList < a.cps.toList) h
/-- what may be collected: a list, a tuple -/
theorem collect_seq {l : Addr} {o : Obj} {n : Nat} {vs : List Value} {Q : List Value → Shared → Prop} (ho : s.heap.get? l = some o) (hc : o.cls = .type "list" ∨ o.cls = .type "tuple") (hd : o.data = .seq vs.toArray n)
    (h : Q vs { s with heap := (s.heap.push (seqObj "list" #[] 0)).update s.heap.objs.size (Obj.mapSeq (· ++ vs.toArray)) }) (hsz : vs.length ≤ sizeLine) :
    wpAny (model prog w) A (collect (.ref l)) Q E s := by
  unfold collect
  refine wpAny_bind (wpAny_runValue (codeAny_builtin entry_proto_collect' ?_))
  show wpAny _ _ (do again (.builtin "list.__iadd__" ⟨[← newList [], .ref l], []⟩)) _ _ s
  refine wpAny_bind (wpAny_newList (wpAny_pure ⟨Code.quiet_builtin _ (by decide +kernel), codeAny_builtin entry_list_iadd' ?_⟩))
  show wpAny _ _ (Builtin.List.listExtendWith (.ref s.heap.objs.size) (.ref l) (.ref s.heap.objs.size)) _ _ { s with heap := s.heap.push (seqObj "list" #[] 0) }
  unfold Builtin.List.listExtendWith
  have ho' : (s.heap.push (seqObj "list" #[] 0)).get? l = some o := Heap.get?_push_of_some _ ho
  have ht : ∃ T, Shared.TypeIs { s with heap := s.heap.push (seqObj "list" #[] 0) } (.ref l) T ∧ (T = "list" ∨ T = "tuple") := by
    rcases hc with hc | hc
    · exact ⟨"list", ⟨o, ho', hc⟩, .inl rfl⟩
    · exact ⟨"tuple", ⟨o, ho', hc⟩, .inr rfl⟩
  obtain ⟨T, hT, hc'⟩ := ht
  refine wpAny_bind (wpAny_typeOf (T := T) hT ?_)
  rw [if_pos (by rcases hc' with rfl | rfl <;> simp)]
  refine wpAny_bind (listItems_at ho' hd ?_)
  refine wpAny_bind (listItems_at (xs := #[]) (n := 0) (Heap.get?_push_size _ rfl) rfl ?_)
  rw [if_neg (by simp)]
  refine wpAny_bind (listUpdate_at (xs := #[]) (n := 0) (Heap.get?_push_size _ rfl) rfl ?_ (Nat.zero_le _) (by show (#[] ++ vs.toArray).size ≤ sizeLine + 1; simp only [Array.size_append, List.size_toArray, List.length_nil]; omega))
  refine wpAny_pure ?_
  show wpAny (model prog w) A (do
      let o ← load s.heap.objs.size
      match o.data with
      | .seq xs _ => pure xs.toList
      | _ => unsupported "internal:collect") Q E { s with heap := (s.heap.push (seqObj "list" #[] 0)).update s.heap.objs.size (Obj.mapSeq (· ++ vs.toArray)) }
  refine wpAny_bind (wpAny_load (get?_update_seq (Heap.get?_push_size _ rfl) _) ?_)
  show wpAny _ _ (pure ((#[] : Array Value) ++ vs.toArray).toList) Q E _
  rw [show ((#[] : Array Value) ++ vs.toArray).toList = vs by simp]
  exact wpAny_pure h
theorem sorted_ordG {l : Addr} {o : Obj} {n : Nat} {vs : List Value} {ltv : Value → Value → Bool} {Q : Value → Shared → Prop} (O : Swo ltv) (ho : s.heap.get? l = some o) (hc : o.cls = .type "list" ∨ o.cls = .type "tuple") (hd : o.data = .seq vs.toArray n) (hz : vs.length ≤ sizeLine)
    (hS : 2 ≤ vs.length → ∀ (h₁ : Heap) (a : Addr), h₁.get? a = some (seqObj "list" vs.toArray 0) → (∀ b o, s.heap.get? b = some o → b ≠ a ∧ h₁.get? b = some o) → SortableO prog w A.in1.in1 { s with heap := h₁ } a vs ltv)
    (h : ∀ out : List Value, Srtd ltv out → Stb ltv out vs → Q (.ref (s.heap.objs.size + 1)) { s with heap := sortedAll s.heap vs out.toArray }) :
    wpAny (model prog w) A (call (.builtin "sorted") [.ref l]) Q E s := by
  refine Calls.call_function_entry kind_sorted plain_sorted entry_sorted (args_sorted1 _) ?_
  unfold Builtin.«sorted»
  refine wpAny_bind (m := checkCount "sorted" 1 1 _) (wpAny_pure ?_)
  refine wpAny_bind (collect_seq ho hc hd ?_ hz)
  refine wpAny_bind (wpAny_newList ?_ hz)
  have hsz : ((s.heap.push (seqObj "list" #[] 0)).update s.heap.objs.size (Obj.mapSeq (· ++ vs.toArray))).objs.size = s.heap.objs.size + 1 := by
    rw [Heap.size_update, size_push']
  have hoL : (((s.heap.push (seqObj "list" #[] 0)).update s.heap.objs.size (Obj.mapSeq (· ++ vs.toArray))).push (seqObj "list" vs.toArray 0)).get? (s.heap.objs.size + 1) = some (seqObj "list" vs.toArray 0) := by
    rw [← hsz]; exact Heap.get?_push_size _ rfl
  have keep : ∀ b o, s.heap.get? b = some o → b ≠ s.heap.objs.size + 1 ∧ (((s.heap.push (seqObj "list" #[] 0)).update s.heap.objs.size (Obj.mapSeq (· ++ vs.toArray))).push (seqObj "list" vs.toArray 0)).get? b = some o := fun b o q => by
    have hlt : b < s.heap.objs.size := Heap.lt_size q
    refine ⟨Nat.ne_of_lt (Nat.lt_succ_of_lt hlt), Heap.get?_push_of_some _ ?_⟩
    rw [Heap.get?_update_ne _ _ _ _ (Nat.ne_of_lt hlt)]
    exact Heap.get?_push_of_some _ q
  show wpAny _ _ _ _ _ { s with heap := ((s.heap.push (seqObj "list" #[] 0)).update s.heap.objs.size (Obj.mapSeq (· ++ vs.toArray))).push (seqObj "list" vs.toArray 0) }
  rw [hsz]
  refine wpAny_bind (wpAny_holding (wpAny_call_entry slot_list_sort ⟨_, hoL, rfl⟩ entry_list_sort (list_sort_ord O hoL hz (fun h2 => hS h2 _ _ hoL keep) fun out hs hb => ⟨_, rfl, ?_⟩) (args_list_sort _)))
  exact wpAny_pure ⟨_, rfl, h out hs hb⟩
end
end SrtO
namespace Wpk
open PySem PySem.Spec PyProof.Rows L2
section
variable {X : Cx} {W : Wd} {σ : L2.St} {G H : Hp} {F : List Addr} {Q : VK} {v : V}
theorem sqT_heap' {pins : List (Addr × Obj)} {s : Shared} {p : Addr} {cs : List V} (I : Inv X pins σ H s) (q : SqT X.K H p cs) : ∃ o n its, s.heap.get? p = some o ∧ o.cls = .type "tuple" ∧ o.data = .seq its.toArray n ∧ Vals cs its ∧ its.length ≤ sizeLine := by
  rcases q with q | ⟨o, its, n, q1, q2, q3, q4, q5⟩
  · obtain ⟨hz, its, rv, o, h1, h2, n, h3⟩ := (show ObjOk X.prog X.w H s.heap p (.tup cs) from q.ok I.hok)
    exact ⟨o, n, its, h1, h2, h3, rv, by rw [← rv.length]; exact hz⟩
  · exact ⟨o, n, its.toList, I.kIn _ _ q1, q2, by simpa using q3, q5, by simpa using q4⟩
/-- a list or a tuple in the heap -/
theorem seq_heap {pins : List (Addr × Obj)} {s : Shared} {p : Addr} {cs : List V} (I : Inv X pins σ H s) (q : SqL X.K H p cs ∨ SqT X.K H p cs) : ∃ o n its, s.heap.get? p = some o ∧ (o.cls = .type "list" ∨ o.cls = .type "tuple") ∧ o.data = .seq its.toArray n ∧ Vals cs its ∧ its.length ≤ sizeLine := by
  rcases q with q | q
  · obtain ⟨its, r, pl, hz⟩ := I.list q
    obtain ⟨o, n, ho, hc, hd, hdat⟩ := pl
    exact ⟨o, n, its, ho, .inl hc, hdat, r, by rw [← r.length]; exact hz⟩
  · obtain ⟨o, n, its, h1, h2, h3, h4, h5⟩ := sqT_heap' I q
    exact ⟨o, n, its, h1, .inr h2, h3, h4, h5⟩
theorem ow_strsL : ∀ (ss : List (List Nat)), OwL W G H (ss.map D.str) [] ((ss.map sOf).map V.str)
  | [] => ⟨rfl, rfl⟩
  | s :: ss => ⟨[], [], .str (sOf s), (ss.map sOf).map V.str, rfl, rfl, ⟨rfl, rfl⟩, ow_strsL ss⟩
theorem sorted_call {pins : List (Addr × Obj)} {s : Shared} {a : Addr} {vs : List V} {ys : List D} {d : D} (I : Inv X pins σ H s) (sub : Sm G H) (l : OwL W G H ys F vs) (q : SqL X.K H a vs ∨ SqT X.K H a vs) (hg : sortedL ys = some d) (nw : Nw W G H d Q) :
    wpAny (model X.prog X.w) X.A (PySem.call (.builtin "sorted") [.ref a]) (EP X pins σ Q) X.xe s := by
  obtain ⟨o, n, its, ho, hc, hd, rv, hz⟩ := seq_heap I q
  unfold sortedL at hg
  cases c : intsOf ys with
  | some is =>
    rw [c] at hg
    cases hg
    have ev := l.ints c
    subst ev
    have hi := rv.ints
    refine SrtO.sorted_ordG SrtO.swo_int ho hc hd hz (fun h2 h₁ a' _ _ => SrtO.ints_sortable hi h2) fun out h1 h2 => ?_
    obtain ⟨k1, k2, k3⟩ := SrtO.ints_out hi h1 h2
    obtain ⟨ep, he'⟩ := PyProof.Rows.sortedAll_at s.heap its out.toArray
    have hlen : ((out.map SrtO.iv).map V.int).length ≤ sizeLine := by
      rw [List.length_map, k2.length_eq, ← List.length_map (f := V.int), rv.length]
      exact hz
    have e : out.map SrtO.iv = srtI is := sorted_eq (k2.trans (srtI_perm is).symm) k3 (srtI_sorted is)
    refine ⟨.ref _, upd H (s.heap.objs.size + 1) (.lst ((out.map SrtO.iv).map V.int)), I.laid (t' := s.toks) (fun _ _ => PyProof.Rows.sortedAll_old) (Nat.le_succ _) ⟨hlen, out, ep, vals_of_ints k1, he'⟩, rfl, ?_⟩
    rw [e]
    exact nw.lst sub (ow_intsL _) (I.hok.fresh (Nat.le_succ _))
  | none =>
    rw [c] at hg
    cases c2 : strsOf ys with
    | none => rw [c2] at hg; cases hg
    | some ss =>
      rw [c2] at hg
      cases hg
      have ev := l.strs c2
      subst ev
      have hi := rv.strs
      refine SrtO.sorted_ordG SrtO.swo_str ho hc hd hz (fun h2 h₁ a' _ _ => SrtO.strs_sortable hi h2) fun out h1 h2 => ?_
      obtain ⟨k1, k2, k3⟩ := SrtO.strs_out hi h1 h2
      obtain ⟨ep, he'⟩ := PyProof.Rows.sortedAll_at s.heap its out.toArray
      have hlen : ((out.map strOf).map V.str).length ≤ sizeLine := by
        rw [List.length_map, k2.length_eq, ← List.length_map (f := V.str), rv.length]
        exact hz
      have e : out.map strOf = (srtS ss).map sOf := by
        have e1 : (out.map strOf).map (fun z => z.cps.toList) = srtS ss := by
          refine sortedS_eq (((k2.map fun z : Str => z.cps.toList).trans ?_).trans (srtS_perm ss).symm) (List.pairwise_map.mpr k3) (srtS_sorted ss)
          rw [List.map_map, show ((fun z : Str => z.cps.toList) ∘ sOf) = id from funext fun z => by simp [sOf], List.map_id]
        rw [← e1, List.map_map, List.map_map]
        exact List.map_congr_left fun z _ => by simp [sOf]
      refine ⟨.ref _, upd H (s.heap.objs.size + 1) (.lst ((out.map strOf).map V.str)), I.laid (t' := s.toks) (fun _ _ => PyProof.Rows.sortedAll_old) (Nat.le_succ _) ⟨hlen, out, ep, vals_of_strs k1, he'⟩, rfl, ?_⟩
      rw [e]
      exact nw.lst sub (ow_strsL _) (I.hok.fresh (Nat.le_succ _))
theorem bi_sorted (hK : X.K = W.K) : CallR X (.builtin "sorted") (rPs W sortedD) := by
  intro pins s σ H xs us Q I r ⟨G, ds, d, sub, pr, hg, nw⟩
  match ds, pr, hg with
  | [.lst m ys], pr, hg =>
    obtain ⟨v, F0, rfl, o⟩ := vw1 pr
    obtain ⟨a, vs, F', rfl, q, l⟩ := o.sqL sub
    rw [Vals.ref1 r]
    exact sorted_call I sub l (.inl (by rw [hK]; exact q)) hg nw
  | [.tup ys], pr, hg =>
    obtain ⟨v, F0, rfl, o⟩ := vw1 pr
    obtain ⟨a, vs, rfl, q, l⟩ := o.sqT sub
    rw [Vals.ref1 r]
    exact sorted_call I sub l (.inr (by rw [hK]; exact q)) hg nw
end
end Wpk
set_option Elab.async false
set_option linter.all false
set_option maxRecDepth 100000
/-! C10: dict comprehensions. -/
namespace Wpk
open PySem PySem.Spec PyProof.Rows L2
section
variable {X : Cx} {L : List Nat} {W : Wd} {Wx : WX} {σ σ1 σ2 σ' : L2.St} {G G1 G2 G' H H1 H2 H' : Hp} {F F1 F2 Fa Fb Fv Fl : List Addr} {e e1 : Env} {Z : Ends} {v : V}
theorem eqK_comm {a b : D} (h : isKy a = true) (h' : isKy b = true) : eqK a b = eqK b a := by
  obtain ⟨x, hx⟩ := keyD_of h
  obtain ⟨y, hy⟩ := keyD_of h'
  rw [eqK_iff hx hy, eqK_iff hy hx]
  exact decide_eq_decide.mpr eq_comm
/-- a dict behind a store, the value owned -/
theorem putP_ok {k d : D} {x : Key} {u : V} {Fy : List Addr} (hk : keyD k = some x) (od : Ow W G H d Fy u) {ks vs ks' vs' : List D} {keys : List Key} {us : List V} {F : List Addr} (h1 : ks.map keyD = keys.map some) (h2 : keys.length = us.length) (o : OwL W G H vs F us) (hp : putP ks vs k d = some (ks', vs')) :
    ∃ (keys' : List Key) (us' : List V) (F' : List Addr), putK (keys.zip us) x u = keys'.zip us' ∧ ks'.map keyD = keys'.map some ∧ keys'.length = us'.length ∧ F'.Sublist (F ++ Fy) ∧ OwL W G H vs' F' us' := by
  have hh := (get_ok hk h1 h2 o).2
  unfold putP at hp
  split at hp
  · split at hp
    · rename_i c
      split at hp
      · rename_i hf
        cases hp
        have e0 := od.nil_of hf
        subst e0
        obtain ⟨us', F', q1, q2, q3, q4⟩ := set_ok_at hk od h1 h2 o
        refine ⟨keys, us', F', ?_, h1, by rw [q2, h2], by rw [List.append_nil]; exact q3, q4⟩
        rw [c] at hh
        unfold putK
        rw [valV_any, ← hh, if_pos rfl, q1]
      · cases hp
    · rename_i c
      have c : hasK ks k = false := by simpa using c
      cases hp
      rw [c] at hh
      refine ⟨keys ++ [x], us ++ [u], F ++ Fy, ?_, ?_, ?_, List.Sublist.refl _, o.app (OwL.one od)⟩
      · unfold putK
        rw [valV_any, ← hh, if_neg (fun z => nomatch z)]
        exact zip_snoc h2 x u
      · rw [List.map_append, List.map_append, h1, List.map_cons, hk]
        rfl
      · rw [List.length_append, List.length_append, h2]
        rfl
  · cases hp
theorem putP_key {ks vs : List D} {k d : D} {q : List D × List D} (h : putP ks vs k d = some q) : isKy k = true := by
  unfold putP at h
  split at h
  · assumption
  · cases h
theorem setK_len : ∀ (ks vs : List D) (k d : D), (setK ks vs k d).length = vs.length
  | [], vs, k, d => by simp [setK]
  | _ :: _, [], k, d => by simp [setK]
  | a :: ks, v :: vs, k, d => by simp [setK, setK_len ks vs k d]
theorem putP_len {ks vs : List D} {k d : D} {q : List D × List D} (h : putP ks vs k d = some q) : q.2.length ≤ vs.length + 1 := by
  unfold putP at h
  split at h
  · split at h
    · split at h
      · cases h; simp [setK_len]
      · cases h
    · cases h; simp
  · cases h
/-- what stands while a dict comprehension runs: D the dict that grows -/
structure DcI (W : Wd) (F : List Addr) (G H G1 H1 : Hp) (Fa : List Addr) (τ : L2.St) (D : Addr) (acc : List Wpk.D × List Wpk.D) (e' : Env) (H' : Hp) : Prop where
  st : ∃ (G' : Hp) (F' Fc : List Addr) (accV : List V) (keys : List Key), Stp F G H (F' ++ (Fa ++ (D :: Fc))) G' H' ∧ Sm G1 G' ∧ EnvR W G' H' e' F' τ ∧ (∀ b ∈ Fa, G' b = none ∧ H' b = H1 b) ∧ G' D = none ∧ H' D = some (.dK (keys.zip accV)) ∧ acc.1.map keyD = keys.map some ∧ keys.length = accV.length ∧ OwL W G' H' acc.2 Fc accV
theorem dc_loop {vs B : List Nat} {J : L2.It} {is : List D} {b : D → Env → Option Env} {c : Env → R Bool} {x w : Env → R D} {τ : L2.St} {p : Addr} {ys : List (D × D)} {q6 : List D × List D} {e0 e6 : Env} {H0 : Hp} (hB : ∀ i ∈ B, i ∈ vs) (hτ : wipe τ vs = τ)
    (hbm : ∀ b ∈ Fb, b ∈ Fa) (hFa : ∀ b ∈ Fa, ∃ o, H1 b = some o) (ok : ItOk W J is G1 H1 Fb) (hl : loopP (stepP vs b c x w) is e0 = .ok ys e6) (hn : ys.length ≤ LN) (hfr : putPs ([], []) ys = some q6) (start : DcI W F G H G1 H1 Fa τ p ([], []) e0 H0) :
    ∃ Wl : Nat → Nat → Hp → Prop, (∃ m, Wl 0 m H0) ∧ ∀ i m H', Wl i m H' → (J.stop i H' ∧ DcI W F G H G1 H1 Fa τ p q6 e6 H') ∨ (J.go i H' ∧ ∃ Nx : Hp → Prop, (∀ H'', Nx H'' → ∃ m', m' < m ∧ Wl (i + 1) m' H'') ∧ ∀ y H'', J.yld i H' y H'' →
      tGm [] B W b y τ H'' fun σ2 H2 => wipe σ2 vs = τ ∧ tTs W WxF c σ2 H2 fun k H3 => if k = true then tE W WxF x σ2 H3 fun y H4 => tE W WxF w σ2 H4 fun z H5 => ∃ kvs k, y = kV k ∧ H5 p = some (.dK kvs) ∧ kvs.length < sizeLine ∧ Nx (upd H5 p (.dK (putK kvs k z))) else Nx H3) := by
  refine ⟨fun i m H' => m = is.length - i ∧ i ≤ is.length ∧ ∃ acc e' zs, DcI W F G H G1 H1 Fa τ p acc e' H' ∧ loopP (stepP vs b c x w) (is.drop i) e' = .ok zs e6 ∧ putPs acc zs = some q6 ∧ acc.2.length + zs.length ≤ LN, ⟨_, rfl, Nat.zero_le _, ([], []), e0, ys, start, hl, hfr, by simpa using hn⟩, ?_⟩
  rintro i m H' ⟨rfl, hi, acc, e', zs, I, hz, ha, hb⟩
  obtain ⟨G', F', Fc, accV, keys, S', sg', E', k', gp', hp', hk1, hk2, o'⟩ := I.st
  have okI := ok i G' H' sg' S'.sh fun b hb => k' b (hbm b hb)
  by_cases hlt : i < is.length
  · obtain ⟨d, hd⟩ : ∃ d, is[i]? = some d := ⟨_, List.getElem?_eq_getElem hlt⟩
    obtain ⟨go, yl⟩ := okI.1 d hd
    rw [drop_cons hd] at hz
    obtain ⟨y1, e'', h1, h2⟩ := bind_ok (m := stepP vs b c x w d e') hz
    obtain ⟨z2, e6', h3, h4⟩ := bind_ok h2
    cases h4
    refine .inr ⟨go, fun H'' => ∃ acc, DcI W F G H G1 H1 Fa τ p acc e'' H'' ∧ putPs acc z2 = some q6 ∧ acc.2.length + z2.length ≤ LN, fun H'' ⟨acc, I2, h5, h6⟩ => ⟨is.length - (i + 1), by omega, rfl, hlt, acc, e'', z2, I2, h3, h5, h6⟩, fun y H'' hy => ?_⟩
    obtain ⟨G'', Sy, oy⟩ := yl y H'' hy
    have mAll : ∀ b ∈ Fa ++ (p :: Fc), G' b = none ∧ ∃ o, H' b = some o := rest_mem (fun b hb => ⟨(k' b hb).1, by rw [(k' b hb).2]; exact hFa b hb⟩) gp' ⟨_, hp'⟩ o'
    have haF : ∀ b ∈ F' ++ (Fa ++ (p :: Fc)), G' b = none ∧ b ∉ ([] : List Addr) ∧ H' b ≠ none := fun b hb => by
      rcases List.mem_append.mp hb with z | z
      · exact ⟨(E'.mem b z).1, (fun z => nomatch z), fun q => by obtain ⟨o, q'⟩ := (E'.mem b z).2; rw [q] at q'; cases q'⟩
      · exact ⟨(mAll b z).1, (fun z => nomatch z), fun q => by obtain ⟨o, q'⟩ := (mAll b z).2; rw [q] at q'; cases q'⟩
    have Sy' : Stp F G H (F' ++ (Fa ++ (p :: Fc))) G'' H'' := S'.trans ((Sy.beside S'.nd haF).perm (fun b hb => by simpa using hb) (fun b hb => by simpa using hb) S'.nd)
    have E'' : EnvR W G'' H'' e' F' τ := E'.after Sy
    have kAll : ∀ b ∈ Fa ++ (p :: Fc), G'' b = none ∧ H'' b = H' b := fun b hb => Sy.kept (mAll b hb).1 (fun z => nomatch z) (haF b (List.mem_append_right _ hb)).2.2
    unfold stepP at h1
    cases cb : b d e' with
    | none => rw [cb] at h1; cases h1
    | some e3 =>
      rw [cb] at h1
      obtain ⟨kk, e4, hc, h1⟩ := bind_ok (m := c e3) h1
      refine ⟨e', d, G'', F', [], ⟨Sy'.sh, Sy'.left, E''⟩, by rw [List.append_nil]; exact Sy'.left, oy, e3, cb, fun σ2 G2 H2 F2 S2 E2 _ l2 b2 => ?_⟩
      rw [List.append_nil] at S2
      have S2' : Stp F' G'' H'' (F2 ++ []) G2 H2 := by rw [List.append_nil]; exact S2
      have m'' : ∀ b ∈ Fa ++ (p :: Fc), G'' b = none ∧ ∃ o, H'' b = some o := fun b hb => ⟨(kAll b hb).1, by rw [(kAll b hb).2]; exact (mAll b hb).2⟩
      obtain ⟨T2, k2⟩ := Stp.two Sy' S2' m''
      rw [List.append_nil] at T2
      have out2 : Out vs τ σ2 := ⟨l2, fun j hj => b2 j fun z => hj (hB j z)⟩
      have out2' : Out vs σ2 τ := ⟨l2.symm, fun j hj => (out2.2 j hj).symm⟩
      refine ⟨by rw [wipe_eq out2, hτ], e3, G2, F2, ⟨T2.sh, T2.left, E2⟩, ?_⟩
      rw [hc]
      intro kv G3 H3 F3 Fk S3 E3 r3
      obtain ⟨ek, rfl⟩ := r3
      subst ek
      have m2 : ∀ b ∈ Fa ++ (p :: Fc), G2 b = none ∧ ∃ o, H2 b = some o := fun b hb => ⟨(k2 b hb).1, by rw [(k2 b hb).2]; exact (m'' b hb).2⟩
      obtain ⟨T3, k3⟩ := Stp.two T2 S3 m2
      rw [List.append_nil] at T3
      have m3 : ∀ b ∈ Fa ++ (p :: Fc), G3 b = none ∧ ∃ o, H3 b = some o := fun b hb => ⟨(k3 b hb).1, by rw [(k3 b hb).2]; exact (m2 b hb).2⟩
      have c3 : ∀ b ∈ Fa ++ (p :: Fc), H3 b = H' b := fun b hb => (k3 b hb).2.trans ((k2 b hb).2.trans (kAll b hb).2)
      rw [List.append_nil] at S3
      have sgg : Sm G' G3 := Sy.sg.trans (S2.sg.trans S3.sg)
      cases kv with
      | true =>
        rw [if_pos rfl] at h1
        obtain ⟨yk, e5, hx, h1⟩ := bind_ok (m := x e4) h1
        obtain ⟨yv, e5', hw, h1⟩ := bind_ok (m := w e5) h1
        cases h1
        have ha' : (putP acc.1 acc.2 yk yv).bind (fun q' => putPs q' z2) = some q6 := ha
        obtain ⟨q7, hq7, ha7⟩ := Option.bind_eq_some_iff.mp ha'
        have hky : isKy yk = true := putP_key hq7
        obtain ⟨kx, hkx⟩ := keyD_of hky
        refine iteT ⟨e4, G3, F3, ⟨T3.sh, T3.left, E3⟩, ?_⟩
        rw [hx]
        intro zk G4 H4 F4 Fy S4 E4 o4
        have ezk : zk = kV kx := key_val hkx o4
        have eFy : Fy = [] := by
          have o4' : Ow W G4 H4 yk Fy zk := o4
          cases yk with
          | int i => exact o4'.1
          | str s => exact o4'.1
          | _ => exact absurd hky (fun z => nomatch z)
        subst eFy
        obtain ⟨T4, k4⟩ := Stp.two T3 S4 m3
        rw [List.append_nil] at T4 S4
        have c4 : ∀ b ∈ Fa ++ (p :: Fc), H4 b = H' b := fun b hb => (k4 b hb).2.trans (c3 b hb)
        have m4 : ∀ b ∈ Fa ++ (p :: Fc), G4 b = none ∧ ∃ o, H4 b = some o := fun b hb => ⟨(k4 b hb).1, by rw [(k4 b hb).2]; exact (m3 b hb).2⟩
        refine ⟨e5, G4, F4, ⟨T4.sh, T4.left, E4⟩, ?_⟩
        rw [hw]
        intro z G5 H5 F5 Fy S5 E5 o5
        obtain ⟨T5, k5⟩ := Stp.two T4 S5 m4
        have c5 : ∀ b ∈ Fa ++ (p :: Fc), H5 b = H' b := fun b hb => (k5 b hb).2.trans (c4 b hb)
        have pin : p ∈ Fa ++ (p :: Fc) := by simp
        have sg5 : Sm G' G5 := sgg.trans (S4.sg.trans S5.sg)
        have hlen : accV.length = acc.2.length := o'.length
        have hb' : acc.2.length + (z2.length + 1) ≤ LN := by simpa using hb
        refine ⟨keys.zip accV, kx, ezk, (c5 p pin).trans hp', ?_, q7, ?_, ha7, ?_⟩
        · have hle : (keys.zip accV).length ≤ accV.length := by rw [List.length_zip]; omega
          refine Nat.lt_of_le_of_lt hle ?_
          rw [hlen]
          exact szlt (by omega)
        · -- the dict has grown
          generalize hO : HO.dK (putK (keys.zip accV) kx z) = O
          obtain ⟨F6, sb6, E6⟩ := E5.wiped vs
          have T6 : Stp F G H (F5 ++ Fy ++ (Fa ++ (p :: Fc))) G5 (upd H5 p O) := T5.put (by simp) (k5 p pin).1
          have nd6 := T6.nd
          have hne : ∀ b, b ∈ F5 ++ Fy ++ (Fa ++ Fc) → b ≠ p := fun b hb z => by
            subst z
            have pm : (F5 ++ Fy ++ (Fa ++ (b :: Fc))).Perm (b :: (F5 ++ Fy ++ (Fa ++ Fc))) := by
              rw [← List.append_assoc, ← List.append_assoc (F5 ++ Fy) Fa Fc]
              exact List.perm_middle
            have := (pm.nodup_iff).mp nd6
            exact (List.nodup_cons.mp this).1 hb
          have fr : ∀ b, b ∈ F5 ++ Fy ++ (Fa ++ Fc) → upd H5 p O b = H5 b := fun b hb => upd_ne (hne b hb)
          have E7 : EnvR W G5 (upd H5 p O) (wipeE e5' vs) F6 τ := (E6.frame Sm.refl fun b hb => ⟨(E6.mem b hb).1, fr b (by have := sb6.subset hb; simp [this])⟩).block out2'
          have oacc : OwL W G5 (upd H5 p O) acc.2 Fc accV := by
            refine o'.frame sg5 fun b hb => ?_
            have hm : b ∈ Fa ++ (p :: Fc) := by simp [hb]
            refine ⟨(k5 b hm).1, ?_⟩
            rw [fr b (by simp [hb])]
            exact c5 b hm
          have oz : Ow W G5 (upd H5 p O) yv Fy z := Ow.frame Sm.refl (show Ow W G5 H5 yv Fy z from o5) fun b hb => ⟨(Ow.mem (show Ow W G5 H5 yv Fy z from o5) b hb).1, fr b (by simp [hb])⟩
          obtain ⟨keys', us', F', g1, g2, g3, g4, g5⟩ := putP_ok (ks' := q7.1) (vs' := q7.2) hkx oz hk1 hk2 oacc hq7
          refine ⟨G5, F6, F', us', keys', T6.perm (fun _ q => q) (fun b hb => ?_) ?_, sg'.trans sg5, E7, fun b hb => ?_, (k5 p pin).1, by rw [upd_same, ← hO, g1], g2, g3, g5⟩
          · simp only [List.mem_append, List.mem_cons] at hb ⊢
            rcases hb with q | q | q | q
            · have := sb6.subset q; simp [this]
            · simp [q]
            · simp [q]
            · have := g4.subset q
              simp only [List.mem_append] at this
              rcases this with q | q <;> simp [q]
          · have sb7 : (F6 ++ Fy ++ (Fa ++ (p :: Fc))).Sublist (F5 ++ Fy ++ (Fa ++ (p :: Fc))) := List.Sublist.append (List.Sublist.append sb6 (List.Sublist.refl _)) (List.Sublist.refl _)
            have nd8 : (F6 ++ (Fa ++ (p :: (Fc ++ Fy)))).Nodup := by
              refine (List.Perm.nodup_iff ?_).mp (nd6.sublist sb7)
              have p1 : (F6 ++ Fy ++ (Fa ++ (p :: Fc))).Perm (F6 ++ (Fy ++ (Fa ++ (p :: Fc)))) := by rw [List.append_assoc]
              have p2 : (F6 ++ (Fy ++ (Fa ++ (p :: Fc)))).Perm (F6 ++ ((Fa ++ (p :: Fc)) ++ Fy)) := List.Perm.append_left F6 List.perm_append_comm
              have p3 : (F6 ++ ((Fa ++ (p :: Fc)) ++ Fy)).Perm (F6 ++ (Fa ++ (p :: (Fc ++ Fy)))) := by simp
              exact p1.trans (p2.trans p3)
            exact nd8.sublist (List.Sublist.append (List.Sublist.refl _) (List.Sublist.append (List.Sublist.refl _) (g4.cons_cons p)))
          · have hm : b ∈ Fa ++ (p :: Fc) := by simp [hb]
            refine ⟨(k5 b hm).1, ?_⟩
            rw [fr b (by simp [hb]), c5 b hm]
            exact (k' b hb).2
        · have := putP_len hq7
          omega
      | false =>
        rw [if_neg Bool.false_ne_true] at h1
        cases h1
        refine iteF ⟨acc, ?_, ha, hb⟩
        · obtain ⟨F5, sb5, E5⟩ := E3.wiped vs
          have E6 : EnvR W G3 H3 (wipeE e4 vs) F5 τ := E5.block out2'
          refine ⟨G3, F5, Fc, accV, keys, T3.perm (fun _ q => q) (fun b hb => ?_) ?_, sg'.trans sgg, E6, fun b hb => ?_, (m3 p (by simp)).1, (c3 p (by simp)).trans hp', hk1, hk2, ?_⟩
          · rcases List.mem_append.mp hb with q | q
            · exact List.mem_append_left _ (sb5.subset q)
            · exact List.mem_append_right _ q
          · exact T3.nd.sublist (List.Sublist.append sb5 (List.Sublist.refl _))
          · exact ⟨(m3 b (by simp [hb])).1, (c3 b (by simp [hb])).trans (k' b hb).2⟩
          · exact o'.frame sgg fun b hb => ⟨(m3 b (by simp [hb])).1, c3 b (by simp [hb])⟩
  · have ei : i = is.length := by omega
    subst ei
    rw [List.drop_length] at hz
    cases hz
    have ha : some acc = some q6 := ha
    cases ha
    exact .inl ⟨okI.2 (Nat.le_refl _), I⟩
theorem loopP_wiped {vs : List Nat} {f : D → Env → R (List (D × D))} (hf : ∀ d e ys e', f d e = .ok ys e' → ∃ e0, e' = wipeE e0 vs) : ∀ {is : List D} {e : Env} {ys : List (D × D)} {e6 : Env}, (∃ e0, e = wipeE e0 vs) → loopP f is e = .ok ys e6 → ∃ e0, e6 = wipeE e0 vs
  | [], e, ys, e6, h, hl => by cases hl; exact h
  | d :: is, e, ys, e6, h, hl => by
    obtain ⟨y1, e1, h1, h2⟩ := bind_ok (m := f d e) hl
    obtain ⟨z2, e2, h3, h4⟩ := bind_ok h2
    cases h4
    exact loopP_wiped hf (hf _ _ _ _ h1) h3
theorem stepP_wiped {vs : List Nat} {b : D → Env → Option Env} {c : Env → R Bool} {x w : Env → R D} : ∀ d e ys e', stepP vs b c x w d e = .ok ys e' → ∃ e0, e' = wipeE e0 vs := fun d e ys e' h => by
  unfold stepP at h
  cases cb : b d e with
  | none => rw [cb] at h; cases h
  | some e3 =>
    rw [cb] at h
    obtain ⟨k, e4, _, h⟩ := bind_ok (m := c e3) h
    cases k with
    | true =>
      rw [if_pos rfl] at h
      obtain ⟨y, e5, _, h⟩ := bind_ok (m := x e4) h
      obtain ⟨y', e6, _, h⟩ := bind_ok (m := w e5) h
      cases h
      exact ⟨e6, rfl⟩
    | false =>
      rw [if_neg Bool.false_ne_true] at h
      cases h
      exact ⟨e4, rfl⟩
theorem dc_start {vs : List Nat} {p : Addr} {is : List D} (S1 : Stp F G H (F1 ++ Fa) G1 H1) (E1 : EnvR W G1 H1 e1 F1 σ) (ha : ∀ b ∈ Fa, G1 b = none ∧ ∃ o, H1 b = some o) (hp : H1 p = none) : DcI W F G H G1 H1 Fa (wipe σ vs) p ([], []) (wipeE e1 vs) (upd H1 p (.dK [])) := by
  have hm : ∀ b ∈ F1 ++ Fa, G1 b = none ∧ ∃ o, H1 b = some o := fun b hb => (List.mem_append.mp hb).elim (E1.mem b) (ha b)
  obtain ⟨S2, k2⟩ := Stp.hold (o := .dK []) S1 hp hm
  obtain ⟨F2, sb, E2⟩ := E1.wiped vs
  refine ⟨G1, F2, [], [], [], S2.perm (fun _ q => q) (fun b hb => ?_) ?_, Sm.refl, ?_, fun b hb => k2 b (List.mem_append_right _ hb), S1.sh.free hp, upd_same, rfl, rfl, rfl, rfl⟩
  · simp only [List.mem_append, List.mem_cons, List.not_mem_nil, or_false] at hb ⊢
    rcases hb with q | q | q
    · have := sb.subset q; simp [this]
    · simp [q]
    · simp [q]
  · have sb2 : (F2 ++ (p :: Fa)).Sublist (F1 ++ (p :: Fa)) := List.Sublist.append sb (List.Sublist.refl _)
    refine (List.Perm.nodup_iff ?_).mp (S2.nd.sublist sb2)
    exact List.Perm.append_left F2 (List.perm_append_singleton p Fa).symm
  · exact (E2.frame Sm.refl fun b hb => k2 b (List.mem_append_left _ (sb.subset hb))).block wipe_out'
theorem dc_end {vs : List Nat} {p : Addr} {ys : List D × List D} {e6 : Env} {Q : VK} (E1 : EnvR W G1 H1 e1 F1 σ) (fr : freeS e1 vs = true) (I : DcI W F G H G1 H1 Fa (wipe σ vs) p ys e6 H') (hw : ∃ e0, e6 = wipeE e0 vs) (q : Post (rD W) W Wx σ F G H Q (.ok (.dct true false ys.1 ys.2) (backE e1 e6 vs))) : Q (.ref p) H' := by
  obtain ⟨G', F', Fc, accV, keys, S', sg', E', k', gp', hp', hk1, hk2, o'⟩ := I.st
  obtain ⟨e0, rfl⟩ := hw
  have E2 : EnvR W G' H' (wipeE e0 vs) F' σ := E'.block ⟨(wipe_length σ vs).symm, fun i hi => (wipe_out hi).symm⟩
  obtain ⟨F'', sb, E3⟩ := back_env E1 fr E2 sg'
  refine q (.ref p) G' H' F'' (p :: Fc) (S'.perm (fun _ z => z) (fun b hb => ?_) ?_) E3 ⟨p, accV, Fc, _, rfl, rfl, gp', hp', ⟨keys, hk1, hk2, rfl⟩, o'⟩
  · rcases List.mem_append.mp hb with z | z
    · exact List.mem_append_left _ (sb.subset z)
    · exact List.mem_append_right _ (List.mem_append_right _ z)
  · exact S'.nd.sublist (List.Sublist.append sb (List.sublist_append_right Fa _))
theorem dc_read {vs B : List Nat} {mi : Env → R (List D)} {b : D → Env → Option Env} {c : Env → R Bool} {x w : Env → R D} {Q : VK} (hB : ∀ i ∈ B, i ∈ vs) (h : tE W Wx (semDc vs mi b c x w) σ H Q) : tDc (tIm W Wx mi) (tGm [] B W b) (tTs W WxF c) (tE W WxF x) (tE W WxF w) vs σ H Q := by
  obtain ⟨e, G, F, S, p⟩ := h
  refine ⟨e, G, F, S, ?_⟩
  unfold semDc at p
  cases cm : mi e with
  | no => rw [cm] at p; exact p
  | exc y e1 => rw [cm] at p; exact p
  | ok is e1 =>
    rw [cm] at p
    intro J G1 H1 F1 Fa S1 E1 ha ok
    have p : Post (rD W) W Wx σ F G H Q (if freeS e1 vs then (loopP (stepP vs b c x w) is (wipeE e1 vs)).nox.bind fun ps e6 => if ps.length ≤ LN then (match putPs ([], []) ps with | some q => .ok (.dct true false q.1 q.2) (backE e1 e6 vs) | none => .no) else .no else .no) := p
    by_cases fr : freeS e1 vs = true
    · rw [if_pos fr] at p
      obtain ⟨ys, e6, hl, p⟩ := nox_bind p
      by_cases hn : ys.length ≤ LN
      · rw [if_pos hn] at p
        cases hq : putPs ([], []) ys with
        | none => rw [hq] at p; exact p.elim
        | some q6 =>
        rw [hq] at p
        intro D hD
        have hw := loopP_wiped stepP_wiped ⟨e1, rfl⟩ hl
        obtain ⟨Wl, w0, st⟩ := dc_loop (B := B) hB wipe_wipe (fun b hb => hb) (fun b hb => (ha b hb).2) ok hl hn hq (dc_start (vs := vs) (is := is) S1 E1 ha hD)
        refine ⟨Wl, w0, fun i m H' hW => ?_⟩
        rcases st i m H' hW with ⟨s1, I⟩ | h2
        · exact .inl ⟨s1, dc_end E1 fr I hw p⟩
        · exact .inr h2
      · rw [if_neg hn] at p
        exact p.elim
    · rw [if_neg fr] at p
      exact p.elim
theorem pe_dcE {vs B : List Nat} {mi : Env → R (List D)} {b : D → Env → Option Env} {c : Env → R Bool} {x w : Env → R D} {kx vx tg iter : Expr} {ifs : List Expr} {scope : Scope} {own : List (Str × Nat)} {pos : Pos} (hvs : own.map (·.2) = vs) (hB : ∀ i ∈ B, i ∈ vs) (hc : X.calm = true) (hN : X.N.Nodup) (hi : PI X tg iter (tIm W Wx mi)) (ok : BlkOk X.N X.env.scope scope own)
    (hg : ∀ (s : Shared) (H : Hp) (C : Addr) (cl : List (Str × Addr)) (fp : List Addr), PG (X.blk s H scope (compEnvC scope cl C X.env) fp) tg (tGm [] B W b)) (ht : ∀ (s : Shared) (H : Hp) (C : Addr) (cl : List (Str × Addr)) (fp : List Addr), PTs (X.blk s H scope (compEnvC scope cl C X.env) fp) ifs (tTs W WxF c))
    (hk : ∀ (s : Shared) (H : Hp) (C : Addr) (cl : List (Str × Addr)) (fp : List Addr), PE (X.blk s H scope (compEnvC scope cl C X.env) fp) kx (tE W WxF x))
    (he : ∀ (s : Shared) (H : Hp) (C : Addr) (cl : List (Str × Addr)) (fp : List Addr), PE (X.blk s H scope (compEnvC scope cl C X.env) fp) vx (tE W WxF w)) (hs : ∀ x, foldedSetIterable iter X.env x = pure x) :
    PE X (.DictComp kx vx [⟨tg, iter, ifs, 0⟩] scope pos) (tE W Wx (semDc vs mi b c x w)) := by
  subst hvs
  exact PE.imp (pe_dc hc hN hi ok hg ht hk he hs) fun _ _ _ h => dc_read hB h
/-- name = {..} on one line, the name a local -/
theorem ps_setDc {i : Nat} {y : Str} {py : Pos} {kx vx tg iter : Expr} {ifs : List Expr} {scope : Scope} {own : List (Str × Nat)} {pos spos : Pos} {wi : TI} {g : TG} {tt : TT} {tk tv : TE} (hc : X.calm = true) (hN : X.N.Nodup) (hy : X.N[i]? = some y) (hyl : X.env.scope.names.lookup y = some .local)
    (hsw : swapsWith (.DictComp kx vx [⟨tg, iter, ifs, 0⟩] scope pos) (some (.Name y py)) spos.line X.env = pure true) (hi : PI X tg iter wi) (ok : BlkOk X.N X.env.scope scope own)
    (hg : ∀ (s : Shared) (H : Hp) (C : Addr) (cl : List (Str × Addr)) (fp : List Addr), PG (X.blk s H scope (compEnvC scope cl C X.env) fp) tg g) (ht : ∀ (s : Shared) (H : Hp) (C : Addr) (cl : List (Str × Addr)) (fp : List Addr), PTs (X.blk s H scope (compEnvC scope cl C X.env) fp) ifs tt)
    (hk : ∀ (s : Shared) (H : Hp) (C : Addr) (cl : List (Str × Addr)) (fp : List Addr), PE (X.blk s H scope (compEnvC scope cl C X.env) fp) kx tk)
    (he : ∀ (s : Shared) (H : Hp) (C : Addr) (cl : List (Str × Addr)) (fp : List Addr), PE (X.blk s H scope (compEnvC scope cl C X.env) fp) vx tv) (hs : ∀ x, foldedSetIterable iter X.env x = pure x) :
    PS X (.Assign [.Name y py] (.DictComp kx vx [⟨tg, iter, ifs, 0⟩] scope pos) spos) (tAsg (tDc wi g tt tk tv (own.map (·.2))) (gName i)) := by
  refine ⟨fun pins s σ H D I h => ?_⟩
  rw [exec_Assign_Name_used _ _ _ _ hsw]
  refine wpAny_bind (wpAny_standAt (wpAny_bind ?_))
  show wpAny _ X.A (do let _ ← comprehension (.DictComp kx vx [⟨tg, iter, ifs, 0⟩] scope pos) scope X.env (firstIterPos [⟨tg, iter, ifs, 0⟩] pos) newDict false (eval iter X.env) (some (assign (.Name y py) X.env))) _ _ s
  have h : tDc wi g tt tk tv (own.map (·.2)) σ H (fun x H1 => gName i x σ H1 D.nx) := h
  refine wpAny_bind (thn (dc_core (Qf := fun _ s' => SP X pins D .next s') hc hN I hi ok hg ht hk he hs h fun L C s' m H' I' q hn f => ?_) fun _ s' hq => wpAny_pure (wpAny_pure hq))
  show wpAny _ _ (assign (.Name y py) X.env (.ref L)) _ _ _
  refine wpAny_assign_Name (store_ok2 (v := V.ref L) I' hN hy (.inl hyl) rfl (fun s2 I2 ⟨a, sb, ha⟩ => ?_) (.inr hyl))
  obtain ⟨f0, f1, f2, f3, f4, f5⟩ := f
  have haC : C ≠ a := by
    rcases ha with z | z
    · rw [z]; exact f1
    · exact fun e => f4 y a z e.symm
  refine ⟨m, hn.sameBut sb haC, fun h3 sb3 => ?_⟩
  exact ⟨_, H', I2.turned (t' := s2.toks) (fun b o hb e => (sb3.2 b hb).trans e) f0 f1 f3 f4 f5, q⟩
theorem ps_setDcE {vs B : List Nat} {mi : Env → R (List D)} {b : D → Env → Option Env} {c : Env → R Bool} {x w : Env → R D} {i : Nat} {y : Str} {py : Pos} {kx vx tg iter : Expr} {ifs : List Expr} {scope : Scope} {own : List (Str × Nat)} {pos spos : Pos} (hvs : own.map (·.2) = vs) (hB : ∀ i ∈ B, i ∈ vs) (hc : X.calm = true) (hN : X.N.Nodup) (hy : X.N[i]? = some y) (hyl : X.env.scope.names.lookup y = some .local)
    (hsw : swapsWith (.DictComp kx vx [⟨tg, iter, ifs, 0⟩] scope pos) (some (.Name y py)) spos.line X.env = pure true) (hi : PI X tg iter (tIm W Wx mi)) (ok : BlkOk X.N X.env.scope scope own)
    (hg : ∀ (s : Shared) (H : Hp) (C : Addr) (cl : List (Str × Addr)) (fp : List Addr), PG (X.blk s H scope (compEnvC scope cl C X.env) fp) tg (tGm [] B W b)) (ht : ∀ (s : Shared) (H : Hp) (C : Addr) (cl : List (Str × Addr)) (fp : List Addr), PTs (X.blk s H scope (compEnvC scope cl C X.env) fp) ifs (tTs W WxF c))
    (hk : ∀ (s : Shared) (H : Hp) (C : Addr) (cl : List (Str × Addr)) (fp : List Addr), PE (X.blk s H scope (compEnvC scope cl C X.env) fp) kx (tE W WxF x))
    (he : ∀ (s : Shared) (H : Hp) (C : Addr) (cl : List (Str × Addr)) (fp : List Addr), PE (X.blk s H scope (compEnvC scope cl C X.env) fp) vx (tE W WxF w)) (hs : ∀ x, foldedSetIterable iter X.env x = pure x) :
    PS X (.Assign [.Name y py] (.DictComp kx vx [⟨tg, iter, ifs, 0⟩] scope pos) spos) (tSm L W Wx (semAsg (bindT L (.tName i)) (semDc vs mi b c x w))) := by
  subst hvs
  exact PS.imp (ps_setDc hc hN hy hyl hsw hi ok hg ht hk he hs) fun _ _ _ h => asg_lc (fun _ _ _ q => dc_read hB q) h
end
end Wpk
set_option Elab.async false
set_option linter.all false
set_option maxRecDepth 100000
set_option maxHeartbeats 1000000
/-! Q2: dict(pairs), list(zip(..)), list(range(..)). -/
namespace Wpk
open PySem PySem.Spec PyProof.Rows L2
section
variable {X : Cx} {W : Wd} {σ : L2.St} {G H : Hp} {F : List Addr} {Q : VK} {v : V}
/-- pairs as they stand -/
def KvR (W : Wd) (G H : Hp) : List (D × D) → List (Key × V) → Prop := Paired fun p kv => keyD p.1 = some kv.1 ∧ Ow W G H p.2 [] kv.2
theorem pairs_ok (s : Sm G H) : ∀ {xs : List D} {ps : List (D × D)} {F : List Addr} {vs : List V}, pairsOf xs = some ps → (∀ p ∈ ps, isKy p.1 = true) → OwL W G H xs F vs →
    ∃ as kvs, vs = as.map V.ref ∧ Paired (fun a (kv : Key × V) => SqT W.K H a [kV kv.1, kv.2]) as kvs ∧ KvR W G H ps kvs
  | [], ps, F, vs, h, hk, o => by
    cases h
    exact ⟨[], [], o.2, .nil, .nil⟩
  | x :: xs, ps, F, vs, h, hk, o => by
    match x, h with
    | .tup [k, w], h =>
      unfold pairsOf at h
      split at h
      · rename_i hf
        cases c : pairsOf xs with
        | none => rw [c] at h; cases h
        | some ps' =>
          rw [c] at h
          cases h
          obtain ⟨F1, F2, v, vs', rfl, rfl, o1, o2⟩ := o
          obtain ⟨as, kvs, e1, p1, p2⟩ := pairs_ok s c (fun p hp => hk p (List.mem_cons_of_mem _ hp)) o2
          obtain ⟨e0, a, us, e2, q, l⟩ := o1
          obtain ⟨A, B, v1, us', e3, e4, l1, l2⟩ := l
          obtain ⟨A2, B2, v2, us'', e5, e6, l3, l4⟩ := l2
          obtain ⟨rfl, rfl⟩ := List.append_eq_nil_iff.mp e3.symm
          obtain ⟨rfl, rfl⟩ := List.append_eq_nil_iff.mp e5.symm
          obtain ⟨_, e7⟩ := l4
          subst e4 e6 e7 e2
          obtain ⟨key, ek⟩ := keyD_of (hk (k, w) List.mem_cons_self)
          have ev := key_val ek l1
          subst ev
          refine ⟨a :: as, (key, v2) :: kvs, by rw [e1]; rfl, .cons ((le_of s).sqT q) p1, .cons ⟨ek, l3⟩ p2⟩
      · cases h
theorem putPs_ok : ∀ {ps : List (D × D)} {kvs : List (Key × V)} {ks vs : List D} {q : List D × List D} {keys : List Key} {us : List V} {F : List Addr}, putPs (ks, vs) ps = some q → KvR W G H ps kvs → ks.map keyD = keys.map some → keys.length = us.length → OwL W G H vs F us →
    ∃ (keys' : List Key) (us' : List V) (F' : List Addr), mergeK (keys.zip us) kvs = keys'.zip us' ∧ q.1.map keyD = keys'.map some ∧ keys'.length = us'.length ∧ F'.Sublist F ∧ OwL W G H q.2 F' us'
  | [], kvs, ks, vs, q, keys, us, F, h, r, h1, h2, o => by
    cases h
    cases r
    exact ⟨keys, us, F, rfl, h1, h2, List.Sublist.refl _, o⟩
  | p :: ps, kvs, ks, vs, q, keys, us, F, h, r, h1, h2, o => by
    cases r with
    | @cons _ kv _ kvs' r1 r2 =>
      have h' : (putP ks vs p.1 p.2).bind (fun q' => putPs q' ps) = some q := h
      cases c : putP ks vs p.1 p.2 with
      | none => rw [c] at h'; cases h'
      | some q' =>
        rw [c] at h'
        obtain ⟨ks', vs'⟩ := q'
        obtain ⟨keys1, us1, F1, a1, a2, a3, a4, a5⟩ := putP_ok r1.1 r1.2 h1 h2 o c
        obtain ⟨keys2, us2, F2, b1, b2, b3, b4, b5⟩ := putPs_ok (show putPs (ks', vs') ps = some q from h') r2 a2 a3 a5
        rw [List.append_nil] at a4
        refine ⟨keys2, us2, F2, ?_, b2, b3, b4.trans a4, b5⟩
        rw [← b1, ← a1]
        rfl
theorem putPs_keys : ∀ {ps : List (D × D)} {q0 q : List D × List D}, putPs q0 ps = some q → ∀ p ∈ ps, isKy p.1 = true
  | [], _, _, _, p, hp => nomatch hp
  | p :: ps, q0, q, h, p', hp => by
    have h' : (putP q0.1 q0.2 p.1 p.2).bind (fun q' => putPs q' ps) = some q := h
    cases c : putP q0.1 q0.2 p.1 p.2 with
    | none => rw [c] at h'; cases h'
    | some q' =>
      rw [c] at h'
      rcases List.mem_cons.mp hp with rfl | hp
      · exact putP_key c
      · exact putPs_keys (show putPs q' ps = some q from h') p' hp
/-- a new dict -/
theorem Nw.dct {ks ds : List D} {keys : List Key} {us : List V} (h : Nw W G H (.dct true false ks ds) Q) (s : Sm G H) (h1 : ks.map keyD = keys.map some) (h2 : keys.length = us.length) (o : OwL W G H ds [] us) {p : Addr} (hp : H p = none) : Q (.ref p) (upd H p (.dK (keys.zip us))) := by
  exact h _ G _ [p] (Stp.new s hp) ⟨p, us, [], _, rfl, rfl, s.free hp, upd_same, ⟨keys, h1, h2, rfl⟩, o.keep Sm.refl⟩
theorem bi_dict (hK : X.K = W.K) (hc : X.calm = true) : CallR X (.type "dict") (rPs W dictD) := CallR.imp (call_dictP hc) fun xs H Q ⟨G, ds, d, sub, pr, hg, nw⟩ => by
  match ds, pr, hg with
  | [.lst m ys], pr, hg =>
    obtain ⟨v, F0, rfl, o⟩ := vw1 pr
    obtain ⟨a, vs, F', rfl, q, l⟩ := o.sqL sub
    have hg : (match pairsOf ys with
      | some ps => (match putPs ([], []) ps with
        | some q => some (D.dct true false q.1 q.2)
        | none => none)
      | none => none) = some d := hg
    cases c : pairsOf ys with
    | none => rw [c] at hg; cases hg
    | some ps =>
      rw [c] at hg
      dsimp only at hg
      cases c2 : putPs ([], []) ps with
      | none => rw [c2] at hg; cases hg
      | some q2 =>
        rw [c2] at hg
        cases hg
        obtain ⟨as, kvs, rfl, p1, p2⟩ := pairs_ok sub c (putPs_keys c2) l
        obtain ⟨keys', us', F2, e1, e2, e3, e4, e5⟩ := putPs_ok (keys := []) (us := []) (F := []) c2 p2 rfl rfl ⟨rfl, rfl⟩
        have e0 : F2 = [] := List.eq_nil_of_sublist_nil e4
        subst e0
        refine ⟨a, as, kvs, rfl, by rw [hK]; exact q, by rw [hK]; exact p1, fun p hp => ?_⟩
        have e1' : mergeK [] kvs = keys'.zip us' := e1
        rw [e1']
        exact nw.dct sub e2 e3 e5 hp
end
end Wpk
set_option Elab.async false
set_option linter.all false
set_option maxRecDepth 100000
/-! C11: slices with a step. -/
namespace Wpk
open PySem PySem.Spec PyProof.Rows L2
section
variable {X : Cx} {W : Wd} {Wx : WX} {σ : L2.St} {G G1 G2 G' H H1 H2 H' : Hp} {F F1 F2 Fa Fb Fv : List Addr} {e e1 : Env} {Q : VK} {v : V}
theorem OwL.picked {ds : List D} {vs : List V} (o : OwL W G H ds [] vs) : ∀ is : List Nat, OwL W G H (is.filterMap (ds[·]?)) [] (is.filterMap (vs[·]?))
  | [] => ⟨rfl, rfl⟩
  | i :: is => by
    have ih := OwL.picked o is
    cases c : ds[i]? with
    | none =>
      have c2 : vs[i]? = none := by
        rw [List.getElem?_eq_none_iff] at c ⊢
        rw [o.length]; exact c
      rw [List.filterMap_cons_none c, List.filterMap_cons_none c2]
      exact ih
    | some d =>
      obtain ⟨v, c2, ov⟩ := o.get c
      rw [List.filterMap_cons_some c, List.filterMap_cons_some c2]
      exact ⟨[], [], v, _, rfl, rfl, ov, ih⟩
theorem vals_get : ∀ {vs : List V} {us : List Value}, Vals vs us → ∀ {i : Nat} {v : V}, vs[i]? = some v → ∃ u, us[i]? = some u ∧ RelV v u
  | _, _, .nil, i, v, h => by simp at h
  | _, _, .cons r t, 0, v, h => by
    simp at h
    subst h
    exact ⟨_, rfl, r⟩
  | _, _, .cons r t, i + 1, v, h => by
    simp at h
    obtain ⟨u, h1, h2⟩ := vals_get t h
    exact ⟨u, by simpa using h1, h2⟩
theorem vals_picked {vs : List V} {us : List Value} (r : Vals vs us) : ∀ is : List Nat, Vals (is.filterMap (vs[·]?)) (is.filterMap (us[·]?))
  | [] => .nil
  | i :: is => by
    have ih := vals_picked r is
    have hl := r.length
    cases c : vs[i]? with
    | none =>
      have c2 : us[i]? = none := by
        rw [List.getElem?_eq_none_iff] at c ⊢
        omega
      rw [List.filterMap_cons_none c, List.filterMap_cons_none c2]
      exact ih
    | some d =>
      obtain ⟨u, c2, ru⟩ := vals_get r c
      rw [List.filterMap_cons_some c, List.filterMap_cons_some c2]
      exact .cons ru ih
/-- what a slice with a step is, by values -/
def SlR3 (X : Cx) (r : V → Option Int → Option Int → Int → Hp → VK → Prop) : Prop :=
  ∀ (pins : List (Addr × Obj)) (s : Shared) (σ : L2.St) (H : Hp) (x : V) (v vl vu vt : Value) (lo hi : Option Int) (st : Int) (sl : Addr) (Q : VK), Inv X pins σ H s → RelV x v → s.heap.IsSliceOf sl vl vu vt → IsPart vl lo → IsPart vu hi → IsPart vt (some st) → r x lo hi st H Q →
    ∃ T id, typeLookup (.type T) "__getitem__" = pure (some (.builtin id)) ∧ s.TypeIs v T ∧ wpAny (model X.prog X.w) X.A (getItem v (.ref sl)) (EP X pins σ Q) X.xe s
theorem SlR3.or {r r' : V → Option Int → Option Int → Int → Hp → VK → Prop} (h : SlR3 X r) (h' : SlR3 X r') : SlR3 X (fun x lo hi st H Q => r x lo hi st H Q ∨ r' x lo hi st H Q) :=
  fun pins s σ H x v vl vu vt lo hi st sl Q I rx hs pl pu pt q => q.elim (h pins s σ H x v vl vu vt lo hi st sl Q I rx hs pl pu pt) (h' pins s σ H x v vl vu vt lo hi st sl Q I rx hs pl pu pt)
def tSl3 (r : V → Option Int → Option Int → Int → Hp → VK → Prop) (te : TE) (tl th tt : TO) : TE := fun σ H Q => te σ H fun x H1 => tl σ H1 fun l H2 => th σ H2 fun u H3 => tt σ H3 fun w H4 => ∃ st, w = some st ∧ r x l u st H4 Q
theorem pe_slice3 {r : V → Option Int → Option Int → Int → Hp → VK → Prop} {x st : Expr} {lo hi : Option Expr} {te : TE} {tl th tt : TO} {p2 pos : Pos} (hr : SlR3 X r) (he : PE X x te) (hl : PO X lo tl) (hu : PO X hi th) (ht : PO X (some st) tt) :
    PE X (.Subscript x (.Slice lo hi (some st) p2) pos) (tSl3 r te tl th tt) := by
  refine ⟨fun pins s σ H Q I h => Subscript_ (thn (he.run pins s σ H _ I h) fun v s1 ⟨x1, H1, I1, r1, q1⟩ => ?_)⟩
  refine wpAny_Slice (thn (hl.run pins s1 σ H1 _ I1 q1) fun vl s2 ⟨l, H2, I2, pl, q2⟩ => thn (hu.run pins s2 σ H2 _ I2 q2) fun vu s3 ⟨u, H3, I3, pu, q3⟩ => thn (ht.run pins s3 σ H3 _ I3 q3) fun vt s4 ⟨w, H4, I4, pt, q4⟩ => ?_)
  obtain ⟨st', rfl, q4⟩ := q4
  have I5 : Inv X pins σ H4 { s4 with heap := s4.heap.push { cls := .type "slice", data := .fields #[vl, vu, vt] } } := I4.kept (t' := s4.toks) fun b ob q => Heap.get?_push_of_some _ q
  obtain ⟨T, id, hT, hty, hg⟩ := hr pins { s4 with heap := s4.heap.push { cls := .type "slice", data := .fields #[vl, vu, vt] } } σ H4 x1 v vl vu vt l u st' s4.heap.objs.size Q I5 r1 (Heap.IsSliceOf.new ..) pl pu pt q4
  show wpAny (model X.prog X.w) X.A (subscriptTail x (.Slice lo hi (some st) p2) v (.ref s4.heap.objs.size)) (EP X pins σ Q) X.xe _
  exact tail_any (ops := [v, .ref s4.heap.objs.size]) hty hT hg (by with_unfolding_all rfl)
/-- of lists, of texts -/
def rSl3L (K : PySem.W.Frag) : V → Option Int → Option Int → Int → Hp → VK → Prop := fun x lo hi st H Q => ∃ a xs, x = .ref a ∧ SqL K H a xs ∧ st ≠ 0 ∧ ∀ p, H p = none → Q (.ref p) (upd H p (.lst (stepL xs lo hi st)))
theorem pick_step (its : List Value) (lo hi : Option Int) (st : Int) : slicePick its.toArray lo hi (some st) = (stepL its lo hi st).toArray := by
  unfold slicePick stepL idxS Builtin.Str.strSliceIndices sliceBounds
  simp only [List.size_toArray, Option.getD_some, List.getElem?_toArray]
  cases lo <;> cases hi <;> rfl
theorem stepL_len {α : Type} (xs : List α) (lo hi : Option Int) (st : Int) : (stepL xs lo hi st).length ≤ xs.length := by
  have key : ∀ its : List Value, (stepL its lo hi st).length ≤ its.length := fun its => by
    have := slicePick_size_le its.toArray lo hi (some st)
    rw [pick_step] at this
    simpa using this
  have e : ∀ {β : Type} (ys : List β), (stepL ys lo hi st).length = (stepL (List.replicate ys.length Value.none) lo hi st).length := fun {β} ys => by
    unfold stepL
    rw [List.length_replicate]
    generalize idxS lo hi st ys.length = is
    induction is with
    | nil => rfl
    | cons i is ih =>
      by_cases hi : i < ys.length
      · rw [List.filterMap_cons_some (List.getElem?_eq_getElem hi), List.filterMap_cons_some (a := i) (l := is) (b := Value.none) (by rw [List.getElem?_replicate, if_pos hi])]
        simpa using ih
      · rw [List.filterMap_cons_none (List.getElem?_eq_none (by omega)), List.filterMap_cons_none (by rw [List.getElem?_replicate, if_neg hi])]
        exact ih
  rw [e]
  have := key (List.replicate xs.length Value.none)
  simpa using this
theorem sl3_list : SlR3 X (rSl3L X.K) := by
  intro pins s σ H x v vl vu vt lo hi st sl Q I rx hs pl pu pt h
  obtain ⟨a, xs, rfl, hx, h0, q⟩ := h
  cases rx
  obtain ⟨its, r, ht, hz⟩ := I.list hx
  have hlen := r.length
  refine ⟨"list", _, slot_list_getitem.lookup, ht.isList.typeIs, ?_⟩
  refine wpAny_getItem_list_slice ht.isList hs pl pu pt (by simpa using h0) ?_ (by rw [List.size_toArray] <;> omega)
  rw [pick_step]
  have e : stepL its lo hi st = (idxS lo hi st xs.length).filterMap (its[·]?) := by unfold stepL; rw [← hlen]
  rw [e]
  refine ⟨.ref s.heap.objs.size, _, I.laid (t' := s.toks) (o := .lst (stepL xs lo hi st)) (fun b ob q => Heap.get?_push_of_some _ q) (Nat.le_refl _) ?_, rfl, q _ (I.hok.fresh (Nat.le_refl _))⟩
  exact ⟨Nat.le_trans (stepL_len xs lo hi st) hz, _, 0, vals_picked r _, Heap.get?_push_size _ rfl⟩
def rSl3S : V → Option Int → Option Int → Int → Hp → VK → Prop := fun x lo hi st H Q => ∃ z : List Nat, x = .str (sOf z) ∧ z.length ≤ sizeLine ∧ st ≠ 0 ∧ st ≠ 1 ∧ Q (.str (sOf (stepL z lo hi st))) H
theorem sl3_str : SlR3 X rSl3S := by
  intro pins s σ H x v vl vu vt lo hi st sl Q I rx hs pl pu pt h
  obtain ⟨z, rfl, hz, h0, h1, q⟩ := h
  obtain ⟨t, rfl⟩ := rx
  obtain ⟨os, hos, hcs, hds⟩ := hs
  obtain ⟨l, rfl, rfl⟩ := IsPart.raw pl
  obtain ⟨u, rfl, rfl⟩ := IsPart.raw pu
  obtain ⟨w, rfl, ew⟩ := IsPart.raw pt
  refine ⟨"str", _, F.slot_str_getitem.lookup, typeIs_str _ _ _, ?_⟩
  have hw : (w.map (·.1)).getD 1 = st := by rw [ew]; rfl
  refine wpAny_getItem_str_slice (l := l) (u := u) (st := w) ⟨os, hos, hcs, hds⟩ (by rw [hw]; simpa using h0) ?_
  have e : (⟨((Builtin.Str.strSliceIndices (l.map (·.1)) (u.map (·.1)) st (sOf z).length).filterMap ((sOf z).cps[·]?)).toArray⟩ : Str) = sOf (stepL z (l.map (·.1)) (u.map (·.1)) st) := by
    unfold stepL idxS
    rw [sOf_len]
    unfold sOf
    simp only [List.getElem?_toArray]
  have hl : (sOf (stepL z (l.map (·.1)) (u.map (·.1)) st)).length ≤ sizeLine := by
    rw [sOf_len]
    exact Nat.le_trans (stepL_len ..) hz
  show Made.post (if ((w.map (·.1)).getD 1 == 1 && _) = true then Made.val (.str (sOf z) t) else Made.str ⟨((Builtin.Str.strSliceIndices (l.map (·.1)) (u.map (·.1)) ((w.map (·.1)).getD 1) (sOf z).length).filterMap ((sOf z).cps[·]?)).toArray⟩) (EP X pins σ Q) s
  rw [hw, if_neg (by
    rw [Bool.and_eq_true]
    intro c
    exact h1 (eq_of_beq c.1)), e]
  exact ⟨hl, .str _, H, I.tok _, ⟨_, rfl⟩, q⟩
def rSl3 (W : Wd) : V → Option Int → Option Int → Int → Hp → VK → Prop := fun x lo hi st H Q => ∃ G d1 d F1, Sm G H ∧ Ow W G H d1 F1 x ∧ slsD d1 lo hi st = some d ∧ Nw W G H d Q
theorem SlR3.imp {r r' : V → Option Int → Option Int → Int → Hp → VK → Prop} (h : SlR3 X r) (k : ∀ x lo hi st H Q, r' x lo hi st H Q → r x lo hi st H Q) : SlR3 X r' :=
  fun pins s σ H x v vl vu vt lo hi st sl Q I rx hs pl pu pt q => h pins s σ H x v vl vu vt lo hi st sl Q I rx hs pl pu pt (k _ _ _ _ _ _ q)
theorem sl3_ok (hK : X.K = W.K) : SlR3 X (rSl3 W) := by
  refine SlR3.imp (sl3_list.or sl3_str) fun x lo hi st H Q ⟨G, d1, d, F1, sub, o1, h, nw⟩ => ?_
  unfold slsD at h
  split at h
  · cases h
  · rename_i h0
    simp only [Bool.or_eq_true, decide_eq_true_eq, not_or] at h0
    cases d1 with
    | lst m xs =>
      have h' : (if isFL xs = true then some (D.lst true (stepL xs lo hi st)) else none) = some d := h
      split at h'
      · rename_i c
        cases h'
        obtain ⟨a, vs, F', rfl, q, l⟩ := o1.sqL sub
        refine .inl ⟨a, vs, rfl, by rw [hK]; exact q, h0.1, fun p hp => nw.lst sub ?_ hp⟩
        unfold stepL
        rw [l.length]
        exact (l.fz c).picked _
      · cases h'
    | str z =>
      have h' : (if z.length ≤ LN then some (D.str (stepL z lo hi st)) else none) = some d := h
      split at h'
      · rename_i c
        cases h'
        exact .inr ⟨z, o1.2, sz c, h0.1, h0.2, nw.str sub⟩
      · cases h'
    | _ => exact nomatch h
theorem pe_slsE {x st : Expr} {lo hi : Option Expr} {m : Env → R Od} {ml mh mt : Env → R (Option Int)} {p2 pos : Pos} (hK : X.K = W.K) (hx : PE X x (tO W Wx m)) (hl : PO X lo (tLm W Wx ml)) (hh : PO X hi (tLm W Wx mh)) (ht : PO X (some st) (tLm W Wx mt)) :
    PE X (.Subscript x (.Slice lo hi (some st) p2) pos) (tE W Wx (semSls m ml mh mt)) := by
  refine PE.imp (pe_slice3 (sl3_ok hK) hx hl hh ht) fun σ H Q ⟨e, G, F, S, p⟩ => ?_
  refine ⟨e, G, F, S, p.go S.refl nomem fun x e1 v1 G1 H1 F1 Fa p1 S1 E1 r1 => ⟨e1, G1, F1, S1.sta E1, p1.go S1 (rO.mem r1) fun l e2 l' G2 H2 F2 Fb p2 S2 E2 r2 => ?_⟩⟩
  obtain ⟨e0, rfl⟩ := r2
  subst e0
  obtain ⟨S12, k12⟩ := Stp.two S1 S2 (rO.mem r1)
  rw [List.append_nil] at S12
  have r1' := rO.frame r1 S2.sg k12
  refine ⟨e2, G2, F2, S12.sta E2, p2.go S12 (rO.mem r1') fun h e3 h' G3 H3 F3 Fc p3 S3 E3 r3 => ?_⟩
  obtain ⟨e0, rfl⟩ := r3
  subst e0
  obtain ⟨S13, k13⟩ := Stp.two S12 S3 (rO.mem r1')
  rw [List.append_nil] at S13
  have r1'' := rO.frame r1' S3.sg k13
  refine ⟨e3, G3, F3, S13.sta E3, p3.go S13 (rO.mem r1'') fun t e4 t' G4 H4 F4 Fd p4 S4 E4 r4 => ?_⟩
  obtain ⟨e0, rfl⟩ := r4
  subst e0
  obtain ⟨S14, k14⟩ := Stp.two S13 S4 (rO.mem r1'')
  have r2'' := rO.frame r1'' S4.sg k14
  cases t' with
  | none => exact p4.elim
  | some st' =>
  refine ⟨st', rfl, ?_⟩
  cases c1 : x.res e4 with
  | none => rw [c1] at p4; exact p4.elim
  | some d1 =>
    rw [c1] at p4
    obtain ⟨Fx, o1, _⟩ := r2''.view E4 c1
    obtain ⟨d, c3, p5⟩ := Post.of (o := slsD d1 l' h' st') p4
    exact ⟨G4, d1, d, Fx, S4.sh, o1, c3, p5.fin S14.drop.drop E4⟩
end
end Wpk
set_option Elab.async false
set_option linter.all false
set_option maxRecDepth 100000
/-! K0: from the program's syntax to T. -/
namespace Wpk
open PySem PySem.Spec L2

structure Cc where
  N : List Str
  sc : Scope
  raw : Scope
  fns : List (Str × Nat)
  gls : List (Str × Nat)
  bls : List Str
  flds : List (Str × List Nat) := []
  mts : List (Str × Nat × Nat) := []
  prs : List (Str × Nat × Nat) := []
  mks : List (Str × Nat × Nat) := []
  dfs : List (Nat × Nat × List D) := []
  cms : List ((Str × Str) × Nat × Nat) := []
  mki : List (Nat × Nat) := []
/-- what is filled in behind n arguments of the def i -/
def flD (C : Cc) (i n : Nat) : Option (List D) := (C.dfs.find? fun q => q.1 == i && q.2.1 == n).map (·.2.2)
def flT (C : Cc) (i n : Nat) (t : T) : T := match flD C i n with
  | some ds => .fill t ds
  | none => t

def visK : Option NameKind → Bool
  | some .local => true
  | some .cell => true
  | some .free => true
  | _ => false
def locK : Option NameKind → Bool
  | some .local => true
  | some .cell => true
  | _ => false
def okNm (x : Str) : Bool := !(x == ("__debug__" : Str)) && !(x == ("__classdict__" : Str))
/-- the slot of a name that is read -/
def rSlot (C : Cc) (x : Str) : Option Nat := match C.N.findIdx? (fun y => decide (y = x)) with
  | some i => if visK (C.sc.names.lookup x) && okNm x then some i else none
  | none => none
/-- the slot of a name that is bound -/
def bSlot (C : Cc) (x : Str) : Option Nat := match C.N.findIdx? (fun y => decide (y = x)) with
  | some i => if locK (C.raw.names.lookup x) then some i else none
  | none => none
def isGl (C : Cc) (x : Str) : Bool := match C.sc.names.lookup x with
  | some .globalImplicit => !(x == ("__debug__" : Str))
  | _ => false
def isStar : Expr → Bool
  | .Starred _ _ => true
  | _ => false
def biOf (x : Str) : Option Bi :=
  if x = "len" then some .len else if x = "abs" then some .abs else if x = "int" then some .int else if x = "min" then some .min else if x = "max" then some .max else
  if x = "sum" then some .sum else if x = "all" then some .all else if x = "any" then some .any else if x = "list" then some .list else if x = "tuple" then some .tuple else none
def cstD : Const → Option D
  | .none => some .non
  | .bool b => some (.bl b)
  | .int i => some (.int i)
  | .str s => some (.str s.cps.toList)
  | _ => none
def ownOf (C : Cc) (scope : Scope) : List (Str × Nat) := scope.names.filterMap fun y => if locK (some y.2) then (C.N.findIdx? (fun z => decide (z = y.1))).map (fun i => (y.1, i)) else none
def blkCc (C : Cc) (scope : Scope) : Cc := { C with sc := relS scope C.sc, raw := scope }
def isSet : Expr → Bool
  | .Set _ _ _ => true
  | _ => false
def isSlice : Expr → Bool
  | .Slice _ _ _ _ => true
  | _ => false
def isComp : Expr → Bool
  | .ListComp _ _ _ _ => true
  | .SetComp _ _ _ _ => true
  | .DictComp _ _ _ _ _ => true
  | _ => false
def isLc : Expr → Bool
  | .ListComp _ _ _ _ => true
  | .DictComp _ _ _ _ _ => true
  | _ => false
/-- targets -/
def cG (C : Cc) : Nat → Expr → T
  | 0, _ => .stk
  | n + 1, .Name x _ => match bSlot C x with
    | some i => .tName i
    | none => .stk
  | n + 1, .Tuple es _ _ => if es.any isStar then .stk else .tTup (es.foldr (fun x r => .cons (cG C n x) r) .nil)
  | _, _ => .stk
/-- does a target of names alone, all bound -/
def okG : T → Bool
  | .tName _ => true
  | .tTup ts => okG ts
  | .nil => true
  | .cons t ts => okG t && okG ts
  | _ => false
def nmOf : Expr → Option Str
  | .Name x _ => some x
  | _ => none
def namesOf (es : List Expr) : Option (List Str) := es.mapM nmOf

/-- a built-in's name -/
def isBi (C : Cc) (f g : Str) : Bool := decide (f = g) && isGl C f && C.bls.contains f
/-- what is walked: how, and what of -/
def cW (C : Cc) (tg : Expr) : Expr → It × List Expr
  | .Call (.Name f p) [a] [] pos => if isBi C f "range" then (.range, [a]) else if isBi C f "enumerate" then (match tg with
    | .Tuple _ _ _ => (.enum, [a])
    | _ => (.plain, [.Call (.Name f p) [a] [] pos])) else (.plain, [.Call (.Name f p) [a] [] pos])
  | .Call (.Name f p) [a, b] [] pos => if isBi C f "range" then (.range, [a, b]) else if isBi C f "zip" then (match tg with
    | .Tuple _ _ _ => (.zip, [a, b])
    | _ => (.plain, [.Call (.Name f p) [a, b] [] pos])) else (.plain, [.Call (.Name f p) [a, b] [] pos])
  | .Call (.Attribute x m apos) [] [] cpos => if isCall0 x || !(apos.endLine == cpos.line) then (.plain, [.Call (.Attribute x m apos) [] [] cpos]) else
    if m = "values" then (.values, [x]) else if m = "items" then (match tg with
    | .Tuple _ _ _ => (.items, [x])
    | _ => (.plain, [.Call (.Attribute x m apos) [] [] cpos])) else (.plain, [.Call (.Attribute x m apos) [] [] cpos])
  | x => (.plain, [x])
def cK (C : Cc) (tg x : Expr) : It := (cW C tg x).1

/-- len(set(..)) -/
def setOf (C : Cc) (f : Str) : List Expr → Option (Bi2 × Expr)
  | [.Call (.Name g _) [a] [] _] => if isBi C f "len" && isBi C g "set" && !isStar a then some (.lenSet, a) else none
  | _ => none
/-- a classmethod, by its class's name -/
def cmOf (C : Cc) (o : Expr) (m : Str) : Option (Nat × Nat) := match o with
  | .Name x _ => if isGl C x then C.cms.lookup (x, m) else none
  | _ => none
/-- is a name twice among the arguments? -/
def dupN (es : List Expr) : Bool := let l := es.filterMap nmOf
  !(l.eraseDups.length == l.length)
/-- a call of an own def -/
def isOwnC (C : Cc) : Expr → Bool
  | .Call (.Name f _) _ _ _ => (C.fns.lookup f).isSome
  | _ => false
/-- does it make an instance? -/
def isMk (C : Cc) : Expr → Bool
  | .Call (.Name f _) _ [] _ => (C.mks.lookup f).isSome
  | .Call (.Attribute o m _) _ [] _ => (cmOf C o m).isSome
  | _ => false
mutual
def cE : Nat → Cc → Expr → T
  | 0, _, _ => .stk
  | n + 1, C, e => match e with
    | .Constant c _ _ => match cstD c with
      | some d => .cst d
      | none => .stk
    | .Name x _ => match rSlot C x with
      | some i => .var i
      | none => match isGl C x, C.gls.lookup x with
        | true, some i => .gl i
        | true, none => (match C.bls.contains x, tyOf x with
          | true, some T => .cst (.ty T)
          | _, _ => .stk)
        | _, _ => .stk
    | .BinOp a o b _ => .op o (cO n C a) (cO n C b)
    | .UnaryOp .USub a _ => .neg (cE n C a)
    | .UnaryOp .Not a _ => .nt (cE n C a)
    | .BoolOp .And (a :: b :: rest) pos => if rest.isEmpty then .an (cE n C a) (cE n C b) else .an (cE n C a) (cE n C (.BoolOp .And (b :: rest) pos))
    | .BoolOp .Or (a :: b :: rest) pos => if rest.isEmpty then .orr (cE n C a) (cE n C b) else .orr (cE n C a) (cE n C (.BoolOp .Or (b :: rest) pos))
    | .Compare a [o] [b] _ => if behindInMarks o b then .stk else .cmp o (cO n C a) (cO n C b)
    | .Compare a [o, o'] [b, c] _ => if lastMarks [o, o'] [b, c] then .stk else .chn o o' (cO n C a) (cO n C b) (cO n C c)
    | .IfExp t a b _ => .ite (cT n C t) (cE n C a) (cE n C b)
    | .Call (.Name f _) args [] _ => if args.any isStar then .stk else if !isGl C f then (match rSlot C f with
      | some i => if args.isEmpty then .stk else .mkV i C.mki (cOs n C args)
      | none => .stk) else match C.fns.lookup f with
      | some i => .call i (if args.isEmpty then cOs n C args else flT C i args.length (if dupN args then cOv n C args else cOs n C args))
      | none => match C.mks.lookup f with
        | some (c, i) => .mk c i (if args.isEmpty then cOs n C args else flT C i (args.length + 1) (cOs n C args))
        | none => match setOf C f args with
        | some (b, a) => .bi2 b (.cons (cO n C a) .nil)
        | none => match C.bls.contains f, bi2Of f args.length with
          | true, some b => if args.isEmpty then .stk else .bi2 b (cOs n C args)
          | _, _ => match C.bls.contains f, biOf f with
            | true, some b => if args.isEmpty then .stk else .bi b (cOs n C args)
            | _, _ => .stk
    | .Call (.Attribute o m apos) args [] cpos => if args.any isStar || !(apos.endLine == cpos.line) || isCall0 o || decide (30 ≤ args.length) then .stk else
      match cmOf C o m with
      | some (c, i) => if args.isEmpty then .stk else .call i (.cons (.ov (.cst (.cls c))) (flT C i (args.length + 1) (cOs n C args)))
      | none =>
      if m = "append" then (match o, args with
        | .Name x _, [y] => (match rSlot C x with
          | some i => .app i (cE n C y)
          | none => .stk)
        | _, _ => .stk) else
      match muOf m with
      | some u => (match o with
        | .Name x _ => (match rSlot C x with
          | some i => .mut u i (if args.isEmpty then .nil else cVs n C args)
          | none => .stk)
        | _ => .stk)
      | none => match mbOf m with
        | some b => if args.isEmpty then .stk else .mt b (cO n C o) (cOs n C args)
        | none => match C.mts.lookup m with
          | some (c, i) => .meth c i m (cO n C o) (cOs n C args)
          | none => .stk
    | .Attribute o f _ => if isCall0 o then .stk else match C.prs.lookup f with
      | some (c, i) => .prp c i (cO n C o)
      | none => match C.flds.lookup f with
        | some cs => .fld cs f (cO n C o)
        | none => .stk
    | .Subscript a (.Slice lo hi none _) _ => .slc (cO n C a) (cL n C lo) (cL n C hi)
    | .Subscript a (.Slice lo hi (some st) _) _ => .sls (cO n C a) (cL n C lo) (cL n C hi) (cL n C (some st))
    | .Subscript a b _ => if isSlice b then .stk else .idx (cO n C a) (cO n C b)
    | .Tuple es _ _ => if es.any isStar then .stk else .tupD (cVs n C es)
    | .List es _ => if es.any isStar then .stk else .lstD (cVz n C es)
    | .Dict [] [] _ => .cst (.dct true false [] [])
    | .ListComp elt [⟨tg, iter, ifs, 0⟩] scope _ =>
      let own := ownOf C scope
      let C' := blkCc C scope
      let vs := own.map (·.2)
      let g := cG C' n tg
      if blkC C.N C.sc scope own && okG g && (slotsT g).all (fun i => vs.contains i) && decide (ifs.length ≤ 1) && !isSet iter then .lc vs g (cK C tg iter) (cI n C tg iter) (cF n C' ifs) (cE n C' elt) else .stk
    | .DictComp kx vx [⟨tg, iter, ifs, 0⟩] scope _ =>
      let own := ownOf C scope
      let C' := blkCc C scope
      let vs := own.map (·.2)
      let g := cG C' n tg
      if blkC C.N C.sc scope own && okG g && (slotsT g).all (fun i => vs.contains i) && decide (ifs.length ≤ 1) && !isSet iter then .dc vs g (cK C tg iter) (cI n C tg iter) (cF n C' ifs) (cE n C' kx) (cE n C' vx) else .stk
    | .ListComp elt [⟨tg, iter, [], 0⟩, ⟨tg1, iter1, ifs, 0⟩] scope _ =>
      let own := ownOf C scope
      let C' := blkCc C scope
      let vs := own.map (·.2)
      let g := cG C' n tg
      let g1 := cG C' n tg1
      if blkC C.N C.sc scope own && okG g && (slotsT g).all (fun i => vs.contains i) && okG g1 && (slotsT g1).all (fun i => vs.contains i) && decide (ifs.length ≤ 1) && !isSet iter && !isSet iter1 then .lc2 vs (slotsT g1) g (cK C tg iter) (cI n C tg iter) g1 (cK C' tg1 iter1) (cI n C' tg1 iter1) (cF n C' ifs) (cE n C' elt) else .stk
    | _ => .stk
def cO : Nat → Cc → Expr → T
  | 0, _, _ => .stk
  | n + 1, C, e => match e with
    | .Name x p => match rSlot C x with
      | some i => .pk i
      | none => .ov (cE n C (.Name x p))
    | e => .ov (cE n C e)
def cOs : Nat → Cc → List Expr → T
  | 0, _, _ => .stk
  | _ + 1, _, [] => .nil
  | n + 1, C, e :: es => .cons (cO n C e) (cOs n C es)
/-- .. all by value -/
def cOv : Nat → Cc → List Expr → T
  | 0, _, _ => .stk
  | _ + 1, _, [] => .nil
  | n + 1, C, e :: es => .cons (.ov (cE n C e)) (cOv n C es)
def cVs : Nat → Cc → List Expr → T
  | 0, _, _ => .stk
  | _ + 1, _, [] => .nil
  | n + 1, C, e :: es => .cons (cE n C e) (cVs n C es)
/-- .. instances are frozen -/
def cVz : Nat → Cc → List Expr → T
  | 0, _, _ => .stk
  | _ + 1, _, [] => .nil
  | n + 1, C, e :: es => .cons (if isMk C e then .fz (cE n C e) else cE n C e) (cVz n C es)
def cL : Nat → Cc → Option Expr → T
  | 0, _, _ => .stk
  | _ + 1, _, none => .nil
  | n + 1, C, some e => .ov (cE n C e)
def cT : Nat → Cc → Expr → T
  | 0, _, _ => .stk
  | n + 1, C, e => match e with
    | .UnaryOp .Not a _ => .tnt (cT n C a)
    | .BoolOp o es _ => cTl n C o es
    | .Compare a [o] [b] _ => if behindInMarks o b then .stk else .tv (.cmp o (cO n C a) (cO n C b))
    | .Compare a [o, o'] [b, c] _ => if lastMarks [o, o'] [b, c] then .stk else .tv (.chn o o' (cO n C a) (cO n C b) (cO n C c))
    | .Compare _ _ _ _ => .stk
    | .IfExp _ _ _ _ => .stk
    | e => .tv (cE n C e)
def cTl : Nat → Cc → BoolOp → List Expr → T
  | 0, _, _, _ => .stk
  | _ + 1, _, _, [] => .stk
  | n + 1, C, _, [a] => cT n C a
  | n + 1, C, .And, a :: b :: rest => .tan (cT n C a) (cTl n C .And (b :: rest))
  | n + 1, C, .Or, a :: b :: rest => .tor (cT n C a) (cTl n C .Or (b :: rest))
/-- a clause's tests -/
def cF : Nat → Cc → List Expr → T
  | 0, _, _ => .stk
  | _ + 1, _, [] => .yes
  | n + 1, C, c :: _ => cT n C c
/-- what is walked: the values -/
def cI : Nat → Cc → Expr → Expr → T
  | 0, _, _, _ => .stk
  | n + 1, C, tg, x => if (cW C tg x).2.any isStar || isSet x then .stk else (cW C tg x).2.foldr (fun x r => .cons (cE n C x) r) .nil
end

def ttl (n : Nat) (C : Cc) : List Expr → Option (List Nat)
  | [] => some []
  | .Name x _ :: es => match bSlot C x, ttl n C es with
    | some i, some is => some (i :: is)
    | _, _ => none
  | _ => none
def nmsL (C : Cc) (ts : List Expr) : List Str := ts.filterMap fun
  | .Name id pos => if C.sc.names.lookup id == some .local && pos.line == (ts.head?.map (·.pos.line)).getD 0 then some id else none
  | _ => none
/-- the names of such a store go from the right -/
def swapB (C : Cc) (ts vs : List Expr) : Bool :=
  (ts.length == 2 || ts.length == 3) && vs.length == ts.length && !(vs.any isStar) &&
    (nmsL C ts).length == ts.length && (nmsL C ts).eraseDups.length == (nmsL C ts).length && !(vs.all (foldedForSure 8))
mutual
def cS : Nat → Cc → Stmt → T
  | 0, _, _ => .stk
  | n + 1, C, st => match st with
    | .Assign [.Name x _] v _ => match bSlot C x with
      | some i => if isComp v && !isLc v then .stk else .asg (.tName i) (cE n C v)
      | none => .stk
    | .Assign [.Tuple ts _ _] (.Tuple vs _ _) _ => match ttl n C ts with
      | some is => if vs.any isStar || decide (vs.length ≠ ts.length) || decide (LN < vs.length) || decide (¬ is.Nodup) || (swapB C ts vs && vs.all (constantsAlone 8)) then .stk else .par is (cVs n C vs)
      | none => .stk
    | .Assign [.Tuple ts k p] v _ => let g := cG C n (.Tuple ts k p)
      if okG g then .asg g (cE n C v) else .stk
    | .Assign [.Subscript (.Name x _) j _] v _ => match rSlot C x with
      | some i => if isSlice j then .stk else .sub i (cE n C j) (if isOwnC C v then .fz (cE n C v) else cE n C v)
      | none => .stk
    | .Assign [.Attribute (.Name x _) f _] v _ => match rSlot C x, C.flds.lookup f with
      | some i, some cs => if isComp v then .stk else .sfld cs i f (cE n C v)
      | _, _ => .stk
    | .AugAssign (.Name x _) o v _ => match bSlot C x with
      | some i => .aug i o (cE n C v)
      | none => .stk
    | .Expr (.Constant (.str _) _ _) _ => .pas
    | .Expr e _ => if isComp e then .stk else .ex (cE n C e)
    | .Return none _ => .retN
    | .Return (some (.Name x p)) _ => match rSlot C x with
      | some i => .retV i
      | none => .ret (cE n C (.Name x p))
    | .Return (some e) _ => .ret (cE n C e)
    | .If t a b _ => .ifS (cT n C t) (cB n C a) (cB n C b)
    | .For tg iter body [] _ => let g := cG C n tg
      if okG g && !isSet iter then .forS g (cK C tg iter) (cI n C tg iter) (cB n C body) else .stk
    | .While t body [] _ => .whl (cT n C t) (cB n C body)
    | .Break _ => .brk
    | .Continue _ => .cnt
    | .Pass _ => .pas
    | _ => .stk
def cB : Nat → Cc → List Stmt → T
  | 0, _, _ => .stk
  | _ + 1, _, [] => .pas
  | n + 1, C, [s] => cS n C s
  | n + 1, C, s :: ss => .seq (cS n C s) (cB n C ss)
end
end Wpk
set_option Elab.async false
set_option linter.all false
set_option maxRecDepth 100000
/-! K1: what is compiled means what the machine does. -/
namespace Wpk
open PySem PySem.Spec PyProof.Rows L2
structure Fit (W : Wd) (pg : Pg) (run : Nat → List D → R D) (k : Nat) (C : Cc) (Wx : WX) (X : Cx) : Prop where
  hN : X.N = C.N
  nd : C.N.Nodup
  hsc : X.env.scope = C.sc
  kind : C.sc.kind = .function
  sto : ∀ x, (C.raw.names.lookup x = some .local ∨ C.raw.names.lookup x = some .cell) → Loc C.sc x ∧ (X.fn x = true ∨ C.sc.names.lookup x = some .local)
  calm : X.calm = true
  hK : X.K = W.K
  room : Room (k + 1) X.A
  gd : Calm X.A
  tk : Takes X Wx
  own : PassesOwn (model X.prog X.w) X.A X.env X.xe
  fns : ∀ x i, C.fns.lookup x = some i → ∃ fA fd ps, X.mg x = some (.ref fA) ∧ PySem.W.keepIn X.K (.ref fA) = true ∧ (Binds X.K fd ps [] ∧ ∀ n ds, flD C i n = some ds → Dfl W fd ps ds) ∧ FnG X.prog X.w X.K X.mg X.base (L2.CX X.prog X.w) k fA fd ps (spOf W (run i))
  gls : ∀ x i, C.gls.lookup x = some i → ∃ u v d, X.mg x = some u ∧ RelV v u ∧ pg.gl i = some d ∧ ∀ G H, Ow W G H d [] v
  bls : ∀ x ∈ C.bls, X.mg x = none
  flds : ∀ x cs, C.flds.lookup x = some cs → ∀ c ∈ cs, Cls X.K (W.cA c) ∧ NoAttr X.K (W.cA c) x
  mts : ∀ x c i, C.mts.lookup x = some (c, i) → Cls X.K (W.cA c) ∧ ∃ fA fd ps, Meth X.K (W.cA c) x fA ∧ Binds X.K fd ps [] ∧ FnG X.prog X.w X.K X.mg X.base (L2.CX X.prog X.w) k fA fd ps (spOf W (run i))
  prs : ∀ x c i, C.prs.lookup x = some (c, i) → Cls X.K (W.cA c) ∧ ∃ pA fA fd ps, PropOf X.K (W.cA c) x pA fA ∧ Binds X.K fd ps [] ∧ FnG X.prog X.w X.K X.mg X.base (L2.CX X.prog X.w) k fA fd ps (spOf W (run i))
  mks : ∀ x c i, C.mks.lookup x = some (c, i) → X.mg x = some (.ref (W.cA c)) ∧ ∃ fA fd ps, Mk X.K (W.cA c) fA ∧ (Binds X.K fd ps [] ∧ ∀ n ds, flD C i n = some ds → Dfl W fd ps ds) ∧ FnG X.prog X.w X.K X.mg X.base (L2.CX X.prog X.w) k fA fd ps (spOf W (run i))
  cms : ∀ x m c i, C.cms.lookup (x, m) = some (c, i) → X.mg x = some (.ref (W.cA c)) ∧ ∃ mc q0 fA fd ps, ClX.CRead X.K (W.cA c) mc ∧ ClX.CMet X.K (W.cA c) mc m q0 fA ∧ (Binds X.K fd ps [] ∧ ∀ n ds, flD C i n = some ds → Dfl W fd ps ds) ∧ FnG X.prog X.w X.K X.mg X.base (L2.CX X.prog X.w) k fA fd ps (spOf W (run i))
  mki : ∀ c i, C.mki.lookup c = some i → ∃ fA fd ps, Mk X.K (W.cA c) fA ∧ Binds X.K fd ps [] ∧ FnG X.prog X.w X.K X.mg X.base (L2.CX X.prog X.w) k fA fd ps (spOf W (run i))
section
variable {X : Cx} {W : Wd} {pg : Pg} {run : Nat → List D → R D} {k : Nat} {C : Cc} {Wx : WX} {L : List Nat}
theorem pe_stk {x : Expr} : PE X x (tE W Wx (fun _ => .no)) := ⟨fun _ _ _ _ _ _ ⟨_, _, _, _, p⟩ => p.elim⟩
theorem po_stk {x : Expr} : PE X x (tO W Wx (fun _ => .no)) := ⟨fun _ _ _ _ _ _ ⟨_, _, _, _, p⟩ => p.elim⟩
theorem pt_stk {x : Expr} : PT X x (tTs W Wx (fun _ => .no)) := ⟨fun _ _ _ _ _ _ ⟨_, _, _, _, p⟩ => p.elim⟩
theorem ps_stk {x : Stmt} : PS X x (tSm L W Wx (fun _ => .no)) := ⟨fun _ _ _ _ _ _ ⟨_, _, _, _, p⟩ => p.elim⟩
theorem pss_stk {x : List Stmt} : PSs X x (tSm L W Wx (fun _ => .no)) := ⟨fun _ _ _ _ _ _ ⟨_, _, _, _, p⟩ => p.elim⟩
theorem pas_stk {x : List Expr} : PA X x (tOs W Wx (fun _ => .no)) := ⟨fun _ _ _ _ _ _ _ ⟨_, _, _, _, p⟩ => p.elim⟩
theorem pav_stk {x : List Expr} : PA X x (tVs W Wx (fun _ => .no)) := ⟨fun _ _ _ _ _ _ _ ⟨_, _, _, _, p⟩ => p.elim⟩
theorem pl_stk {x : Option Expr} : PO X x (tLm W Wx (fun _ => .no)) := ⟨fun _ _ _ _ _ _ ⟨_, _, _, _, p⟩ => p.elim⟩
theorem idx_get {N : List Str} {x : Str} {i : Nat} (h : N.findIdx? (fun y => decide (y = x)) = some i) : N[i]? = some x := by
  rw [List.findIdx?_eq_some_iff_getElem] at h
  obtain ⟨hl, h1, _⟩ := h
  rw [List.getElem?_eq_getElem hl]
  exact congrArg some (of_decide_eq_true h1)
theorem rSlot_ok (f : Fit W pg run k C Wx X) {x : Str} {i : Nat} (h : rSlot C x = some i) : X.N[i]? = some x ∧ Vis X.env.scope x ∧ (x == ("__debug__" : Str)) = false ∧ (x == ("__classdict__" : Str)) = false := by
  unfold rSlot at h
  split at h
  · rename_i j hj
    split at h
    · rename_i c
      cases h
      rw [Bool.and_eq_true] at c
      refine ⟨by rw [f.hN]; exact idx_get hj, ?_, ?_⟩
      · rw [f.hsc]
        have c1 := c.1
        unfold visK at c1
        split at c1
        · rename_i e; exact .inl e
        · rename_i e; exact .inr (.inl e)
        · rename_i e; exact .inr (.inr e)
        · cases c1
      · have c2 := c.2
        unfold okNm at c2
        rw [Bool.and_eq_true, Bool.not_eq_true', Bool.not_eq_true'] at c2
        exact c2
    · cases h
  · cases h
theorem bSlot_ok (f : Fit W pg run k C Wx X) {x : Str} {i : Nat} (h : bSlot C x = some i) : X.N[i]? = some x ∧ Loc X.env.scope x ∧ (X.fn x = true ∨ X.env.scope.names.lookup x = some .local) := by
  unfold bSlot at h
  split at h
  · rename_i j hj
    split at h
    · rename_i c
      cases h
      refine ⟨by rw [f.hN]; exact idx_get hj, ?_⟩
      rw [f.hsc]
      refine f.sto x ?_
      unfold locK at c
      split at c
      · rename_i e; exact .inl e
      · rename_i e; exact .inr e
      · cases c
    · cases h
  · cases h
theorem isGl_ok (f : Fit W pg run k C Wx X) {x : Str} (h : isGl C x = true) : Gl X x ∧ (x == ("__debug__" : Str)) = false := by
  unfold isGl at h
  split at h
  · rename_i e
    refine ⟨?_, by rw [Bool.not_eq_true'] at h; exact h⟩
    show X.env.scope.names.lookup x = some .globalImplicit
    rw [f.hsc]
    exact e
  · cases h
theorem isBi_ok (f : Fit W pg run k C Wx X) {x g : Str} (h : isBi C x g = true) : x = g ∧ Gl X x ∧ X.mg x = none := by
  unfold isBi at h
  rw [Bool.and_eq_true, Bool.and_eq_true] at h
  exact ⟨of_decide_eq_true h.1.1, (isGl_ok f h.1.2).1, f.bls _ (by simpa using h.2)⟩
theorem Fit.rm (f : Fit W pg run k C Wx X) : Room k X.A := f.room.mono (Nat.le_succ k)
theorem star_cons {x : Expr} {xs : List Expr} {env : PySem.Env} (h : isStar x = false) : starEach (x :: xs) env = (false, eval x env) :: starEach xs env := by
  cases x <;> first | rfl | (cases h; done)
theorem star_none : ∀ {xs : List Expr} {env : PySem.Env} {pos : Pos}, xs.any isStar = false → (backTo pos (starEach xs env)).any (·.1) = false
  | [], _, _, _ => rfl
  | x :: xs, env, pos, h => by
    rw [List.any_cons, Bool.or_eq_false_iff] at h
    rw [star_cons h.1]
    show (false || (backTo pos (starEach xs env)).any (·.1)) = false
    rw [star_none h.2]
    rfl
theorem fill_nil {m : Env → R (List Od)} : semFill m [] = m := by
  funext e
  unfold semFill
  cases m e with
  | ok os e1 => show R.ok (os ++ []) e1 = _; rw [List.append_nil]
  | exc x e1 => rfl
  | no => rfl
theorem hu_fit (f : Fit W pg run k C Wx X) : X.A.units + 65 < cLine := by have := f.room.un; omega
/-- a block of a comprehension -/
theorem Fit.blk (f : Fit W pg run k C Wx X) {scope : Scope} (hk : scope.kind = .function) (s : Shared) (H : Hp) (A : Addr) (cl : List (Str × Addr)) (fp : List Addr) : Fit W pg run k (blkCc C scope) WxF (X.blk s H scope (compEnvC scope cl A X.env) fp) where
  hN := f.hN
  nd := f.nd
  hsc := by
    show relabel scope X.env = relS scope C.sc
    rw [← f.hsc]
    rfl
  kind := hk
  sto := fun x h => by
    have h' : scope.names.lookup x = some .local ∨ scope.names.lookup x = some .cell := h
    have keep : ∀ kd, kd ≠ .free → scope.names.lookup x = some kd → (relS scope C.sc).names.lookup x = some kd := fun kd hn e => lookup_relS_keep hn e
    rcases h' with e | e
    · exact ⟨.inl (keep _ (by decide) e), .inr (keep _ (by decide) e)⟩
    · refine ⟨.inr (keep _ (by decide) e), .inl ?_⟩
      show (scope.names.lookup x == some .cell) = true
      rw [e]
      rfl
  calm := f.calm
  hK := f.hK
  room := f.room
  gd := f.gd
  tk := fun u s' ⟨_, _, _, _, _, _, _, _, _, _, _, _, _, _, _, _, w⟩ => w.elim
  own := PassesOwn.never
  fns := f.fns
  gls := f.gls
  bls := f.bls
  flds := f.flds
  mts := f.mts
  prs := f.prs
  mks := f.mks
  cms := f.cms
  mki := f.mki
theorem cstD_ok {c : Const} {d : D} {j : Nat} {pos : Pos} (h : cstD c = some d) : PE X (.Constant c j pos) (tE W Wx (fun e => .ok d e)) := by
  cases c with
  | none => cases h; exact pe_flat pe_non fun _ _ => ⟨rfl, rfl⟩
  | bool b => cases h; exact pe_flat pe_bl fun _ _ => ⟨rfl, rfl⟩
  | int b => cases h; exact pe_flat pe_int fun _ _ => ⟨rfl, rfl⟩
  | str s =>
    cases h
    refine pe_flat pe_str fun _ _ => ⟨rfl, ?_⟩
    obtain ⟨cps⟩ := s
    rfl
  | _ => exact nomatch h
end
end Wpk
set_option Elab.async false
set_option linter.all false
set_option maxRecDepth 100000
/-! K2: targets, expressions. -/
namespace Wpk
open PySem PySem.Spec PyProof.Rows L2
section
variable {X : Cx} {W : Wd} {pg : Pg} {run : Nat → List D → R D} {k : Nat} {C : Cc} {Wx : WX} {L : List Nat}
theorem asg_cons {x : Expr} {xs : List Expr} {env : PySem.Env} (h : isStar x = false) : assignEach (x :: xs) env = (false, assign x env) :: assignEach xs env := by
  cases x <;> first | rfl | (cases h; done)
theorem asg_all : ∀ {xs : List Expr} {env : PySem.Env}, xs.any isStar = false → (assignEach xs env).findIdx? (·.1) = none ∧ (assignEach xs env).length = xs.length
  | [], _, _ => ⟨rfl, rfl⟩
  | x :: xs, env, h => by
    rw [List.any_cons, Bool.or_eq_false_iff] at h
    rw [asg_cons h.1]
    obtain ⟨h1, h2⟩ := asg_all (env := env) h.2
    refine ⟨?_, by rw [List.length_cons, List.length_cons, h2]⟩
    rw [List.findIdx?_cons, h1]
    rfl
abbrev tsOf (f : Expr → T) (es : List Expr) : T := es.foldr (fun x r => .cons (f x) r) .nil
theorem bindTs_len {f : Expr → T} : ∀ {es : List Expr} {ds : List D} {e e' : Env}, bindTs L (tsOf f es) ds e = some e' → ds.length = es.length
  | [], [], _, _, _ => rfl
  | [], _ :: _, _, _, h => nomatch h
  | x :: xs, [], _, _, h => nomatch h
  | x :: xs, d :: ds, e, e', h => by
    have h' : (bindT L (f x) d e).bind (fun e1 => bindTs L (tsOf f xs) ds e1) = some e' := h
    cases c : bindT L (f x) d e with
    | none => rw [c] at h'; cases h'
    | some e1 => rw [c] at h'; rw [List.length_cons, List.length_cons, bindTs_len h']
theorem tgs_ok {f : Expr → T} (hf : ∀ x, okG (f x) = true → PG X x (tGm L (slotsT (f x)) W (bindT L (f x)))) : ∀ {es : List Expr}, es.any isStar = false → okG (tsOf f es) = true → PGs X es (tGs L (slotsT (tsOf f es)) W (bindTs L (tsOf f es)))
  | [], _, _ => pgs_nilE
  | x :: xs, hs, h => by
    rw [List.any_cons, Bool.or_eq_false_iff] at hs
    have h' : (okG (f x) && okG (tsOf f xs)) = true := h
    rw [Bool.and_eq_true] at h'
    exact pgs_consE (hf x h'.1) (tgs_ok hf hs.2 h'.2) (by rw [asg_cons hs.1]; rfl)
theorem cG_ok (f : Fit W pg run k C Wx X) : ∀ (n : Nat) (tg : Expr), okG (cG C n tg) = true → PG X tg (tGm L (slotsT (cG C n tg)) W (bindT L (cG C n tg)))
  | 0, tg, h => by cases tg <;> cases h
  | n + 1, tg, h => by
    cases tg with
    | Name x pos =>
      unfold cG at h ⊢
      cases c : bSlot C x with
      | none => rw [c] at h; cases h
      | some i =>
        obtain ⟨h1, h2, h3⟩ := bSlot_ok f c
        exact pg_nameE (by rw [f.hN]; exact f.nd) h1 h2 h3
    | Tuple es kk pos =>
      unfold cG at h ⊢
      by_cases hs : es.any isStar = true
      · rw [if_pos hs] at h; cases h
      · rw [if_neg hs] at h ⊢
        have hs' : es.any isStar = false := by simpa using hs
        have := asg_all (env := X.env) hs'
        exact pg_tupE f.hK f.calm (tgs_ok (f := cG C n) (fun x hx => cG_ok f n x hx) hs' h) this.1 fun ds e e' hb => by rw [bindTs_len hb, this.2]
    | _ => exact nomatch h

/-! ### expressions -/
structure Snd (W : Wd) (pg : Pg) (run : Nat → List D → R D) (k n : Nat) (C : Cc) (Wx : WX) (X : Cx) : Prop where
  e : ∀ x, PE X x (tE W Wx (evE pg run (cE n C x)))
  o : ∀ x, PE X x (tO W Wx (evO pg run (cO n C x)))
  os : ∀ xs, xs.any isStar = false → PA X xs (tOs W Wx (evOs pg run (cOs n C xs)))
  ov : ∀ xs, xs.any isStar = false → PA X xs (tOs W Wx (evOs pg run (cOv n C xs)))
  vs : ∀ xs, xs.any isStar = false → PA X xs (tVs W Wx (evVs pg run (cVs n C xs)))
  vz : ∀ xs, xs.any isStar = false → PA X xs (tVs W Wx (evVs pg run (cVz n C xs)))
  l : ∀ x, PO X x (tLm W Wx (evL pg run (cL n C x)))
  t : ∀ x, PT X x (tTs W Wx (evT pg run (cT n C x)))
  tl : ∀ o xs pos, PW X (.BoolOp o xs pos) (tTs W Wx (evT pg run (cTl n C o xs)))
  f : ∀ xs, xs.length ≤ 1 → PTs X xs (tTs W Wx (evT pg run (cF n C xs)))
  i : ∀ tg x, PI X tg x (tIm W Wx (semIt (cK C tg x) (evVs pg run (cI n C tg x))))
theorem pe_eq {x : Expr} {m m' : Env → R D} (h : PE X x (tE W Wx m)) (e : m' = m) : PE X x (tE W Wx m') := by rw [e]; exact h
theorem plain_true {x : Expr} {env : PySem.Env} (h : ∀ whole, isTrue x env whole = (do let v ← whole; standAt x.pos; holding [v] (truthy v))) : True := trivial
theorem pi_stk {tg x : Expr} {kk : It} : PI X tg x (tIm W Wx (semIt kk (fun _ => .no))) := ⟨fun _ _ _ _ _ _ ⟨_, _, _, _, p⟩ => p.elim⟩
theorem pi_stk1 {tg x : Expr} {kk : It} : PI X tg x (tIm W Wx (semIt kk (semVc (fun _ => .no) semVn))) := ⟨fun _ _ _ _ _ _ ⟨_, _, _, _, p⟩ => p.elim⟩
theorem biOf_ok (f : Fit W pg run k C Wx X) {x : Str} {b : Bi} {y : Expr} {ys : List Expr} {p pos : Pos} {m : Env → R (List Od)} (h : biOf x = some b) (hb : x ∈ C.bls) (hg : Gl X x) (hd : (x == ("__debug__" : Str)) = false) (hs : (y :: ys).any isStar = false) (ha : PA X (y :: ys) (tOs W Wx m)) :
    PE X (.Call (.Name x p) (y :: ys) [] pos) (tE W Wx (semBi (biD b) m)) := by
  have hm := f.bls x hb
  rw [List.any_cons, Bool.or_eq_false_iff] at hs
  have he : starEach (y :: ys) X.env = (false, eval y X.env) :: starEach ys X.env := star_cons hs.1
  have hpl := star_none (env := X.env) (pos := pos) hs.2
  have B : ∀ {id : String} {b : Bi}, CallR X (.builtin id) (rPs W (biD b)) → bootBuiltins x = some (.builtin id) → x ≠ "__name__" → PE X (.Call (.Name x p) (y :: ys) [] pos) (tE W Wx (semBi (biD b) m)) := fun {id b} hc hv hn => PE.imp (pe_callB hc hg hm hv ha hn hd he hpl) fun _ _ _ h => bi_read h
  have Ty : ∀ {id : String} {b : Bi}, CallR X (.type id) (rPs W (biD b)) → bootBuiltins x = some (.type id) → x ≠ "__name__" → PE X (.Call (.Name x p) (y :: ys) [] pos) (tE W Wx (semBi (biD b) m)) := fun {id b} hc hv hn => PE.imp (pe_callTy hc hg hm hv ha hn hd he hpl) fun _ _ _ h => bi_read h
  unfold biOf at h
  split at h
  · rename_i e; cases h; subst e; exact B (bi_len f.hK) (by decide +kernel) (by decide)
  split at h
  · rename_i e; cases h; subst e; exact B bi_abs (by decide +kernel) (by decide)
  split at h
  · rename_i e; cases h; subst e; exact Ty bi_int (by decide +kernel) (by decide)
  split at h
  · rename_i e; cases h; subst e; exact B (bi_min f.calm) (by decide +kernel) (by decide)
  split at h
  · rename_i e; cases h; subst e; exact B (bi_max f.calm) (by decide +kernel) (by decide)
  split at h
  · rename_i e; cases h; subst e; exact B (bi_sum f.hK f.calm) (by decide +kernel) (by decide)
  split at h
  · rename_i e; cases h; subst e; exact B (bi_all f.hK f.calm) (by decide +kernel) (by decide)
  split at h
  · rename_i e; cases h; subst e; exact B (bi_any f.hK f.calm) (by decide +kernel) (by decide)
  split at h
  · rename_i e; cases h; subst e; exact Ty (bi_list f.hK f.calm) (by decide +kernel) (by decide)
  split at h
  · rename_i e; cases h; subst e; exact Ty (bi_tuple f.hK) (by decide +kernel) (by decide)
  cases h
theorem bi2Of_ok (f : Fit W pg run k C Wx X) {x : Str} {b : Bi2} {y : Expr} {ys : List Expr} {n : Nat} {p pos : Pos} {m : Env → R (List Od)} (h : bi2Of x n = some b) (hb : x ∈ C.bls) (hg : Gl X x) (hd : (x == ("__debug__" : Str)) = false) (hs : (y :: ys).any isStar = false) (ha : PA X (y :: ys) (tOs W Wx m)) :
    PE X (.Call (.Name x p) (y :: ys) [] pos) (tE W Wx (semBi (bi2D b) m)) := by
  have hm := f.bls x hb
  rw [List.any_cons, Bool.or_eq_false_iff] at hs
  have he : starEach (y :: ys) X.env = (false, eval y X.env) :: starEach ys X.env := star_cons hs.1
  have hpl := star_none (env := X.env) (pos := pos) hs.2
  have B : ∀ {id : String} {b : Bi2}, CallR X (.builtin id) (rPs W (bi2D b)) → bootBuiltins x = some (.builtin id) → x ≠ "__name__" → PE X (.Call (.Name x p) (y :: ys) [] pos) (tE W Wx (semBi (bi2D b) m)) := fun {id b} hc hv hn => PE.imp (pe_callB hc hg hm hv ha hn hd he hpl) fun _ _ _ h => bi_read h
  have Ty : ∀ {id : String} {b : Bi2}, CallR X (.type id) (rPs W (bi2D b)) → bootBuiltins x = some (.type id) → x ≠ "__name__" → PE X (.Call (.Name x p) (y :: ys) [] pos) (tE W Wx (semBi (bi2D b) m)) := fun {id b} hc hv hn => PE.imp (pe_callTy hc hg hm hv ha hn hd he hpl) fun _ _ _ h => bi_read h
  unfold bi2Of at h
  split at h
  · rename_i e; split at h <;> cases h; subst e; exact B (b := .isi) (bi_isi f.hK) (by decide +kernel) (by decide)
  split at h
  · rename_i e; split at h <;> cases h; subst e; exact B (b := .repr) (bi_repr2 f.hK f.gd (hu_fit f)) (by decide +kernel) (by decide)
  split at h
  · rename_i e; split at h <;> cases h; subst e; exact Ty (b := .str) bi_str2 (by decide +kernel) (by decide)
  split at h
  · rename_i e; split at h <;> cases h; subst e; exact Ty (b := .int) bi_int2 (by decide +kernel) (by decide)
  split at h
  · rename_i e; split at h <;> cases h; subst e; exact B (b := .sorted) (bi_sorted f.hK) (by decide +kernel) (by decide)
  split at h
  · rename_i e; split at h <;> cases h; subst e; exact B (b := .minL) (bi_minL f.hK f.calm) (by decide +kernel) (by decide)
  split at h
  · rename_i e; split at h <;> cases h; subst e; exact B (b := .maxL) (bi_maxL f.hK f.calm) (by decide +kernel) (by decide)
  split at h
  · rename_i e; split at h <;> cases h; subst e; exact Ty (b := .dictL) (bi_dict f.hK f.calm) (by decide +kernel) (by decide)
  cases h
/-- the blocks too -/
abbrev SndA (W : Wd) (pg : Pg) (run : Nat → List D → R D) (k n : Nat) : Prop := ∀ (C : Cc) (Wx : WX) (X : Cx), Fit W pg run k C Wx X → Snd W pg run k n C Wx X
theorem folded_ok {x : Expr} {env : PySem.Env} (h : ∀ a b c, x ≠ .Set a b c) : ∀ v, foldedSetIterable x env v = pure v := by
  intro v
  cases x <;> first | rfl | exact absurd rfl (h _ _ _)
theorem cE_lc1 (ih : SndA W pg run k n) (f : Fit W pg run k C Wx X) {elt tg iter : Expr} {ifs : List Expr} {scope : Scope} {pos : Pos}
    (hb : blkC C.N C.sc scope (ownOf C scope) = true) (hg : okG (cG (blkCc C scope) n tg) = true) (hsub : (slotsT (cG (blkCc C scope) n tg)).all (fun i => ((ownOf C scope).map (·.2)).contains i) = true) (hif : ifs.length ≤ 1) (hset : ∀ a b c, iter ≠ .Set a b c) :
    PE X (.ListComp elt [⟨tg, iter, ifs, 0⟩] scope pos) (tE W Wx (semLc ((ownOf C scope).map (·.2)) (semIt (cK C tg iter) (evVs pg run (cI n C tg iter))) (bindT [] (cG (blkCc C scope) n tg)) (evT pg run (cF n (blkCc C scope) ifs)) (evE pg run (cE n (blkCc C scope) elt)))) := by
  have ok : BlkOk X.N X.env.scope scope (ownOf C scope) := blkOk_by (by rw [f.hN, f.hsc]; exact hb)
  have fb := fun s H A cl fp => f.blk ok.kind s H A cl fp
  exact pe_lcE rfl (fun i hi => by simpa using List.all_eq_true.mp hsub i hi) f.calm (by rw [f.hN]; exact f.nd) ((ih C Wx X f).i tg iter) ok (fun s H A cl fp => cG_ok (fb s H A cl fp) n tg hg) (fun s H A cl fp => (ih _ _ _ (fb s H A cl fp)).f ifs hif) (fun s H A cl fp => (ih _ _ _ (fb s H A cl fp)).e elt) (folded_ok hset)
theorem cE_dc1 (ih : SndA W pg run k n) (f : Fit W pg run k C Wx X) {kx vx tg iter : Expr} {ifs : List Expr} {scope : Scope} {pos : Pos}
    (hb : blkC C.N C.sc scope (ownOf C scope) = true) (hg : okG (cG (blkCc C scope) n tg) = true) (hsub : (slotsT (cG (blkCc C scope) n tg)).all (fun i => ((ownOf C scope).map (·.2)).contains i) = true) (hif : ifs.length ≤ 1) (hset : ∀ a b c, iter ≠ .Set a b c) :
    PE X (.DictComp kx vx [⟨tg, iter, ifs, 0⟩] scope pos) (tE W Wx (semDc ((ownOf C scope).map (·.2)) (semIt (cK C tg iter) (evVs pg run (cI n C tg iter))) (bindT [] (cG (blkCc C scope) n tg)) (evT pg run (cF n (blkCc C scope) ifs)) (evE pg run (cE n (blkCc C scope) kx)) (evE pg run (cE n (blkCc C scope) vx)))) := by
  have ok : BlkOk X.N X.env.scope scope (ownOf C scope) := blkOk_by (by rw [f.hN, f.hsc]; exact hb)
  have fb := fun s H A cl fp => f.blk ok.kind s H A cl fp
  exact pe_dcE rfl (fun i hi => by simpa using List.all_eq_true.mp hsub i hi) f.calm (by rw [f.hN]; exact f.nd) ((ih C Wx X f).i tg iter) ok (fun s H A cl fp => cG_ok (fb s H A cl fp) n tg hg) (fun s H A cl fp => (ih _ _ _ (fb s H A cl fp)).f ifs hif) (fun s H A cl fp => (ih _ _ _ (fb s H A cl fp)).e kx) (fun s H A cl fp => (ih _ _ _ (fb s H A cl fp)).e vx) (folded_ok hset)
theorem cE_lc2 (ih : SndA W pg run k n) (f : Fit W pg run k C Wx X) {elt tg iter tg1 iter1 : Expr} {ifs : List Expr} {scope : Scope} {pos : Pos}
    (hb : blkC C.N C.sc scope (ownOf C scope) = true) (hg : okG (cG (blkCc C scope) n tg) = true) (hsub : (slotsT (cG (blkCc C scope) n tg)).all (fun i => ((ownOf C scope).map (·.2)).contains i) = true)
    (hg1 : okG (cG (blkCc C scope) n tg1) = true) (hsub1 : (slotsT (cG (blkCc C scope) n tg1)).all (fun i => ((ownOf C scope).map (·.2)).contains i) = true) (hif : ifs.length ≤ 1) (hset : ∀ a b c, iter ≠ .Set a b c) (hset1 : ∀ a b c, iter1 ≠ .Set a b c) :
    PE X (.ListComp elt [⟨tg, iter, [], 0⟩, ⟨tg1, iter1, ifs, 0⟩] scope pos) (tE W Wx (semLc2 ((ownOf C scope).map (·.2)) (slotsT (cG (blkCc C scope) n tg1)) (semIt (cK C tg iter) (evVs pg run (cI n C tg iter))) (bindT [] (cG (blkCc C scope) n tg)) (semIt (cK (blkCc C scope) tg1 iter1) (evVs pg run (cI n (blkCc C scope) tg1 iter1))) (bindT [] (cG (blkCc C scope) n tg1)) (evT pg run (cF n (blkCc C scope) ifs)) (evE pg run (cE n (blkCc C scope) elt)))) := by
  have ok : BlkOk X.N X.env.scope scope (ownOf C scope) := blkOk_by (by rw [f.hN, f.hsc]; exact hb)
  have fb := fun s H A cl fp => f.blk ok.kind s H A cl fp
  exact pe_lc2E rfl (fun i hi => by simpa using List.all_eq_true.mp hsub i hi) (fun i hi => hi) (fun i hi => by simpa using List.all_eq_true.mp hsub1 i hi) f.calm (by rw [f.hN]; exact f.nd) ((ih C Wx X f).i tg iter) ok (fun s H A cl fp => cG_ok (fb s H A cl fp) n tg hg)
    (fun s H A cl fp => (ih _ _ _ (fb s H A cl fp)).i tg1 iter1) (fun s H A cl fp => cG_ok (fb s H A cl fp) n tg1 hg1) (fun s H A cl fp => (ih _ _ _ (fb s H A cl fp)).f ifs hif) (fun s H A cl fp => (ih _ _ _ (fb s H A cl fp)).e elt) (folded_ok hset) (fun env => folded_ok hset1)
end
end Wpk
set_option Elab.async false
set_option linter.all false
set_option maxRecDepth 100000
set_option maxHeartbeats 4000000
/-! K3: expressions, all of them. -/
namespace Wpk
open PySem PySem.Spec PyProof.Rows L2
section
variable {X : Cx} {W : Wd} {pg : Pg} {run : Nat → List D → R D} {k : Nat} {C : Cc} {Wx : WX} {L : List Nat}
theorem isSet_no {x : Expr} (h : (!isSet x) = true) : ∀ a b c, x ≠ .Set a b c := fun a b c e => by subst e; cases h
theorem noSlice {b : Expr} (h : isSlice b = false) : PlainIx b := by
  intro o i
  cases b <;> first | rfl | (cases h; done)
theorem cE_call (ih : SndA W pg run k n) (f : Fit W pg run k C Wx X) {fx : Str} {args : List Expr} {p pos : Pos} : PE X (.Call (.Name fx p) args [] pos) (tE W Wx (evE pg run (if args.any isStar then T.stk else if !isGl C fx then (match rSlot C fx with
      | some i => if args.isEmpty then .stk else .mkV i C.mki (cOs n C args)
      | none => .stk) else match C.fns.lookup fx with
      | some i => .call i (if args.isEmpty then cOs n C args else flT C i args.length (if dupN args then cOv n C args else cOs n C args))
      | none => match C.mks.lookup fx with
        | some (c, i) => .mk c i (if args.isEmpty then cOs n C args else flT C i (args.length + 1) (cOs n C args))
        | none => match setOf C fx args with
        | some (b, a) => .bi2 b (.cons (cO n C a) .nil)
        | none => match C.bls.contains fx, bi2Of fx args.length with
          | true, some b => if args.isEmpty then .stk else .bi2 b (cOs n C args)
          | _, _ => match C.bls.contains fx, biOf fx with
            | true, some b => if args.isEmpty then .stk else .bi b (cOs n C args)
            | _, _ => .stk))) := by
  have S := ih C Wx X f
  by_cases h : args.any isStar = true
  · rw [if_pos h]; exact pe_stk
  rw [if_neg h]
  have hs : args.any isStar = false := by simpa using h
  by_cases hg : (!isGl C fx) = true
  · rw [if_pos hg]
    cases hr : rSlot C fx with
    | none => exact pe_stk
    | some i =>
      dsimp only
      cases args with
      | nil => exact pe_stk
      | cons y ys =>
        obtain ⟨g1, g2, g3, g4⟩ := rSlot_ok f hr
        have hs0 := hs
        rw [List.any_cons, Bool.or_eq_false_iff] at hs
        exact pe_mkVE f.tk f.mki f.room f.gd g1 g2 (S.os (y :: ys) hs0) g3 g4 (star_cons hs.1) (star_none hs.2)
  rw [if_neg hg]
  have hg : isGl C fx = true := by simpa using hg
  obtain ⟨gl, hd⟩ := isGl_ok f hg
  cases c : C.fns.lookup fx with
  | some i =>
    obtain ⟨fA, fd, ps, h1, h2, h3, h4⟩ := f.fns fx i c
    cases args with
    | nil =>
      show PE X _ (tE W Wx (semCall run i (evOs pg run (cOs n C []))))
      cases n with
      | zero => exact pe_stk
      | succ n => exact pe_callE0 f.tk h4 f.rm f.gd gl h1 h2 h3.1 hd
    | cons y ys =>
      have hs0 := hs
      rw [List.any_cons, Bool.or_eq_false_iff] at hs
      show PE X _ (tE W Wx (semCall run i (evOs pg run (flT C i (y :: ys).length (if dupN (y :: ys) then cOv n C (y :: ys) else cOs n C (y :: ys))))))
      have hos : PA X (y :: ys) (tOs W Wx (evOs pg run (if dupN (y :: ys) then cOv n C (y :: ys) else cOs n C (y :: ys)))) := by
        split
        · exact S.ov (y :: ys) hs0
        · exact S.os (y :: ys) hs0
      unfold flT
      cases hf : flD C i (y :: ys).length with
      | none => exact pe_callE f.tk h4 f.rm f.gd gl h1 h2 h3.1 hos hd (star_cons hs.1) (star_none hs.2)
      | some ds => exact pe_callED f.hK f.tk h4 f.rm f.gd gl h1 h2 (h3.2 _ _ hf) hos hd (star_cons hs.1) (star_none hs.2)
  | none =>
    dsimp only
    cases cm : C.mks.lookup fx with
    | some ci =>
      obtain ⟨cc, i⟩ := ci
      obtain ⟨h1, fA, fd, ps, h2, h3, h4⟩ := f.mks fx cc i cm
      dsimp only
      cases args with
      | nil =>
        show PE X _ (tE W Wx (semMk run cc i (evOs pg run (cOs n C []))))
        cases n with
        | zero => exact pe_stk
        | succ n => exact pe_mk0E f.tk h2 h4 f.room f.gd gl h1 h3.1 hd
      | cons y ys =>
        have hs0 := hs
        rw [List.any_cons, Bool.or_eq_false_iff] at hs
        show PE X _ (tE W Wx (semMk run cc i (evOs pg run (flT C i ((y :: ys).length + 1) (cOs n C (y :: ys))))))
        unfold flT
        cases hf : flD C i ((y :: ys).length + 1) with
        | none => exact pe_mkE f.tk h2 h4 f.room f.gd gl h1 h3.1 (S.os (y :: ys) hs0) hd (star_cons hs.1) (star_none hs.2)
        | some ds => exact pe_mkED f.hK f.tk h2 h4 f.room f.gd gl h1 (h3.2 _ _ hf) (S.os (y :: ys) hs0) hd (star_cons hs.1) (star_none hs.2)
    | none =>
      dsimp only
      cases hso : setOf C fx args with
      | some ba =>
        obtain ⟨b, a⟩ := ba
        dsimp only
        unfold setOf at hso
        split at hso
        · rename_i g pg' a' ps'
          split at hso
          · rename_i hh
            cases hso
            simp only [Bool.and_eq_true] at hh
            obtain ⟨⟨i1, i2⟩, i3⟩ := hh
            obtain ⟨rfl, g1, m1⟩ := isBi_ok f i1
            obtain ⟨rfl, g2, m2⟩ := isBi_ok f i2
            exact pe_lenSetE f.hK g1 m1 g2 m2 (S.o a) f.calm (star_cons (by simpa using i3))
          · cases hso
        · cases hso
      | none =>
      dsimp only
      cases hb : C.bls.contains fx with
      | false => exact pe_stk
      | true =>
        cases hb2 : bi2Of fx args.length with
        | some b =>
          dsimp only
          cases args with
          | nil => exact pe_stk
          | cons y ys => exact bi2Of_ok f hb2 (by simpa using hb) gl hd hs (S.os (y :: ys) hs)
        | none =>
          cases hbi : biOf fx with
          | none => exact pe_stk
          | some b =>
            dsimp only
            cases args with
            | nil => exact pe_stk
            | cons y ys => exact biOf_ok f hbi (by simpa using hb) gl hd hs (S.os (y :: ys) hs)
theorem cE_met (ih : SndA W pg run k n) (f : Fit W pg run k C Wx X) {o : Expr} {m : Str} {args : List Expr} {apos cpos : Pos} : PE X (.Call (.Attribute o m apos) args [] cpos) (tE W Wx (evE pg run (if args.any isStar || !(apos.endLine == cpos.line) || isCall0 o || decide (30 ≤ args.length) then T.stk else
      match cmOf C o m with
      | some (c, i) => if args.isEmpty then .stk else .call i (.cons (.ov (.cst (.cls c))) (flT C i (args.length + 1) (cOs n C args)))
      | none =>
      if m = "append" then (match o, args with
        | .Name x _, [y] => (match rSlot C x with
          | some i => .app i (cE n C y)
          | none => .stk)
        | _, _ => .stk) else
      match muOf m with
      | some u => (match o with
        | .Name x _ => (match rSlot C x with
          | some i => .mut u i (if args.isEmpty then .nil else cVs n C args)
          | none => .stk)
        | _ => .stk)
      | none => match mbOf m with
        | some b => if args.isEmpty then .stk else .mt b (cO n C o) (cOs n C args)
        | none => match C.mts.lookup m with
          | some (c, i) => .meth c i m (cO n C o) (cOs n C args)
          | none => .stk))) := by
  have S := ih C Wx X f
  by_cases hc : (args.any isStar || !(apos.endLine == cpos.line) || isCall0 o || decide (30 ≤ args.length)) = true
  · rw [if_pos hc]; exact pe_stk
  rw [if_neg hc]
  simp only [Bool.or_eq_true, not_or, decide_eq_true_eq] at hc
  obtain ⟨⟨⟨hs, hl⟩, h0⟩, h30⟩ := hc
  have hs : args.any isStar = false := by simpa using hs
  have hl : (apos.endLine == cpos.line) = true := by simpa using hl
  have h0 : isCall0 o = false := by simpa using h0
  have met : ∀ {y : Expr} {ys : List Expr}, args = y :: ys → MetOk X o apos y ys cpos := fun {y ys} e => by
    subst e
    have hs' := hs
    rw [List.any_cons, Bool.or_eq_false_iff] at hs'
    exact ⟨h0, hl, by omega, star_cons hs'.1, star_none hs'.2⟩
  cases hcm : cmOf C o m with
  | some ci =>
    obtain ⟨c, i⟩ := ci
    dsimp only
    cases args with
    | nil => exact pe_stk
    | cons y ys =>
      cases o with
      | Name x p =>
        have hcm : (if isGl C x = true then C.cms.lookup (x, m) else none) = some (c, i) := hcm
        by_cases hg : isGl C x = true
        · rw [if_pos hg] at hcm
          obtain ⟨gl, hd⟩ := isGl_ok f hg
          obtain ⟨h1, mc, q0, fA, fd, ps, h2, h3, h4, h5⟩ := f.cms x m c i hcm
          show PE X _ (tE W Wx (semCall run i (semOc (semOv (fun e => .ok (.cls c) e)) (evOs pg run (flT C i ((y :: ys).length + 1) (cOs n C (y :: ys)))))))
          unfold flT
          cases hf : flD C i ((y :: ys).length + 1) with
          | none =>
            have z := pe_cmethE (p := p) (apos := apos) (pos := cpos) f.hK f.tk h2 h3 h5 f.rm f.gd gl h1 (Dfl.nil (by rw [← f.hK]; exact h4.1)) (S.os (y :: ys) hs) hd (met rfl)
            rw [fill_nil] at z
            exact z
          | some ds => exact pe_cmethE f.hK f.tk h2 h3 h5 f.rm f.gd gl h1 (h4.2 _ _ hf) (S.os (y :: ys) hs) hd (met rfl)
        · rw [if_neg hg] at hcm; cases hcm
      | _ => exact nomatch hcm
  | none =>
  dsimp only
  by_cases ha : m = "append"
  · rw [if_pos ha]
    subst ha
    split
    · split
      · rename_i x p y i h
        obtain ⟨g1, g2, g3, g4⟩ := rSlot_ok f h
        rw [List.any_cons, Bool.or_eq_false_iff] at hs
        exact pe_appE f.hK g1 g2 g3 g4 (S.e _) hl (star_cons hs.1)
      · exact pe_stk
    · exact pe_stk
  rw [if_neg ha]
  split
  · rename_i u hu
    split
    · split
      · rename_i x p i h
        obtain ⟨g1, g2, g3, g4⟩ := rSlot_ok f h
        cases args with
        | nil => exact pe_mut0E (muOf_ok hu) f.hK g1 g2 g3 g4 hl
        | cons y ys => exact pe_mutE (muOf_ok hu) f.hK g1 g2 g3 g4 (S.vs (y :: ys) hs) (met rfl)
      · exact pe_stk
    · exact pe_stk
  · split
    · rename_i b hb
      obtain ⟨⟨T0, h1⟩, h2⟩ := mbOf_ok (X := X) (W := W) f.hK hb
      cases args with
      | nil => exact pe_stk
      | cons y ys => exact pe_mtE h1 h2 f.hK (S.o o) (S.os (y :: ys) hs) (met rfl)
    · split
      · rename_i c i hm
        obtain ⟨h1, fA, fd, ps, h2, h3, h4⟩ := f.mts m c i hm
        cases args with
        | nil =>
          show PE X _ (tE W Wx (semMeth run c i m (evO pg run (cO n C o)) (evOs pg run (cOs n C []))))
          cases n with
          | zero => exact pe_stk
          | succ n => exact pe_meth0E f.tk h1 h2 h4 f.rm f.gd h3 (S.o o) h0 hl
        | cons y ys => exact pe_methE f.tk h1 h2 h4 f.rm f.gd h3 (S.o o) (S.os (y :: ys) hs) (met rfl)
      · exact pe_stk
theorem cE_step (ih : SndA W pg run k n) (f : Fit W pg run k C Wx X) : ∀ x, PE X x (tE W Wx (evE pg run (cE (n + 1) C x))) := by
  have S := ih C Wx X f
  intro x
  unfold cE
  split
  · -- constants
    split
    · rename_i h; exact cstD_ok h
    · exact pe_stk
  · -- names
    rename_i x p
    split
    · rename_i i h
      obtain ⟨h1, h2, h3, h4⟩ := rSlot_ok f h
      exact pe_varE h1 h2 h3 h4
    · split
      · rename_i i hg hl
        obtain ⟨u, v, d, h1, h2, h3, h4⟩ := f.gls x i hl
        obtain ⟨gl, hd⟩ := isGl_ok f hg
        refine pe_eq (pe_flat (pe_glob gl h1 h2 hd) h4) ?_
        funext e
        show R.of (pg.gl i) e = _
        rw [h3]
        rfl
      · rename_i hg hl
        split
        · rename_i T hb ht
          obtain ⟨gl, hd⟩ := isGl_ok f hg
          obtain ⟨h1, h2⟩ := tyOf_ok ht
          exact pe_flat (pe_bltn (v := .ty T) gl (f.bls x (by simpa using hb)) h1 rfl h2 hd) fun G H => ⟨rfl, rfl⟩
        · exact pe_stk
      · exact pe_stk
  · exact pe_op2 (opD_ok f.hK _) (S.o _) (S.o _)
  · exact pe_negE (S.e _)
  · exact pe_notE (S.e _)
  · -- and
    rename_i a b rest pos
    by_cases hr : rest.isEmpty = true
    · rw [if_pos hr]
      have : rest = [] := by simpa using hr
      subst this
      exact pe_anE (S.e _) (pe_one (S.e _))
    · rw [if_neg hr]
      exact pe_anE (S.e _) (S.e _)
  · rename_i a b rest pos
    by_cases hr : rest.isEmpty = true
    · rw [if_pos hr]
      have : rest = [] := by simpa using hr
      subst this
      exact pe_orrE (S.e _) (pe_one (S.e _))
    · rw [if_neg hr]
      exact pe_orrE (S.e _) (S.e _)
  · rename_i a o b pos
    by_cases hm : behindInMarks o b = true
    · rw [if_pos hm]; exact pe_stk
    · rw [if_neg hm]
      exact pe_cmp2 (cmpD_ok f.hK (hu_fit f) o) (S.o _) (S.o _) (by simpa using hm)
  · rename_i a o o' b c pos
    by_cases hm : lastMarks [o, o'] [b, c] = true
    · rw [if_pos hm]; exact pe_stk
    · rw [if_neg hm]
      exact pe_chnE (cmpD_ok f.hK (hu_fit f) o) (cmpD_ok f.hK (hu_fit f) o') (S.o _) (S.o _) (S.o _) (by simpa using hm)
  · exact pe_iteE (S.t _) (S.e _) (S.e _)
  · exact cE_call ih f
  · exact cE_met ih f
  · rename_i o fx pos
    by_cases h0 : isCall0 o = true
    · rw [if_pos h0]; exact pe_stk
    rw [if_neg h0]
    have h0 : isCall0 o = false := by simpa using h0
    split
    · rename_i c i hp
      obtain ⟨h1, pA, fA, fd, ps, h2, h3, h4⟩ := f.prs fx c i hp
      exact pe_prpE h1 h2 h4 f.room f.gd h3 (S.o o) h0
    · split
      · rename_i cs hf
        exact pe_fldE (f.flds fx cs hf) (S.o o) h0
      · exact pe_stk
  · exact pe_slcE f.hK (S.o _) (S.l _) (S.l _)
  · exact pe_slsE f.hK (S.o _) (S.l _) (S.l _) (S.l _)
  · rename_i a b pos _ _
    by_cases hb : isSlice b = true
    · rw [if_pos hb]; exact pe_stk
    · rw [if_neg hb]
      exact pe_ixF f.hK (by have := hu_fit f; omega) (S.o _) (S.o _) (noSlice (by simpa using hb))
  · rename_i es kk pos
    by_cases hs : es.any isStar = true
    · rw [if_pos hs]; exact pe_stk
    · rw [if_neg hs]; exact pe_tupE (S.vs es (by simpa using hs))
  · rename_i es pos
    by_cases hs : es.any isStar = true
    · rw [if_pos hs]; exact pe_stk
    · rw [if_neg hs]; exact pe_lstE (S.vz es (by simpa using hs))
  · exact pe_dict0
  · dsimp only
    split
    · rename_i h
      simp only [Bool.and_eq_true, decide_eq_true_eq] at h
      obtain ⟨⟨⟨⟨h1, h2⟩, h3⟩, h4⟩, h5⟩ := h
      exact cE_lc1 ih f h1 h2 h3 h4 (isSet_no h5)
    · exact pe_stk
  · dsimp only
    split
    · rename_i h
      simp only [Bool.and_eq_true, decide_eq_true_eq] at h
      obtain ⟨⟨⟨⟨h1, h2⟩, h3⟩, h4⟩, h5⟩ := h
      exact cE_dc1 ih f h1 h2 h3 h4 (isSet_no h5)
    · exact pe_stk
  · dsimp only
    split
    · rename_i h
      simp only [Bool.and_eq_true, decide_eq_true_eq] at h
      obtain ⟨⟨⟨⟨⟨⟨⟨h1, h2⟩, h3⟩, h4⟩, h5⟩, h6⟩, h7⟩, h8⟩ := h
      exact cE_lc2 ih f h1 h2 h3 h4 h5 h6 (isSet_no h7) (isSet_no h8)
    · exact pe_stk
  · exact pe_stk
end
end Wpk
set_option Elab.async false
set_option linter.all false
set_option maxRecDepth 100000
set_option maxHeartbeats 4000000
/-! K4: the induction over expressions. -/
namespace Wpk
open PySem PySem.Spec PyProof.Rows L2
section
variable {X : Cx} {W : Wd} {pg : Pg} {run : Nat → List D → R D} {k : Nat} {C : Cc} {Wx : WX} {L : List Nat}
theorem cO_step (ih : SndA W pg run k n) (f : Fit W pg run k C Wx X) : ∀ x, PE X x (tO W Wx (evO pg run (cO (n + 1) C x))) := by
  have S := ih C Wx X f
  intro x
  unfold cO
  split
  · split
    · rename_i i h
      obtain ⟨h1, h2, h3, h4⟩ := rSlot_ok f h
      exact pe_pk h1 h2 h3 h4
    · exact pe_ov (S.e _)
  · exact pe_ov (S.e _)
theorem tru_cmp {x : Expr} {env : PySem.Env} (h1 : ∀ a p, x ≠ .UnaryOp .Not a p) (h2 : ∀ a b p, x ≠ .BoolOp a b p) (h3 : ∀ a b c p, x ≠ .IfExp a b c p) (h4 : ∀ a b c p, x ≠ .Compare a b c p) :
    ∀ whole, isTrue x env whole = (do let v ← whole; standAt x.pos; holding [v] (truthy v)) := by
  intro whole
  cases x with
  | UnaryOp o a p => cases o <;> first | rfl | exact absurd rfl (h1 _ _)
  | BoolOp a b p => exact absurd rfl (h2 _ _ _)
  | IfExp a b c p => exact absurd rfl (h3 _ _ _ _)
  | Compare a b c p => exact absurd rfl (h4 _ _ _ _)
  | _ => rfl
theorem pw_stk {x : Expr} : PW X x (tTs W Wx (fun _ => .no)) := ⟨fun _ _ _ _ _ _ _ ⟨_, _, _, _, p⟩ => p.elim⟩
theorem cT_step (ih : SndA W pg run k n) (f : Fit W pg run k C Wx X) : ∀ x, PT X x (tTs W Wx (evT pg run (cT (n + 1) C x))) := by
  have S := ih C Wx X f
  intro x
  unfold cT
  split
  · exact pt_tnt (S.t _)
  · exact (S.tl _ _ _).pt
  · rename_i a o b pos
    by_cases hm : behindInMarks o b = true
    · rw [if_pos hm]; exact pt_stk
    · rw [if_neg hm]
      exact pt_cmpE (cmpD_ok f.hK (hu_fit f) o) (S.o _) (S.o _) (by simpa using hm)
  · rename_i a o o' b c pos
    by_cases hm : lastMarks [o, o'] [b, c] = true
    · rw [if_pos hm]; exact pt_stk
    · rw [if_neg hm]
      exact pt_chnE (cmpD_ok f.hK (hu_fit f) o) (cmpD_ok f.hK (hu_fit f) o') (S.o _) (S.o _) (S.o _) (by simpa using hm)
  · exact pt_stk
  · exact pt_stk
  · rename_i h1 h2 h3 h4 h5 h6
    refine pt_tv f.hK (S.e _) (tru_cmp ?_ ?_ ?_ ?_)
    · exact fun a p e => h1 _ _ e
    · exact fun a b p e => h2 _ _ _ e
    · exact fun a b c p e => h6 _ _ _ _ e
    · exact fun a b c p e => h5 _ _ _ _ e
theorem cTl_step (ih : SndA W pg run k n) (f : Fit W pg run k C Wx X) : ∀ o xs pos, PW X (.BoolOp o xs pos) (tTs W Wx (evT pg run (cTl (n + 1) C o xs))) := by
  have S := ih C Wx X f
  intro o xs pos
  match o, xs with
  | .And, [] => exact pw_stk
  | .Or, [] => exact pw_stk
  | .And, [a] => exact pw_and1 (S.t a)
  | .Or, [a] => exact pw_or1 (S.t a)
  | .And, a :: b :: rest => exact pw_tan (S.t a) (S.tl _ _ _)
  | .Or, a :: b :: rest => exact pw_tor (S.t a) (S.tl _ _ _)
theorem cOs_step (ih : SndA W pg run k n) (f : Fit W pg run k C Wx X) : ∀ xs, xs.any isStar = false → PA X xs (tOs W Wx (evOs pg run (cOs (n + 1) C xs))) := by
  have S := ih C Wx X f
  intro xs h
  cases xs with
  | nil => exact pa_on
  | cons x xs =>
    rw [List.any_cons, Bool.or_eq_false_iff] at h
    exact pa_oc (S.o x) (S.os xs h.2) (star_cons h.1)
theorem cOv_step (ih : SndA W pg run k n) (f : Fit W pg run k C Wx X) : ∀ xs, xs.any isStar = false → PA X xs (tOs W Wx (evOs pg run (cOv (n + 1) C xs))) := by
  have S := ih C Wx X f
  intro xs h
  cases xs with
  | nil => exact pa_on
  | cons x xs =>
    rw [List.any_cons, Bool.or_eq_false_iff] at h
    exact pa_oc (pe_ov (S.e x)) (S.ov xs h.2) (star_cons h.1)
theorem cVs_step (ih : SndA W pg run k n) (f : Fit W pg run k C Wx X) : ∀ xs, xs.any isStar = false → PA X xs (tVs W Wx (evVs pg run (cVs (n + 1) C xs))) := by
  have S := ih C Wx X f
  intro xs h
  cases xs with
  | nil => exact pa_vn
  | cons x xs =>
    rw [List.any_cons, Bool.or_eq_false_iff] at h
    exact pa_vc (S.e x) (S.vs xs h.2) (star_cons h.1)
theorem cVz_step (ih : SndA W pg run k n) (f : Fit W pg run k C Wx X) : ∀ xs, xs.any isStar = false → PA X xs (tVs W Wx (evVs pg run (cVz (n + 1) C xs))) := by
  have S := ih C Wx X f
  intro xs h
  cases xs with
  | nil => exact pa_vn
  | cons x xs =>
    rw [List.any_cons, Bool.or_eq_false_iff] at h
    show PA X (x :: xs) (tVs W Wx (semVc (evE pg run (if isMk C x = true then .fz (cE n C x) else cE n C x)) (evVs pg run (cVz n C xs))))
    by_cases hm : isMk C x = true
    · rw [if_pos hm]
      exact pa_vc (pe_fz (S.e x)) (S.vz xs h.2) (star_cons h.1)
    · rw [if_neg hm]
      exact pa_vc (S.e x) (S.vz xs h.2) (star_cons h.1)
theorem cL_step (ih : SndA W pg run k n) (f : Fit W pg run k C Wx X) : ∀ x, PO X x (tLm W Wx (evL pg run (cL (n + 1) C x))) := by
  have S := ih C Wx X f
  intro x
  cases x with
  | none => exact po_l0
  | some x => exact po_l1 (S.e x)
theorem pts_yesE : PTs X [] (tTs W Wx (fun e => .ok true e)) := ⟨fun _ _ _ H _ I ⟨e, G, F, S, p⟩ => wpAny_tests_nil ⟨H, I, p true G H F [] S.refl S.env ⟨rfl, rfl⟩⟩⟩
theorem cF_step (ih : SndA W pg run k n) (f : Fit W pg run k C Wx X) : ∀ xs, xs.length ≤ 1 → PTs X xs (tTs W Wx (evT pg run (cF (n + 1) C xs))) := by
  have S := ih C Wx X f
  intro xs h
  match xs, h with
  | [], _ => exact pts_yesE
  | [c], _ => exact pts_one (S.t c)
theorem pi_pl (f : Fit W pg run k C Wx X) {tg x : Expr} {m : Env → R D} (h : PE X x (tE W Wx m)) : PI X tg x (tIm W Wx (semIt .plain (semVc m semVn))) := pi_plainF f.hK h
theorem cI_step (ih : SndA W pg run k n) (f : Fit W pg run k C Wx X) : ∀ tg x, PI X tg x (tIm W Wx (semIt (cK C tg x) (evVs pg run (cI (n + 1) C tg x)))) := by
  have S := ih C Wx X f
  intro tg x
  unfold cI cK
  by_cases hb : ((cW C tg x).2.any isStar || isSet x) = true
  · rw [if_pos hb]; exact pi_stk
  rw [if_neg hb]
  have hs : (cW C tg x).2.any isStar = false := by
    cases c : (cW C tg x).2.any isStar with
    | false => rfl
    | true => rw [c] at hb; exact absurd rfl hb
  clear hb
  unfold cW at hs ⊢
  split
  · dsimp only at hs
    split
    · rename_i h
      rw [if_pos h] at hs
      obtain ⟨rfl, g1, g2⟩ := isBi_ok f h
      rw [List.any_cons, Bool.or_eq_false_iff] at hs
      exact pi_range1E g1 g2 (S.e _) (star_cons hs.1)
    · rename_i h
      rw [if_neg h] at hs
      split
      · rename_i h'
        rw [if_pos h'] at hs
        obtain ⟨rfl, g1, g2⟩ := isBi_ok f h'
        split
        · rw [List.any_cons, Bool.or_eq_false_iff] at hs
          exact pi_enumE f.hK g1 g2 (S.e _) (star_cons hs.1)
        · exact pi_pl f (S.e _)
      · exact pi_pl f (S.e _)
  · dsimp only at hs
    split
    · rename_i h
      rw [if_pos h] at hs
      obtain ⟨rfl, g1, g2⟩ := isBi_ok f h
      rw [List.any_cons, Bool.or_eq_false_iff, List.any_cons, Bool.or_eq_false_iff] at hs
      have s2 := star_cons (xs := []) (env := X.env) hs.2.1
      exact pi_range2E g1 g2 (S.e _) (S.e _) (by rw [star_cons hs.1, s2]; rfl) s2
    · rename_i h
      rw [if_neg h] at hs
      split
      · rename_i h'
        rw [if_pos h'] at hs
        obtain ⟨rfl, g1, g2⟩ := isBi_ok f h'
        split
        · rw [List.any_cons, Bool.or_eq_false_iff, List.any_cons, Bool.or_eq_false_iff] at hs
          exact pi_zipE f.hK g1 g2 (pa_vc (S.e _) (pa_vc (S.e _) pa_vn (star_cons hs.2.1)) (star_cons hs.1)) (star_cons hs.1) (by rw [star_cons hs.2.1]; rfl)
        · exact pi_pl f (S.e _)
      · exact pi_pl f (S.e _)
  · rename_i o m apos cpos
    dsimp only at hs
    split
    · exact pi_pl f (S.e _)
    · rename_i h
      simp only [Bool.or_eq_true, not_or] at h
      have h0 : isCall0 o = false := by simpa using h.1
      have hl : (apos.endLine == cpos.line) = true := by simpa using h.2
      split
      · rename_i e
        subst e
        exact pi_valuesE (S.e _) h0 hl
      · split
        · rename_i e
          subst e
          split
          · exact pi_itemsE (S.e _) h0 hl
          · exact pi_pl f (S.e _)
        · exact pi_pl f (S.e _)
  · exact pi_pl f (S.e _)
theorem snd_zero : SndA W pg run k 0 := fun C Wx X f => {
  e := fun x => pe_stk
  o := fun x => po_stk
  os := fun xs _ => pas_stk
  ov := fun xs _ => pas_stk
  vs := fun xs _ => pav_stk
  vz := fun xs _ => pav_stk
  l := fun x => pl_stk
  t := fun x => pt_stk
  tl := fun o xs pos => pw_stk
  f := fun xs _ => ⟨fun _ _ _ _ _ _ ⟨_, _, _, _, p⟩ => p.elim⟩
  i := fun tg x => pi_stk }
theorem snd_all : ∀ n, SndA W pg run k n
  | 0 => snd_zero
  | n + 1 => fun C Wx X f => have ih : SndA W pg run k n := snd_all n; {
    e := cE_step ih f
    o := cO_step ih f
    os := cOs_step ih f
    ov := cOv_step ih f
    vs := cVs_step ih f
    vz := cVz_step ih f
    l := cL_step ih f
    t := cT_step ih f
    tl := cTl_step ih f
    f := cF_step ih f
    i := cI_step ih f }
end
end Wpk
set_option Elab.async false
set_option linter.all false
set_option maxRecDepth 100000
set_option maxHeartbeats 4000000
/-! K5: statements. -/
namespace Wpk
open PySem PySem.Spec PyProof.Rows L2
section
variable {X : Cx} {W : Wd} {pg : Pg} {run : Nat → List D → R D} {k : Nat} {C : Cc} {Wx : WX} {L : List Nat}
theorem blockK (f : Fit W pg run k C Wx X) : X.env.blockKind = .function := by
  have h1 := f.hsc
  have h2 := f.kind
  unfold PySem.Env.blockKind
  rw [h1, h2]
  rfl
theorem kindK (f : Fit W pg run k C Wx X) (t : Str) : X.env.kindOf t = C.sc.names.lookup t := by
  unfold PySem.Env.kindOf
  rw [f.hsc]
theorem swp_no {y : Expr} {t : Option Expr} {l : Nat} {env : PySem.Env} (h : isComp y = false) : swapsWith y t l env = pure false := by
  cases y <;> first | rfl | (cases h; done)
theorem ps_asgstk {st : Stmt} {b : D → Env → Option Env} : PS X st (tSm L W Wx (semAsg b (fun _ => .no))) := ⟨fun _ _ _ _ _ _ ⟨_, _, _, _, p⟩ => p.elim⟩
theorem swp_lc {elt : Expr} {cs : List Comprehension} {scope : Scope} {pos p : Pos} {x : Str} {l : Nat} {env : PySem.Env} : swapsWith (.ListComp elt cs scope pos) (some (.Name x p)) l env = pure (env.blockKind == .function && env.kindOf x == some .local && p.line == pos.line && !(scope.names.any fun (n, k) => n == x && (k == .local || k == .cell))) := rfl
theorem sw_hyl {scope : Scope} {pos p : Pos} {x : Str} {env : PySem.Env} (h : (env.blockKind == .function && env.kindOf x == some .local && p.line == pos.line && !(scope.names.any fun (n, k) => n == x && (k == .local || k == .cell))) = true) : env.scope.names.lookup x = some .local := by
  rw [Bool.and_eq_true, Bool.and_eq_true, Bool.and_eq_true] at h
  exact eq_of_beq h.1.1.2
theorem cE_setlc (f : Fit W pg run k C Wx X) {elt : Expr} {cs : List Comprehension} {scope : Scope} {pos p : Pos} {x : Str} {i : Nat} {spos : Pos} (hi : bSlot C x = some i) :
    PS X (.Assign [.Name x p] (.ListComp elt cs scope pos) spos) (tSm L W Wx (semAsg (bindT L (.tName i)) (evE pg run (cE n C (.ListComp elt cs scope pos))))) := by
  obtain ⟨h1, h2, h3⟩ := bSlot_ok f hi
  have nd : X.N.Nodup := by rw [f.hN]; exact f.nd
  have sw := swp_lc (elt := elt) (cs := cs) (scope := scope) (pos := pos) (p := p) (x := x) (l := spos.line) (env := X.env)
  cases c : (X.env.blockKind == .function && X.env.kindOf x == some .local && p.line == pos.line && !(scope.names.any fun (n, k) => n == x && (k == .local || k == .cell))) with
  | false =>
    rw [c] at sw
    exact ps_setE nd h1 h2 h3 ((snd_all n C Wx X f).e _) sw
  | true =>
    rw [c] at sw
    have hyl := sw_hyl c
    cases n with
    | zero => exact ps_asgstk
    | succ n =>
      have ih : SndA W pg run k n := snd_all n
      unfold cE
      split
      all_goals first | exact ps_asgstk | skip
      all_goals (first | (rename_i e; cases e; done) | skip)
      · rename_i e
        cases e
        dsimp only
        split
        · rename_i h
          simp only [Bool.and_eq_true, decide_eq_true_eq] at h
          obtain ⟨⟨⟨⟨h1', h2'⟩, h3'⟩, h4'⟩, h5'⟩ := h
          have ok : BlkOk X.N X.env.scope scope (ownOf C scope) := blkOk_by (by rw [f.hN, f.hsc]; exact h1')
          have fb := fun s H A cl fp => f.blk ok.kind s H A cl fp
          exact ps_setLcE rfl (fun i hi => by simpa using List.all_eq_true.mp h3' i hi) f.calm nd h1 hyl sw ((ih C Wx X f).i _ _) ok (fun s H A cl fp => cG_ok (fb s H A cl fp) n _ h2') (fun s H A cl fp => (ih _ _ _ (fb s H A cl fp)).f _ h4') (fun s H A cl fp => (ih _ _ _ (fb s H A cl fp)).e _) (folded_ok (isSet_no h5'))
        · exact ps_asgstk
      · rename_i e
        cases e
        dsimp only
        split
        · rename_i h
          simp only [Bool.and_eq_true, decide_eq_true_eq] at h
          obtain ⟨⟨⟨⟨⟨⟨⟨h1', h2'⟩, h3'⟩, h4'⟩, h5'⟩, h6'⟩, h7'⟩, h8'⟩ := h
          have ok : BlkOk X.N X.env.scope scope (ownOf C scope) := blkOk_by (by rw [f.hN, f.hsc]; exact h1')
          have fb := fun s H A cl fp => f.blk ok.kind s H A cl fp
          exact ps_setLc2E rfl (fun i hi => by simpa using List.all_eq_true.mp h3' i hi) (fun i hi => hi) (fun i hi => by simpa using List.all_eq_true.mp h5' i hi) f.calm nd h1 hyl sw ((ih C Wx X f).i _ _) ok (fun s H A cl fp => cG_ok (fb s H A cl fp) n _ h2')
            (fun s H A cl fp => (ih _ _ _ (fb s H A cl fp)).i _ _) (fun s H A cl fp => cG_ok (fb s H A cl fp) n _ h4') (fun s H A cl fp => (ih _ _ _ (fb s H A cl fp)).f _ h6') (fun s H A cl fp => (ih _ _ _ (fb s H A cl fp)).e _) (folded_ok (isSet_no h7')) (fun env => folded_ok (isSet_no h8'))
        · exact ps_asgstk
theorem swp_dc {kx vx : Expr} {cs : List Comprehension} {scope : Scope} {pos p : Pos} {x : Str} {l : Nat} {env : PySem.Env} : swapsWith (.DictComp kx vx cs scope pos) (some (.Name x p)) l env = pure (env.blockKind == .function && env.kindOf x == some .local && p.line == pos.line && !(scope.names.any fun (n, k) => n == x && (k == .local || k == .cell))) := rfl
theorem cE_setdc (f : Fit W pg run k C Wx X) {kx vx : Expr} {cs : List Comprehension} {scope : Scope} {pos p : Pos} {x : Str} {i : Nat} {spos : Pos} (hi : bSlot C x = some i) :
    PS X (.Assign [.Name x p] (.DictComp kx vx cs scope pos) spos) (tSm L W Wx (semAsg (bindT L (.tName i)) (evE pg run (cE n C (.DictComp kx vx cs scope pos))))) := by
  obtain ⟨h1, h2, h3⟩ := bSlot_ok f hi
  have nd : X.N.Nodup := by rw [f.hN]; exact f.nd
  have sw := swp_dc (kx := kx) (vx := vx) (cs := cs) (scope := scope) (pos := pos) (p := p) (x := x) (l := spos.line) (env := X.env)
  cases c : (X.env.blockKind == .function && X.env.kindOf x == some .local && p.line == pos.line && !(scope.names.any fun (n, k) => n == x && (k == .local || k == .cell))) with
  | false =>
    rw [c] at sw
    exact ps_setE nd h1 h2 h3 ((snd_all n C Wx X f).e _) sw
  | true =>
    rw [c] at sw
    have hyl := sw_hyl c
    cases n with
    | zero => exact ps_asgstk
    | succ n =>
      have ih : SndA W pg run k n := snd_all n
      unfold cE
      split
      all_goals first | exact ps_asgstk | skip
      all_goals (first | (rename_i e; cases e; done) | skip)
      · rename_i e
        cases e
        dsimp only
        split
        · rename_i h
          simp only [Bool.and_eq_true, decide_eq_true_eq] at h
          obtain ⟨⟨⟨⟨h1', h2'⟩, h3'⟩, h4'⟩, h5'⟩ := h
          have ok : BlkOk X.N X.env.scope scope (ownOf C scope) := blkOk_by (by rw [f.hN, f.hsc]; exact h1')
          have fb := fun s H A cl fp => f.blk ok.kind s H A cl fp
          exact ps_setDcE rfl (fun i hi => by simpa using List.all_eq_true.mp h3' i hi) f.calm nd h1 hyl sw ((ih C Wx X f).i _ _) ok (fun s H A cl fp => cG_ok (fb s H A cl fp) n _ h2') (fun s H A cl fp => (ih _ _ _ (fb s H A cl fp)).f _ h4') (fun s H A cl fp => (ih _ _ _ (fb s H A cl fp)).e _) (fun s H A cl fp => (ih _ _ _ (fb s H A cl fp)).e _) (folded_ok (isSet_no h5'))
        · exact ps_asgstk
theorem star_fun : (fun e : Expr => match e with | .Starred _ _ => true | _ => false) = isStar := by
  funext e; cases e <;> rfl
theorem swap_eq (f : Fit W pg run k C Wx X) {ts vs : List Expr} {kt k2 : Nat} {pt p2 : Pos} : swappedStores [.Tuple ts kt pt] (.Tuple vs k2 p2) X.env = if swapB C ts vs then (if vs.all (constantsAlone 8) then unsupported "assign.tuple-of-constant-expressions:order-of-the-stores" else pure (some (nmsL C ts))) else pure none := by
  have hb := blockK f
  unfold swappedStores swapB
  dsimp only
  have H1 : ∀ g : Expr → Bool, (∀ e, g e = isStar e) → vs.any g = vs.any isStar := fun g h => by rw [funext h]
  have H2 : ∀ q : Expr → Option Str, (∀ e, q e = (fun x => match x with | Expr.Name id pos => if C.sc.names.lookup id == some .local && pos.line == (ts.head?.map (·.pos.line)).getD 0 then some id else none | _ => none) e) → ts.filterMap q = nmsL C ts := fun q h => by
    unfold nmsL
    congr 1
    funext e
    rw [h e]
    all_goals (cases e <;> rfl)
  rw [hb, H1, H2]
  rotate_left
  · intro e
    cases e with
    | Name id pos =>
      dsimp only
      rw [kindK f]
    | _ => rfl
  · intro e; cases e <;> rfl
  cases c1 : (ts.length == 2 || ts.length == 3) with
  | false => simp
  | true =>
    cases c2 : (vs.length == ts.length) with
    | false =>
      have : (vs.length != ts.length) = true := by simp [bne, c2]
      simp [this]
    | true =>
      have h2 : (vs.length != ts.length) = false := by simp [bne, c2]
      cases c3 : vs.any isStar with
      | true =>
        simp [h2]
      | false =>
        simp only [h2]
        cases c4 : ((nmsL C ts).length == ts.length) with
        | false =>
          have : ((nmsL C ts).length != ts.length) = true := by simp [bne, c4]
          simp [this]
        | true =>
          have h4 : ((nmsL C ts).length != ts.length) = false := by simp [bne, c4]
          cases c5 : ((nmsL C ts).eraseDups.length == (nmsL C ts).length) with
          | false =>
            have : ((nmsL C ts).eraseDups.length != (nmsL C ts).length) = true := by simp [bne, c5]
            simp [this]
          | true =>
            have h5 : ((nmsL C ts).eraseDups.length != (nmsL C ts).length) = false := by simp [bne, c5]
            cases c6 : vs.all (foldedForSure 8) with
            | true => simp [h4, h5]
            | false =>
              cases c7 : vs.all (constantsAlone 8) with
              | true => simp [h4, h5]; rfl
              | false => simp [h4, h5]
theorem ttl_ok (f : Fit W pg run k C Wx X) : ∀ {ts : List Expr} {is : List Nat}, ttl n C ts = some is → PGs X ts (gNs is) ∧ (assignEach ts X.env).length = is.length ∧ (assignEach ts X.env).findIdx? (·.1) = none
  | [], is, h => by cases h; exact ⟨pgs_nil, rfl, rfl⟩
  | t :: ts, is, h => by
    cases t with
    | Name x p =>
      unfold ttl at h
      cases c1 : bSlot C x with
      | none => rw [c1] at h; cases h
      | some i =>
        cases c2 : ttl n C ts with
        | none => rw [c1, c2] at h; cases h
        | some js =>
          rw [c1, c2] at h
          cases h
          obtain ⟨h1, h2, h3⟩ := bSlot_ok f c1
          obtain ⟨g1, g2, g3⟩ := ttl_ok f c2
          have e := asg_cons (x := .Name x p) (xs := ts) (env := X.env) rfl
          refine ⟨pgs_cons (pg_name (by rw [f.hN]; exact f.nd) h1 h2 h3) g1 (by rw [e]; rfl), by rw [e, List.length_cons, List.length_cons, g2], ?_⟩
          rw [e, List.findIdx?_cons, g3]
          rfl
    | _ => exact nomatch h
theorem vs_len : ∀ {n : Nat} {vs : List Expr} {e e' : Env} {ds : List D}, evVs pg run (cVs n C vs) e = .ok ds e' → ds.length = vs.length
  | 0, vs, e, e', ds, h => nomatch h
  | n + 1, [], e, e', ds, h => by cases h; rfl
  | n + 1, v :: vs, e, e', ds, h => by
    have h' : semVc (evE pg run (cE n C v)) (evVs pg run (cVs n C vs)) e = .ok ds e' := h
    unfold semVc at h'
    cases c1 : evE pg run (cE n C v) e with
    | no => rw [c1] at h'; cases h'
    | exc x e1 => rw [c1] at h'; cases h'
    | ok d e1 =>
      rw [c1] at h'
      have h' : (evVs pg run (cVs n C vs) e1).bind (fun ds e2 => R.ok (d :: ds) e2) = .ok ds e' := h'
      cases c2 : evVs pg run (cVs n C vs) e1 with
      | no => rw [c2] at h'; cases h'
      | exc x e1 => rw [c2] at h'; cases h'
      | ok ds2 e2 =>
        rw [c2] at h'
        cases h'
        rw [List.length_cons, List.length_cons, vs_len c2]
theorem nms2 {x y : Str} {px py : Pos} (h : ((nmsL C [.Name x px, .Name y py]).length == 2) = true) : nmsL C [.Name x px, .Name y py] = [x, y] ∧ C.sc.names.lookup x = some .local ∧ C.sc.names.lookup y = some .local := by
  unfold nmsL at h ⊢
  rw [List.filterMap_cons, List.filterMap_cons, List.filterMap_nil] at h ⊢
  dsimp only at h ⊢
  split at h
  · rename_i e
    split at h
    · cases h
    · cases h
  · rename_i z e
    split at h
    · cases h
    · rename_i z' e'
      split at e
      · split at e'
        · rename_i q q'
          cases e
          cases e'
          rw [Bool.and_eq_true] at q q'
          exact ⟨rfl, eq_of_beq q.1, eq_of_beq q'.1⟩
        · cases e'
      · cases e
theorem nms3 {x y z : Str} {px py pz : Pos} (h : ((nmsL C [.Name x px, .Name y py, .Name z pz]).length == 3) = true) : nmsL C [.Name x px, .Name y py, .Name z pz] = [x, y, z] ∧ C.sc.names.lookup x = some .local ∧ C.sc.names.lookup y = some .local ∧ C.sc.names.lookup z = some .local := by
  unfold nmsL at h ⊢
  rw [List.filterMap_cons, List.filterMap_cons, List.filterMap_cons, List.filterMap_nil] at h ⊢
  dsimp only at h ⊢
  have fin : ∀ {id : Str} {pos : Pos} {l : Nat} {q : Str}, (if (C.sc.names.lookup id == some .local && pos.line == l) = true then some id else none) = some q → q = id ∧ (C.sc.names.lookup id == some .local && pos.line == l) = true := fun {id pos l q} e => by
    split at e
    · cases e; exact ⟨rfl, by assumption⟩
    · cases e
  split at h
  · split at h
    · split at h <;> cases h
    · split at h <;> cases h
  · rename_i e
    split at h
    · split at h <;> cases h
    · rename_i e'
      split at h
      · cases h
      · rename_i e''
        obtain ⟨rfl, q1⟩ := fin e
        obtain ⟨rfl, q2⟩ := fin e'
        obtain ⟨rfl, q3⟩ := fin e''
        rw [Bool.and_eq_true] at q1 q2 q3
        exact ⟨rfl, eq_of_beq q1.1, eq_of_beq q2.1, eq_of_beq q3.1⟩
theorem ttl_names : ∀ {ts : List Expr} {is : List Nat}, ttl n C ts = some is → ∃ l : List (Str × Pos), ts = l.map (fun q => .Name q.1 q.2)
  | [], _, _ => ⟨[], rfl⟩
  | t :: ts, is, h => by
    cases t with
    | Name x p =>
      unfold ttl at h
      cases c1 : bSlot C x with
      | none => rw [c1] at h; cases h
      | some i =>
        cases c2 : ttl n C ts with
        | none => rw [c1, c2] at h; cases h
        | some js =>
          obtain ⟨l, e⟩ := ttl_names c2
          exact ⟨(x, p) :: l, by rw [e]; rfl⟩
    | _ => exact nomatch h
theorem cS_par (f : Fit W pg run k C Wx X) {ts vs : List Expr} {kt k2 : Nat} {pt p2 pos : Pos} {is : List Nat} (ht : ttl n C ts = some is) (hs : vs.any isStar = false) (hl : vs.length = ts.length) (hL : vs.length ≤ LN) (hd : is.Nodup) (hc : ¬ (swapB C ts vs = true ∧ vs.all (constantsAlone 8) = true)) :
    PS X (.Assign [.Tuple ts kt pt] (.Tuple vs k2 p2) pos) (tSm L W Wx (semPar L is (evVs pg run (cVs n C vs)))) := by
  have hp := (snd_all n C Wx X f).vs vs hs
  have sw := swap_eq f (ts := ts) (vs := vs) (kt := kt) (k2 := k2) (pt := pt) (p2 := p2)
  obtain ⟨g1, g2, g3⟩ := ttl_ok f ht
  cases c : swapB C ts vs with
  | false =>
    rw [c] at sw
    exact ps_parNE f.hK f.calm hp (fun e ds e' h => by rw [vs_len h]; exact hL) g1 g2 g3 sw
  | true =>
    rw [c, if_pos rfl] at sw
    have hc' : ¬ vs.all (constantsAlone 8) = true := fun z => hc ⟨c, z⟩
    rw [if_neg hc'] at sw
    have nd : X.N.Nodup := by rw [f.hN]; exact f.nd
    unfold swapB at c
    simp only [Bool.and_eq_true] at c
    obtain ⟨⟨⟨⟨⟨c1, c2⟩, c3⟩, c4⟩, c5⟩, c6⟩ := c
    obtain ⟨lt, rfl⟩ := ttl_names ht
    rw [Bool.or_eq_true, beq_iff_eq, beq_iff_eq, List.length_map] at c1
    rw [List.length_map] at hl
    match lt, vs, hl, c1, ht with
    | [(x, px), (y, py)], [a, b], _, _, ht =>
      dsimp only [List.map] at ht sw c4
      unfold ttl ttl ttl at ht
      cases b1 : bSlot C x with
      | none => rw [b1] at ht; cases ht
      | some i =>
        cases b2 : bSlot C y with
        | none => rw [b1, b2] at ht; cases ht
        | some j =>
          rw [b1, b2] at ht
          cases ht
          obtain ⟨x1, x2, x3⟩ := bSlot_ok f b1
          obtain ⟨y1, y2, y3⟩ := bSlot_ok f b2
          obtain ⟨n1, n2, n3⟩ := nms2 c4
          rw [n1] at sw
          have hij : i ≠ j := by simpa using hd
          exact ps_par2E f.calm nd x1 y1 hij (by rw [f.hsc]; exact n2) (by rw [f.hsc]; exact n3) hp sw
    | [(x, px), (y, py), (z, pz)], [a, b, d], _, _, ht =>
      dsimp only [List.map] at ht sw c4
      unfold ttl ttl ttl ttl at ht
      cases b1 : bSlot C x with
      | none => rw [b1] at ht; cases ht
      | some i =>
        cases b2 : bSlot C y with
        | none => rw [b1, b2] at ht; cases ht
        | some j =>
          cases b3 : bSlot C z with
          | none => rw [b1, b2, b3] at ht; cases ht
          | some l =>
            rw [b1, b2, b3] at ht
            cases ht
            obtain ⟨x1, x2, x3⟩ := bSlot_ok f b1
            obtain ⟨y1, y2, y3⟩ := bSlot_ok f b2
            obtain ⟨z1, z2, z3⟩ := bSlot_ok f b3
            obtain ⟨n1, n2, n3, n4⟩ := nms3 c4
            rw [n1] at sw
            have hd' : (i ≠ j ∧ i ≠ l) ∧ j ≠ l := by simpa using hd
            exact ps_par3E f.calm nd x1 y1 z1 hd'.1.1 hd'.1.2 hd'.2 (by rw [f.hsc]; exact n2) (by rw [f.hsc]; exact n3) (by rw [f.hsc]; exact n4) hp sw
theorem ps_docE {x : Str} {j : Nat} {p pos : Pos} : PS X (.Expr (.Constant (.str x) j p) pos) (tSm L W Wx (fun e => .ok .nx e)) := PS.imp ps_doc fun Z σ H ⟨e, G, F, S, p⟩ => p σ G H F (Stp.refl S.sub S.nd) S.env Kp.refl
theorem ps_stk' {x : Stmt} {pg : Pg} {fu : Nat} : PS X x (tSm L W Wx (evS pg run fu L .stk)) := ⟨fun _ _ _ _ _ _ ⟨_, _, _, _, p⟩ => p.elim⟩
theorem pss_stk' {x : List Stmt} {pg : Pg} {fu : Nat} : PSs X x (tSm L W Wx (evS pg run fu L .stk)) := ⟨fun _ _ _ _ _ _ ⟨_, _, _, _, p⟩ => p.elim⟩
structure SndS (W : Wd) (pg : Pg) (run : Nat → List D → R D) (fu n : Nat) (C : Cc) (Wx : WX) (X : Cx) : Prop where
  s : ∀ L x, PS X x (tSm L W Wx (evS pg run fu L (cS n C x)))
  b : ∀ L xs, PSs X xs (tSm L W Wx (evS pg run fu L (cB n C xs)))
theorem cS_step {fu : Nat} (f : Fit W pg run k C Wx X) (ih : SndS W pg run fu n C Wx X) (L : List Nat) : ∀ x, PS X x (tSm L W Wx (evS pg run fu L (cS (n + 1) C x))) := by
  have S := snd_all (W := W) (pg := pg) (run := run) (k := k) n C Wx X f
  have nd : X.N.Nodup := by rw [f.hN]; exact f.nd
  intro x
  unfold cS
  split
  · -- name = value
    rename_i x p v pos
    split
    · rename_i i hi
      split
      · exact ps_stk'
      · rename_i hv
        cases hc : isComp v with
        | false =>
          obtain ⟨h1, h2, h3⟩ := bSlot_ok f hi
          exact ps_setE nd h1 h2 h3 (S.e _) (swp_no hc)
        | true =>
          cases v with
          | ListComp elt cs scope pos' => exact cE_setlc f hi
          | SetComp _ _ _ _ => exact absurd rfl hv
          | DictComp kx vx cs scope pos' => exact cE_setdc f hi
          | _ => cases hc
    · exact ps_stk'
  · -- names = values
    split
    · rename_i is ht
      split
      · exact ps_stk'
      · rename_i hc
        simp only [Bool.or_eq_true, not_or, Bool.and_eq_true, decide_eq_true_eq] at hc
        obtain ⟨⟨⟨⟨c1, c2⟩, c3⟩, c4⟩, c5⟩ := hc
        exact cS_par f ht (by simpa using c1) (by simpa using c2) (by omega) (by simpa using c4) c5
    · exact ps_stk'
  · -- a tuple of targets
    rename_i ts kk p v pos hne
    dsimp only
    split
    · rename_i hg
      refine PS.imp (ps_asg (S.e v) (cG_ok f n _ hg) ?_ ?_ rfl) fun _ _ _ h => asg_read h fun _ q => q
      · show swapsWith v (some (.Tuple ts kk p)) pos.line X.env = pure false
        cases v <;> rfl
      · cases v with
        | Tuple vs k2 p2 => exact absurd rfl (hne _ _ _)
        | _ => rfl
    · exact ps_stk'
  · -- a place of a list
    rename_i x p j pos' v pos
    split
    · rename_i i hi
      split
      · exact ps_stk'
      · rename_i hj
        obtain ⟨g1, g2, g3, g4⟩ := rSlot_ok f hi
        have hv : PE X v (tE W Wx (evE pg run (if isOwnC C v then .fz (cE n C v) else cE n C v))) := by
          split
          · exact pe_fz (S.e _)
          · exact S.e _
        refine ps_subE (by have := hu_fit f; omega) g1 g2 g3 g4 (S.e _) hv ?_ ?_ ?_
        · intro v
          cases j <;> first | rfl | exact absurd rfl hj
        · show swapsWith v (some (.Subscript (.Name x p) j pos')) pos.line X.env = pure false
          cases v <;> rfl
        · cases v <;> rfl
    · exact ps_stk'
  · -- a field
    rename_i x p fx pos' v pos
    split
    · rename_i i cs hi hf
      split
      · exact ps_stk'
      · rename_i hc
        obtain ⟨g1, g2, g3, g4⟩ := rSlot_ok f hi
        exact ps_sfldE (f.flds fx cs hf) g1 g2 g3 g4 (S.e _) (swp_no (by simpa using hc))
    · exact ps_stk'
  · split
    · rename_i i hi
      obtain ⟨h1, h2, h3⟩ := bSlot_ok f hi
      exact ps_augE nd h1 h2 h3 (S.e _)
    · exact ps_stk'
  · exact ps_docE
  · split
    · exact ps_stk'
    · rename_i hc
      exact ps_exE (S.e _) (swp_no (by simpa using hc))
  · exact ps_retNE
  · split
    · rename_i i hi
      obtain ⟨g1, g2, g3, g4⟩ := rSlot_ok f hi
      exact ps_retVE g1 g2 g3 g4
    · exact ps_retE (S.e _)
  · exact ps_retE (S.e _)
  · exact ps_ifE (S.t _) (ih.b L _) (ih.b L _)
  · dsimp only
    split
    · rename_i h
      rw [Bool.and_eq_true] at h
      exact ps_forE f.own f.calm (S.i _ _) (cG_ok f n _ h.1) (ih.b L _) (folded_ok (isSet_no h.2))
    · exact ps_stk'
  · exact ps_whlE f.own (S.t _) (ih.b L _)
  · exact ps_brkE
  · exact ps_cntE
  · exact ps_passE
  · exact ps_stk'
theorem cB_step {fu : Nat} (f : Fit W pg run k C Wx X) (ih : SndS W pg run fu n C Wx X) (L : List Nat) : ∀ xs, PSs X xs (tSm L W Wx (evS pg run fu L (cB (n + 1) C xs))) := by
  intro xs
  match xs with
  | [] => exact pss_nilE
  | [s] => exact pss_oneE (ih.s L s)
  | s :: s' :: ss => exact pss_seq (ih.s L s) (ih.b L _)
theorem sndS_all {fu : Nat} (f : Fit W pg run k C Wx X) : ∀ n, SndS W pg run fu n C Wx X
  | 0 => ⟨fun L x => ps_stk', fun L xs => pss_stk'⟩
  | n + 1 => ⟨fun L => cS_step f (sndS_all f n) L, fun L => cB_step f (sndS_all f n) L⟩
end
end Wpk
set_option Elab.async false
set_option linter.all false
set_option maxRecDepth 100000
set_option maxHeartbeats 4000000
/-! K6: a program: all its defs keep what their runs say; the law. -/
namespace Wpk
open PySem PySem.Spec PyProof.Rows L2
/-- a def as it stands in the row, its slots' names -/
structure Df where
  name : Str
  qual : Str
  params : Arguments
  body : List Stmt
  scope : Scope
  N : List Str
  ps : List Str
/-- the program as it is compiled -/
structure Tab where
  defs : List Df
  fns : List (Str × Nat)
  gls : List (Str × Nat)
  bls : List Str
  fuel : Nat
  flds : List (Str × List Nat) := []
  mts : List (Str × Nat × Nat) := []
  prs : List (Str × Nat × Nat) := []
  mks : List (Str × Nat × Nat) := []
  dfs : List (Nat × Nat × List D) := []
  cms : List ((Str × Str) × Nat × Nat) := []
  mki : List (Nat × Nat) := []
def Tab.cc (T : Tab) (d : Df) : Cc := ⟨d.N, d.scope, d.scope, T.fns, T.gls, T.bls, T.flds, T.mts, T.prs, T.mks, T.dfs, T.cms, T.mki⟩
def Tab.fd (T : Tab) (d : Df) : Fd := ⟨d.ps.length, d.N.length, cB T.fuel (T.cc d) d.body⟩
def Tab.fds (T : Tab) : List Fd := T.defs.map T.fd
/-- what is known of a program behind its top -/
structure Known (W : Wd) (pg : Pg) (T : Tab) (mg : Str → Option Value) (fA : Nat → Addr) (fdOf : Nat → FuncData) : Prop where
  fn : ∀ i d, T.defs[i]? = some d → FnScope d.N d.ps d.scope ∧ (∃ dvs kws, FunD W.K d.name d.qual d.params d.body d.scope dvs kws (fA i) (fdOf i)) ∧ Binds W.K (fdOf i) d.ps []
  df : ∀ i d n ds, T.defs[i]? = some d → (T.dfs.find? fun q => q.1 == i && q.2.1 == n).map (·.2.2) = some ds → Dfl W (fdOf i) d.ps ds
  nm : ∀ x i, T.fns.lookup x = some i → (∃ d, T.defs[i]? = some d) ∧ mg x = some (.ref (fA i))
  gl : ∀ x i, T.gls.lookup x = some i → ∃ u v d, mg x = some u ∧ RelV v u ∧ pg.gl i = some d ∧ ∀ G H, Ow W G H d [] v
  bl : ∀ x ∈ T.bls, mg x = none
  fl : ∀ x cs, T.flds.lookup x = some cs → ∀ c ∈ cs, Cls W.K (W.cA c) ∧ NoAttr W.K (W.cA c) x
  mt : ∀ x c i, T.mts.lookup x = some (c, i) → (∃ d, T.defs[i]? = some d) ∧ Cls W.K (W.cA c) ∧ Meth W.K (W.cA c) x (fA i)
  pr : ∀ x c i, T.prs.lookup x = some (c, i) → (∃ d, T.defs[i]? = some d) ∧ Cls W.K (W.cA c) ∧ ∃ p, PropOf W.K (W.cA c) x p (fA i)
  ma : ∀ x c i, T.mks.lookup x = some (c, i) → (∃ d, T.defs[i]? = some d) ∧ mg x = some (.ref (W.cA c)) ∧ Mk W.K (W.cA c) (fA i)
  cm : ∀ x m c i, T.cms.lookup (x, m) = some (c, i) → (∃ d, T.defs[i]? = some d) ∧ mg x = some (.ref (W.cA c)) ∧ ∃ mc q0, ClX.CRead W.K (W.cA c) mc ∧ ClX.CMet W.K (W.cA c) mc m q0 (fA i)
  mi : ∀ c i, T.mki.lookup c = some i → (∃ d, T.defs[i]? = some d) ∧ Mk W.K (W.cA c) (fA i)
section
variable {W : Wd} {pg : Pg} {T : Tab} {mg : Str → Option Value} {fA : Nat → Addr} {fdOf : Nat → FuncData} {P : Program} {w : World} {base : Heap} {fu : Nat}
theorem fn_zero {f : Addr} {fd : FuncData} {ps : List Str} {i lv : Nat} : FnG P w W.K mg base (L2.CX P w) lv f fd ps (spOf W (runF pg T.fds fu 0 i)) := ⟨fun _ _ _ _ ⟨_, _, _, _, _, _, z⟩ => z.elim, fun _ _ _ _ _ _ _ _ _ _ _ _ _ _ ⟨_, _, _, _, _, _, z⟩ => z.elim⟩
theorem prog_ok (Kn : Known W pg T mg fA fdOf) : ∀ k i d, T.defs[i]? = some d → FnG P w W.K mg base (L2.CX P w) (2 * k) (fA i) (fdOf i) d.ps (spOf W (runF pg T.fds fu k i))
  | 0, i, d, _ => fn_zero
  | k + 1, i, d, hd => by
    obtain ⟨S, ⟨dvs, kws, Fn⟩, _⟩ := Kn.fn i d hd
    have hf : T.fds[i]? = some (T.fd d) := by
      unfold Tab.fds
      rw [List.getElem?_map, hd]
      rfl
    refine fn_okE (lv := 2 * k + 1) hf rfl rfl Fn S fun L cdv A outer s H E hr hG => ?_
    have fit : Fit W pg (runF pg T.fds fu k) (2 * k) (T.cc d) (fun cls d _ H' => E cls d H') (cxOf (L2.CX P w) P w W.K mg base d.N d.qual d.scope (fA i) cdv A outer s H E) := {
      hN := rfl
      nd := S.nd
      hsc := rfl
      kind := S.kind
      sto := fun x h => ⟨h, .inl rfl⟩
      calm := rfl
      hK := rfl
      room := hr
      gd := hG
      tk := takes_of rfl rfl rfl rfl
      own := passes_of rfl
      fns := fun x j hx => by
        obtain ⟨⟨d', hd'⟩, hm⟩ := Kn.nm x j hx
        obtain ⟨_, ⟨dvs', kws', Fn'⟩, hb⟩ := Kn.fn j d' hd'
        exact ⟨fA j, fdOf j, d'.ps, hm, Fn'.kp, ⟨hb, fun n ds h => Kn.df j d' n ds hd' h⟩, prog_ok Kn k j d' hd'⟩
      gls := Kn.gl
      bls := Kn.bl
      flds := Kn.fl
      mts := fun x c j hx => by
        obtain ⟨⟨d', hd'⟩, h1, h2⟩ := Kn.mt x c j hx
        obtain ⟨_, ⟨dvs', kws', Fn'⟩, hb⟩ := Kn.fn j d' hd'
        exact ⟨h1, fA j, fdOf j, d'.ps, h2, hb, prog_ok Kn k j d' hd'⟩
      prs := fun x c j hx => by
        obtain ⟨⟨d', hd'⟩, h1, p, h2⟩ := Kn.pr x c j hx
        obtain ⟨_, ⟨dvs', kws', Fn'⟩, hb⟩ := Kn.fn j d' hd'
        exact ⟨h1, p, fA j, fdOf j, d'.ps, h2, hb, prog_ok Kn k j d' hd'⟩
      mks := fun x c j hx => by
        obtain ⟨⟨d', hd'⟩, h1, h2⟩ := Kn.ma x c j hx
        obtain ⟨_, ⟨dvs', kws', Fn'⟩, hb⟩ := Kn.fn j d' hd'
        exact ⟨h1, fA j, fdOf j, d'.ps, h2, ⟨hb, fun n ds h => Kn.df j d' n ds hd' h⟩, prog_ok Kn k j d' hd'⟩
      cms := fun x m c j hx => by
        obtain ⟨⟨d', hd'⟩, h1, mc, q0, h2, h3⟩ := Kn.cm x m c j hx
        obtain ⟨_, ⟨dvs', kws', Fn'⟩, hb⟩ := Kn.fn j d' hd'
        exact ⟨h1, mc, q0, fA j, fdOf j, d'.ps, h2, h3, ⟨hb, fun n ds h => Kn.df j d' n ds hd' h⟩, prog_ok Kn k j d' hd'⟩
      mki := fun c j hx => by
        obtain ⟨⟨d', hd'⟩, h2⟩ := Kn.mi c j hx
        obtain ⟨_, ⟨dvs', kws', Fn'⟩, hb⟩ := Kn.fn j d' hd'
        exact ⟨fA j, fdOf j, d'.ps, h2, hb, prog_ok Kn k j d' hd'⟩ }
    exact (sndS_all fit T.fuel).b L d.body
/-- the script -/
theorem ow_ints : ∀ {G H : Hp} (ns : List Int), OwL W G H (ns.map D.int) [] (ns.map V.int)
  | _, _, [] => ⟨rfl, rfl⟩
  | _, _, n :: ns => ⟨[], [], .int n, ns.map V.int, rfl, rfl, ⟨rfl, rfl⟩, ow_ints ns⟩
/-- the law's promise from its run -/
theorem law_sp {k i : Nat} {H : Hp} {a : Addr} {ns : List Int} {fs : Env} (hS : SqL W.K H a (ns.map V.int)) (h : runF pg T.fds fu k i [.ksq (ns.map D.int)] = .ok (.bl true) fs) : spOf W (runF pg T.fds fu k i) [.ref a] H (fun v _ => v = .bl true) fun _ _ _ => False := by
  refine ⟨H, [.ksq (ns.map D.int)], [], Sm.refl, List.nodup_nil, ⟨[], [], .ref a, [], rfl, rfl, ⟨rfl, a, ns.map V.int, rfl, hS, ow_ints ns⟩, rfl, rfl⟩, ?_⟩
  rw [h]
  exact fun v G' H' F' Fv _ _ o => o.2
end
end Wpk
set_option Elab.async false
set_option linter.all false
set_option maxRecDepth 100000
set_option maxHeartbeats 4000000
/-! K9: the law's end. -/
namespace Wpk
open PySem PySem.Spec PyProof.Rows L2
theorem lookup_cases {κ α : Type} [BEq κ] [LawfulBEq κ] {x : κ} {i : α} : ∀ {l : List (κ × α)}, l.lookup x = some i → (x, i) ∈ l
  | [], h => nomatch h
  | (y, j) :: l, h => by
    rw [List.lookup_cons] at h
    split at h
    · rename_i e
      cases h
      rw [eq_of_beq e]
      exact List.mem_cons_self
    · exact List.mem_cons_of_mem _ (lookup_cases h)
theorem walk_end {l : PySem.W.OpenLaw} {q : Program} {loose : List Str} {XP : (Str → Option Value) → Heap → Prop} {YP : World → Heap → Prop} {d : DefRec} {x : Str} {pg : Pg} {T : Tab} {fu kk i : Nat} {w0 : PySem.W.Frag → Wd}
    (hw0 : ∀ K, (w0 K).K = K) (hn : l.most = some 63) (hdf : d.params.defaults = []) (hkk : L2.Room (2 * kk) callerA)
    (hrun : ∀ ns : List Int, ns.length ≤ 63 → ∃ fs, runF pg T.fds fu kk i [.ksq (ns.map D.int)] = .ok (.bl true) fs)
    (F : ∀ (w : World) (mg : Str → Option Value) (fa : Addr) (h : Heap), YP w h → h.Ns mainGlobals mg → mg d.name = some (.ref fa) →
      ∃ (K : PySem.W.Frag) (fd : FuncData), K.In h ∧ (∀ (s : Shared) (u : Value), BindsTo s fd ⟨[u], []⟩ [(x, u)]) ∧
        ∀ (fu k : Nat) (base : Heap), FnG l.prog w K mg base (L2.CX l.prog w) (2 * k) fa fd [x] (spOf (w0 K) (runF pg T.fds fu k i))) :
    PySem.W.WalkO q loose XP YP l.row.toRowW d [] (fun f vs => PySem.call f vs) := by
  refine walk_ofG (l := l) (n := 63) (k := 2 * kk) (x := x) hn (by decide) hdf hkk fun w mg fa h Y G hm => ?_
  obtain ⟨K, fd, KX, hb, hF⟩ := F w mg fa h Y G hm
  refine ⟨K, fd, spOf (w0 K) (runF pg T.fds fu kk i), KX, hb, fun H a ns hl hS => ?_, fun base => hF fu kk base⟩
  obtain ⟨fs, hr⟩ := hrun ns hl
  exact law_sp (by rw [hw0]; exact hS) hr
end Wpk
set_option Elab.async false
set_option linter.all false
set_option maxRecDepth 100000
set_option maxHeartbeats 4000000
/-! K10: what a head tells: facts of one's own about the written part. -/
namespace Wpk
open PySem PySem.Spec PyProof.Rows L2
abbrev Fx := PySem.W.Frag → Bool
abbrev AlX : Type := Bool × List He5.FnW
def lookX (fx : List Fx) (fn : List He5.DefA) (K : PySem.W.Frag) : AlX := (fx.all (fun f => f K) && fn.all (fun d => d.ok K), fn.map (fun d => He5.fnA K (d.at_ K)))
def wantX (fn : List He5.DefA) : AlX := (true, fn.map He5.DefA.val)
def ToldX (fx : List Fx) (fn : List He5.DefA) (K : PySem.W.Frag) : Prop := lookX fx fn K = wantX fn
def lookG (n : Nat) (fx : List Fx) (fn : List He5.DefA) (g : Addr → Option Obj) : AlX := lookX fx fn (He.frG g (He5.asA g n))
def hookX (n : Nat) (fx : List Fx) (fn : List He5.DefA) : PySem.W.Hook where
  α := AlX
  obs := fun s => lookG n fx fn s.heap.get?
  val := fun _ => wantX fn
  says := fun _ h => ∃ K : PySem.W.Frag, K.In h ∧ ToldX fx fn K
  of := fun _ _ e => ⟨_, He.frG_in, e⟩
  keeps := fun _ _ _ ⟨K, hK, c⟩ k => ⟨K, PySem.W.Frag.In.keeps hK k, c⟩
theorem lookG_eq {n : Nat} {fx : List Fx} {fn : List He5.DefA} {g : Addr → Option Obj} {s : Shared} (h : ∀ a, g a = s.heap.get? a) : lookG n fx fn g = (hookX n fx fn).obs s := by
  rw [show g = s.heap.get? from funext h] <;> rfl
section
variable {fx : List Fx} {fn : List He5.DefA} {K : PySem.W.Frag}
theorem ToldX.fact (c : ToldX fx fn K) {f : Fx} (h : f ∈ fx) : f K = true := by
  have z : (fx.all (fun f => f K) && fn.all (fun d => d.ok K)) = true := congrArg (fun q : AlX => q.1) c
  rw [Bool.and_eq_true] at z
  exact List.all_eq_true.mp z.1 f h
theorem ToldX.at (c : ToldX fx fn K) (i : Nat) {f : Fx} (h : fx[i]? = some f) : f K = true := c.fact (List.mem_of_getElem? h)
theorem ToldX.def_ (c : ToldX fx fn K) (i : Nat) {d : He5.DefA} (h : fn[i]? = some d) : ∃ fd, L2.FunD K d.name d.qual d.params d.body d.scope (d.dvs K) (d.kws K) (d.at_ K) fd := by
  have z : (fx.all (fun f => f K) && fn.all (fun d => d.ok K)) = true := congrArg (fun q : AlX => q.1) c
  rw [Bool.and_eq_true] at z
  have e : fn.map (fun d => He5.fnA K (d.at_ K)) = fn.map He5.DefA.val := congrArg (fun q : AlX => q.2) c
  have e2 := congrArg (fun l => l[i]?) e
  simp only [List.getElem?_map, h] at e2
  exact He5.DefA.funD (Option.some.inj e2) (List.all_eq_true.mp z.2 d (List.mem_of_getElem? h))
/-! ### properties -/
def prpB (x f : Str) (K : PySem.W.Frag) : Bool := He.eqO (PySem.W.findIn K (.ref (He.ga K x)) f) (some (some (.ref (He.ma K (He.ga K x) f)))) && (He.eqO (PySem.W.specialIn K (.ref (He.ma K (He.ga K x) f)) "__get__") (some (some (.builtin "property.__get__"))) &&
  (decide (PySem.W.takesIn K (.ref (He.ma K (He.ga K x) f)) = some true) && (match PySem.W.recIn K (He.ma K (He.ga K x) f) "property" with
    | some (.ref _ :: _) => true
    | _ => false)))
theorem prpB_ok {x f : Str} (h : prpB x f K = true) : PropOf K (He.ga K x) f (He.ma K (He.ga K x) f) (He5.wf K (He.ga K x) "property" f) := by
  unfold prpB at h
  simp only [Bool.and_eq_true] at h
  obtain ⟨h1, h2, h3, h4⟩ := h
  refine ⟨He.eqO_ok h1, He.eqO_ok h2, of_decide_eq_true h3, ?_⟩
  unfold He5.wf
  split at h4
  · rename_i g r e
    exact ⟨r, by rw [e]⟩
  · cases h4
/-! ### data of the top -/
mutual
def datB (K : PySem.W.Frag) : Nat → D → Value → Bool
  | _, .int i, .int j _ => decide (i = j)
  | _, .bl i, .bool j => decide (i = j)
  | _, .non, .none => true
  | _, .str s, .str z _ => decide (sOf s = z)
  | n + 1, .tup ds, .ref a => (match K.lookup a with
    | some ⟨.type c, _, .seq its _, _⟩ => decide (c = "tuple") && (decide (its.size ≤ sizeLine) && datBs K n ds its.toList)
    | _ => false)
  | _, _, _ => false
def datBs (K : PySem.W.Frag) : Nat → List D → List Value → Bool
  | _, [], [] => true
  | n, d :: ds, u :: us => datB K n d u && datBs K n ds us
  | _, _, _ => false
end
variable {W : Wd}
mutual
theorem datB_ok (hK : W.K = K) : ∀ (n : Nat) (d : D) (u : Value), datB K n d u = true → ∃ v, RelV v u ∧ ∀ G H, Ow W G H d [] v
  | n, .int i, u, h => by
    cases u with
    | int j t => 
      have e : i = j := of_decide_eq_true (by unfold datB at h; exact h)
      subst e
      exact ⟨.int i, ⟨t, rfl⟩, fun _ _ => ⟨rfl, rfl⟩⟩
    | _ => unfold datB at h; cases h
  | n, .bl i, u, h => by
    cases u with
    | bool j =>
      have e : i = j := of_decide_eq_true (by unfold datB at h; exact h)
      subst e
      exact ⟨.bl i, rfl, fun _ _ => ⟨rfl, rfl⟩⟩
    | _ => unfold datB at h; cases h
  | n, .non, u, h => by
    cases u with
    | none => exact ⟨.non, rfl, fun _ _ => ⟨rfl, rfl⟩⟩
    | _ => unfold datB at h; cases h
  | n, .str s, u, h => by
    cases u with
    | str z t =>
      have e : sOf s = z := of_decide_eq_true (by unfold datB at h; exact h)
      subst e
      exact ⟨.str (sOf s), ⟨t, rfl⟩, fun _ _ => ⟨rfl, rfl⟩⟩
    | _ => unfold datB at h; cases h
  | 0, .tup ds, u, h => by cases u <;> (unfold datB at h; cases h)
  | n + 1, .tup ds, u, h => by
    cases u with
    | ref a =>
      unfold datB at h
      split at h
      · rename_i c od its k sl e
        simp only [Bool.and_eq_true, decide_eq_true_eq] at h
        obtain ⟨h1, h2, h3⟩ := h
        obtain ⟨vs, r, o⟩ := datBs_ok hK n ds its.toList h3
        refine ⟨.ref a, rfl, fun G H => ⟨rfl, a, vs, rfl, .inr ⟨_, its, k, by rw [hK]; exact e, by rw [h1], rfl, h2, r⟩, o G H⟩⟩
      · cases h
    | _ => unfold datB at h; cases h
  | n, .lst _ _, u, h => by cases n <;> cases u <;> (unfold datB at h; cases h)
  | n, .dct _ _ _ _, u, h => by cases n <;> cases u <;> (unfold datB at h; cases h)
  | n, .ins _ _ _ _, u, h => by cases n <;> cases u <;> (unfold datB at h; cases h)
  | n, .ty _, u, h => by cases n <;> cases u <;> (unfold datB at h; cases h)
  | n, .cls _, u, h => by cases n <;> cases u <;> (unfold datB at h; cases h)
  | n, .fn _, u, h => by cases n <;> cases u <;> (unfold datB at h; cases h)
  | n, .ksq _, u, h => by cases n <;> cases u <;> (unfold datB at h; cases h)
theorem datBs_ok (hK : W.K = K) : ∀ (n : Nat) (ds : List D) (us : List Value), datBs K n ds us = true → ∃ vs, Vals vs us ∧ ∀ G H, OwL W G H ds [] vs
  | n, [], [], h => ⟨[], .nil, fun _ _ => ⟨rfl, rfl⟩⟩
  | n, [], _ :: _, h => by unfold datBs at h; cases h
  | n, _ :: _, [], h => by unfold datBs at h; cases h
  | n, d :: ds, u :: us, h => by
    unfold datBs at h
    rw [Bool.and_eq_true] at h
    obtain ⟨v, r, o⟩ := datB_ok hK n d u h.1
    obtain ⟨vs, rs, os⟩ := datBs_ok hK n ds us h.2
    exact ⟨v :: vs, .cons r rs, fun G H => ⟨[], [], v, vs, rfl, rfl, o G H, os G H⟩⟩
end
/-- a global that is data -/
def gloB (x : Str) (d : D) (K : PySem.W.Frag) : Bool := match PySem.W.nsIn K mainGlobals x with
  | some (some u) => datB K 5 d u
  | _ => false
theorem gloB_ok {h : Heap} {mg : Str → Option Value} (hK : W.K = K) (X : K.In h) (G : h.Ns mainGlobals mg) {x : Str} {d : D} (c : gloB x d K = true) : ∃ u v, mg x = some u ∧ RelV v u ∧ ∀ G H, Ow W G H d [] v := by
  unfold gloB at c
  split at c
  · rename_i u e
    obtain ⟨v, r, o⟩ := datB_ok hK 5 d u c
    exact ⟨u, v, PySem.W.mg_of X G e, r, o⟩
  · cases c
/-! ### defaults -/
/-- the i-th default of the def at f, an object -/
def dflA (f : PySem.W.Frag → Addr) (i : Nat) (K : PySem.W.Frag) : Addr := match K.lookup (f K) with
  | some o => (match o.data with
    | .func fd => (match fd.defaults with
      | .ref T => (match K.lookup T with
        | some o2 => (match o2.data with
          | .seq its _ => (match its.toList[i]? with
            | some (.ref a) => a
            | _ => 0)
          | _ => 0)
        | none => 0)
      | _ => 0)
    | _ => 0)
  | none => 0
/-- an empty tuple stands there -/
def tup0B (f : PySem.W.Frag → Addr) (K : PySem.W.Frag) : Bool := datB K 1 (.tup []) (.ref (f K))
theorem relV_ref {v : V} {a : Addr} (h : RelV v (.ref a)) : v = .ref a := by
  cases v with
  | ref b => cases h; rfl
  | non => cases h
  | bl b => cases h
  | ty b => cases h
  | int i => obtain ⟨t, e⟩ := h; cases e
  | str i => obtain ⟨t, e⟩ := h; cases e
  | byt i => obtain ⟨t, e⟩ := h; cases e
  | flt i => obtain ⟨t, e⟩ := h; cases e
theorem tup0B_ok (hK : W.K = K) {f : PySem.W.Frag → Addr} (h : tup0B f K = true) (G H : Hp) : Ow W G H (.tup []) [] (.ref (f K)) := by
  obtain ⟨v, r, o⟩ := datB_ok hK 1 (.tup []) (.ref (f K)) h
  rw [← relV_ref r]
  exact o G H
theorem vals_nil {us : List Value} (h : Vals [] us) : us = [] := by cases h; rfl
/-! ### classmethods -/
def cmB (x m : Str) (K : PySem.W.Frag) : Bool := He5.wrapB K (He.ga K x) "classmethod" "classmethod.__get__" m && (PySem.W.fnIn K (He5.wf K (He.ga K x) "classmethod" m) && (PySem.W.readsIn K (He.ga K x) (.type "type") && He.eqO (PySem.W.specialIn K (.ref (He.ga K x)) "__getattribute__") (some (some (.builtin "type.__getattribute__")))))
theorem cmB_ok {x m : Str} (h : cmB x m K = true) : ClX.CRead K (He.ga K x) (.type "type") ∧ ClX.CMet K (He.ga K x) (.type "type") m (He.ma K (He.ga K x) m) (He5.wf K (He.ga K x) "classmethod" m) := by
  unfold cmB at h
  simp only [Bool.and_eq_true] at h
  exact ⟨⟨h.2.2.1, He.eqO_ok h.2.2.2⟩, He5.cmet_of h.1 h.2.1⟩
def fa (f : He.Fa) : Fx := fun K => f.ok K
end
end Wpk
set_option Elab.async false
set_option linter.all false
set_option maxRecDepth 100000
/-! M0: how a run is reckoned: rules for simp. -/
namespace Wpk.M
open PySem
section
variable {α β : Type} {P : Pg} {c : Nat → List D → R D} {fu : Nat} {L : List Nat} {e : Env}
@[simp] theorem bind_ok {a : α} {f : α → Env → R β} : R.bind (.ok a e) f = f a e := (rfl)
@[simp] theorem bind_no {f : α → Env → R β} : R.bind (.no : R α) f = .no := (rfl)
@[simp] theorem bind_exc {x : Exn} {f : α → Env → R β} : R.bind (.exc x e : R α) f = .exc x e := (rfl)
@[simp] theorem of_some {a : α} : R.of (some a) e = .ok a e := (rfl)
@[simp] theorem of_none : R.of (none : Option α) e = .no := (rfl)
@[simp] theorem nox_ok {a : α} : (R.ok a e).nox = .ok a e := (rfl)
@[simp] theorem nox_no : (R.no : R α).nox = .no := (rfl)
@[simp] theorem get_zero {x : Option D} {r : Env} : Env.get (x :: r) 0 = x := by cases x <;> rfl
@[simp] theorem get_succ {x : Option D} {r : Env} {n : Nat} : Env.get (x :: r) (n + 1) = Env.get r n := (rfl)
@[simp] theorem put_zero {x : Option D} {r : Env} {d : D} : Env.put (x :: r) 0 d = some d :: r := (rfl)
@[simp] theorem put_succ {x : Option D} {r : Env} {n : Nat} {d : D} : Env.put (x :: r) (n + 1) d = x :: Env.put r n d := (rfl)
@[simp] theorem del_zero {x : Option D} {r : Env} : Env.del (x :: r) 0 = none :: r := (rfl)
@[simp] theorem del_succ {x : Option D} {r : Env} {n : Nat} : Env.del (x :: r) (n + 1) = x :: Env.del r n := (rfl)
/-! ### data -/
@[simp] theorem owned_int {i : Int} : owned (.int i) = false := (rfl)
@[simp] theorem owned_str {i : List Nat} : owned (.str i) = false := (rfl)
@[simp] theorem owned_bl {i : Bool} : owned (.bl i) = false := (rfl)
@[simp] theorem owned_non : owned .non = false := (rfl)
@[simp] theorem owned_tup {xs : List D} : owned (.tup xs) = false := (rfl)
@[simp] theorem owned_ksq {xs : List D} : owned (.ksq xs) = false := (rfl)
@[simp] theorem owned_lst {m : Bool} {xs : List D} : owned (.lst m xs) = m := (rfl)
@[simp] theorem owned_dct {m t : Bool} {ks xs : List D} : owned (.dct m t ks xs) = m := (rfl)
@[simp] theorem owned_ins {m : Bool} {k : Nat} {fs : List Str} {xs : List D} : owned (.ins m k fs xs) = m := (rfl)
@[simp] theorem owned_ty {n : String} : owned (.ty n) = false := (rfl)
/-! ### expressions -/
@[simp] theorem evE_var {i : Nat} : evE P c (.var i) e = semVar i e := (rfl)
@[simp] theorem evE_cst {d : D} : evE P c (.cst d) e = .ok d e := (rfl)
@[simp] theorem evE_gl {i : Nat} : evE P c (.gl i) e = R.of (P.gl i) e := (rfl)
@[simp] theorem evE_op {o : Operator} {a b : T} : evE P c (.op o a b) e = sem2 (opD o) (evO P c a) (evO P c b) e := (rfl)
@[simp] theorem evE_cmp {o : CmpOp} {a b : T} : evE P c (.cmp o a b) e = sem2 (cmpG o) (evO P c a) (evO P c b) e := (rfl)
@[simp] theorem evE_chn {o o' : CmpOp} {a b z : T} : evE P c (.chn o o' a b z) e = semChn o o' (evO P c a) (evO P c b) (evO P c z) e := (rfl)
@[simp] theorem evE_neg {a : T} : evE P c (.neg a) e = semNeg (evE P c a) e := (rfl)
@[simp] theorem evE_nt {a : T} : evE P c (.nt a) e = semNot (evE P c a) e := (rfl)
@[simp] theorem evE_an {a b : T} : evE P c (.an a b) e = semAn (evE P c a) (evE P c b) e := (rfl)
@[simp] theorem evE_orr {a b : T} : evE P c (.orr a b) e = semOrr (evE P c a) (evE P c b) e := (rfl)
@[simp] theorem evE_ite {t a b : T} : evE P c (.ite t a b) e = semIte (evT P c t) (evE P c a) (evE P c b) e := (rfl)
@[simp] theorem evE_call {f : Nat} {as : T} : evE P c (.call f as) e = semCall c f (evOs P c as) e := (rfl)
@[simp] theorem evE_bi {b : Bi} {as : T} : evE P c (.bi b as) e = semBi (biD b) (evOs P c as) e := (rfl)
@[simp] theorem evE_bi2 {b : Bi2} {as : T} : evE P c (.bi2 b as) e = semBi (bi2D b) (evOs P c as) e := (rfl)
@[simp] theorem evE_idx {a b : T} : evE P c (.idx a b) e = sem2 idxF (evO P c a) (evO P c b) e := (rfl)
@[simp] theorem evE_slc {a l h : T} : evE P c (.slc a l h) e = semSlc (evO P c a) (evL P c l) (evL P c h) e := (rfl)
@[simp] theorem evE_tupD {as : T} : evE P c (.tupD as) e = semTup (evVs P c as) e := (rfl)
@[simp] theorem evE_lstD {as : T} : evE P c (.lstD as) e = semLst (evVs P c as) e := (rfl)
@[simp] theorem evE_lc {vs : List Nat} {tg it t x : T} {k : It} : evE P c (.lc vs tg k it t x) e = semLc vs (semIt k (evVs P c it)) (bindT [] tg) (evT P c t) (evE P c x) e := (rfl)
@[simp] theorem evE_lc2 {vs vs' : List Nat} {tg it tg' it' t x : T} {k k' : It} : evE P c (.lc2 vs vs' tg k it tg' k' it' t x) e = semLc2 vs vs' (semIt k (evVs P c it)) (bindT [] tg) (semIt k' (evVs P c it')) (bindT [] tg') (evT P c t) (evE P c x) e := (rfl)
@[simp] theorem evE_app {i : Nat} {x : T} : evE P c (.app i x) e = semApp i (evE P c x) e := (rfl)
@[simp] theorem evE_mt {m : Mb} {o as : T} : evE P c (.mt m o as) e = semMt (mbT m) (mtD m) (evO P c o) (evOs P c as) e := (rfl)
@[simp] theorem evE_mut {u : Mu} {i : Nat} {as : T} : evE P c (.mut u i as) e = semMut (muT u) (mutD u) i (evVs P c as) e := (rfl)
@[simp] theorem evE_fld {cs : List Nat} {f : Str} {o : T} : evE P c (.fld cs f o) e = semFld cs f (evO P c o) e := (rfl)
@[simp] theorem evE_prp {k f : Nat} {o : T} : evE P c (.prp k f o) e = semPrp c k f (evO P c o) e := (rfl)
@[simp] theorem evE_meth {k f : Nat} {m : Str} {o as : T} : evE P c (.meth k f m o as) e = semMeth c k f m (evO P c o) (evOs P c as) e := (rfl)
@[simp] theorem evE_mk {k f : Nat} {as : T} : evE P c (.mk k f as) e = semMk c k f (evOs P c as) e := (rfl)
@[simp] theorem evO_pk {i : Nat} : evO P c (.pk i) e = semPk i e := (rfl)
@[simp] theorem evO_ov {x : T} : evO P c (.ov x) e = semOv (evE P c x) e := (rfl)
@[simp] theorem evOs_nil : evOs P c .nil e = .ok [] e := (rfl)
@[simp] theorem evOs_cons {a r : T} : evOs P c (.cons a r) e = semOc (evO P c a) (evOs P c r) e := (rfl)
@[simp] theorem evVs_nil : evVs P c .nil e = .ok [] e := (rfl)
@[simp] theorem evVs_cons {a r : T} : evVs P c (.cons a r) e = semVc (evE P c a) (evVs P c r) e := (rfl)
@[simp] theorem evL_nil : evL P c .nil e = .ok none e := (rfl)
@[simp] theorem evL_ov {x : T} : evL P c (.ov x) e = semL1 (evE P c x) e := (rfl)
@[simp] theorem evT_tv {x : T} : evT P c (.tv x) e = semTv (evE P c x) e := (rfl)
@[simp] theorem evT_tnt {x : T} : evT P c (.tnt x) e = semTnt (evT P c x) e := (rfl)
@[simp] theorem evT_tan {a b : T} : evT P c (.tan a b) e = semTan (evT P c a) (evT P c b) e := (rfl)
@[simp] theorem evT_tor {a b : T} : evT P c (.tor a b) e = semTor (evT P c a) (evT P c b) e := (rfl)
@[simp] theorem evT_yes : evT P c .yes e = .ok true e := (rfl)
/-! ### statements -/
@[simp] theorem evS_asg {tg x : T} : evS P c fu L (.asg tg x) e = semAsg (bindT L tg) (evE P c x) e := (rfl)
@[simp] theorem evS_par {is : List Nat} {as : T} : evS P c fu L (.par is as) e = semPar L is (evVs P c as) e := (rfl)
@[simp] theorem evS_aug {i : Nat} {o : Operator} {x : T} : evS P c fu L (.aug i o x) e = semAug L i o (evE P c x) e := (rfl)
@[simp] theorem evS_sfld {cs : List Nat} {i : Nat} {f : Str} {x : T} : evS P c fu L (.sfld cs i f x) e = semSfld cs i f (evE P c x) e := (rfl)
@[simp] theorem evS_sub {i : Nat} {j x : T} : evS P c fu L (.sub i j x) e = semSub i (evE P c j) (evE P c x) e := (rfl)
@[simp] theorem evS_ex {x : T} : evS P c fu L (.ex x) e = semEx (evE P c x) e := (rfl)
@[simp] theorem evS_ret {x : T} : evS P c fu L (.ret x) e = semRet (evE P c x) e := (rfl)
@[simp] theorem evS_retV {i : Nat} : evS P c fu L (.retV i) e = semRetV L i e := (rfl)
@[simp] theorem evS_retN : evS P c fu L .retN e = .ok (.rt .non) e := (rfl)
@[simp] theorem evS_ifS {t a b : T} : evS P c fu L (.ifS t a b) e = semIf (evT P c t) (evS P c fu L a) (evS P c fu L b) e := (rfl)
@[simp] theorem evS_forS {tg it b : T} {k : It} : evS P c fu L (.forS tg k it b) e = semFor (semIt k (evVs P c it)) (bindT L tg) (evS P c fu L b) e := (rfl)
@[simp] theorem evS_whl {t b : T} : evS P c fu L (.whl t b) e = loopW (evT P c t) (evS P c fu L b) fu e := (rfl)
@[simp] theorem evS_brk : evS P c fu L .brk e = .ok .bk e := (rfl)
@[simp] theorem evS_cnt : evS P c fu L .cnt e = .ok .ct e := (rfl)
@[simp] theorem evS_pas : evS P c fu L .pas e = .ok .nx e := (rfl)
@[simp] theorem evS_seq {a b : T} : evS P c fu L (.seq a b) e = semSeq (evS P c fu L a) (evS P c fu L b) e := (rfl)
/-! ### meanings: what follows is named, so that it is reckoned only when it is reached -/
def k2b (g : D → D → Option D) (x y : Od) (e2 : Env) : R D := match x.res e2, y.res e2 with
  | some p, some q => R.of (g p q) e2
  | _, _ => .no
def k2a (g : D → D → Option D) (m2 : Env → R Od) (x : Od) (e1 : Env) : R D := (m2 e1).bind (k2b g x)
@[simp] theorem sem2_eq {g : D → D → Option D} {m1 m2 : Env → R Od} : sem2 g m1 m2 e = (m1 e).bind (k2a g m2) := (rfl)
@[simp] theorem k2a_eq {g : D → D → Option D} {m2 : Env → R Od} {x : Od} : k2a g m2 x e = (m2 e).bind (k2b g x) := (rfl)
@[simp] theorem k2b_eq {g : D → D → Option D} {x y : Od} : k2b g x y e = match x.res e, y.res e with
  | some p, some q => R.of (g p q) e
  | _, _ => .no := (rfl)
@[simp] theorem semVar_eq {i : Nat} : semVar i e = match Env.get e i with
  | some d => if owned d then .ok (frz d) (Env.put e i (frz d)) else .ok d e
  | none => .no := (rfl)
@[simp] theorem semPk_eq {i : Nat} : semPk i e = match Env.get e i with
  | some _ => .ok (.slot i) e
  | none => .no := (rfl)
@[simp] theorem res_val {d : D} : Od.res e (.val d) = some d := (rfl)
@[simp] theorem res_slot {i : Nat} : Od.res e (.slot i) = Env.get e i := (rfl)
@[simp] theorem semTv_eq {m : Env → R D} : semTv m e = (m e).bind fun d e1 => R.of (truD d) e1 := (rfl)
@[simp] theorem semTnt_eq {m : Env → R Bool} : semTnt m e = (m e).bind fun b e1 => .ok (!b) e1 := (rfl)
def kTan (m2 : Env → R Bool) (k : Bool) (e1 : Env) : R Bool := if k then m2 e1 else .ok false e1
@[simp] theorem semTan_eq {m1 m2 : Env → R Bool} : semTan m1 m2 e = (m1 e).bind (kTan m2) := (rfl)
@[simp] theorem kTan_eq {m2 : Env → R Bool} {k : Bool} : kTan m2 k e = if k then m2 e else .ok false e := (rfl)
def kTor (m2 : Env → R Bool) (k : Bool) (e1 : Env) : R Bool := if k then .ok true e1 else m2 e1
@[simp] theorem semTor_eq {m1 m2 : Env → R Bool} : semTor m1 m2 e = (m1 e).bind (kTor m2) := (rfl)
@[simp] theorem kTor_eq {m2 : Env → R Bool} {k : Bool} : kTor m2 k e = if k then .ok true e else m2 e := (rfl)
@[simp] theorem semNeg_eq {m : Env → R D} : semNeg m e = (m e).bind fun d e1 => match d with
  | .int i => .ok (.int (-i)) e1
  | _ => .no := (rfl)
@[simp] theorem semNot_eq {m : Env → R D} : semNot m e = (m e).bind fun d e1 => match d with
  | .bl b => .ok (.bl (!b)) e1
  | _ => .no := (rfl)
def kAn (m2 : Env → R D) (d : D) (e1 : Env) : R D := match d with
  | .bl b => if b then m2 e1 else .ok (.bl false) e1
  | _ => .no
@[simp] theorem semAn_eq {m1 m2 : Env → R D} : semAn m1 m2 e = (m1 e).bind (kAn m2) := by
  unfold semAn
  congr 1
  funext d e1
  cases d with
  | bl b => cases b <;> rfl
  | _ => rfl
@[simp] theorem kAn_eq {m2 : Env → R D} {b : Bool} : kAn m2 (.bl b) e = if b then m2 e else .ok (.bl false) e := (rfl)
def kOrr (m2 : Env → R D) (d : D) (e1 : Env) : R D := match d with
  | .bl b => if b then .ok (.bl true) e1 else m2 e1
  | _ => .no
@[simp] theorem semOrr_eq {m1 m2 : Env → R D} : semOrr m1 m2 e = (m1 e).bind (kOrr m2) := by
  unfold semOrr
  congr 1
  funext d e1
  cases d with
  | bl b => cases b <;> rfl
  | _ => rfl
@[simp] theorem kOrr_eq {m2 : Env → R D} {b : Bool} : kOrr m2 (.bl b) e = if b then .ok (.bl true) e else m2 e := (rfl)
def kIte {α : Type} (m1 m2 : Env → R α) (k : Bool) (e1 : Env) : R α := if k then m1 e1 else m2 e1
@[simp] theorem semIte_eq {t : Env → R Bool} {m1 m2 : Env → R D} : semIte t m1 m2 e = (t e).bind (kIte m1 m2) := (rfl)
@[simp] theorem kIte_eq {m1 m2 : Env → R α} {k : Bool} : kIte m1 m2 k e = if k then m1 e else m2 e := (rfl)
def kVc (r : Env → R (List α)) (x : α) (e1 : Env) : R (List α) := (r e1).bind fun xs e2 => .ok (x :: xs) e2
@[simp] theorem kVc_eq {r : Env → R (List α)} {x : α} : kVc r x e = (r e).bind fun xs e2 => .ok (x :: xs) e2 := (rfl)
@[simp] theorem semVc_eq {m : Env → R D} {r : Env → R (List D)} : semVc m r e = (m e).bind (kVc r) := (rfl)
@[simp] theorem semOc_eq {m : Env → R Od} {r : Env → R (List Od)} : semOc m r e = (m e).bind (kVc r) := (rfl)
@[simp] theorem semLst_eq {m : Env → R (List D)} : semLst m e = (m e).bind fun ds e1 => if ds.length ≤ LN then .ok (.lst true ds) e1 else .no := (rfl)
@[simp] theorem semTup_eq {m : Env → R (List D)} : semTup m e = (m e).bind fun ds e1 => if ds.length ≤ LN then .ok (.tup (frzL ds)) e1 else .no := (rfl)
@[simp] theorem semL1_eq {m : Env → R D} : semL1 m e = (m e).bind fun d e1 => match d with
  | .int i => .ok (some i) e1
  | _ => .no := (rfl)
def kSl3 (x : Od) (l : Option Int) (h : Option Int) (e3 : Env) : R D := match x.res e3 with
  | some p => R.of (slcD p l h) e3
  | none => .no
def kSl2 (x : Od) (hi : Env → R (Option Int)) (l : Option Int) (e2 : Env) : R D := (hi e2).bind (kSl3 x l)
def kSl1 (lo hi : Env → R (Option Int)) (x : Od) (e1 : Env) : R D := (lo e1).bind (kSl2 x hi)
@[simp] theorem semSlc_eq {m : Env → R Od} {lo hi : Env → R (Option Int)} : semSlc m lo hi e = (m e).bind (kSl1 lo hi) := (rfl)
@[simp] theorem kSl1_eq {lo hi : Env → R (Option Int)} {x : Od} : kSl1 lo hi x e = (lo e).bind (kSl2 x hi) := (rfl)
@[simp] theorem kSl2_eq {hi : Env → R (Option Int)} {x : Od} {l : Option Int} : kSl2 x hi l e = (hi e).bind (kSl3 x l) := (rfl)
@[simp] theorem kSl3_eq {x : Od} {l h : Option Int} : kSl3 x l h e = match x.res e with
  | some p => R.of (slcD p l h) e
  | none => .no := (rfl)
@[simp] theorem resL_nil : resL e [] = some [] := (rfl)
@[simp] theorem resL_cons {o : Od} {os : List Od} : resL e (o :: os) = match o.res e, resL e os with
  | some d, some ds => some (d :: ds)
  | _, _ => none := (rfl)
@[simp] theorem semBi_eq {g : List D → Option D} {m : Env → R (List Od)} : semBi g m e = (m e).bind fun os e1 => match resL e1 os with
  | some ds => R.of (g ds) e1
  | none => .no := (rfl)
def kSeq (m2 : Env → R Fl) (f : Fl) (e1 : Env) : R Fl := match f with
  | .nx => m2 e1
  | f => .ok f e1
@[simp] theorem semSeq_eq {m1 m2 : Env → R Fl} : semSeq m1 m2 e = (m1 e).bind (kSeq m2) := (rfl)
@[simp] theorem kSeq_nx {m2 : Env → R Fl} : kSeq m2 .nx e = m2 e := (rfl)
@[simp] theorem kSeq_rt {m2 : Env → R Fl} {d : D} : kSeq m2 (.rt d) e = .ok (.rt d) e := (rfl)
@[simp] theorem kSeq_bk {m2 : Env → R Fl} : kSeq m2 .bk e = .ok .bk e := (rfl)
@[simp] theorem kSeq_ct {m2 : Env → R Fl} : kSeq m2 .ct e = .ok .ct e := (rfl)
@[simp] theorem semIf_eq {t : Env → R Bool} {m1 m2 : Env → R Fl} : semIf t m1 m2 e = (t e).bind (kIte m1 m2) := (rfl)
@[simp] theorem semEx_eq {m : Env → R D} : semEx m e = (m e).bind fun _ e1 => .ok .nx e1 := (rfl)
@[simp] theorem semRet_eq {m : Env → R D} : semRet m e = (m e).bind fun d e1 => .ok (.rt d) e1 := (rfl)
@[simp] theorem semRetV_eq {i : Nat} : semRetV L i e = match Env.get e i with
  | some d => if owned d then (if L.contains i then .ok (.rt (frz d)) (Env.put e i (frz d)) else .ok (.rt d) (Env.del e i)) else .ok (.rt d) e
  | none => .no := (rfl)
def kAsg (b : D → Env → Option Env) (d : D) (e1 : Env) : R Fl := (R.of (b d e1) e1).bind fun e2 _ => .ok .nx e2
@[simp] theorem semAsg_eq {b : D → Env → Option Env} {m : Env → R D} : semAsg b m e = (m e).bind (kAsg b) := (rfl)
@[simp] theorem kAsg_eq {b : D → Env → Option Env} {d : D} : kAsg b d e = (R.of (b d e) e).bind fun e2 _ => .ok .nx e2 := (rfl)
@[simp] theorem semOv_eq {m : Env → R D} : semOv m e = (m e).bind fun d e1 => .ok (.val d) e1 := (rfl)
@[simp] theorem semCall_eq {f : Nat} {m : Env → R (List Od)} : semCall c f m e = (m e).bind (doCall c f) := (rfl)
@[simp] theorem semIt_eq {k : It} {m : Env → R (List D)} : semIt k m e = (m e).bind fun ds e1 => R.of (itemsD k ds) e1 := (rfl)
def kCh4 (o' : CmpOp) (y z : Od) (e4 : Env) : R D := match y.res e4, z.res e4 with
  | some q, some r => R.of (cmpG o' q r) e4
  | _, _ => .no
def kCh3 (o' : CmpOp) (m3 : Env → R Od) (y : Od) (k : Bool) (e3 : Env) : R D := if k then (m3 e3).bind (kCh4 o' y) else .ok (.bl false) e3
def kCh2 (o o' : CmpOp) (m3 : Env → R Od) (x y : Od) (e2 : Env) : R D := match x.res e2, y.res e2 with
  | some p, some q => (R.of (cmpD o p q) e2).bind (kCh3 o' m3 y)
  | _, _ => .no
def kCh1 (o o' : CmpOp) (m2 m3 : Env → R Od) (x : Od) (e1 : Env) : R D := (m2 e1).bind (kCh2 o o' m3 x)
@[simp] theorem semChn_eq {o o' : CmpOp} {m1 m2 m3 : Env → R Od} : semChn o o' m1 m2 m3 e = (m1 e).bind (kCh1 o o' m2 m3) := (rfl)
@[simp] theorem kCh1_eq {o o' : CmpOp} {m2 m3 : Env → R Od} {x : Od} : kCh1 o o' m2 m3 x e = (m2 e).bind (kCh2 o o' m3 x) := (rfl)
@[simp] theorem kCh2_eq {o o' : CmpOp} {m3 : Env → R Od} {x y : Od} : kCh2 o o' m3 x y e = match x.res e, y.res e with
  | some p, some q => (R.of (cmpD o p q) e).bind (kCh3 o' m3 y)
  | _, _ => .no := (rfl)
@[simp] theorem kCh3_eq {o' : CmpOp} {m3 : Env → R Od} {y : Od} {k : Bool} : kCh3 o' m3 y k e = if k then (m3 e).bind (kCh4 o' y) else .ok (.bl false) e := (rfl)
@[simp] theorem kCh4_eq {o' : CmpOp} {y z : Od} : kCh4 o' y z e = match y.res e, z.res e with
  | some q, some r => R.of (cmpG o' q r) e
  | _, _ => .no := (rfl)
def kApp (i : Nat) (d : D) (e1 : Env) : R D := match Env.get e1 i with
  | some (.lst true xs) => if xs.length < LN then .ok .non (Env.put e1 i (.lst true (xs ++ [d]))) else .no
  | _ => .no
@[simp] theorem semApp_eq {i : Nat} {m : Env → R D} : semApp i m e = match Env.get e i with
  | some (.lst true _) => (m e).bind (kApp i)
  | _ => .no := (rfl)
@[simp] theorem kApp_eq {i : Nat} {d : D} : kApp i d e = match Env.get e i with
  | some (.lst true xs) => if xs.length < LN then .ok .non (Env.put e i (.lst true (xs ++ [d]))) else .no
  | _ => .no := (rfl)
def kMt2 (g : D → List D → Option D) (o : Od) (T : String) (os : List Od) (e2 : Env) : R D := match o.res e2, resL e2 os with
  | some d, some ds => if tyD d = some T then R.of (g d ds) e2 else .no
  | _, _ => .no
def kMt1 (ts : List String) (g : D → List D → Option D) (as : Env → R (List Od)) (o : Od) (e1 : Env) : R D := match (o.res e1).bind tyD with
  | some T => if ts.contains T then (as e1).bind (kMt2 g o T) else .no
  | none => .no
@[simp] theorem semMt_eq {ts : List String} {g : D → List D → Option D} {m : Env → R Od} {as : Env → R (List Od)} : semMt ts g m as e = (m e).bind (kMt1 ts g as) := (rfl)
@[simp] theorem kMt1_eq {ts : List String} {g : D → List D → Option D} {as : Env → R (List Od)} {o : Od} : kMt1 ts g as o e = match (o.res e).bind tyD with
  | some T => if ts.contains T then (as e).bind (kMt2 g o T) else .no
  | none => .no := (rfl)
@[simp] theorem kMt2_eq {g : D → List D → Option D} {o : Od} {T : String} {os : List Od} : kMt2 g o T os e = match o.res e, resL e os with
  | some d, some ds => if tyD d = some T then R.of (g d ds) e else .no
  | _, _ => .no := (rfl)
def kMut (g : D → List D → Option (D × D)) (i : Nat) (T : String) (ds : List D) (e1 : Env) : R D := match Env.get e1 i with
  | some d1 => if owned d1 = true ∧ tyD d1 = some T then (R.of (g d1 ds) e1).bind fun q e2 => .ok q.2 (Env.put e2 i q.1) else .no
  | none => .no
@[simp] theorem semMut_eq {ts : List String} {g : D → List D → Option (D × D)} {i : Nat} {m : Env → R (List D)} : semMut ts g i m e = match Env.get e i with
  | some d0 => (match tyD d0 with
    | some T => if ts.contains T && owned d0 then (m e).bind (kMut g i T) else .no
    | none => .no)
  | none => .no := (rfl)
@[simp] theorem kMut_eq {g : D → List D → Option (D × D)} {i : Nat} {T : String} {ds : List D} : kMut g i T ds e = match Env.get e i with
  | some d1 => if owned d1 = true ∧ tyD d1 = some T then (R.of (g d1 ds) e).bind fun q e2 => .ok q.2 (Env.put e2 i q.1) else .no
  | none => .no := (rfl)
def kPar (L : List Nat) (is : List Nat) (ds : List D) (e1 : Env) : R Fl := (R.of (bindP L is ds e1) e1).bind fun e2 _ => .ok .nx e2
@[simp] theorem semPar_eq {is : List Nat} {m : Env → R (List D)} : semPar L is m e = (m e).bind (kPar L is) := (rfl)
@[simp] theorem kPar_eq {is : List Nat} {ds : List D} : kPar L is ds e = (R.of (bindP L is ds e) e).bind fun e2 _ => .ok .nx e2 := (rfl)
def kAug (i : Nat) (o : Operator) (a d : D) (e1 : Env) : R Fl := (R.of (augD o a d) e1).bind fun r e2 => .ok .nx (Env.put e2 i r)
@[simp] theorem semAug_eq {i : Nat} {o : Operator} {m : Env → R D} : semAug L i o m e = match Env.get e i with
  | some a => if owned a || L.contains i then .no else (m e).bind (kAug i o a)
  | none => .no := (rfl)
@[simp] theorem kAug_eq {i : Nat} {o : Operator} {a d : D} : kAug i o a d e = (R.of (augD o a d) e).bind fun r e2 => .ok .nx (Env.put e2 i r) := (rfl)
def kSub2 (i : Nat) (d k : D) (e2 : Env) : R Fl := match Env.get e2 i with
  | some o => (R.of (setD o k d) e2).bind fun o' e3 => .ok .nx (Env.put e3 i o')
  | none => .no
def kSub1 (i : Nat) (j : Env → R D) (d : D) (e1 : Env) : R Fl := match Env.get e1 i with
  | some _ => (j e1).bind (kSub2 i d)
  | none => .no
@[simp] theorem semSub_eq {i : Nat} {j m : Env → R D} : semSub i j m e = (m e).bind (kSub1 i j) := (rfl)
@[simp] theorem kSub1_eq {i : Nat} {j : Env → R D} {d : D} : kSub1 i j d e = match Env.get e i with
  | some _ => (j e).bind (kSub2 i d)
  | none => .no := (rfl)
@[simp] theorem kSub2_eq {i : Nat} {d k : D} : kSub2 i d k e = match Env.get e i with
  | some o => (R.of (setD o k d) e).bind fun o' e3 => .ok .nx (Env.put e3 i o')
  | none => .no := (rfl)
def kFld (cs : List Nat) (f : Str) (o : Od) (e1 : Env) : R D := match o.res e1 with
  | some d => R.of (fldD cs f d) e1
  | none => .no
@[simp] theorem semFld_eq {cs : List Nat} {f : Str} {m : Env → R Od} : semFld cs f m e = (m e).bind (kFld cs f) := (rfl)
@[simp] theorem kFld_eq {cs : List Nat} {f : Str} {o : Od} : kFld cs f o e = match o.res e with
  | some d => R.of (fldD cs f d) e
  | none => .no := (rfl)
def kPrp (c : Nat → List D → R D) (k f : Nat) (o : Od) (e1 : Env) : R D := match o.res e1 with
  | some d => if isInc k d then (doCall c f [o] e1).nox else .no
  | none => .no
@[simp] theorem semPrp_eq {k f : Nat} {m : Env → R Od} : semPrp c k f m e = (m e).bind (kPrp c k f) := (rfl)
@[simp] theorem kPrp_eq {k f : Nat} {o : Od} : kPrp c k f o e = match o.res e with
  | some d => if isInc k d then (doCall c f [o] e).nox else .no
  | none => .no := (rfl)
def kMeth2 (c : Nat → List D → R D) (f : Nat) (o : Od) (os : List Od) (e2 : Env) : R D := doCall c f (o :: os) e2
def kMeth1 (c : Nat → List D → R D) (k f : Nat) (nm : Str) (as : Env → R (List Od)) (o : Od) (e1 : Env) : R D := match o.res e1 with
  | some d => if isIns k nm d then (as e1).bind (kMeth2 c f o) else .no
  | none => .no
@[simp] theorem semMeth_eq {k f : Nat} {nm : Str} {m : Env → R Od} {as : Env → R (List Od)} : semMeth c k f nm m as e = (m e).bind (kMeth1 c k f nm as) := (rfl)
@[simp] theorem kMeth1_eq {k f : Nat} {nm : Str} {as : Env → R (List Od)} {o : Od} : kMeth1 c k f nm as o e = match o.res e with
  | some d => if isIns k nm d then (as e).bind (kMeth2 c f o) else .no
  | none => .no := (rfl)
@[simp] theorem kMeth2_eq {f : Nat} {o : Od} {os : List Od} : kMeth2 c f o os e = doCall c f (o :: os) e := (rfl)
@[simp] theorem semMk_eq {k f : Nat} {m : Env → R (List Od)} : semMk c k f m e = (m e).bind (doMake c k f) := (rfl)
def kSfld (cs : List Nat) (i : Nat) (f : Str) (d : D) (e1 : Env) : R Fl := match Env.get e1 i with
  | some (.ins true k fs vs) => if cs.contains k && decide (fs.length < 1000) && decide (fs.length = vs.length) then .ok .nx (Env.put e1 i (.ins true k (putFs fs vs f d).1 (putFs fs vs f d).2)) else .no
  | _ => .no
@[simp] theorem semSfld_eq {cs : List Nat} {i : Nat} {f : Str} {m : Env → R D} : semSfld cs i f m e = (m e).bind (kSfld cs i f) := (rfl)
@[simp] theorem kSfld_eq {cs : List Nat} {i : Nat} {f : Str} {d : D} : kSfld cs i f d e = match Env.get e i with
  | some (.ins true k fs vs) => if cs.contains k && decide (fs.length < 1000) && decide (fs.length = vs.length) then .ok .nx (Env.put e i (.ins true k (putFs fs vs f d).1 (putFs fs vs f d).2)) else .no
  | _ => .no := (rfl)
/-! ### calls -/
@[simp] theorem lend_nil : lend [] e = some ([], e) := (rfl)
@[simp] theorem lend_val {d : D} {os : List Od} : lend (.val d :: os) e = (lend os e).map fun p => (frz d :: p.1, p.2) := (rfl)
@[simp] theorem lend_slot {i : Nat} {os : List Od} : lend (.slot i :: os) e = match Env.get e i with
  | none => none
  | some d => (lend os (if owned d then Env.del e i else e)).map fun p => (d :: p.1, p.2) := (rfl)
@[simp] theorem back_nil {ds : List D} {fs : List (Option D)} : back [] ds fs e = some e := (rfl)
@[simp] theorem back_val {d0 d : D} {os : List Od} {ds : List D} {f : Option D} {fs : List (Option D)} : back (.val d0 :: os) (d :: ds) (f :: fs) e = back os ds fs e := (rfl)
@[simp] theorem back_slot {i : Nat} {d : D} {os : List Od} {ds : List D} {f : Option D} {fs : List (Option D)} : back (.slot i :: os) (d :: ds) (f :: fs) e = if owned d then (match f with
  | some d' => back os ds fs (Env.put e i d')
  | none => none) else back os ds fs e := (rfl)
@[simp] theorem bindT_name {i : Nat} {d : D} : bindT L (.tName i) d e = if L.contains i || decide (e.length ≤ i) then none else some (Env.put e i d) := (rfl)
@[simp] theorem bindT_tup {ts : T} {ds : List D} : bindT L (.tTup ts) (.tup ds) e = bindTs L ts ds e := (rfl)
@[simp] theorem bindTs_nil : bindTs L .nil [] e = some e := (rfl)
@[simp] theorem bindTs_cons {t ts : T} {d : D} {ds : List D} : bindTs L (.cons t ts) (d :: ds) e = (bindT L t d e).bind fun e1 => bindTs L ts ds e1 := (rfl)
@[simp] theorem bindP_nil : bindP L [] [] e = some e := (rfl)
@[simp] theorem bindP_cons {i : Nat} {is : List Nat} {d : D} {ds : List D} : bindP L (i :: is) (d :: ds) e = if L.contains i || decide (e.length ≤ i) then none else bindP L is ds (Env.put e i d) := (rfl)
@[simp] theorem finals_nil : finals [] e = [] := (rfl)
@[simp] theorem finals_cons {d : D} {ds : List D} {x : Option D} : finals (d :: ds) (x :: e) = (if owned d then x else none) :: finals ds e := (rfl)
@[simp] theorem ownL_nil {n : Nat} : ownL [] n = [] := (rfl)
@[simp] theorem ownL_cons {d : D} {ds : List D} {n : Nat} : ownL (d :: ds) n = if owned d then n :: ownL ds (n + 1) else ownL ds (n + 1) := (rfl)
@[simp] theorem finR_rt {ds : List D} {d : D} : finR ds (.ok (.rt d) e) = .ok d (finals ds e) := (rfl)
@[simp] theorem finR_nx {ds : List D} : finR ds (.ok .nx e) = .ok .non (finals ds e) := (rfl)
@[simp] theorem frz_int {i : Int} : frz (.int i) = .int i := (rfl)
@[simp] theorem frz_str {i : List Nat} : frz (.str i) = .str i := (rfl)
@[simp] theorem frz_bl {i : Bool} : frz (.bl i) = .bl i := (rfl)
@[simp] theorem frz_non : frz .non = .non := (rfl)
@[simp] theorem frz_ty {n : String} : frz (.ty n) = .ty n := (rfl)
@[simp] theorem frz_tup {xs : List D} : frz (.tup xs) = .tup (frzL xs) := by rw [frz]
@[simp] theorem frz_ksq {xs : List D} : frz (.ksq xs) = .ksq (frzL xs) := by rw [frz]
@[simp] theorem frz_lst {m : Bool} {xs : List D} : frz (.lst m xs) = .lst false (frzL xs) := by rw [frz]
@[simp] theorem frz_dct {m t : Bool} {ks xs : List D} : frz (.dct m t ks xs) = .dct false t ks (frzL xs) := by rw [frz]
@[simp] theorem frz_ins {m : Bool} {k : Nat} {fs : List Str} {xs : List D} : frz (.ins m k fs xs) = .ins false k fs (frzL xs) := by rw [frz]
@[simp] theorem frzL_nil : frzL [] = [] := by rw [frzL]
@[simp] theorem frzL_cons {x : D} {xs : List D} : frzL (x :: xs) = frz x :: frzL xs := by rw [frzL]
@[simp] theorem isF_int {i : Int} : isF (.int i) = true := by rw [isF] <;> simp
@[simp] theorem isF_str {i : List Nat} : isF (.str i) = true := by rw [isF] <;> simp
@[simp] theorem isF_bl {i : Bool} : isF (.bl i) = true := by rw [isF] <;> simp
@[simp] theorem isF_non : isF .non = true := by rw [isF] <;> simp
@[simp] theorem isF_tup {xs : List D} : isF (.tup xs) = isFL xs := by rw [isF]
@[simp] theorem isF_ksq {xs : List D} : isF (.ksq xs) = isFL xs := by rw [isF]
@[simp] theorem isF_lst {m : Bool} {xs : List D} : isF (.lst m xs) = (!m && isFL xs) := by rw [isF]
@[simp] theorem isF_dct {m t : Bool} {ks xs : List D} : isF (.dct m t ks xs) = (!m && isFL xs) := by rw [isF]
@[simp] theorem isF_ins {m : Bool} {k : Nat} {fs : List Str} {xs : List D} : isF (.ins m k fs xs) = (!m && isFL xs) := by rw [isF]
@[simp] theorem isFL_nil : isFL [] = true := by rw [isFL]
@[simp] theorem isFL_cons {x : D} {xs : List D} : isFL (x :: xs) = (isF x && isFL xs) := by rw [isFL]
@[simp] theorem LN_eq : LN = 100000 := (rfl)
/-- a run of a def -/
theorem run_eq {fns : List Fd} {k f : Nat} {fd : Fd} {ds : List D} (hf : fns[f]? = some fd) (h1 : ds.length = fd.np) (h2 : Nat.ble fd.np fd.ns = true) :
    runF P fns fu (k + 1) f ds = finR ds (evS P (runF P fns fu k) fu (ownL ds 0) fd.body (ds.map some ++ List.replicate (fd.ns - ds.length) none)) := by
  show (match fns[f]? with | none => R.no | some fd => _) = _
  rw [hf]
  exact if_pos ⟨h1, Nat.le_of_ble_eq_true h2⟩
end
end Wpk.M
set_option Elab.async false
set_option linter.all false
set_option maxRecDepth 100000
/-! M1: operations on data, by cases. -/
namespace Wpk.M
open PySem
section
variable {i j : Int} {a b : List Nat} {p q : Bool} {m : Bool} {xs ys : List D} {x y : D}
@[simp] theorem cmpG_eq {o : CmpOp} : cmpG o x y = (cmpD o x y).map .bl := (rfl)
@[simp] theorem cmp_lt_ii : cmpD .Lt (.int i) (.int j) = some (decide (i < j)) := (rfl)
@[simp] theorem cmp_le_ii : cmpD .LtE (.int i) (.int j) = some (decide (i ≤ j)) := (rfl)
@[simp] theorem cmp_gt_ii : cmpD .Gt (.int i) (.int j) = some (decide (j < i)) := (rfl)
@[simp] theorem cmp_ge_ii : cmpD .GtE (.int i) (.int j) = some (decide (j ≤ i)) := (rfl)
@[simp] theorem eqD_ii : eqD (.int i) (.int j) = (i == j) := by rw [eqD]
@[simp] theorem eqD_ss : eqD (.str a) (.str b) = (a == b) := by rw [eqD]
@[simp] theorem eqD_bb : eqD (.bl p) (.bl q) = (p == q) := by rw [eqD]
@[simp] theorem eqD_tt : eqD (.tup xs) (.tup ys) = eqDL xs ys := by rw [eqD]
@[simp] theorem eqD_ll {m' : Bool} : eqD (.lst m xs) (.lst m' ys) = eqDL xs ys := by rw [eqD]
@[simp] theorem eqDL_nil : eqDL [] [] = true := by rw [eqDL]
@[simp] theorem eqDL_cons : eqDL (x :: xs) (y :: ys) = (eqD x y && eqDL xs ys) := by rw [eqDL]
@[simp] theorem eqDL_nc : eqDL [] (y :: ys) = false := by rw [eqDL] <;> simp
@[simp] theorem eqDL_cn : eqDL (x :: xs) [] = false := by rw [eqDL] <;> simp
@[simp] theorem shp_int {n : Nat} : shp n (.int i) = true := by cases n <;> rw [shp]
@[simp] theorem shp_bl {n : Nat} : shp n (.bl p) = true := by cases n <;> rw [shp]
@[simp] theorem shp_non {n : Nat} : shp n .non = true := by cases n <;> rw [shp]
@[simp] theorem shp_str {n : Nat} : shp n (.str a) = a.all (fun c => decide (c < 1114112)) := by cases n <;> rw [shp]
@[simp] theorem shp_tup {n : Nat} : shp (n + 1) (.tup xs) = shpL n xs := by rw [shp]
@[simp] theorem shp_lst {n : Nat} : shp (n + 1) (.lst m xs) = shpL n xs := by rw [shp]
@[simp] theorem shpL_nil {n : Nat} : shpL n [] = true := by rw [shpL]
@[simp] theorem shpL_cons {n : Nat} : shpL n (x :: xs) = (shp n x && shpL n xs) := by rw [shpL]
@[simp] theorem cmp_eq_ii : cmpD .Eq (.int i) (.int j) = some (i == j) := by
  show (if shp 60 (.int i) && shp 60 (.int j) then some (eqD (.int i) (.int j)) else none) = _
  simp
@[simp] theorem cmp_ne_ii : cmpD .NotEq (.int i) (.int j) = some (!(i == j)) := by
  show (if shp 60 (.int i) && shp 60 (.int j) then some (!eqD (.int i) (.int j)) else none) = _
  simp
@[simp] theorem cmp_eq_ss : cmpD .Eq (.str a) (.str b) = some (a == b) := (rfl)
@[simp] theorem cmp_ne_ss : cmpD .NotEq (.str a) (.str b) = some (!(a == b)) := (rfl)
@[simp] theorem cmp_eq_bb : cmpD .Eq (.bl p) (.bl q) = some (p == q) := by
  show (if shp 60 (.bl p) && shp 60 (.bl q) then some (eqD (.bl p) (.bl q)) else none) = _
  simp
@[simp] theorem cmp_ne_bb : cmpD .NotEq (.bl p) (.bl q) = some (!(p == q)) := by
  show (if shp 60 (.bl p) && shp 60 (.bl q) then some (!eqD (.bl p) (.bl q)) else none) = _
  simp
@[simp] theorem cmp_is_bb : cmpD .Is (.bl p) (.bl q) = some (decide (p = q)) := (rfl)
@[simp] theorem cmp_isnot_bb : cmpD .IsNot (.bl p) (.bl q) = some (!decide (p = q)) := (rfl)
theorem cmp_eq_tt : cmpD .Eq (.tup xs) (.tup ys) = if shpL 59 xs && shpL 59 ys then some (eqDL xs ys) else none := by
  show (if shp 60 (.tup xs) && shp 60 (.tup ys) then some (eqD (.tup xs) (.tup ys)) else none) = _
  simp
theorem cmp_ne_tt : cmpD .NotEq (.tup xs) (.tup ys) = if shpL 59 xs && shpL 59 ys then some (!eqDL xs ys) else none := by
  show (if shp 60 (.tup xs) && shp 60 (.tup ys) then some (!eqD (.tup xs) (.tup ys)) else none) = _
  simp
theorem cmp_ne_ll {m' : Bool} : cmpD .NotEq (.lst m xs) (.lst m' ys) = if shpL 59 xs && shpL 59 ys then some (!eqDL xs ys) else none := by
  show (if shp 60 (.lst m xs) && shp 60 (.lst m' ys) then some (!eqD (.lst m xs) (.lst m' ys)) else none) = _
  simp
theorem cmp_eq_ll {m' : Bool} : cmpD .Eq (.lst m xs) (.lst m' ys) = if shpL 59 xs && shpL 59 ys then some (eqDL xs ys) else none := by
  show (if shp 60 (.lst m xs) && shp 60 (.lst m' ys) then some (eqD (.lst m xs) (.lst m' ys)) else none) = _
  simp
theorem cmp_in_l : cmpD .In x (.lst m ys) = if shp 60 x && shpL 60 ys then some (inD x ys) else none := by cases x <;> rfl
theorem cmp_in_t : cmpD .In x (.tup ys) = if flatD x && ys.all flatD then some (inD x ys) else none := by cases x <;> rfl
theorem cmp_notin_l : cmpD .NotIn x (.lst m ys) = if shp 60 x && shpL 60 ys then some (!inD x ys) else none := by cases x <;> rfl
theorem cmp_in_d {t : Bool} {ks vs : List D} : cmpD .In x (.dct t false ks vs) = if isKy x then some (hasK ks x) else none := (rfl)
theorem cmp_notin_d {t : Bool} {ks vs : List D} : cmpD .NotIn x (.dct t false ks vs) = if isKy x then some (!hasK ks x) else none := (rfl)
theorem cmp_in_s {c : Nat} : cmpD .In (.str [c]) (.str a) = some (a.contains c) := (rfl)
theorem cmp_notin_s {c : Nat} : cmpD .NotIn (.str [c]) (.str a) = some (!a.contains c) := (rfl)
@[simp] theorem cmp_is_non : cmpD .Is x .non = some (match x with | .non => true | _ => false) := by cases x <;> rfl
@[simp] theorem cmp_isnot_non : cmpD .IsNot x .non = some (match x with | .non => false | _ => true) := by cases x <;> rfl
@[simp] theorem tru_bl : truD (.bl p) = some p := (rfl)
@[simp] theorem tru_int : truD (.int i) = some (i != 0) := (rfl)
@[simp] theorem op_add_ii : opD .Add (.int i) (.int j) = some (.int (i + j)) := (rfl)
@[simp] theorem op_sub_ii : opD .Sub (.int i) (.int j) = some (.int (i - j)) := (rfl)
theorem op_mul_ii : opD .Mult (.int i) (.int j) = if (-18446744073709551616 < i ∧ i < 18446744073709551616) ∨ (-18446744073709551616 < j ∧ j < 18446744073709551616) then some (.int (i * j)) else none := (rfl)
theorem op_div_ii : opD .FloorDiv (.int i) (.int j) = if 0 < j ∧ j < 1073741824 then some (.int (i / j)) else none := (rfl)
theorem op_mod_ii : opD .Mod (.int i) (.int j) = if 0 < j then some (.int (i % j)) else none := (rfl)
theorem op_pow_ii : opD .Pow (.int i) (.int j) = if 0 ≤ j ∧ j ≤ 1000000 ∧ i.natAbs < 18446744073709551616 then some (.int (i ^ j.toNat)) else none := (rfl)
theorem op_add_ss : opD .Add (.str a) (.str b) = if a.length + b.length ≤ LN then some (.str (a ++ b)) else none := (rfl)
theorem op_add_tt : opD .Add (.tup xs) (.tup ys) = if xs.length + ys.length ≤ LN then some (.tup (xs ++ ys)) else none := (rfl)
theorem op_add_ll {m' : Bool} : opD .Add (.lst m xs) (.lst m' ys) = if xs.length + ys.length ≤ LN ∧ isFL xs = true ∧ isFL ys = true then some (.lst true (xs ++ ys)) else none := (rfl)
theorem op_mul_si : opD .Mult (.str a) (.int i) = if a.length * i.toNat ≤ LN ∧ (-9223372036854775808 ≤ i ∧ i < 9223372036854775808) then some (.str (List.replicate i.toNat a).flatten) else none := (rfl)
theorem op_mul_li : opD .Mult (.lst m xs) (.int i) = if m = true ∧ xs.length * i.toNat ≤ LN ∧ (-9223372036854775808 ≤ i ∧ i < 9223372036854775808) ∧ isFL xs = true then some (.lst true (List.replicate i.toNat xs).flatten) else none := (rfl)
/-- an item that is there and frozen -/
theorem idx_l {d : D} (h : L2.atI xs i = some d) (hf : isF d = true) : idxF (.lst m xs) (.int i) = some d := by
  show idxG (.lst m xs) (.int i) = some d
  unfold idxG
  rw [show idxD (.lst m xs) (.int i) = L2.atI xs i from rfl, h]
  simp [hf]
theorem idx_t {d : D} (h : L2.atI xs i = some d) (hf : isF d = true) : idxF (.tup xs) (.int i) = some d := by
  show idxG (.tup xs) (.int i) = some d
  unfold idxG
  rw [show idxD (.tup xs) (.int i) = L2.atI xs i from rfl, h]
  simp [hf]
theorem idx_k {d : D} (h : L2.atI xs i = some d) (hf : isF d = true) : idxF (.ksq xs) (.int i) = some d := by
  show idxG (.ksq xs) (.int i) = some d
  unfold idxG
  rw [show idxD (.ksq xs) (.int i) = L2.atI xs i from rfl, h]
  simp [hf]
theorem idx_s {c : Nat} (hl : a.length ≤ LN) (h : L2.atI a i = some c) : idxF (.str a) (.int i) = some (.str [c]) := by
  show idxG (.str a) (.int i) = some (.str [c])
  unfold idxG
  rw [show idxD (.str a) (.int i) = (if a.length ≤ LN then (L2.atI a i).map (fun c => .str [c]) else none) from rfl, if_pos hl, h]
  simp
theorem atI_nat {α : Type} {l : List α} {n : Nat} {z : α} (h : l[n]? = some z) : L2.atI l (n : Int) = some z := by
  have hl := (List.getElem?_eq_some_iff.mp h).1
  unfold L2.atI L2.ixN
  rw [if_pos (by omega), if_pos (by omega)]
  simpa using h
/-- literal places -/
@[simp] theorem idx_l0 : idxF (.lst m (x :: xs)) (.int 0) = if isF x then some x else none := by
  show (match idxD (.lst m (x :: xs)) (.int 0) with | some d => if isF d then some d else none | none => none) = _
  rw [show idxD (.lst m (x :: xs)) (.int 0) = some x from atI_nat (n := 0) rfl]
@[simp] theorem idx_t0 : idxF (.tup (x :: xs)) (.int 0) = if isF x then some x else none := by
  show (match idxD (.tup (x :: xs)) (.int 0) with | some d => if isF d then some d else none | none => none) = _
  rw [show idxD (.tup (x :: xs)) (.int 0) = some x from atI_nat (n := 0) rfl]
@[simp] theorem idx_l1 {x0 : D} : idxF (.lst m (x0 :: x :: xs)) (.int 1) = if isF x then some x else none := by
  show (match idxD (.lst m (x0 :: x :: xs)) (.int 1) with | some d => if isF d then some d else none | none => none) = _
  rw [show idxD (.lst m (x0 :: x :: xs)) (.int 1) = some x from atI_nat (n := 1) rfl]
@[simp] theorem idx_t1 {x0 : D} : idxF (.tup (x0 :: x :: xs)) (.int 1) = if isF x then some x else none := by
  show (match idxD (.tup (x0 :: x :: xs)) (.int 1) with | some d => if isF d then some d else none | none => none) = _
  rw [show idxD (.tup (x0 :: x :: xs)) (.int 1) = some x from atI_nat (n := 1) rfl]
@[simp] theorem idx_l2 {x0 x1 : D} : idxF (.lst m (x0 :: x1 :: x :: xs)) (.int 2) = if isF x then some x else none := by
  show (match idxD (.lst m (x0 :: x1 :: x :: xs)) (.int 2) with | some d => if isF d then some d else none | none => none) = _
  rw [show idxD (.lst m (x0 :: x1 :: x :: xs)) (.int 2) = some x from atI_nat (n := 2) rfl]
@[simp] theorem idx_t2 {x0 x1 : D} : idxF (.tup (x0 :: x1 :: x :: xs)) (.int 2) = if isF x then some x else none := by
  show (match idxD (.tup (x0 :: x1 :: x :: xs)) (.int 2) with | some d => if isF d then some d else none | none => none) = _
  rw [show idxD (.tup (x0 :: x1 :: x :: xs)) (.int 2) = some x from atI_nat (n := 2) rfl]
@[simp] theorem idx_t3 {x0 x1 x2 : D} : idxF (.tup (x0 :: x1 :: x2 :: x :: xs)) (.int 3) = if isF x then some x else none := by
  show (match idxD (.tup (x0 :: x1 :: x2 :: x :: xs)) (.int 3) with | some d => if isF d then some d else none | none => none) = _
  rw [show idxD (.tup (x0 :: x1 :: x2 :: x :: xs)) (.int 3) = some x from atI_nat (n := 3) rfl]
@[simp] theorem set_l0 {d : D} : setD (.lst true (x :: xs)) (.int 0) d = some (.lst true (d :: xs)) := by
  unfold setD L2.ixN
  simp
@[simp] theorem set_l1 {x0 d : D} : setD (.lst true (x0 :: x :: xs)) (.int 1) d = some (.lst true (x0 :: d :: xs)) := by
  have h : L2.ixN (x0 :: x :: xs).length 1 = some 1 := by
    unfold L2.ixN
    rw [if_pos (by decide), if_pos (by simp only [List.length_cons]; omega)]
    rfl
  unfold setD
  dsimp only
  rw [h]
  rfl
@[simp] theorem set_l2 {x0 x1 d : D} : setD (.lst true (x0 :: x1 :: x :: xs)) (.int 2) d = some (.lst true (x0 :: x1 :: d :: xs)) := by
  have h : L2.ixN (x0 :: x1 :: x :: xs).length 2 = some 2 := by
    unfold L2.ixN
    rw [if_pos (by decide), if_pos (by simp only [List.length_cons]; omega)]
    rfl
  unfold setD
  dsimp only
  rw [h]
  rfl
@[simp] theorem bi_len_l : biD .len [.lst m xs] = some (.int xs.length) := (rfl)
@[simp] theorem bi_len_t : biD .len [.tup xs] = some (.int xs.length) := (rfl)
@[simp] theorem bi_len_k : biD .len [.ksq xs] = some (.int xs.length) := (rfl)
@[simp] theorem bi_len_d {t : Bool} {ks vs : List D} : biD .len [.dct t false ks vs] = some (.int ks.length) := (rfl)
theorem bi_len_s : biD .len [.str a] = if a.length ≤ LN then some (.int a.length) else none := by
  simp only [biD, lenD]
  split <;> rfl
@[simp] theorem bi_abs_i : biD .abs [.int i] = some (.int (if i < 0 then -i else i)) := (rfl)
@[simp] theorem bi_min_i : biD .min [.int i, .int j] = some (.int (if j < i then j else i)) := (rfl)
@[simp] theorem bi_max_i : biD .max [.int i, .int j] = some (.int (if j > i then j else i)) := (rfl)
@[simp] theorem bi2_int_i : bi2D .int [.int i] = some (.int i) := (rfl)
@[simp] theorem bi2_int_b : bi2D .int [.bl p] = some (.int (if p then 1 else 0)) := (rfl)
@[simp] theorem bi2_isi : bi2D .isi = isiD := (rfl)
@[simp] theorem bi2_repr_b : bi2D .repr [.bl p] = some (.str (ofS (Str.ofString (if p then "True" else "False")))) := (rfl)
@[simp] theorem tyD_str : tyD (.str a) = some "str" := (rfl)
@[simp] theorem tyD_lst : tyD (.lst m xs) = some "list" := (rfl)
@[simp] theorem res_bind {e : Env} {o : Od} : (o.res e).bind tyD = match o.res e with | some d => tyD d | none => none := by cases o.res e <;> rfl
@[simp] theorem ofString_inj {a b : String} : (Str.ofString a = Str.ofString b) = (a = b) := by
  apply propext
  constructor
  · intro h
    rw [Str.ofString_eq_toList, Str.ofString_eq_toList] at h
    have h2 : a.toList.map Char.toNat = b.toList.map Char.toNat := by
      have := congrArg (fun s : Str => s.cps.toList) h
      simpa using this
    have h3 := congrArg (fun l => l.map Char.ofNat) h2
    simp only [List.map_map] at h3
    have e : (Char.ofNat ∘ Char.toNat) = id := by
      funext c
      exact Char.ofNat_toNat c
    rw [e, List.map_id, List.map_id] at h3
    exact String.toList_inj.mp h3
  · rintro rfl; rfl
end
end Wpk.M
set_option Elab.async false
set_option linter.all false
set_option maxRecDepth 100000
/-! M2: loops. -/
namespace Wpk.M
open PySem
section
variable {body : D → Env → R Fl} {bc : D → Env → R (List D)} {e : Env}
/-- a loop by what holds ahead of the items that are left -/
theorem loopF_ind {I : List D → Env → Prop} {J : R Fl → Prop} (h0 : ∀ e, I [] e → J (.ok .nx e))
    (hs : ∀ x xs e, I (x :: xs) e → (∃ e', body x e = .ok .nx e' ∧ I xs e') ∨ (∃ e', body x e = .ok .ct e' ∧ I xs e') ∨ (∃ d e', body x e = .ok (.rt d) e' ∧ J (.ok (.rt d) e')) ∨ (∃ e', body x e = .ok .bk e' ∧ J (.ok .nx e'))) :
    ∀ (xs : List D) (e : Env), I xs e → J (loopF body xs e)
  | [], e, h => h0 e h
  | x :: xs, e, h => by
    rcases hs x xs e h with ⟨e', b, i⟩ | ⟨e', b, i⟩ | ⟨d, e', b, j⟩ | ⟨e', b, j⟩
    · unfold loopF; rw [b]; exact loopF_ind h0 hs xs e' i
    · unfold loopF; rw [b]; exact loopF_ind h0 hs xs e' i
    · unfold loopF; rw [b]; exact j
    · unfold loopF; rw [b]; exact j
/-- a loop that goes through -/
theorem loopF_go {α : Type} {f : α → D} {I : List α → Env → Prop} (hs : ∀ x xs e, I (x :: xs) e → ∃ e', body (f x) e = .ok .nx e' ∧ I xs e') :
    ∀ (xs : List α) (e : Env), I xs e → ∃ e', loopF body (xs.map f) e = .ok .nx e' ∧ I [] e'
  | [], e, h => ⟨e, rfl, h⟩
  | x :: xs, e, h => by
    obtain ⟨e', b, i⟩ := hs x xs e h
    obtain ⟨e2, b2, i2⟩ := loopF_go hs xs e' i
    refine ⟨e2, ?_, i2⟩
    rw [List.map_cons]
    unfold loopF
    rw [b]
    exact b2
/-- a search: the first item for which it is so ends it -/
theorem loopF_find {α : Type} {f : α → D} {p : α → Bool} {d : D} {I : Env → Prop} (hs : ∀ x e, I e → (p x = true ∧ ∃ e', body (f x) e = .ok (.rt d) e' ∧ I e') ∨ (p x = false ∧ ∃ e', body (f x) e = .ok .nx e' ∧ I e')) :
    ∀ (xs : List α) (e : Env), I e → ∃ e', loopF body (xs.map f) e = .ok (if xs.any p then .rt d else .nx) e' ∧ I e'
  | [], e, h => ⟨e, rfl, h⟩
  | x :: xs, e, h => by
    rcases hs x e h with ⟨hp, e', b, i⟩ | ⟨hp, e', b, i⟩
    · refine ⟨e', ?_, i⟩
      rw [List.map_cons, List.any_cons, hp]
      unfold loopF
      rw [b]
      rfl
    · obtain ⟨e2, b2, i2⟩ := loopF_find hs xs e' i
      refine ⟨e2, ?_, i2⟩
      rw [List.map_cons, List.any_cons, hp]
      unfold loopF
      rw [b]
      simpa using b2
/-- .. only for the items at hand -/
theorem loopF_findM {α : Type} {f : α → D} {p : α → Bool} {d : D} {I : Env → Prop} : ∀ (xs : List α) (_ : ∀ x ∈ xs, ∀ e, I e → (p x = true ∧ ∃ e', body (f x) e = .ok (.rt d) e' ∧ I e') ∨ (p x = false ∧ ∃ e', body (f x) e = .ok .nx e' ∧ I e')) (e : Env), I e → ∃ e', loopF body (xs.map f) e = .ok (if xs.any p then .rt d else .nx) e' ∧ I e'
  | [], _, e, h => ⟨e, rfl, h⟩
  | x :: xs, hs, e, h => by
    rcases hs x (List.mem_cons_self ..) e h with ⟨hp, e', b, i⟩ | ⟨hp, e', b, i⟩
    · refine ⟨e', ?_, i⟩
      rw [List.map_cons, List.any_cons, hp]
      unfold loopF
      rw [b]
      rfl
    · obtain ⟨e2, b2, i2⟩ := loopF_findM xs (fun y hy => hs y (List.mem_cons_of_mem _ hy)) e' i
      refine ⟨e2, ?_, i2⟩
      rw [List.map_cons, List.any_cons, hp]
      unfold loopF
      rw [b]
      simpa using b2
/-- a comprehension whose state stays -/
theorem loopC_map {α : Type} {f : α → D} {g : α → List D} {e : Env} : ∀ (xs : List α) (_ : ∀ x ∈ xs, bc (f x) e = .ok (g x) e), loopC bc (xs.map f) e = .ok (xs.flatMap g) e
  | [], _ => rfl
  | x :: xs, h => by
    rw [List.map_cons]
    unfold loopC
    rw [h x (List.mem_cons_self ..)]
    show (loopC bc (xs.map f) e).bind _ = _
    rw [loopC_map xs fun y hy => h y (List.mem_cons_of_mem _ hy)]
    rfl
/-- a comprehension of values that are not known, the state going on -/
theorem loopC_any {α : Type} {f : α → D} {I : Env → Prop} {Q : D → Prop} (hs : ∀ x e, I e → ∃ y e', bc (f x) e = .ok [y] e' ∧ I e' ∧ Q y) : ∀ (xs : List α) (e : Env), I e → ∃ ys e', loopC bc (xs.map f) e = .ok ys e' ∧ I e' ∧ ys.length = xs.length ∧ ∀ y ∈ ys, Q y
  | [], e, h => ⟨[], e, rfl, h, rfl, fun _ z => nomatch z⟩
  | x :: xs, e, h => by
    obtain ⟨y, e', b, i, q⟩ := hs x e h
    obtain ⟨ys, e2, b2, i2, l2, q2⟩ := loopC_any hs xs e' i
    refine ⟨y :: ys, e2, ?_, i2, by simp [l2], fun z hz => ?_⟩
    · rw [List.map_cons]
      unfold loopC
      rw [b]
      show (loopC bc (xs.map f) e').bind _ = _
      rw [b2]
      rfl
    · rcases List.mem_cons.mp hz with rfl | hz
      · exact q
      · exact q2 z hz
@[simp] theorem wipeE_nil : wipeE e [] = e := (rfl)
@[simp] theorem wipeE_cons {v : Nat} {vs : List Nat} : wipeE e (v :: vs) = (wipeE e vs).set v none := (rfl)
@[simp] theorem backE_nil {e0 : Env} : backE e0 e [] = e := (rfl)
@[simp] theorem backE_cons {e0 : Env} {v : Nat} {vs : List Nat} : backE e0 e (v :: vs) = (backE e0 e vs).set v (e0[v]?).join := (rfl)
@[simp] theorem freeS_nil : freeS e [] = true := (rfl)
theorem freeS_cons {v : Nat} {vs : List Nat} : freeS e (v :: vs) = ((match Env.get e v with | some d => !owned d | none => true) && freeS e vs) := (rfl)
def kC3 (vs : List Nat) (y : D) (e5 : Env) : R (List D) := .ok [y] (wipeE e5 vs)
def kC2 (vs : List Nat) (x : Env → R D) (k : Bool) (e4 : Env) : R (List D) := if k then (x e4).bind (kC3 vs) else .ok [] (wipeE e4 vs)
def kC1 (vs : List Nat) (t : Env → R Bool) (x : Env → R D) (e3 _e : Env) : R (List D) := (t e3).bind (kC2 vs x)
@[simp] theorem kC3_eq {vs : List Nat} {y : D} : kC3 vs y e = .ok [y] (wipeE e vs) := (rfl)
@[simp] theorem kC2_eq {vs : List Nat} {x : Env → R D} {k : Bool} : kC2 vs x k e = if k then (x e).bind (kC3 vs) else .ok [] (wipeE e vs) := (rfl)
@[simp] theorem kC1_eq {vs : List Nat} {t : Env → R Bool} {x : Env → R D} {e0 : Env} : kC1 vs t x e e0 = (t e).bind (kC2 vs x) := (rfl)
theorem stepC_eq {vs : List Nat} {b : D → Env → Option Env} {t : Env → R Bool} {x : Env → R D} {d : D} : stepC vs b t x d e = (R.of (b d e) e).bind (kC1 vs t x) := by
  unfold stepC
  cases b d e <;> rfl
def kD3 (vs : List Nat) (ys : List D) (e9 : Env) : R (List D) := .ok ys (wipeE e9 vs)
def kD2 (vs vs' : List Nat) (b' : D → Env → Option Env) (t : Env → R Bool) (x : Env → R D) (is' : List D) (e4 : Env) : R (List D) := if freeS e4 vs' then (loopC (stepC vs' b' t x) is' (wipeE e4 vs')).bind (kD3 vs) else .no
def kD1 (vs vs' : List Nat) (mi' : Env → R (List D)) (b' : D → Env → Option Env) (t : Env → R Bool) (x : Env → R D) (e3 _e : Env) : R (List D) := (mi' e3).bind (kD2 vs vs' b' t x)
@[simp] theorem kD3_eq {vs : List Nat} {ys : List D} : kD3 vs ys e = .ok ys (wipeE e vs) := (rfl)
@[simp] theorem kD2_eq {vs vs' : List Nat} {b' : D → Env → Option Env} {t : Env → R Bool} {x : Env → R D} {is' : List D} : kD2 vs vs' b' t x is' e = if freeS e vs' then (loopC (stepC vs' b' t x) is' (wipeE e vs')).bind (kD3 vs) else .no := (rfl)
@[simp] theorem kD1_eq {vs vs' : List Nat} {mi' : Env → R (List D)} {b' : D → Env → Option Env} {t : Env → R Bool} {x : Env → R D} {e0 : Env} : kD1 vs vs' mi' b' t x e e0 = (mi' e).bind (kD2 vs vs' b' t x) := (rfl)
theorem stepC2_eq {vs vs' : List Nat} {mi' : Env → R (List D)} {b b' : D → Env → Option Env} {t : Env → R Bool} {x : Env → R D} {d : D} : stepC2 vs vs' b mi' b' t x d e = (R.of (b d e) e).bind (kD1 vs vs' mi' b' t x) := by
  unfold stepC2
  cases b d e <;> rfl
/-- what is walked -/
theorem items_range {j : Int} (h : -4611686018427387904 ≤ j ∧ j < 4611686018427387904) : itemsD .range [.int j] = some ((List.range j.toNat).map fun (i : Nat) => .int i) := if_pos h
theorem items_list {m : Bool} {xs : List D} (h : isFL xs = true) : itemsD .plain [.lst m xs] = some xs := if_pos h
@[simp] theorem items_tup {xs : List D} : itemsD .plain [.tup xs] = some xs := (rfl)
@[simp] theorem items_str {s : List Nat} : itemsD .plain [.str s] = some (s.map fun c => .str [c]) := (rfl)
theorem items_enum {m : Bool} {xs : List D} (h : isFL xs = true) : itemsD .enum [.lst m xs] = some (xs.zipIdx.map fun p => .tup [.int p.2, p.1]) := if_pos h
@[simp] theorem items_zipT {xs ys : List D} : itemsD .zip [.tup xs, .tup ys] = some ((xs.zip ys).map fun p => .tup [p.1, p.2]) := (rfl)
theorem isFL_str (l : List (List Nat)) : isFL (l.map .str) = true := by
  rw [isFL_all]
  simp
theorem isFL_int (l : List Int) : isFL (l.map .int) = true := by
  rw [isFL_all]
  simp
theorem frzL_str (l : List (List Nat)) : frzL (l.map .str) = l.map .str := frzL_isF _ (isFL_str l)
theorem frzL_int (l : List Int) : frzL (l.map .int) = l.map .int := frzL_isF _ (isFL_int l)
section
variable {P : Pg} {c : Nat → List D → R D} {fu : Nat} {L : List Nat} {e e1 e2 : Env} {tg it b t x tg' it' : T} {k k' : It} {is ys : List D} {vs vs' : List Nat}
/-- the turn of a for -/
def forB (P : Pg) (c : Nat → List D → R D) (fu : Nat) (L : List Nat) (tg b : T) : D → Env → R Fl := fun d e2 => (R.of (bindT L tg d e2) e2).bind fun e3 _ => evS P c fu L b e3
def kFor (P : Pg) (c : Nat → List D → R D) (fu : Nat) (L : List Nat) (b : T) (e3 _e : Env) : R Fl := evS P c fu L b e3
@[simp] theorem kFor_eq : kFor P c fu L b e e1 = evS P c fu L b e := (rfl)
theorem forB_eq {d : D} : forB P c fu L tg b d e = (R.of (bindT L tg d e) e).bind (kFor P c fu L b) := (rfl)
theorem for_eq (hi : semIt k (evVs P c it) e = .ok is e1) : evS P c fu L (.forS tg k it b) e = loopF (forB P c fu L tg b) is e1 := by
  show (semIt k (evVs P c it) e).bind _ = _
  rw [hi]
  rfl
theorem lc_eq (hi : semIt k (evVs P c it) e = .ok is e1) (hf : freeS e1 vs = true) (hl : loopC (stepC vs (bindT [] tg) (evT P c t) (evE P c x)) is (wipeE e1 vs) = .ok ys e2) (hn : ys.length ≤ 100000) : evE P c (.lc vs tg k it t x) e = .ok (.lst true ys) (backE e1 e2 vs) := by
  show (semIt k (evVs P c it) e).bind _ = _
  rw [hi]
  show (if freeS e1 vs then _ else _) = _
  rw [if_pos hf, hl]
  show (if ys.length ≤ LN then _ else _) = _
  rw [if_pos hn]
theorem lc2_eq (hi : semIt k (evVs P c it) e = .ok is e1) (hf : freeS e1 vs = true) (hl : loopC (stepC2 vs vs' (bindT [] tg) (semIt k' (evVs P c it')) (bindT [] tg') (evT P c t) (evE P c x)) is (wipeE e1 vs) = .ok ys e2) (hn : ys.length ≤ 100000) : evE P c (.lc2 vs vs' tg k it tg' k' it' t x) e = .ok (.lst true ys) (backE e1 e2 vs) := by
  show (semIt k (evVs P c it) e).bind _ = _
  rw [hi]
  show (if freeS e1 vs then _ else _) = _
  rw [if_pos hf, hl]
  show (if ys.length ≤ LN then _ else _) = _
  rw [if_pos hn]
end
end
end Wpk.M
set_option Elab.async false
set_option linter.all false
set_option maxRecDepth 100000
/-! M3: the program's words: texts, powers. -/
namespace Wpk.M
open PySem
def F_is_integer : Fd := ⟨1, 1, (.ret (.an (.bi2 .isi (.cons (.pk 0) (.cons (.ov (.cst (.ty "int"))) .nil))) (.nt (.bi2 .isi (.cons (.pk 0) (.cons (.ov (.cst (.ty "bool"))) .nil))))))⟩
def F_is_sequence : Fd := ⟨1, 1, (.ret (.bi2 .isi (.cons (.pk 0) (.cons (.ov (.tupD (.cons (.cst (.ty "list")) (.cons (.cst (.ty "tuple")) .nil)))) .nil))))⟩
def F_alphabet (g_ALL_LETTERS : Nat) : Fd := ⟨1, 1, (.ret (.slc (.ov (.gl g_ALL_LETTERS)) .nil (.ov (.var 0))))⟩
def E_texts_of_1 (c_alphabet : Nat) : T := .lc2 [4, 5] [5] (.tName 4) .plain (.cons (.var 2) .nil) (.tName 5) .plain (.cons (.call c_alphabet (.cons (.pk 0) .nil)) .nil) .yes (.op .Add (.pk 4) (.pk 5))
def B_texts_of_2 (c_alphabet : Nat) : T := .forS (.tName 3) .range (.cons (.var 1) .nil) (.asg (.tName 2) (E_texts_of_1 c_alphabet))
def F_texts_of (c_alphabet : Nat) : Fd := ⟨2, 6, (.seq (.asg (.tName 2) (.lstD (.cons (.cst (.str [])) .nil))) (.seq (B_texts_of_2 c_alphabet) (.retV 2)))⟩
def B_power_1 : T := .forS (.tName 3) .range (.cons (.var 1) .nil) (.asg (.tName 2) (.op .Mult (.pk 2) (.pk 0)))
def F_power : Fd := ⟨2, 4, (.seq (.asg (.tName 2) (.cst (.int (1)))) (.seq (B_power_1) (.retV 2)))⟩
def B_need_sizes_1 (c_is_integer g_SIZES : Nat) : T := .forS (.tTup (.cons (.tTup (.cons (.tName 4) (.cons (.tName 5) (.cons (.tName 6) .nil)))) (.cons (.tName 3) .nil))) .zip (.cons (.gl g_SIZES) (.cons (.tupD (.cons (.var 0) (.cons (.var 1) (.cons (.var 2) .nil)))) .nil)) (.ifS (.tor (.tnt (.tv (.call c_is_integer (.cons (.pk 3) .nil)))) (.tnt (.tv (.chn .LtE .LtE (.pk 5) (.pk 3) (.pk 6))))) .stk .pas)
def F_need_sizes (c_is_integer g_SIZES : Nat) : Fd := ⟨3, 7, (B_need_sizes_1 c_is_integer g_SIZES)⟩
def E_is_table_1 (c_is_integer : Nat) : T := .lc [3] (.tName 3) .plain (.cons (.var 2) .nil) .yes (.an (.call c_is_integer (.cons (.pk 3) .nil)) (.chn .LtE .Lt (.ov (.cst (.int (0)))) (.pk 3) (.pk 0)))
def F_is_table (c_is_integer c_is_sequence : Nat) : Fd := ⟨3, 4, (.seq (.ifS (.tor (.tnt (.tv (.call c_is_sequence (.cons (.pk 2) .nil)))) (.tv (.cmp .NotEq (.ov (.bi .len (.cons (.pk 2) .nil))) (.pk 1)))) (.ret (.cst (.bl false))) .pas) (.ret (.bi .all (.cons (.ov (E_is_table_1 c_is_integer)) .nil))))⟩
def B_is_forward_1 (c_offset_of c_size c_texts_of : Nat) : T := .forS (.tName 1) .plain (.cons (.call c_texts_of (.cons (.ov (.fld [0] "letters" (.pk 0))) (.cons (.ov (.op .Add (.ov (.prp 0 c_size (.pk 0))) (.ov (.cst (.int (1)))))) .nil))) .nil) (.ifS (.tv (.cmp .Gt (.ov (.meth 0 c_offset_of "offset_of" (.pk 0) (.cons (.ov (.slc (.pk 1) .nil (.ov (.neg (.cst (.int (1))))))) .nil))) (.ov (.op .Add (.ov (.meth 0 c_offset_of "offset_of" (.pk 0) (.cons (.ov (.slc (.pk 1) (.ov (.cst (.int (1)))) .nil)) .nil))) (.ov (.cst (.int (1)))))))) (.ret (.cst (.bl false))) .pas)
def F_is_forward (c_offset_of c_size c_texts_of : Nat) : Fd := ⟨1, 2, (.seq (B_is_forward_1 c_offset_of c_size c_texts_of) (.ret (.cst (.bl true))))⟩
def F_Rule___init__ (c_is_table c_need_sizes c_power : Nat) : Fd := ⟨5, 5, (.seq (.ex (.call c_need_sizes (.cons (.pk 1) (.cons (.pk 2) (.cons (.pk 3) .nil))))) (.seq (.ifS (.tnt (.tv (.call c_is_table (.cons (.pk 2) (.cons (.ov (.call c_power (.cons (.pk 1) (.cons (.ov (.op .Sub (.ov (.op .Add (.pk 2) (.pk 3))) (.ov (.cst (.int (1)))))) .nil)))) (.cons (.pk 4) .nil)))))) .stk .pas) (.seq (.sfld [0] 0 "letters" (.var 1)) (.seq (.sfld [0] 0 "w" (.var 2)) (.seq (.sfld [0] 0 "k" (.var 3)) (.sfld [0] 0 "table" (.bi .tuple (.cons (.pk 4) .nil))))))))⟩
def F_Rule_size : Fd := ⟨1, 1, (.ret (.op .Sub (.ov (.op .Add (.ov (.fld [0] "w" (.pk 0))) (.ov (.fld [0] "k" (.pk 0))))) (.ov (.cst (.int (1))))))⟩
def B_Rule_offset_of_1 (c_alphabet : Nat) : T := .forS (.tName 3) .plain (.cons (.var 1) .nil) (.asg (.tName 2) (.op .Add (.ov (.op .Mult (.pk 2) (.ov (.fld [0] "letters" (.pk 0))))) (.ov (.mt .index (.ov (.call c_alphabet (.cons (.ov (.fld [0] "letters" (.pk 0))) .nil))) (.cons (.pk 3) .nil)))))
def F_Rule_offset_of (c_alphabet : Nat) : Fd := ⟨2, 4, (.seq (.asg (.tName 2) (.cst (.int (0)))) (.seq (B_Rule_offset_of_1 c_alphabet) (.ret (.idx (.ov (.fld [0] "table" (.pk 0))) (.pk 2)))))⟩
def abc : List Nat := [97, 98, 99, 100]
def ab (l : Nat) : List Nat := abc.take l
/-- all texts -/
def txt (l : Nat) : Nat → List (List Nat)
  | 0 => [[]]
  | n + 1 => (txt l n).flatMap fun t => (ab l).map fun c => t ++ [c]
theorem txt_len (l : Nat) (hl : l ≤ 4) : ∀ n, (txt l n).length = l ^ n
  | 0 => rfl
  | n + 1 => by
    have : (ab l).length = l := by simp [ab, abc]; omega
    simp only [txt, List.length_flatMap, List.length_map, this]
    rw [List.map_const', List.sum_replicate_nat, txt_len l hl n, Nat.pow_succ]
theorem txt_mem {l : Nat} : ∀ {n : Nat} {t : List Nat}, t ∈ txt l n ↔ t.length = n ∧ ∀ c ∈ t, c ∈ ab l
  | 0, t => by
    simp only [txt, List.mem_singleton]
    constructor
    · rintro rfl; exact ⟨rfl, fun _ h => nomatch h⟩
    · rintro ⟨h, _⟩; exact List.length_eq_zero_iff.mp h
  | n + 1, t => by
    simp only [txt, List.mem_flatMap, List.mem_map]
    constructor
    · rintro ⟨s, hs, c, hc, rfl⟩
      obtain ⟨h1, h2⟩ := txt_mem.mp hs
      refine ⟨by simp [h1], fun d hd => ?_⟩
      rcases List.mem_append.mp hd with z | z
      · exact h2 d z
      · rw [List.mem_singleton.mp z]; exact hc
    · rintro ⟨h1, h2⟩
      have hne : t ≠ [] := fun z => by rw [z] at h1; simp at h1
      refine ⟨t.dropLast, txt_mem.mpr ⟨by simp [h1], fun c hc => h2 c ((List.dropLast_sublist t).subset hc)⟩, t.getLast hne, h2 _ (List.getLast_mem hne), List.dropLast_concat_getLast hne⟩
theorem abc_take {l : Nat} {c : Nat} (hl : l ≤ 4) : c ∈ ab l ↔ 97 ≤ c ∧ c < 97 + l := by
  rcases (by omega : l = 0 ∨ l = 1 ∨ l = 2 ∨ l = 3 ∨ l = 4) with rfl | rfl | rfl | rfl | rfl <;> simp [ab, abc] <;> omega
theorem cut_take {α : Type} (xs : List α) (n : Nat) : cutL xs none (some (n : Int)) = xs.take n := by
  unfold cutL
  have h0 : HT.sIx xs.length 0 none = 0 := rfl
  rw [h0, List.drop_zero, Nat.sub_zero]
  have : HT.sIx xs.length xs.length (some (n : Int)) = min n xs.length := by
    unfold HT.sIx
    simp
    omega
  rw [this]
  rcases Nat.le_total n xs.length with h | h
  · rw [Nat.min_eq_left h]
  · rw [Nat.min_eq_right h, List.take_of_length_le (Nat.le_refl _), List.take_of_length_le h]
section
variable {P : Pg} {fns : List Fd} {fu k i : Nat}
abbrev Call := Nat → List D → R D
def SpAlphabet (c : Call) (i : Nat) : Prop := ∀ l : Nat, c i [.int l] = .ok (.str (ab l)) [none]
theorem sp_alphabet {g : Nat} (hg : P.gl g = some (.str abc)) (hf : fns[i]? = some (F_alphabet g)) (k : Nat) : SpAlphabet (runF P fns fu (k + 1)) i := fun l => by
  rw [run_eq hf rfl rfl]
  simp [F_alphabet, hg, slcD, show abc.length ≤ 100000 from by decide, cut_take, ab]
def SpTextsOf (c : Call) (i : Nat) : Prop := ∀ l n : Nat, l ≤ 4 → l ^ n ≤ 4096 → n ≤ 20 → c i [.int l, .int n] = .ok (.lst true ((txt l n).map .str)) [none, none]
theorem pow_mono {l n m : Nat} (hl : 1 ≤ l) (h : n ≤ m) : l ^ n ≤ l ^ m := Nat.pow_le_pow_right hl h
theorem flat_one (ts : List (List Nat)) (cs : List Nat) : (ts.flatMap fun t => cs.flatMap fun c => [D.str (t ++ [c])]) = (ts.flatMap fun t => cs.map fun c => t ++ [c]).map .str := by
  induction ts with
  | nil => rfl
  | cons t ts ih =>
    rw [List.flatMap_cons, List.flatMap_cons, List.map_append, ih]
    congr 1
    clear ih
    induction cs with
    | nil => rfl
    | cons c cs ih2 => rw [List.flatMap_cons, List.map_cons, List.map_cons, ih2]; rfl
theorem E_texts_of_ok {c : Call} {ca l : Nat} {x1 x3 : Option D} {m : Bool} {ts : List (List Nat)} (hc : SpAlphabet c ca) (hn : (ts.flatMap fun t => (ab l).map fun c => t ++ [c]).length ≤ 100000) (ht : ∀ t ∈ ts, t.length ≤ 99) :
    evE P c (E_texts_of_1 ca) [some (.int l), x1, some (.lst m (ts.map .str)), x3, none, none] = .ok (.lst true ((ts.flatMap fun t => (ab l).map fun c => t ++ [c]).map .str)) [some (.int l), x1, some (.lst false (ts.map .str)), x3, none, none] := by
  unfold E_texts_of_1
  have inner : ∀ (t : List Nat), t ∈ ts → ∀ e4 : Env, e4 = [some (.int l), x1, some (.lst false (ts.map .str)), x3, some (.str t), none] → loopC (stepC [5] (bindT [] (.tName 5)) (evT P c .yes) (evE P c (.op .Add (.pk 4) (.pk 5)))) ((ab l).map fun c => .str [c]) e4 = .ok ((ab l).flatMap fun c => [.str (t ++ [c])]) e4 := fun t htm e4 he => by
    refine loopC_map (f := fun c => D.str [c]) _ fun c _ => ?_
    have h9 : t.length + 1 ≤ 100000 := by have := ht t htm; omega
    subst he
    rw [stepC_eq]
    simp [op_add_ss, h9]
  refine (lc2_eq (is := ts.map .str) (e1 := [some (.int l), x1, some (.lst false (ts.map .str)), x3, none, none]) (ys := ts.flatMap fun t => (ab l).flatMap fun c => [.str (t ++ [c])]) (e2 := [some (.int l), x1, some (.lst false (ts.map .str)), x3, none, none]) ?_ ?_ ?_ ?_).trans ?_
  · cases m <;> simp [frzL_str, items_list, isFL_str]
  · simp [freeS_cons]
  · refine loopC_map (f := D.str) ts fun t htm => ?_
    rw [stepC2_eq]
    simp [doCall, hc l, freeS_cons, inner t htm]
  · rw [flat_one]
    simpa using hn
  · rw [flat_one]
    simp
theorem range_cons (n : Nat) : (List.range n).map (fun (i : Nat) => D.int i) = ((List.range n).map fun i => i).map fun (i : Nat) => D.int i := by simp
/-- a for over a range whose turns all go on: by the number of turns done -/
theorem loop_range {body : D → Env → R Fl} {I : Nat → Env → Prop} {n : Nat} (hs : ∀ j e, j < n → I j e → ∃ e', body (.int j) e = .ok .nx e' ∧ I (j + 1) e') : ∀ (m j : Nat) (e : Env), j + m = n → I j e → ∃ e', loopF body ((List.range' j m).map fun (i : Nat) => D.int i) e = .ok .nx e' ∧ I n e'
  | 0, j, e, h, i => ⟨e, rfl, by rw [← h]; exact i⟩
  | m + 1, j, e, h, i => by
    obtain ⟨e', b, i'⟩ := hs j e (by omega) i
    obtain ⟨e2, b2, i2⟩ := loop_range hs m (j + 1) e' (by omega) i'
    refine ⟨e2, ?_, i2⟩
    rw [List.range'_succ, List.map_cons]
    unfold loopF
    rw [b]
    exact b2
theorem loop_range0 {body : D → Env → R Fl} {I : Nat → Env → Prop} {n : Nat} {e : Env} (hs : ∀ j e, j < n → I j e → ∃ e', body (.int j) e = .ok .nx e' ∧ I (j + 1) e') (h : I 0 e) : ∃ e', loopF body ((List.range n).map fun (i : Nat) => D.int i) e = .ok .nx e' ∧ I n e' := by
  rw [List.range_eq_range']
  exact loop_range hs n 0 e (by omega) h
theorem sp_texts_of {ca : Nat} (hc : ∀ k, SpAlphabet (runF P fns fu (k + 1)) ca) (hf : fns[i]? = some (F_texts_of ca)) (k : Nat) : SpTextsOf (runF P fns fu (k + 2)) i := fun l n hl hn h20 => by
  have loop : ∃ x3, evS P (runF P fns fu (k + 1)) fu [] (B_texts_of_2 ca) [some (.int l), some (.int n), some (.lst true [.str []]), none, none, none] = .ok .nx [some (.int l), some (.int n), some (.lst true ((txt l n).map .str)), x3, none, none] := by
    unfold B_texts_of_2
    rw [for_eq (is := (List.range n).map fun (i : Nat) => D.int i) (e1 := [some (.int l), some (.int n), some (.lst true [.str []]), none, none, none]) (by simp; rw [items_range (by omega)]; simp)]
    obtain ⟨e', b, x3, he⟩ := loop_range0 (n := n) (body := forB P (runF P fns fu (k + 1)) fu [] (.tName 3) (.asg (.tName 2) (E_texts_of_1 ca))) (I := fun j e => ∃ x3, e = [some (.int l), some (.int n), some (.lst true ((txt l j).map .str)), x3, none, none]) (e := [some (.int l), some (.int n), some (.lst true [.str []]), none, none, none]) (fun j e hj ⟨x3, he⟩ => by
      subst he
      refine ⟨_, ?_, some (.int j), rfl⟩
      have hlen : (txt l (j + 1)).length ≤ 100000 := by
        rw [txt_len l hl]
        rcases Nat.eq_zero_or_pos l with h | h
        · subst h; simp
        · have := pow_mono h (show j + 1 ≤ n by omega); omega
      rw [forB_eq]
      simp [E_texts_of_ok (hc k) hlen fun t ht => by have := (txt_mem.mp ht).1; omega]
      rfl) ⟨none, rfl⟩
    subst he
    exact ⟨x3, b⟩
  obtain ⟨x3, loop⟩ := loop
  rw [run_eq hf rfl rfl]
  simp [F_texts_of, loop]
def SpPower (c : Call) (i : Nat) : Prop := ∀ l n : Nat, l ≤ 4 → n ≤ 20 → c i [.int l, .int n] = .ok (.int ((l ^ n : Nat) : Int)) [none, none]
theorem sp_power (hf : fns[i]? = some F_power) (k : Nat) : SpPower (runF P fns fu (k + 1)) i := fun l n hl hn => by
  have loop : ∃ x3, evS P (runF P fns fu k) fu [] B_power_1 [some (.int l), some (.int n), some (.int 1), none] = .ok .nx [some (.int l), some (.int n), some (.int ((l ^ n : Nat) : Int)), x3] := by
    unfold B_power_1
    rw [for_eq (is := (List.range n).map fun (i : Nat) => D.int i) (e1 := [some (.int l), some (.int n), some (.int 1), none]) (by simp; rw [items_range (by omega)]; simp)]
    obtain ⟨e', b, x3, he⟩ := loop_range0 (n := n) (body := forB P (runF P fns fu k) fu [] (.tName 3) (.asg (.tName 2) (.op .Mult (.pk 2) (.pk 0)))) (I := fun j e => ∃ x3, e = [some (.int l), some (.int n), some (.int ((l ^ j : Nat) : Int)), x3]) (e := [some (.int l), some (.int n), some (.int 1), none]) (fun j e hj ⟨x3, he⟩ => by
      subst he
      refine ⟨_, ?_, some (.int j), rfl⟩
      rw [forB_eq]
      have h2 : (-18446744073709551616 < (l : Int) ∧ (l : Int) < 18446744073709551616) := by omega
      simp [op_mul_ii, h2, Nat.pow_succ]) ⟨none, by simp⟩
    subst he
    exact ⟨x3, b⟩
  obtain ⟨x3, loop⟩ := loop
  rw [run_eq hf rfl rfl]
  simp [F_power, loop]
/-! ### rules -/
/-- a rule -/
def rul (l w k : Nat) (tb : List Int) : D := .ins false 0 ["letters", "w", "k", "table"] [.int l, .int w, .int k, .tup (tb.map .int)]
section
variable {l w k : Nat} {tb : List Int}
@[simp] theorem owned_rul : owned (rul l w k tb) = false := (rfl)
@[simp] theorem isF_rul : isF (rul l w k tb) = true := by simp [rul, isFL_int]
@[simp] theorem frz_rul : frz (rul l w k tb) = rul l w k tb := frz_isF _ isF_rul
@[simp] theorem fld_letters : fldD [0] "letters" (rul l w k tb) = some (.int l) := by simp [rul, fldD, getF]
@[simp] theorem fld_w : fldD [0] "w" (rul l w k tb) = some (.int w) := by simp [rul, fldD, getF]
@[simp] theorem fld_k : fldD [0] "k" (rul l w k tb) = some (.int k) := by simp [rul, fldD, getF]
@[simp] theorem fld_table : fldD [0] "table" (rul l w k tb) = some (.tup (tb.map .int)) := by simp [rul, fldD, getF, isFL_int]
@[simp] theorem isInc_rul : isInc 0 (rul l w k tb) = true := (rfl)
@[simp] theorem isIns_rul_offset_of : isIns 0 "offset_of" (rul l w k tb) = true := by
  show (0 == 0 && !(["letters", "w", "k", "table"] : List Str).contains ("offset_of" : Str)) = true
  decide +kernel
end
def num (l : Nat) (t : List Nat) : Nat := t.foldl (fun a c => a * l + (c - 97)) 0
def sizesD : D := .tup [.tup [.str [108, 101, 116, 116, 101, 114, 115], .int 2, .int 4], .tup [.str [119], .int 1, .int 5], .tup [.str [107], .int 1, .int 4]]
@[simp] theorem loopF_nil {body : D → Env → R Fl} {e : Env} : loopF body [] e = .ok .nx e := (rfl)
def kLp (body : D → Env → R Fl) (xs : List D) (f : Fl) (e1 : Env) : R Fl := match f with
    | .nx => loopF body xs e1
    | .ct => loopF body xs e1
    | .bk => .ok .nx e1
    | .rt d => .ok (.rt d) e1
@[simp] theorem kLp_nx {body : D → Env → R Fl} {xs : List D} {e : Env} : kLp body xs .nx e = loopF body xs e := (rfl)
@[simp] theorem kLp_ct {body : D → Env → R Fl} {xs : List D} {e : Env} : kLp body xs .ct e = loopF body xs e := (rfl)
@[simp] theorem kLp_bk {body : D → Env → R Fl} {xs : List D} {e : Env} : kLp body xs .bk e = .ok .nx e := (rfl)
@[simp] theorem kLp_rt {body : D → Env → R Fl} {xs : List D} {e : Env} {d : D} : kLp body xs (.rt d) e = .ok (.rt d) e := (rfl)
theorem loopF_cons {body : D → Env → R Fl} {x : D} {xs : List D} {e : Env} : loopF body (x :: xs) e = (body x e).bind (kLp body xs) := (rfl)
/-- a for over things that are known -/
theorem for_known {c : Nat → List D → R D} {L : List Nat} {tg it b : T} {k : It} {is : List D} {e e1 : Env} (hi : semIt k (evVs P c it) e = .ok is e1) : evS P c fu L (.forS tg k it b) e = loopF (forB P c fu L tg b) is e1 := for_eq hi
def SpIsInteger (c : Call) (i : Nat) : Prop := ∀ n : Int, c i [.int n] = .ok (.bl true) [none]
theorem sp_is_integer (hf : fns[i]? = some F_is_integer) (k : Nat) : SpIsInteger (runF P fns fu (k + 1)) i := fun n => by
  rw [run_eq hf rfl rfl]
  simp [F_is_integer, isiD, tyNm, okTys, isTy]
def SpIsSequence (c : Call) (i : Nat) : Prop := ∀ (m : Bool) (xs : List D), m = false → c i [.lst m xs] = .ok (.bl true) [none]
theorem sp_is_sequence (hf : fns[i]? = some F_is_sequence) (k : Nat) : SpIsSequence (runF P fns fu (k + 1)) i := fun m xs hm => by
  subst hm
  rw [run_eq hf rfl rfl]
  simp [F_is_sequence, isiD, tyNm, okTys, isTy, isTys]
def OkS (l w k : Nat) : Prop := 2 ≤ l ∧ l ≤ 4 ∧ 1 ≤ w ∧ w ≤ 5 ∧ 1 ≤ k ∧ k ≤ 4
def SpNeedSizes (c : Call) (i : Nat) : Prop := ∀ l w k : Nat, OkS l w k → c i [.int l, .int w, .int k] = .ok .non [none, none, none]
theorem sp_need_sizes {ci gs : Nat} (hg : P.gl gs = some sizesD) (hc : ∀ k, SpIsInteger (runF P fns fu (k + 1)) ci) (hf : fns[i]? = some (F_need_sizes ci gs)) (k : Nat) : SpNeedSizes (runF P fns fu (k + 2)) i := fun l w kk ⟨h1, h2, h3, h4, h5, h6⟩ => by
  rw [run_eq hf rfl rfl]
  have a1 : (2 : Int) ≤ l := by omega
  have a2 : (l : Int) ≤ 4 := by omega
  have a3 : (1 : Int) ≤ w := by omega
  have a4 : (w : Int) ≤ 5 := by omega
  have a5 : (1 : Int) ≤ kk := by omega
  have a6 : (kk : Int) ≤ 4 := by omega
  simp only [F_need_sizes, B_need_sizes_1, List.map_cons, List.map_nil, ownL_cons, owned_int, ownL_nil]
  rw [for_eq (is := [.tup [.tup [.str [108, 101, 116, 116, 101, 114, 115], .int 2, .int 4], .int l], .tup [.tup [.str [119], .int 1, .int 5], .int w], .tup [.tup [.str [107], .int 1, .int 4], .int kk]]) (e1 := [some (.int l), some (.int w), some (.int kk), none, none, none, none]) (by simp [hg, sizesD])]
  simp [loopF_cons, forB_eq, doCall, hc k _, a1, a2, a3, a4, a5, a6]
def OkT (w : Nat) (tb : List Int) : Prop := ∀ x ∈ tb, 0 ≤ x ∧ x < w
def SpIsTable (c : Call) (i : Nat) : Prop := ∀ (w : Nat) (tb : List Int), OkT w tb → tb.length ≤ 4096 → c i [.int w, .int tb.length, .lst false (tb.map .int)] = .ok (.bl true) [none, none, none]
theorem flat_const {α β : Type} (b : β) : ∀ l : List α, (l.flatMap fun _ => [b]) = List.replicate l.length b
  | [] => rfl
  | _ :: l => by rw [List.flatMap_cons, flat_const b l]; rfl
theorem bi_all_l {m : Bool} {xs : List D} : biD .all [.lst m xs] = (boolsOf xs).map fun bs => .bl (bs.all id) := (rfl)
theorem bi_tuple_l {m : Bool} {xs : List D} : biD .tuple [.lst m xs] = if isFL xs then some (.tup xs) else none := (rfl)
theorem bools_all (n : Nat) : boolsOf (List.replicate n (.bl true)) = some (List.replicate n true) := by
  induction n with
  | zero => rfl
  | succ n ih => rw [List.replicate_succ, boolsOf, ih]; rfl
theorem sp_is_table {ci cs : Nat} (hc : ∀ k, SpIsInteger (runF P fns fu (k + 1)) ci) (hs : ∀ k, SpIsSequence (runF P fns fu (k + 1)) cs) (hf : fns[i]? = some (F_is_table ci cs)) (k : Nat) : SpIsTable (runF P fns fu (k + 2)) i := fun w tb ht hl => by
  have comp : evE P (runF P fns fu (k + 1)) (E_is_table_1 ci) [some (.int w), some (.int tb.length), some (.lst false (tb.map .int)), none] = .ok (.lst true (List.replicate tb.length (.bl true))) [some (.int w), some (.int tb.length), some (.lst false (tb.map .int)), none] := by
    unfold E_is_table_1
    refine (lc_eq (is := tb.map .int) (e1 := [some (.int w), some (.int tb.length), some (.lst false (tb.map .int)), none]) (ys := tb.flatMap fun _ => [.bl true]) (e2 := [some (.int w), some (.int tb.length), some (.lst false (tb.map .int)), none]) ?_ ?_ ?_ ?_).trans ?_
    · simp [items_list, isFL_int]
    · simp [freeS_cons]
    · refine loopC_map tb fun x hx => ?_
      obtain ⟨h1, h2⟩ := ht x hx
      rw [stepC_eq]
      simp [doCall, hc k x, h1, h2]
    · rw [flat_const, List.length_replicate]; omega
    · rw [flat_const]; simp
  rw [run_eq hf rfl rfl]
  simp [F_is_table, doCall, hs k false _ rfl, comp, bi_all_l, bools_all]
def SpInit (c : Call) (i : Nat) : Prop := ∀ (l w k : Nat) (tb : List Int), OkS l w k → OkT w tb → tb.length = l ^ (w + k - 1) → tb.length ≤ 4096 → c i [.ins true 0 [] [], .int l, .int w, .int k, .lst false (tb.map .int)] = .ok .non [some (.ins true 0 ["letters", "w", "k", "table"] [.int l, .int w, .int k, .tup (tb.map .int)]), none, none, none, none]
theorem sp_init {cn ct cp : Nat} (h1 : ∀ k, SpNeedSizes (runF P fns fu (k + 2)) cn) (h2 : ∀ k, SpIsTable (runF P fns fu (k + 2)) ct) (h3 : ∀ k, SpPower (runF P fns fu (k + 1)) cp) (hf : fns[i]? = some (F_Rule___init__ ct cn cp)) (k : Nat) : SpInit (runF P fns fu (k + 3)) i := fun l w kk tb hs ht hl h9 => by
  rw [run_eq hf rfl rfl]
  have e1 : (w : Int) + kk - 1 = ((w + kk - 1 : Nat) : Int) := by have := hs.2.2.1; omega
  have p1 := h3 (k + 1) l (w + kk - 1) hs.2.1 (by have := hs.2.2.2.1; have := hs.2.2.2.2.2; omega)
  have p2 := h2 k w tb ht h9
  rw [← hl] at p1
  have p3 := h1 k l w kk hs
  simp [F_Rule___init__, doCall, p3, e1, p1, p2, putFs, isFL_int, bi_tuple_l]
def SpSize (c : Call) (i : Nat) : Prop := ∀ (l w k : Nat) (tb : List Int), 1 ≤ w → c i [rul l w k tb] = .ok (.int ((w + k - 1 : Nat) : Int)) [none]
theorem sp_size (hf : fns[i]? = some F_Rule_size) (k : Nat) : SpSize (runF P fns fu (k + 1)) i := fun l w kk tb hw => by
  rw [run_eq hf rfl rfl]
  have e1 : (w : Int) + kk - 1 = ((w + kk - 1 : Nat) : Int) := by omega
  simp [F_Rule_size, e1]
theorem occ_ab : ∀ l ∈ [0, 1, 2, 3, 4], ∀ c ∈ ab l, (Builtin.Str.occurrences (sOf (ab l)) (sOf [c]) 0 (ab l).length 1).head? = some (c - 97) := by decide +kernel
theorem idx_ab {l c : Nat} (hl : l ≤ 4) (hc : c ∈ ab l) : mtD .index (.str (ab l)) [.str [c]] = some (.int ((c - 97 : Nat) : Int)) := by
  have h := occ_ab l (by simp; omega) c hc
  show (match Builtin.Str.occurrences (sOf (ab l)) (sOf [c]) 0 (ab l).length 1 with | i :: _ => some (D.int i) | [] => none) = _
  cases q : Builtin.Str.occurrences (sOf (ab l)) (sOf [c]) 0 (ab l).length 1 with
  | nil => rw [q] at h; cases h
  | cons x xs => rw [q] at h; cases h; rfl
theorem num_app (l : Nat) (t : List Nat) (c : Nat) : num l (t ++ [c]) = num l t * l + (c - 97) := by unfold num; rw [List.foldl_append]; rfl
@[simp] theorem mbT_index : mbT .index = ["list", "str"] := (rfl)
def SpOffsetOf (c : Call) (i : Nat) : Prop := ∀ (l w k : Nat) (tb : List Int) (t : List Nat) (v : Int), l ≤ 4 → (∀ c ∈ t, c ∈ ab l) → tb[num l t]? = some v → c i [rul l w k tb, .str t] = .ok (.int v) [none, none]
theorem sp_offset_of {ca : Nat} (hc : ∀ k, SpAlphabet (runF P fns fu (k + 1)) ca) (hf : fns[i]? = some (F_Rule_offset_of ca)) (k : Nat) : SpOffsetOf (runF P fns fu (k + 2)) i := fun l w kk tb t v hl ht hv => by
  have loop : ∃ x3, evS P (runF P fns fu (k + 1)) fu [] (B_Rule_offset_of_1 ca) [some (rul l w kk tb), some (.str t), some (.int 0), none] = .ok .nx [some (rul l w kk tb), some (.str t), some (.int (num l t : Nat)), x3] := by
    unfold B_Rule_offset_of_1
    rw [for_eq (is := t.map fun c => .str [c]) (e1 := [some (rul l w kk tb), some (.str t), some (.int 0), none]) (by simp)]
    obtain ⟨e', b, x3, pre, he1, he2⟩ := loopF_go (f := fun c => D.str [c]) (body := forB P (runF P fns fu (k + 1)) fu [] (.tName 3) (.asg (.tName 2) (.op .Add (.ov (.op .Mult (.pk 2) (.ov (.fld [0] "letters" (.pk 0))))) (.ov (.mt .index (.ov (.call ca (.cons (.ov (.fld [0] "letters" (.pk 0))) .nil))) (.cons (.pk 3) .nil))))))
      (I := fun cs e => ∃ x3 pre, t = pre ++ cs ∧ e = [some (rul l w kk tb), some (.str t), some (.int (num l pre : Nat)), x3]) (fun c cs e ⟨x3, pre, h1, h2⟩ => by
        subst h2
        have hcm : c ∈ ab l := ht c (by rw [h1]; simp)
        refine ⟨_, ?_, some (.str [c]), pre ++ [c], by rw [h1]; simp, rfl⟩
        rw [forB_eq]
        have h2 : (-18446744073709551616 < (l : Int) ∧ (l : Int) < 18446744073709551616) := by omega
        simp [op_mul_ii, h2, doCall, hc k l, idx_ab hl hcm, num_app]) t _ ⟨none, [], rfl, rfl⟩
    subst he2
    rw [List.append_nil] at he1
    subst he1
    exact ⟨x3, b⟩
  obtain ⟨x3, loop⟩ := loop
  rw [run_eq hf rfl rfl]
  have hx : idxF (.tup (tb.map .int)) (.int (num l t : Nat)) = some (.int v) := idx_t (atI_nat (by rw [List.getElem?_map, hv]; rfl)) rfl
  simp [F_Rule_offset_of, loop, hx]
theorem cut_dropLast {α : Type} (xs : List α) : cutL xs none (some (-1)) = xs.dropLast := by
  unfold cutL
  have h0 : HT.sIx xs.length 0 none = 0 := rfl
  have h1 : HT.sIx xs.length xs.length (some (-1)) = xs.length - 1 := by
    show (if (-1 : Int) < 0 then ((-1 : Int) + (xs.length : Int)).toNat else min (-1 : Int).toNat xs.length) = _
    rw [if_pos (by decide)]
    omega
  rw [h0, h1, List.drop_zero, Nat.sub_zero, List.dropLast_eq_take]
theorem cut_tail {α : Type} (xs : List α) : cutL xs (some 1) none = xs.tail := by
  unfold cutL
  have h0 : HT.sIx xs.length xs.length none = xs.length := rfl
  have h1 : HT.sIx xs.length 0 (some 1) = min 1 xs.length := rfl
  rw [h0, h1]
  cases xs with
  | nil => rfl
  | cons x xs => simp
/-- an offset that goes back by more than one -/
def offs (l : Nat) (tb : List Int) (t : List Nat) : Int := (tb[num l t]?).getD 0
def bad (l : Nat) (tb : List Int) (t : List Nat) : Bool := decide (offs l tb t.tail + 1 < offs l tb t.dropLast)
def fwd (l w k : Nat) (tb : List Int) : Bool := !(txt l (w + k)).any (bad l tb)
theorem num_lt {l : Nat} (hl : l ≤ 4) : ∀ {n : Nat} {t : List Nat}, t.length = n → (∀ c ∈ t, c ∈ ab l) → num l t < l ^ n
  | 0, t, h, _ => by
    have : t = [] := List.length_eq_zero_iff.mp h
    subst this
    exact Nat.one_pos
  | n + 1, t, h, hc => by
    have hne : t ≠ [] := fun z => by rw [z] at h; cases h
    have e := List.dropLast_concat_getLast hne
    have ih := num_lt hl (n := n) (t := t.dropLast) (by simp [h]) fun c hcm => hc c ((List.dropLast_sublist t).subset hcm)
    have hg := (abc_take hl).mp (hc _ (List.getLast_mem hne))
    rw [← e, num_app, Nat.pow_succ]
    have h2 : num l t.dropLast * l + l ≤ l ^ n * l := by
      have : (num l t.dropLast + 1) * l ≤ l ^ n * l := Nat.mul_le_mul_right l ih
      rw [Nat.add_mul] at this
      omega
    omega
theorem offs_at {l n : Nat} {tb : List Int} {t : List Nat} (hl : l ≤ 4) (hn : t.length = n) (hc : ∀ c ∈ t, c ∈ ab l) (hb : tb.length = l ^ n) : tb[num l t]? = some (offs l tb t) := by
  have := num_lt hl hn hc
  unfold offs
  rw [List.getElem?_eq_getElem (by omega)]
  rfl
def SpIsForward (c : Call) (i : Nat) : Prop := ∀ (l w k : Nat) (tb : List Int), OkS l w k → tb.length = l ^ (w + k - 1) → l ^ (w + k) ≤ 4096 → c i [rul l w k tb] = .ok (.bl (fwd l w k tb)) [none]
theorem sp_is_forward {co cs ct : Nat} (h1 : ∀ k, SpOffsetOf (runF P fns fu (k + 2)) co) (h2 : ∀ k, SpSize (runF P fns fu (k + 1)) cs) (h3 : ∀ k, SpTextsOf (runF P fns fu (k + 2)) ct) (hf : fns[i]? = some (F_is_forward co cs ct)) (k : Nat) : SpIsForward (runF P fns fu (k + 3)) i := fun l w kk tb hs hb h9 => by
  obtain ⟨s1, s2, s3, s4, s5, s6⟩ := hs
  have q2 := h2 (k + 1) l w kk tb s3
  have q3 := h3 k l (w + kk) s2 h9 (by omega)
  have e1 : ((w + kk - 1 : Nat) : Int) + 1 = ((w + kk : Nat) : Int) := by omega
  have hin : semIt .plain (evVs P (runF P fns fu (k + 2)) (.cons (.call ct (.cons (.ov (.fld [0] "letters" (.pk 0))) (.cons (.ov (.op .Add (.ov (.prp 0 cs (.pk 0))) (.ov (.cst (.int (1)))))) .nil))) .nil)) [some (rul l w kk tb), none] = .ok ((txt l (w + kk)).map .str) [some (rul l w kk tb), none] := by
    simp only [Int.natCast_add] at q3 e1
    simp [doCall, q2, e1, q3, items_list, isFL_str]
  have loop : ∃ x1, evS P (runF P fns fu (k + 2)) fu [] (B_is_forward_1 co cs ct) [some (rul l w kk tb), none] = .ok (if (txt l (w + kk)).any (bad l tb) then .rt (.bl false) else .nx) [some (rul l w kk tb), x1] := by
    unfold B_is_forward_1
    rw [for_eq hin]
    obtain ⟨e', b, x1, he⟩ := loopF_findM (f := D.str) (p := bad l tb) (d := .bl false) (I := fun e => ∃ x1, e = [some (rul l w kk tb), x1]) (body := forB P (runF P fns fu (k + 2)) fu [] (.tName 1) (.ifS (.tv (.cmp .Gt (.ov (.meth 0 co "offset_of" (.pk 0) (.cons (.ov (.slc (.pk 1) .nil (.ov (.neg (.cst (.int (1))))))) .nil))) (.ov (.op .Add (.ov (.meth 0 co "offset_of" (.pk 0) (.cons (.ov (.slc (.pk 1) (.ov (.cst (.int (1)))) .nil)) .nil))) (.ov (.cst (.int (1)))))))) (.ret (.cst (.bl false))) .pas)) (txt l (w + kk)) (fun t htm e ⟨x1, he⟩ => by
      subst he
      obtain ⟨t1, t2⟩ := txt_mem.mp htm
      have o1 := h1 k l w kk tb t.dropLast _ s2 (fun c hc => t2 c ((List.dropLast_sublist t).subset hc)) (offs_at s2 (n := w + kk - 1) (by simp [t1]) (fun c hc => t2 c ((List.dropLast_sublist t).subset hc)) hb)
      have o2 := h1 k l w kk tb t.tail _ s2 (fun c hc => t2 c (List.mem_of_mem_tail hc)) (offs_at s2 (n := w + kk - 1) (by simp [t1]) (fun c hc => t2 c (List.mem_of_mem_tail hc)) hb)
      have h100 : t.length ≤ 100000 := by omega
      have key : forB P (runF P fns fu (k + 2)) fu [] (.tName 1) (.ifS (.tv (.cmp .Gt (.ov (.meth 0 co "offset_of" (.pk 0) (.cons (.ov (.slc (.pk 1) .nil (.ov (.neg (.cst (.int (1))))))) .nil))) (.ov (.op .Add (.ov (.meth 0 co "offset_of" (.pk 0) (.cons (.ov (.slc (.pk 1) (.ov (.cst (.int (1)))) .nil)) .nil))) (.ov (.cst (.int (1)))))))) (.ret (.cst (.bl false))) .pas) (.str t) [some (rul l w kk tb), x1] = .ok (if bad l tb t then .rt (.bl false) else .nx) [some (rul l w kk tb), some (.str t)] := by
        rw [forB_eq]
        simp [slcD, h100, cut_dropLast, cut_tail, doCall, o1, o2, bad]
        split <;> simp
      cases hbd : bad l tb t with
      | true => rw [hbd] at key; exact .inl ⟨rfl, _, key, _, rfl⟩
      | false => rw [hbd] at key; exact .inr ⟨rfl, _, key, _, rfl⟩) _ ⟨none, rfl⟩
    subst he
    exact ⟨x1, b⟩
  obtain ⟨x1, loop⟩ := loop
  rw [run_eq hf rfl rfl]
  unfold fwd
  cases ha : (txt l (w + kk)).any (bad l tb) <;> (rw [ha] at loop; simp [F_is_forward, loop])
end
end Wpk.M
set_option Elab.async false
set_option linter.all false
set_option maxRecDepth 100000
/-! M4: the laws' own words (the first family). -/
namespace Wpk.M
open PySem
def F__law_box : Fd := ⟨3, 5, (.seq (.asg (.tName 3) (.op .Add (.ov (.op .Add (.ov (.op .Mult (.ov (.cst (.int (9013)))) (.pk 1))) (.ov (.op .Mult (.ov (.cst (.int (100169)))) (.pk 2))))) (.ov (.cst (.int (167)))))) (.seq (.ifS (.tv (.cmp .Lt (.pk 1) (.ov (.bi .len (.cons (.pk 0) .nil))))) (.asg (.tName 3) (.bi .abs (.cons (.ov (.idx (.pk 0) (.pk 1))) .nil))) (.ifS (.tv (.cmp .Gt (.ov (.bi .len (.cons (.pk 0) .nil))) (.ov (.cst (.int (0)))))) (.asg (.tName 3) (.op .Add (.pk 3) (.ov (.op .Mult (.ov (.op .Mod (.ov (.bi2 .int (.cons (.ov (.bi .abs (.cons (.ov (.idx (.pk 0) (.ov (.op .Mod (.ov (.bi2 .int (.cons (.pk 1) .nil))) (.ov (.bi .len (.cons (.pk 0) .nil))))))) .nil))) .nil))) (.ov (.cst (.int (2147483629)))))) (.ov (.cst (.int (52817)))))))) .pas)) (.seq (.asg (.tName 4) (.op .Add (.ov (.op .Mod (.ov (.bi2 .int (.cons (.ov (.op .Add (.ov (.op .Mult (.ov (.op .Mod (.ov (.bi2 .int (.cons (.pk 3) .nil))) (.ov (.cst (.int (2147483629)))))) (.ov (.cst (.int (48271)))))) (.ov (.op .Mult (.ov (.cst (.int (39373)))) (.ov (.op .Add (.pk 1) (.ov (.op .Mult (.ov (.cst (.int (13)))) (.pk 2))))))))) .nil))) (.ov (.cst (.int (2147483629)))))) (.ov (.cst (.int (1)))))) (.ret (.lstD (.cons (.idx (.ov (.lstD (.cons (.cst (.int (0))) (.cons (.var 3) .nil)))) (.ov (.bi2 .int (.cons (.ov (.cmp .GtE (.pk 3) (.ov (.op .Pow (.ov (.cst (.int (10)))) (.ov (.cst (.int (18)))))))) .nil)))) (.cons (.var 4) (.cons (.cst (.int (0))) .nil))))))))⟩
def F__law_take : Fd := ⟨2, 5, (.seq (.ifS (.tv (.cmp .Gt (.ov (.idx (.pk 0) (.ov (.cst (.int (0)))))) (.ov (.cst (.int (0)))))) (.seq (.asg (.tName 4) (.op .Mod (.ov (.bi2 .int (.cons (.ov (.idx (.pk 0) (.ov (.cst (.int (0)))))) .nil))) (.pk 1))) (.seq (.sub 0 (.cst (.int (0))) (.op .FloorDiv (.ov (.idx (.pk 0) (.ov (.cst (.int (0)))))) (.pk 1))) (.retV 4))) .pas) (.seq (.sub 0 (.cst (.int (2))) (.op .Add (.ov (.idx (.pk 0) (.ov (.cst (.int (2)))))) (.ov (.cst (.int (1)))))) (.seq (.asg (.tName 2) (.op .Mod (.ov (.bi2 .int (.cons (.ov (.op .Mult (.ov (.op .Add (.ov (.idx (.pk 0) (.ov (.cst (.int (1)))))) (.ov (.op .Mult (.ov (.cst (.int (99991)))) (.ov (.idx (.pk 0) (.ov (.cst (.int (2)))))))))) (.ov (.cst (.int (52817)))))) .nil))) (.ov (.cst (.int (2147483647)))))) (.seq (.sub 0 (.cst (.int (1))) (.op .Add (.ov (.op .Mod (.ov (.bi2 .int (.cons (.ov (.op .Add (.ov (.op .Mult (.pk 2) (.ov (.cst (.int (48271)))))) (.ov (.cst (.int (20011)))))) .nil))) (.ov (.cst (.int (2147483629)))))) (.ov (.cst (.int (1)))))) (.seq (.ifS (.tv (.cmp .Lt (.pk 1) (.ov (.op .Pow (.ov (.cst (.int (2)))) (.ov (.cst (.int (40)))))))) (.ret (.op .Mod (.ov (.bi2 .int (.cons (.ov (.op .FloorDiv (.ov (.op .Add (.ov (.op .Mult (.pk 2) (.ov (.cst (.int (2147483647)))))) (.ov (.idx (.pk 0) (.ov (.cst (.int (1)))))))) (.ov (.cst (.int (8191)))))) .nil))) (.pk 1))) .pas) (.seq (.asg (.tName 3) (.op .Mult (.ov (.op .Add (.ov (.op .Mult (.pk 2) (.ov (.cst (.int (2147483647)))))) (.ov (.idx (.pk 0) (.ov (.cst (.int (1)))))))) (.ov (.op .Pow (.ov (.cst (.int (2147483629)))) (.ov (.cst (.int (3)))))))) (.ret (.op .Mod (.ov (.bi2 .int (.cons (.ov (.op .Add (.ov (.op .Add (.pk 3) (.ov (.op .Mult (.ov (.op .Pow (.ov (.idx (.pk 0) (.ov (.cst (.int (1)))))) (.ov (.cst (.int (3)))))) (.ov (.cst (.int (8191)))))))) (.pk 2))) .nil))) (.pk 1)))))))))⟩
def F__law_pick (c__law_take : Nat) : Fd := ⟨2, 2, (.ret (.idx (.pk 1) (.ov (.call c__law_take (.cons (.pk 0) (.cons (.ov (.bi .len (.cons (.pk 1) .nil))) .nil))))))⟩
def B__law_mixed_1 (c__law_take : Nat) : T := .forS (.tName 2) .range (.cons (.bi .len (.cons (.pk 3) .nil)) .nil) (.ex (.app 4 (.mut .pop 3 (.cons (.call c__law_take (.cons (.pk 0) (.cons (.ov (.bi .len (.cons (.pk 3) .nil))) .nil))) .nil))))
def F__law_mixed (c__law_take : Nat) : Fd := ⟨2, 5, (.seq (.par [3, 4] (.cons (.bi .list (.cons (.pk 1) .nil)) (.cons (.lstD .nil) .nil))) (.seq (B__law_mixed_1 c__law_take) (.retV 4)))⟩
def E__law_texts_1 : T := .lc [6] (.tName 6) .plain (.cons (.slc (.ov (.cst (.str [97, 98, 99, 100]))) .nil (.ov (.var 0))) .nil) .yes (.op .Add (.pk 5) (.pk 6))
def B__law_texts_2 : T := .forS (.tName 5) .plain (.cons (.var 2) .nil) (.ex (.mut .ext 4 (.cons (E__law_texts_1) .nil)))
def B__law_texts_3 : T := .forS (.tName 3) .range (.cons (.var 1) .nil) (.seq (.asg (.tName 4) (.lstD .nil)) (.seq (B__law_texts_2) (.asg (.tName 2) (.var 4))))
def F__law_texts : Fd := ⟨2, 7, (.seq (.asg (.tName 2) (.lstD (.cons (.cst (.str [])) .nil))) (.seq (B__law_texts_3) (.retV 2)))⟩
def F__law_shapes : Fd := ⟨0, 1, (.seq (.asg (.tName 0) (.lstD (.cons (.tupD (.cons (.cst (.int (2))) (.cons (.cst (.int (1))) (.cons (.cst (.int (1))) .nil)))) (.cons (.tupD (.cons (.cst (.int (2))) (.cons (.cst (.int (2))) (.cons (.cst (.int (1))) .nil)))) (.cons (.tupD (.cons (.cst (.int (2))) (.cons (.cst (.int (2))) (.cons (.cst (.int (1))) .nil)))) (.cons (.tupD (.cons (.cst (.int (2))) (.cons (.cst (.int (2))) (.cons (.cst (.int (2))) .nil)))) (.cons (.tupD (.cons (.cst (.int (2))) (.cons (.cst (.int (2))) (.cons (.cst (.int (2))) .nil)))) (.cons (.tupD (.cons (.cst (.int (2))) (.cons (.cst (.int (3))) (.cons (.cst (.int (1))) .nil)))) (.cons (.tupD (.cons (.cst (.int (2))) (.cons (.cst (.int (3))) (.cons (.cst (.int (1))) .nil)))) (.cons (.tupD (.cons (.cst (.int (2))) (.cons (.cst (.int (3))) (.cons (.cst (.int (2))) .nil)))) (.cons (.tupD (.cons (.cst (.int (2))) (.cons (.cst (.int (2))) (.cons (.cst (.int (3))) .nil)))) .nil))))))))))) (.seq (.asg (.tName 0) (.op .Add (.pk 0) (.ov (.lstD (.cons (.tupD (.cons (.cst (.int (2))) (.cons (.cst (.int (1))) (.cons (.cst (.int (3))) .nil)))) (.cons (.tupD (.cons (.cst (.int (2))) (.cons (.cst (.int (2))) (.cons (.cst (.int (4))) .nil)))) (.cons (.tupD (.cons (.cst (.int (2))) (.cons (.cst (.int (4))) (.cons (.cst (.int (1))) .nil)))) (.cons (.tupD (.cons (.cst (.int (2))) (.cons (.cst (.int (4))) (.cons (.cst (.int (2))) .nil)))) (.cons (.tupD (.cons (.cst (.int (2))) (.cons (.cst (.int (3))) (.cons (.cst (.int (3))) .nil)))) (.cons (.tupD (.cons (.cst (.int (2))) (.cons (.cst (.int (3))) (.cons (.cst (.int (4))) .nil)))) (.cons (.tupD (.cons (.cst (.int (3))) (.cons (.cst (.int (2))) (.cons (.cst (.int (1))) .nil)))) (.cons (.tupD (.cons (.cst (.int (3))) (.cons (.cst (.int (1))) (.cons (.cst (.int (2))) .nil)))) .nil)))))))))))) (.ret (.op .Add (.pk 0) (.ov (.lstD (.cons (.tupD (.cons (.cst (.int (3))) (.cons (.cst (.int (2))) (.cons (.cst (.int (2))) .nil)))) (.cons (.tupD (.cons (.cst (.int (3))) (.cons (.cst (.int (3))) (.cons (.cst (.int (1))) .nil)))) (.cons (.tupD (.cons (.cst (.int (3))) (.cons (.cst (.int (1))) (.cons (.cst (.int (4))) .nil)))) (.cons (.tupD (.cons (.cst (.int (4))) (.cons (.cst (.int (1))) (.cons (.cst (.int (1))) .nil)))) (.cons (.tupD (.cons (.cst (.int (4))) (.cons (.cst (.int (2))) (.cons (.cst (.int (1))) .nil)))) (.cons (.tupD (.cons (.cst (.int (4))) (.cons (.cst (.int (1))) (.cons (.cst (.int (2))) .nil)))) (.cons (.tupD (.cons (.cst (.int (4))) (.cons (.cst (.int (2))) (.cons (.cst (.int (2))) .nil)))) (.cons (.tupD (.cons (.cst (.int (4))) (.cons (.cst (.int (1))) (.cons (.cst (.int (3))) .nil)))) .nil))))))))))))))⟩
def E__law_shape_1 (c__law_power c__law_shapes : Nat) : T := .lc [2] (.tName 2) .plain (.cons (.call c__law_shapes .nil) .nil) (.tv (.cmp .LtE (.ov (.call c__law_power (.cons (.ov (.idx (.pk 2) (.ov (.cst (.int (0)))))) (.cons (.ov (.op .Sub (.ov (.op .Add (.ov (.op .Mult (.ov (.cst (.int (2)))) (.ov (.idx (.pk 2) (.ov (.cst (.int (1)))))))) (.ov (.idx (.pk 2) (.ov (.cst (.int (2)))))))) (.ov (.cst (.int (2)))))) .nil)))) (.pk 1))) (.var 2)
def F__law_shape (c__law_pick c__law_power c__law_shapes : Nat) : Fd := ⟨2, 3, (.ret (.call c__law_pick (.cons (.pk 0) (.cons (.ov (E__law_shape_1 c__law_power c__law_shapes)) .nil))))⟩
def E__law_first_1 : T := .lc [7, 8] (.tTup (.cons (.tName 7) (.cons (.tName 8) .nil))) .enum (.cons (.var 4) .nil) (.tv (.cmp .Eq (.pk 8) (.pk 5))) (.var 7)
def E__law_first_2 : T := .lc [8] (.tName 8) .plain (.cons (.var 1) .nil) (.tv (.cmp .In (.pk 8) (.pk 4))) (.var 8)
def E__law_first_3 : T := .lc [7] (.tName 7) .range (.cons (.idx (.pk 0) (.ov (.cst (.int (1))))) .nil) .yes (.slc (.pk 3) (.ov (.var 7)) (.ov (.op .Add (.pk 7) (.ov (.idx (.pk 0) (.ov (.cst (.int (2)))))))))
def F__law_first : Fd := ⟨4, 9, (.seq (.asg (.tName 4) (E__law_first_3)) (.seq (.asg (.tName 5) (.idx (.ov (E__law_first_2)) (.ov (.cst (.int (0)))))) (.seq (.asg (.tName 6) (E__law_first_1)) (.ret (.ite (.tv (.var 2)) (.idx (.pk 6) (.ov (.op .Sub (.ov (.cst (.int (0)))) (.ov (.cst (.int (1))))))) (.idx (.pk 6) (.ov (.cst (.int (0))))))))))⟩
def E__law_by_order_1 (c__law_first : Nat) : T := .lc [4] (.tName 4) .plain (.cons (.var 3) .nil) .yes (.call c__law_first (.cons (.pk 0) (.cons (.pk 1) (.cons (.pk 2) (.cons (.pk 4) .nil)))))
def F__law_by_order (c__law_first c__law_texts : Nat) : Fd := ⟨3, 5, (.seq (.asg (.tName 3) (.call c__law_texts (.cons (.ov (.idx (.pk 0) (.ov (.cst (.int (0)))))) (.cons (.ov (.op .Sub (.ov (.op .Add (.ov (.idx (.pk 0) (.ov (.cst (.int (1)))))) (.ov (.idx (.pk 0) (.ov (.cst (.int (2)))))))) (.ov (.cst (.int (1)))))) .nil)))) (.ret (E__law_by_order_1 c__law_first)))⟩
def E__law_table_1 (c__law_take c__law_texts : Nat) : T := .lc [4] (.tName 4) .plain (.cons (.call c__law_texts (.cons (.ov (.idx (.pk 1) (.ov (.cst (.int (0)))))) (.cons (.ov (.op .Sub (.ov (.op .Add (.ov (.idx (.pk 1) (.ov (.cst (.int (1)))))) (.ov (.idx (.pk 1) (.ov (.cst (.int (2)))))))) (.ov (.cst (.int (1)))))) .nil))) .nil) .yes (.call c__law_take (.cons (.pk 0) (.cons (.ov (.idx (.pk 1) (.ov (.cst (.int (1)))))) .nil)))
def F__law_table (c__law_by_order c__law_mixed c__law_take c__law_texts : Nat) : Fd := ⟨2, 5, (.seq (.asg (.tName 2) (.call c__law_take (.cons (.pk 0) (.cons (.ov (.cst (.int (5)))) .nil)))) (.seq (.ifS (.tv (.cmp .Eq (.pk 2) (.ov (.cst (.int (4)))))) (.ret (E__law_table_1 c__law_take c__law_texts)) .pas) (.seq (.asg (.tName 3) (.call c__law_by_order (.cons (.pk 1) (.cons (.ov (.call c__law_mixed (.cons (.pk 0) (.cons (.ov (.call c__law_texts (.cons (.ov (.idx (.pk 1) (.ov (.cst (.int (0)))))) (.cons (.ov (.idx (.pk 1) (.ov (.cst (.int (2)))))) .nil)))) .nil)))) (.cons (.ov (.cmp .Eq (.pk 2) (.ov (.cst (.int (1)))))) .nil))))) (.seq (.ifS (.tv (.cmp .Eq (.pk 2) (.ov (.cst (.int (2)))))) (.sub 3 (.call c__law_take (.cons (.pk 0) (.cons (.ov (.bi .len (.cons (.pk 3) .nil))) .nil))) (.call c__law_take (.cons (.pk 0) (.cons (.ov (.idx (.pk 1) (.ov (.cst (.int (1)))))) .nil)))) .pas) (.retV 3)))))⟩
def F__law_rule (c__law_shape c__law_table : Nat) : Fd := ⟨2, 3, (.seq (.asg (.tName 2) (.call c__law_shape (.cons (.pk 0) (.cons (.pk 1) .nil)))) (.ret (.op .Add (.pk 2) (.ov (.tupD (.cons (.call c__law_table (.cons (.pk 0) (.cons (.pk 2) .nil))) .nil))))))⟩
def F__law_rule_of (c___init__ : Nat) : Fd := ⟨1, 1, (.ret (.mk 0 c___init__ (.cons (.ov (.idx (.pk 0) (.ov (.cst (.int (0)))))) (.cons (.ov (.idx (.pk 0) (.ov (.cst (.int (1)))))) (.cons (.ov (.idx (.pk 0) (.ov (.cst (.int (2)))))) (.cons (.ov (.idx (.pk 0) (.ov (.cst (.int (3)))))) .nil))))))⟩
def B__law_spot_1 : T := .forS (.tName 3) .plain (.cons (.var 1) .nil) (.asg (.tName 2) (.op .Add (.ov (.op .Mult (.pk 2) (.ov (.idx (.pk 0) (.ov (.cst (.int (0)))))))) (.ov (.mt .index (.ov (.cst (.str [97, 98, 99, 100]))) (.cons (.pk 3) .nil)))))
def F__law_spot : Fd := ⟨2, 4, (.seq (.asg (.tName 2) (.cst (.int (0)))) (.seq (B__law_spot_1) (.ret (.idx (.ov (.idx (.pk 0) (.ov (.cst (.int (3)))))) (.pk 2)))))⟩
def B__law_is_forward_1 (c__law_spot c__law_texts : Nat) : T := .forS (.tName 1) .plain (.cons (.call c__law_texts (.cons (.ov (.idx (.pk 0) (.ov (.cst (.int (0)))))) (.cons (.ov (.op .Add (.ov (.idx (.pk 0) (.ov (.cst (.int (1)))))) (.ov (.idx (.pk 0) (.ov (.cst (.int (2)))))))) .nil))) .nil) (.ifS (.tv (.cmp .Gt (.ov (.call c__law_spot (.cons (.pk 0) (.cons (.ov (.slc (.pk 1) .nil (.ov (.neg (.cst (.int (1))))))) .nil)))) (.ov (.op .Add (.ov (.call c__law_spot (.cons (.pk 0) (.cons (.ov (.slc (.pk 1) (.ov (.cst (.int (1)))) .nil)) .nil)))) (.ov (.cst (.int (1)))))))) (.ret (.cst (.bl false))) .pas)
def F__law_is_forward (c__law_spot c__law_texts : Nat) : Fd := ⟨1, 2, (.seq (B__law_is_forward_1 c__law_spot c__law_texts) (.ret (.cst (.bl true))))⟩
def B__law_power_1 : T := .forS (.tName 3) .range (.cons (.var 1) .nil) (.asg (.tName 2) (.op .Mult (.pk 2) (.pk 0)))
def F__law_power : Fd := ⟨2, 4, (.seq (.asg (.tName 2) (.cst (.int (1)))) (.seq (B__law_power_1) (.retV 2)))⟩
def F__law_great (c__law_pick c__law_table : Nat) : Fd := ⟨1, 2, (.seq (.asg (.tName 1) (.call c__law_pick (.cons (.pk 0) (.cons (.ov (.lstD (.cons (.tupD (.cons (.cst (.int (2))) (.cons (.cst (.int (5))) (.cons (.cst (.int (4))) .nil)))) (.cons (.tupD (.cons (.cst (.int (3))) (.cons (.cst (.int (5))) (.cons (.cst (.int (1))) .nil)))) (.cons (.tupD (.cons (.cst (.int (4))) (.cons (.cst (.int (4))) (.cons (.cst (.int (1))) .nil)))) (.cons (.tupD (.cons (.cst (.int (4))) (.cons (.cst (.int (1))) (.cons (.cst (.int (4))) .nil)))) (.cons (.tupD (.cons (.cst (.int (2))) (.cons (.cst (.int (4))) (.cons (.cst (.int (3))) .nil)))) (.cons (.tupD (.cons (.cst (.int (2))) (.cons (.cst (.int (5))) (.cons (.cst (.int (1))) .nil)))) (.cons (.tupD (.cons (.cst (.int (2))) (.cons (.cst (.int (5))) (.cons (.cst (.int (2))) .nil)))) .nil))))))))) .nil)))) (.ret (.op .Add (.pk 1) (.ov (.tupD (.cons (.call c__law_table (.cons (.pk 0) (.cons (.pk 1) .nil))) .nil))))))⟩
section
variable {P : Pg} {fns : List Fd} {fu k i : Nat}
abbrev Bx := Int × Int × Int
def bx (b : Bx) : D := .lst true [.int b.1, .int b.2.1, .int b.2.2]
@[simp] theorem owned_bx {b : Bx} : owned (bx b) = true := (rfl)
def SpTake (c : Call) (i : Nat) : Prop := ∀ (b : Bx) (m : Int), 0 < m → m < 1000000 → ∃ (r : Int) (b' : Bx), c i [bx b, .int m] = .ok (.int r) [some (bx b'), none] ∧ 0 ≤ r ∧ r < m
theorem sp_take (hf : fns[i]? = some F__law_take) (k : Nat) : SpTake (runF P fns fu (k + 1)) i := fun ⟨a, s, c⟩ m hm hm2 => by
  have h2 : m < 1073741824 := by omega
  by_cases ha : 0 < a
  · refine ⟨a % m, (a / m, s, c), ?_, Int.emod_nonneg _ (by omega), Int.emod_lt_of_pos _ hm⟩
    rw [run_eq hf rfl rfl]
    simp [F__law_take, bx, op_mod_ii, op_div_ii, hm, ha, h2]
  · have h3 : m < 1099511627776 := by omega
    let raw := ((s + 99991 * (c + 1)) * 52817) % 2147483647
    let s' := (raw * 48271 + 20011) % 2147483629 + 1
    refine ⟨((raw * 2147483647 + s') / 8191) % m, (a, s', c + 1), ?_, Int.emod_nonneg _ (by omega), Int.emod_lt_of_pos _ hm⟩
    rw [run_eq hf rfl rfl]
    simp [F__law_take, bx, op_mod_ii, op_div_ii, op_mul_ii, op_pow_ii, hm, ha, h2, h3, raw, s']
def SpBox (c : Call) (i : Nat) : Prop := ∀ (ns : List Int) (j : Nat) (own : Int), j ≤ 10 → ∃ b : Bx, c i [.ksq (ns.map .int), .int j, .int own] = .ok (bx b) [none, none, none]
def seedOf (cell : Int) (j : Nat) (own : Int) : Int := (cell % 2147483629 * 48271 + 39373 * (j + 13 * own)) % 2147483629 + 1
theorem idx01 {x y : Int} {p : Prop} [Decidable p] : idxF (.lst true [.int x, .int y]) (.int (if p then 1 else 0)) = some (.int (if p then y else x)) := by
  by_cases h : p <;> simp [h]
theorem sp_box (hf : fns[i]? = some F__law_box) (k : Nat) : SpBox (runF P fns fu (k + 1)) i := fun ns j own hj => by
  by_cases h1 : j < ns.length
  · have hx : idxF (.ksq (ns.map .int)) (.int j) = some (.int (ns[j]'h1)) := idx_k (atI_nat (by rw [List.getElem?_map, List.getElem?_eq_getElem h1]; rfl)) rfl
    have h1' : (j : Int) < ns.length := by omega
    generalize hcell : (if ns[j]'h1 < 0 then -(ns[j]'h1) else ns[j]'h1) = cell
    refine ⟨(if (1000000000000000000 : Int) ≤ cell then cell else 0, seedOf cell j own, 0), ?_⟩
    rw [run_eq hf rfl rfl]
    simp [F__law_box, bx, op_mod_ii, op_mul_ii, op_pow_ii, h1', hx, hcell, idx01, seedOf]
  · have h1' : ¬ (j : Int) < ns.length := by omega
    by_cases h2 : 0 < ns.length
    · have h2' : (0 : Int) < ns.length := by omega
      have h3 : j % ns.length < ns.length := Nat.mod_lt _ h2
      have hx : idxF (.ksq (ns.map .int)) (.int ((j : Int) % ns.length)) = some (.int (ns[j % ns.length]'h3)) := by
        have e : (j : Int) % ns.length = ((j % ns.length : Nat) : Int) := by omega
        rw [e]
        exact idx_k (atI_nat (by rw [List.getElem?_map, List.getElem?_eq_getElem h3]; rfl)) rfl
      generalize hcell : (9013 * (j : Int) + 100169 * own + 167 + (if ns[j % ns.length]'h3 < 0 then -(ns[j % ns.length]'h3) else ns[j % ns.length]'h3) % 2147483629 * 52817) = cell
      refine ⟨(if (1000000000000000000 : Int) ≤ cell then cell else 0, seedOf cell j own, 0), ?_⟩
      rw [run_eq hf rfl rfl]
      simp [F__law_box, bx, op_mod_ii, op_mul_ii, op_pow_ii, h1', h2', h2, hx, hcell, idx01, seedOf]
    · have h2' : ¬ (0 : Int) < ns.length := by omega
      generalize hcell : (9013 * (j : Int) + 100169 * own + 167) = cell
      refine ⟨(if (1000000000000000000 : Int) ≤ cell then cell else 0, seedOf cell j own, 0), ?_⟩
      rw [run_eq hf rfl rfl]
      simp [F__law_box, bx, op_mod_ii, op_mul_ii, op_pow_ii, h1', h2', h2, hcell, idx01, seedOf]
def SpPick (c : Call) (i : Nat) : Prop := ∀ (b : Bx) (ys : List D), ys ≠ [] → isFL ys = true → ys.length < 1000000 → ∃ (b' : Bx) (y : D), y ∈ ys ∧ c i [bx b, .lst false ys] = .ok y [some (bx b'), none]
theorem sp_pick {ct : Nat} (h : ∀ k, SpTake (runF P fns fu (k + 1)) ct) (hf : fns[i]? = some (F__law_pick ct)) (k : Nat) : SpPick (runF P fns fu (k + 2)) i := fun b ys hn hF hl => by
  have hp : 0 < ys.length := List.length_pos_iff.mpr hn
  obtain ⟨r, b', h1, h2, h3⟩ := h k b ys.length (by omega) (by omega)
  obtain ⟨n, rfl⟩ : ∃ n : Nat, r = n := ⟨r.toNat, by omega⟩
  have hn : n < ys.length := by omega
  have hy : isF (ys[n]'hn) = true := by
    rw [isFL_all, List.all_eq_true] at hF
    exact hF _ (List.getElem_mem hn)
  have hx : idxF (.lst false ys) (.int n) = some (ys[n]'hn) := idx_l (atI_nat (List.getElem?_eq_getElem hn)) hy
  refine ⟨b', ys[n]'hn, List.getElem_mem hn, ?_⟩
  rw [run_eq hf rfl rfl]
  simp [F__law_pick, doCall, h1, hx]
/-! ### mixed -/
theorem erase_perm {α : Type} {l : List α} {n : Nat} (h : n < l.length) : ([l[n]'h] ++ l.eraseIdx n).Perm l := by
  rw [List.eraseIdx_eq_take_drop_succ]
  have e : l = l.take n ++ l[n]'h :: l.drop (n + 1) := by
    rw [← List.drop_eq_getElem_cons h, List.take_append_drop]
  refine List.Perm.trans ?_ (List.Perm.of_eq e.symm)
  show (l[n]'h :: (l.take n ++ l.drop (n + 1))).Perm _
  exact List.perm_middle.symm
theorem mut_pop {ys : List D} {n : Nat} {y : D} (hy : ys[n]? = some y) (hf : isF y = true) (hl : ys.length < 1000000) : mutD .pop (.lst true ys) [.int n] = some (.lst true (ys.eraseIdx n), y) := by
  have hn := (List.getElem?_eq_some_iff.mp hy).1
  have h0 : L2.ixN ys.length (n : Int) = some n := by
    unfold L2.ixN
    rw [if_pos (by omega), if_pos (by omega)]
    simp
  show (match L2.ixN ys.length (n : Int) with | some k => (match ys[k]? with | some y => if isF y = true ∧ -9223372036854775808 ≤ (n : Int) ∧ (n : Int) < 9223372036854775808 then some (D.lst true (ys.eraseIdx k), y) else none | none => none) | none => none) = _
  rw [h0]
  dsimp only
  rw [hy]
  dsimp only
  rw [if_pos ⟨hf, by omega, by omega⟩]
@[simp] theorem muT_pop : muT .pop = ["list"] := (rfl)
@[simp] theorem muT_ext : muT .ext = ["list"] := (rfl)
theorem bi_list_l {m : Bool} {xs : List D} : biD .list [.lst m xs] = if isFL xs then some (.lst true xs) else none := (rfl)
def SpMixed (c : Call) (i : Nat) : Prop := ∀ (b : Bx) (ys : List D), isFL ys = true → ys.length < 1000 → ∃ (b' : Bx) (zs : List D), zs.Perm ys ∧ c i [bx b, .lst false ys] = .ok (.lst true zs) [some (bx b'), none]
theorem sp_mixed {ct : Nat} (h : ∀ k, SpTake (runF P fns fu (k + 1)) ct) (hf : fns[i]? = some (F__law_mixed ct)) (k : Nat) : SpMixed (runF P fns fu (k + 2)) i := fun b ys hF hl => by
  have loop : ∃ (b' : Bx) (zs : List D) (x2 x3 : Option D), zs.Perm ys ∧ evS P (runF P fns fu (k + 1)) fu [0] (B__law_mixed_1 ct) [some (bx b), some (.lst false ys), none, some (.lst true ys), some (.lst true [])] = .ok .nx [some (bx b'), some (.lst false ys), x2, x3, some (.lst true zs)] := by
    unfold B__law_mixed_1
    rw [for_eq (is := (List.range ys.length).map fun (i : Nat) => D.int i) (e1 := [some (bx b), some (.lst false ys), none, some (.lst true ys), some (.lst true [])]) (by simp; rw [items_range (by omega)]; simp)]
    obtain ⟨e', bb, b', x2, le, fo, h1, h2, h3, h4⟩ := loop_range0 (n := ys.length) (body := forB P (runF P fns fu (k + 1)) fu [0] (.tName 2) (.ex (.app 4 (.mut .pop 3 (.cons (.call ct (.cons (.pk 0) (.cons (.ov (.bi .len (.cons (.pk 3) .nil))) .nil))) .nil)))))
      (I := fun j e => ∃ (b' : Bx) (x2 : Option D) (le fo : List D), le.length + j = ys.length ∧ fo.length = j ∧ (fo ++ le).Perm ys ∧ e = [some (bx b'), some (.lst false ys), x2, some (.lst true le), some (.lst true fo)]) (e := [some (bx b), some (.lst false ys), none, some (.lst true ys), some (.lst true [])])
      (fun j e hj ⟨b1, x2, le, fo, h1, h2, h3, he⟩ => by
        subst he
        obtain ⟨r, b', q1, q2, q3⟩ := h k b1 le.length (by omega) (by omega)
        obtain ⟨n, rfl⟩ : ∃ n : Nat, r = n := ⟨r.toNat, by omega⟩
        have hn : n < le.length := by omega
        have hall : ∀ y ∈ le, isF y = true := fun y hy => by
          rw [isFL_all, List.all_eq_true] at hF
          exact hF y (h3.mem_iff.mp (by simp [hy]))
        have hp := mut_pop (List.getElem?_eq_getElem hn) (hall _ (List.getElem_mem hn)) (by omega)
        have hfl : fo.length < 100000 := by omega
        refine ⟨[some (bx b'), some (.lst false ys), some (.int j), some (.lst true (le.eraseIdx n)), some (.lst true (fo ++ [le[n]'hn]))], ?_, b', some (.int j), le.eraseIdx n, fo ++ [le[n]'hn], ?_, by simp [h2], ?_, rfl⟩
        · rw [forB_eq]
          simp [doCall, q1, hp, hfl]
        · rw [List.length_eraseIdx]; simp [hn]; omega
        · refine List.Perm.trans ?_ h3
          rw [List.append_assoc]
          refine List.Perm.append_left fo ?_
          exact erase_perm hn) ⟨b, none, ys, [], by simp, rfl, .refl _, rfl⟩
    subst h4
    have hle : le = [] := List.length_eq_zero_iff.mp (by omega)
    subst hle
    exact ⟨b', fo, x2, _, by simpa using h3, bb⟩
  obtain ⟨b', zs, x2, x3, hp, loop⟩ := loop
  refine ⟨b', zs, hp, ?_⟩
  rw [run_eq hf rfl rfl]
  simp [F__law_mixed, bi_list_l, hF, loop]
/-! ### texts -/
def SpTexts (c : Call) (i : Nat) : Prop := ∀ l n : Nat, l ≤ 4 → l ^ n ≤ 4096 → n ≤ 20 → ∃ m, c i [.int l, .int n] = .ok (.lst m ((txt l n).map .str)) [none, none]
theorem mut_ext {xs zs : List D} (h : xs.length + zs.length ≤ 100000) : mutD .ext (.lst true xs) [.lst true zs] = some (.lst true (xs ++ zs), .non) := if_pos h
theorem sp_texts (hf : fns[i]? = some F__law_texts) (k : Nat) : SpTexts (runF P fns fu (k + 1)) i := fun l n hl hn h20 => by
  have comp : ∀ (t : List Nat) (x1 x2 x3 x4 : Option D), t.length ≤ 99 → evE P (runF P fns fu k) E__law_texts_1 [some (.int l), x1, x2, x3, x4, some (.str t), none] = .ok (.lst true (((ab l).map fun c => t ++ [c]).map .str)) [some (.int l), x1, x2, x3, x4, some (.str t), none] := fun t x1 x2 x3 x4 ht => by
    unfold E__law_texts_1
    have hab : (ab l).length ≤ 4 := by simp [ab, abc]; omega
    refine (lc_eq (is := (ab l).map fun c => .str [c]) (e1 := [some (.int l), x1, x2, x3, x4, some (.str t), none]) (ys := (ab l).flatMap fun c => [.str (t ++ [c])]) (e2 := [some (.int l), x1, x2, x3, x4, some (.str t), none]) ?_ ?_ ?_ ?_).trans ?_
    · have e : cutL [97, 98, 99, 100] none (some (l : Int)) = ab l := cut_take abc l
      simp [slcD, e]
    · simp [freeS_cons]
    · refine loopC_map (f := fun c => D.str [c]) _ fun c hc => ?_
      have h9 : t.length + 1 ≤ 100000 := by omega
      rw [stepC_eq]
      simp [op_add_ss, h9]
    · have e : ∀ cs : List Nat, (cs.flatMap fun c => [D.str (t ++ [c])]).length = cs.length := fun cs => by induction cs with
        | nil => rfl
        | cons c cs ih => simp [ih]
      rw [e]; omega
    · have e : ∀ cs : List Nat, (cs.flatMap fun c => [D.str (t ++ [c])]) = (cs.map fun c => t ++ [c]).map .str := fun cs => by induction cs with
        | nil => rfl
        | cons c cs ih => rw [List.flatMap_cons, List.map_cons, List.map_cons, ih]; rfl
      rw [e]; simp
  have inner : ∀ (ts : List (List Nat)) (x1 x3 : Option D) (x5 : Option D) (m : Bool), ts.length ≤ 4096 → (∀ t ∈ ts, t.length ≤ 99) → ∃ x5', evS P (runF P fns fu k) fu [] B__law_texts_2 [some (.int l), x1, some (.lst m (ts.map .str)), x3, some (.lst true []), x5, none] = .ok .nx [some (.int l), x1, some (.lst false (ts.map .str)), x3, some (.lst true ((ts.flatMap fun t => (ab l).map fun c => t ++ [c]).map .str)), x5', none] := fun ts x1 x3 x5 m hts ht => by
    unfold B__law_texts_2
    rw [for_eq (is := ts.map .str) (e1 := [some (.int l), x1, some (.lst false (ts.map .str)), x3, some (.lst true []), x5, none]) (by cases m <;> simp [frzL_str, items_list, isFL_str])]
    obtain ⟨e', b, x5', pre, h1, h2⟩ := loopF_go (f := D.str) (body := forB P (runF P fns fu k) fu [] (.tName 5) (.ex (.mut .ext 4 (.cons (E__law_texts_1) .nil))))
      (I := fun cs e => ∃ x5' pre, ts = pre ++ cs ∧ e = [some (.int l), x1, some (.lst false (ts.map .str)), x3, some (.lst true ((pre.flatMap fun t => (ab l).map fun c => t ++ [c]).map .str)), x5', none]) (fun t cs e ⟨x5', pre, h1, h2⟩ => by
        subst h2
        have htm : t ∈ ts := by rw [h1]; simp
        have hab : (ab l).length ≤ 4 := by simp [ab, abc]; omega
        have hl1 : ∀ q : List (List Nat), (q.flatMap fun t => (ab l).map fun c => t ++ [c]).length ≤ q.length * 4 := fun q => by
          induction q with
          | nil => simp
          | cons a q ih => rw [List.flatMap_cons, List.length_append, List.length_map, List.length_cons]; omega
        have hpl : pre.length ≤ 4096 := by have := congrArg List.length h1; rw [List.length_append] at this; omega
        have hx := mut_ext (xs := (pre.flatMap fun t => (ab l).map fun c => t ++ [c]).map .str) (zs := ((ab l).map fun c => t ++ [c]).map .str) (by rw [List.length_map, List.length_map, List.length_map]; have := hl1 pre; omega)
        refine ⟨_, ?_, some (.str t), pre ++ [t], by rw [h1]; simp, rfl⟩
        rw [forB_eq]
        simp only [bindT_name, evS_ex, semEx_eq, evE_mut, semMut_eq]
        simp [comp t _ _ _ _ (ht t htm)]
        simp only [List.map_map] at hx
        rw [hx]
        simp) ts _ ⟨x5, [], rfl, rfl⟩
    subst h2
    rw [List.append_nil] at h1
    subst h1
    exact ⟨x5', b⟩
  have loop : ∃ (m : Bool) (x3 x4 x5 : Option D), evS P (runF P fns fu k) fu [] B__law_texts_3 [some (.int l), some (.int n), some (.lst true [.str []]), none, none, none, none] = .ok .nx [some (.int l), some (.int n), some (.lst m ((txt l n).map .str)), x3, x4, x5, none] := by
    unfold B__law_texts_3
    rw [for_eq (is := (List.range n).map fun (i : Nat) => D.int i) (e1 := [some (.int l), some (.int n), some (.lst true [.str []]), none, none, none, none]) (by simp; rw [items_range (by omega)]; simp)]
    obtain ⟨e', b, m, x3, x4, x5, he⟩ := loop_range0 (n := n) (body := forB P (runF P fns fu k) fu [] (.tName 3) (.seq (.asg (.tName 4) (.lstD .nil)) (.seq (B__law_texts_2) (.asg (.tName 2) (.var 4))))) (I := fun j e => ∃ (m : Bool) (x3 x4 x5 : Option D), e = [some (.int l), some (.int n), some (.lst m ((txt l j).map .str)), x3, x4, x5, none]) (e := [some (.int l), some (.int n), some (.lst true [.str []]), none, none, none, none]) (fun j e hj ⟨m, x3, x4, x5, he⟩ => by
      subst he
      have hlen : (txt l j).length ≤ 4096 := by
        rw [txt_len l hl]
        rcases Nat.eq_zero_or_pos l with h | h
        · subst h
          rcases Nat.eq_zero_or_pos j with h | h
          · subst h; decide
          · rw [Nat.zero_pow h]; omega
        · have := pow_mono h (show j ≤ n by omega); omega
      obtain ⟨x5', hin⟩ := inner (txt l j) (some (.int n)) (some (.int j)) x5 m hlen fun t ht => by have := (txt_mem.mp ht).1; omega
      refine ⟨_, ?_, false, some (.int j), some (.lst false ((txt l (j + 1)).map .str)), x5', rfl⟩
      rw [forB_eq]
      simp [hin]
      rw [frzL_str]
      rfl) ⟨true, none, none, none, rfl⟩
    subst he
    exact ⟨m, x3, x4, x5, b⟩
  obtain ⟨m, x3, x4, x5, loop⟩ := loop
  refine ⟨m, ?_⟩
  rw [run_eq hf rfl rfl]
  cases m <;> simp [F__law_texts, loop]
theorem sp_lpower (hf : fns[i]? = some F__law_power) (k : Nat) : SpPower (runF P fns fu (k + 1)) i := sp_power (hf.trans rfl) k
/-! ### shapes -/
def shapesL : List (Nat × Nat × Nat) := [(2, 1, 1), (2, 2, 1), (2, 2, 1), (2, 2, 2), (2, 2, 2), (2, 3, 1), (2, 3, 1), (2, 3, 2), (2, 2, 3), (2, 1, 3), (2, 2, 4), (2, 4, 1), (2, 4, 2), (2, 3, 3), (2, 3, 4), (3, 2, 1), (3, 1, 2), (3, 2, 2), (3, 3, 1), (3, 1, 4), (4, 1, 1), (4, 2, 1), (4, 1, 2), (4, 2, 2), (4, 1, 3)]
def shD (s : Nat × Nat × Nat) : D := .tup [.int s.1, .int s.2.1, .int s.2.2]
def SpShapes (c : Call) (i : Nat) : Prop := c i [] = .ok (.lst true (shapesL.map shD)) []
theorem sp_shapes (hf : fns[i]? = some F__law_shapes) (k : Nat) : SpShapes (runF P fns fu (k + 1)) i := by
  unfold SpShapes
  rw [run_eq hf rfl rfl]
  simp [F__law_shapes, op_add_ll, shapesL, shD]
def okS (s : Nat × Nat × Nat) : Bool := decide (2 ≤ s.1 ∧ s.1 ≤ 4 ∧ 1 ≤ s.2.1 ∧ s.2.1 ≤ 5 ∧ 1 ≤ s.2.2 ∧ s.2.2 ≤ 4)
theorem shapes_ok : ∀ s ∈ shapesL, okS s = true := by decide
theorem okS_of {s : Nat × Nat × Nat} (h : okS s = true) : OkS s.1 s.2.1 s.2.2 := by
  unfold OkS
  exact of_decide_eq_true h
theorem flat_if {α : Type} (q : α → Bool) (g : α → D) : ∀ l : List α, (l.flatMap fun s => if q s = true then [g s] else []) = (l.filter q).map g
  | [] => rfl
  | a :: l => by
    rw [List.flatMap_cons, flat_if q g l, List.filter_cons]
    split <;> simp
theorem isF_shD {s : Nat × Nat × Nat} : isF (shD s) = true := by simp [shD]
theorem isFL_shD (l : List (Nat × Nat × Nat)) : isFL (l.map shD) = true := by
  rw [isFL_all, List.all_eq_true]
  intro d hd
  obtain ⟨s, _, rfl⟩ := List.mem_map.mp hd
  exact isF_shD
def SpShape (c : Call) (i : Nat) : Prop := ∀ (b : Bx) (most : Int), 2 ≤ most → ∃ (b' : Bx) (s : Nat × Nat × Nat), s ∈ shapesL ∧ (s.1 ^ (2 * s.2.1 + s.2.2 - 2) : Nat) ≤ most ∧ c i [bx b, .int most] = .ok (shD s) [some (bx b'), none]
theorem sp_shape {c1 c2 c3 : Nat} (h1 : ∀ k, SpPick (runF P fns fu (k + 2)) c1) (h2 : ∀ k, SpPower (runF P fns fu (k + 1)) c2) (h3 : ∀ k, SpShapes (runF P fns fu (k + 1)) c3) (hf : fns[i]? = some (F__law_shape c1 c2 c3)) (k : Nat) : SpShape (runF P fns fu (k + 3)) i := fun b most hm => by
  have comp : evE P (runF P fns fu (k + 2)) (E__law_shape_1 c2 c3) [some (bx b), some (.int most), none] = .ok (.lst true ((shapesL.filter fun s => decide (((s.1 ^ (2 * s.2.1 + s.2.2 - 2) : Nat) : Int) ≤ most)).map shD)) [some (bx b), some (.int most), none] := by
    unfold E__law_shape_1
    have q3 : runF P fns fu (k + 2) c3 [] = _ := h3 (k + 1)
    refine (lc_eq (is := shapesL.map shD) (e1 := [some (bx b), some (.int most), none]) (ys := shapesL.flatMap fun s => if decide (((s.1 ^ (2 * s.2.1 + s.2.2 - 2) : Nat) : Int) ≤ most) = true then [shD s] else []) (e2 := [some (bx b), some (.int most), none]) ?_ ?_ ?_ ?_).trans ?_
    · simp [doCall, q3, items_list, isFL_shD]
    · simp [freeS_cons]
    · refine loopC_map _ fun s hs => ?_
      obtain ⟨l, w, kk⟩ := s
      obtain ⟨s1, s2, s3, s4, s5, s6⟩ := okS_of (shapes_ok _ hs)
      dsimp only at s1 s2 s3 s4 s5 s6
      have e1 : (2 * (w : Int) + kk - 2) = ((2 * w + kk - 2 : Nat) : Int) := by omega
      have p1 := h2 (k + 1) l (2 * w + kk - 2) s2 (by omega)
      rw [stepC_eq]
      simp [shD, op_mul_ii, doCall, e1, p1]
      split <;> simp
    · rw [flat_if, List.length_map]
      exact Nat.le_trans (List.length_filter_le _ _) (by decide)
    · rw [flat_if]
      simp
  obtain ⟨b', y, hy, hr⟩ := h1 k b ((shapesL.filter fun s => decide (((s.1 ^ (2 * s.2.1 + s.2.2 - 2) : Nat) : Int) ≤ most)).map shD) (by
    have : (2, 1, 1) ∈ shapesL.filter fun s => decide (((s.1 ^ (2 * s.2.1 + s.2.2 - 2) : Nat) : Int) ≤ most) := List.mem_filter.mpr ⟨by decide, decide_eq_true hm⟩
    intro z
    rw [List.map_eq_nil_iff] at z
    rw [z] at this
    cases this) (isFL_shD _) (by
    rw [List.length_map]
    exact Nat.lt_of_le_of_lt (List.length_filter_le _ _) (by decide))
  obtain ⟨s, hs, rfl⟩ := List.mem_map.mp hy
  rw [List.mem_filter] at hs
  refine ⟨b', s, hs.1, of_decide_eq_true hs.2, ?_⟩
  rw [run_eq hf rfl rfl]
  have fz := frzL_isF _ (isFL_shD (shapesL.filter fun s => decide (((s.1 ^ (2 * s.2.1 + s.2.2 - 2) : Nat) : Int) ≤ most)))
  generalize (shapesL.filter fun s => decide (((s.1 ^ (2 * s.2.1 + s.2.2 - 2) : Nat) : Int) ≤ most)).map shD = ys at comp hr fz
  simp [F__law_shape, comp, doCall, fz, hr]
end
end Wpk.M
set_option Elab.async false
set_option linter.all false
set_option maxRecDepth 100000
/-! M5: picks by an order; drawn tables. -/
namespace Wpk.M
open PySem
section
variable {P : Pg} {fns : List Fd} {fu k i : Nat}
def pcs (w k : Nat) (t : List Nat) : List (List Nat) := (List.range w).map fun a => (t.drop a).take k
theorem cut_mid {α : Type} (xs : List α) (a n : Nat) : cutL xs (some (a : Int)) (some ((a : Int) + (n : Int))) = (xs.drop a).take n := by
  unfold cutL
  have h0 : HT.sIx xs.length 0 (some (a : Int)) = min a xs.length := HT.sIx_nat _ _ _
  have h1 : HT.sIx xs.length xs.length (some ((a : Int) + (n : Int))) = min (a + n) xs.length := by
    have e : (a : Int) + (n : Int) = ((a + n : Nat) : Int) := by omega
    rw [e]
    exact HT.sIx_nat _ _ _
  rw [h0, h1]
  rcases Nat.le_total a xs.length with h | h
  · rw [Nat.min_eq_left h]
    rcases Nat.le_total (a + n) xs.length with h2 | h2
    · rw [Nat.min_eq_left h2]; congr 1; omega
    · rw [Nat.min_eq_right h2, List.take_of_length_le (by rw [List.length_drop]; omega), List.take_of_length_le (by rw [List.length_drop]; omega)]
  · rw [Nat.min_eq_right h, List.drop_of_length_le (Nat.le_refl _), List.drop_of_length_le h]
    simp
/-- a text of signs -/
def okTx (s : List Nat) : Bool := s.all fun c => decide (c < 1114112)
theorem okTx_ab {l : Nat} (hl : l ≤ 4) {t : List Nat} (h : ∀ c ∈ t, c ∈ ab l) : okTx t = true := by
  unfold okTx
  rw [List.all_eq_true]
  intro c hc
  have := (abc_take hl).mp (h c hc)
  simp
  omega
theorem shpL_str (n : Nat) : ∀ l : List (List Nat), (∀ s ∈ l, okTx s = true) → shpL n (l.map .str) = true
  | [], _ => by simp
  | s :: l, h => by
    rw [List.map_cons, shpL_cons, shp_str, shpL_str n l fun t ht => h t (List.mem_cons_of_mem _ ht)]
    have := h s (List.mem_cons_self ..)
    unfold okTx at this
    rw [this]
    rfl
theorem inD_str (x : List Nat) : ∀ l : List (List Nat), inD (.str x) (l.map .str) = l.any (· == x)
  | [] => rfl
  | s :: l => by
    show (eqD (.str s) (.str x) || inD (.str x) (l.map .str)) = _
    rw [inD_str x l, eqD_ss, List.any_cons]
theorem cmp_in_strs {m : Bool} {x : List Nat} {l : List (List Nat)} (hx : okTx x = true) (hl : ∀ s ∈ l, okTx s = true) : cmpD .In (.str x) (.lst m (l.map .str)) = some (l.any (· == x)) := by
  rw [cmp_in_l, shp_str, shpL_str 60 l hl, inD_str]
  unfold okTx at hx
  rw [hx]
  rfl
theorem atI_last {α : Type} {l : List α} (h : l ≠ []) : L2.atI l (-1) = some (l.getLast h) := by
  have hp : 0 < l.length := List.length_pos_iff.mpr h
  unfold L2.atI L2.ixN
  rw [if_neg (by decide), if_pos (by omega)]
  show l[((-1 : Int) + l.length).toNat]? = _
  have e : ((-1 : Int) + l.length).toNat = l.length - 1 := by omega
  rw [e, List.getLast_eq_getElem]
  exact List.getElem?_eq_getElem _
/-! ### the places of the best piece -/
def spots (ps : List (List Nat)) (b : List Nat) : List Nat := (ps.zipIdx.filter fun q => q.1 == b).map (·.2)
theorem spots_mem {ps : List (List Nat)} {b : List Nat} {a : Nat} : a ∈ spots ps b ↔ ps[a]? = some b := by
  unfold spots
  rw [List.mem_map]
  constructor
  · rintro ⟨⟨x, j⟩, h, rfl⟩
    rw [List.mem_filter] at h
    have e : x = b := beq_iff_eq.mp h.2
    rw [← e]
    exact (List.mem_zipIdx_iff_getElem?).mp h.1
  · intro h
    exact ⟨(b, a), List.mem_filter.mpr ⟨List.mem_zipIdx_iff_getElem?.mpr h, beq_self_eq_true b⟩, rfl⟩
theorem spots_sorted (ps : List (List Nat)) (b : List Nat) : (spots ps b).Pairwise (· < ·) := by
  unfold spots
  have h1 : (ps.zipIdx.map (·.2)).Pairwise (· < ·) := by
    have e : ps.zipIdx.map (·.2) = List.range' 0 ps.length := by
      rw [List.zipIdx_map_snd]
    rw [e]
    exact List.pairwise_lt_range'
  exact h1.sublist (List.Sublist.map _ List.filter_sublist)
/-- r is picked: of the least rank, the first or the last of equal ones -/
structure PickAt (os : List (List Nat)) (last : Bool) (ps : List (List Nat)) (r : Nat) : Prop where
  lt : r < ps.length
  least : ∀ a (h : a < ps.length), os.idxOf (ps[r]'lt) ≤ os.idxOf (ps[a]'h)
  fst : last = false → ∀ a (h : a < ps.length), a < r → ps[a]'h ≠ ps[r]'lt
  lst : last = true → ∀ a (h : a < ps.length), r < a → ps[a]'h ≠ ps[r]'lt
theorem idxOf_find {os : List (List Nat)} {q : List Nat → Bool} {b : List Nat} {rest : List (List Nat)} (h : os.filter q = b :: rest) {p : List Nat} (hp : p ∈ os) (hq : q p = true) : os.idxOf b ≤ os.idxOf p := by
  induction os with
  | nil => cases hp
  | cons o os ih =>
    rw [List.filter_cons] at h
    split at h
    · rename_i ho
      cases h
      simp
    · rename_i ho
      have hbq : q b = true := (List.mem_filter.mp (by rw [h]; exact List.mem_cons_self ..)).2
      have n1 : o ≠ b := fun e => ho (by rw [e]; exact hbq)
      have n2 : o ≠ p := fun e => ho (by rw [e]; exact hq)
      rw [List.idxOf_cons, List.idxOf_cons, beq_eq_false_iff_ne.mpr n1, beq_eq_false_iff_ne.mpr n2]
      have hp' : p ∈ os := (List.mem_cons.mp hp).resolve_left fun e => n2 e.symm
      exact Nat.succ_le_succ (ih h hp')
theorem pick_ok {os ps : List (List Nat)} {b : List Nat} {rest : List (List Nat)} {last : Bool} (hf : os.filter (fun p => ps.any (· == p)) = b :: rest) (hsub : ∀ p ∈ ps, p ∈ os) : ∃ (r : Nat) (x : Nat) (xs : List Nat), spots ps b = x :: xs ∧ (if last then (x :: xs).getLast (List.cons_ne_nil _ _) else x) = r ∧ PickAt os last ps r := by
  have hb := List.mem_filter.mp (show b ∈ os.filter (fun p => ps.any (· == p)) by rw [hf]; exact List.mem_cons_self ..)
  obtain ⟨y, hy, ey⟩ := List.any_eq_true.mp hb.2
  have ey : y = b := beq_iff_eq.mp ey
  subst ey
  obtain ⟨a0, ha0, ea0⟩ := List.getElem_of_mem hy
  have hm0 : a0 ∈ spots ps y := spots_mem.mpr (by rw [List.getElem?_eq_getElem ha0, ea0])
  cases hs : spots ps y with
  | nil => rw [hs] at hm0; cases hm0
  | cons x xs =>
    have srt := spots_sorted ps y
    rw [hs] at srt
    have mem : ∀ r ∈ x :: xs, ps[r]? = some y := fun r hr => spots_mem.mp (by rw [hs]; exact hr)
    have mk : ∀ r (hr : r ∈ x :: xs), (last = false → ∀ a ∈ x :: xs, r ≤ a) → (last = true → ∀ a ∈ x :: xs, a ≤ r) → PickAt os last ps r := fun r hr hA hB => by
      obtain ⟨hl, he⟩ := List.getElem?_eq_some_iff.mp (mem r hr)
      refine ⟨hl, fun a ha => ?_, fun hlast a ha hlt e => ?_, fun hlast a ha hlt e => ?_⟩
      · rw [he]
        exact idxOf_find hf (hsub _ (List.getElem_mem ha)) (List.any_eq_true.mpr ⟨_, List.getElem_mem ha, beq_self_eq_true _⟩)
      · have : a ∈ x :: xs := by rw [← hs]; exact spots_mem.mpr (by rw [List.getElem?_eq_getElem ha, e, he])
        have := hA hlast a this
        omega
      · have : a ∈ x :: xs := by rw [← hs]; exact spots_mem.mpr (by rw [List.getElem?_eq_getElem ha, e, he])
        have := hB hlast a this
        omega
    cases last with
    | false =>
      refine ⟨x, x, xs, rfl, rfl, mk x (List.mem_cons_self ..) (fun _ a ha => ?_) fun h => nomatch h⟩
      rcases List.mem_cons.mp ha with rfl | ha
      · exact Nat.le_refl _
      · exact Nat.le_of_lt ((List.pairwise_cons.mp srt).1 a ha)
    | true =>
      refine ⟨_, x, xs, rfl, rfl, mk _ (List.getLast_mem _) (fun h => nomatch h) fun _ a ha => ?_⟩
      have hne : x :: xs ≠ [] := List.cons_ne_nil _ _
      have e := List.dropLast_concat_getLast hne
      rw [← e] at ha srt
      rcases List.mem_append.mp ha with ha | ha
      · exact Nat.le_of_lt ((List.pairwise_append.mp srt).2.2 a ha _ (List.mem_singleton.mpr rfl))
      · rw [List.mem_singleton.mp ha]; exact Nat.le_refl _
theorem pcs_mem {l w k : Nat} {t : List Nat} (ht : t ∈ txt l (w + k - 1)) {p : List Nat} (hp : p ∈ pcs w k t) : p ∈ txt l k := by
  unfold pcs at hp
  obtain ⟨a, ha, rfl⟩ := List.mem_map.mp hp
  rw [List.mem_range] at ha
  obtain ⟨h1, h2⟩ := txt_mem.mp ht
  refine txt_mem.mpr ⟨by rw [List.length_take, List.length_drop]; omega, fun c hc => h2 c (List.mem_of_mem_drop (List.mem_of_mem_take hc))⟩
theorem flat_sing {α β : Type} (g : α → β) : ∀ l : List α, (l.flatMap fun a => [g a]) = l.map g
  | [] => rfl
  | a :: l => by rw [List.flatMap_cons, flat_sing g l]; rfl
/-- an order of all pieces -/
def OkO (l k : Nat) (os : List (List Nat)) : Prop := os.length ≤ 4096 ∧ ∀ s, s ∈ os ↔ s ∈ txt l k
def SpFirst (c : Call) (i : Nat) : Prop := ∀ (l w k : Nat) (os : List (List Nat)) (last : Bool) (t : List Nat), OkS l w k → OkO l k os → t ∈ txt l (w + k - 1) → ∃ r : Nat, c i [shD (l, w, k), .lst false (os.map .str), .bl last, .str t] = .ok (.int r) [none, none, none, none] ∧ PickAt os last (pcs w k t) r
theorem sp_first (hf : fns[i]? = some F__law_first) (k : Nat) : SpFirst (runF P fns fu (k + 1)) i := fun l w kk os last t hs ho ht => by
  obtain ⟨s1, s2, s3, s4, s5, s6⟩ := hs
  obtain ⟨t1, t2⟩ := txt_mem.mp ht
  have okp : ∀ p ∈ pcs w kk t, okTx p = true := fun p hp => okTx_ab s2 (txt_mem.mp (pcs_mem ht hp)).2
  have oko : ∀ p ∈ os, okTx p = true := fun p hp => okTx_ab s2 (txt_mem.mp ((ho.2 p).mp hp)).2
  have hpl : (pcs w kk t).length = w := by simp [pcs]
  have h100 : t.length ≤ 100000 := by omega
  have c3 : evE P (runF P fns fu k) E__law_first_3 [some (shD (l, w, kk)), some (.lst false (os.map .str)), some (.bl last), some (.str t), none, none, none, none, none] = .ok (.lst true ((pcs w kk t).map .str)) [some (shD (l, w, kk)), some (.lst false (os.map .str)), some (.bl last), some (.str t), none, none, none, none, none] := by
    unfold E__law_first_3
    refine (lc_eq (is := (List.range w).map fun (i : Nat) => D.int i) (e1 := [some (shD (l, w, kk)), some (.lst false (os.map .str)), some (.bl last), some (.str t), none, none, none, none, none]) (ys := (List.range w).flatMap fun a => [.str ((t.drop a).take kk)]) (e2 := [some (shD (l, w, kk)), some (.lst false (os.map .str)), some (.bl last), some (.str t), none, none, none, none, none]) ?_ ?_ ?_ ?_).trans ?_
    · simp [shD]; rw [items_range (by omega)]; simp
    · simp [freeS_cons]
    · refine loopC_map _ fun a ha => ?_
      rw [stepC_eq]
      simp [shD, slcD, h100, cut_mid]
    · rw [flat_sing]; simp; omega
    · rw [flat_sing]; simp [pcs]
  have c2 : evE P (runF P fns fu k) E__law_first_2 [some (shD (l, w, kk)), some (.lst false (os.map .str)), some (.bl last), some (.str t), some (.lst true ((pcs w kk t).map .str)), none, none, none, none] = .ok (.lst true ((os.filter fun p => (pcs w kk t).any (· == p)).map .str)) [some (shD (l, w, kk)), some (.lst false (os.map .str)), some (.bl last), some (.str t), some (.lst true ((pcs w kk t).map .str)), none, none, none, none] := by
    unfold E__law_first_2
    refine (lc_eq (is := os.map .str) (e1 := [some (shD (l, w, kk)), some (.lst false (os.map .str)), some (.bl last), some (.str t), some (.lst true ((pcs w kk t).map .str)), none, none, none, none]) (ys := os.flatMap fun p => if (pcs w kk t).any (· == p) = true then [.str p] else []) (e2 := [some (shD (l, w, kk)), some (.lst false (os.map .str)), some (.bl last), some (.str t), some (.lst true ((pcs w kk t).map .str)), none, none, none, none]) ?_ ?_ ?_ ?_).trans ?_
    · simp [items_list, isFL_str]
    · simp [freeS_cons]
    · refine loopC_map _ fun p hp => ?_
      rw [stepC_eq]
      have q := cmp_in_strs (m := true) (oko p hp) okp
      cases hc : (pcs w kk t).any (· == p) <;> (rw [hc] at q; simp [q])
    · rw [flat_if, List.length_map]
      have := List.length_filter_le (fun p => (pcs w kk t).any (· == p)) os
      have := ho.1
      omega
    · rw [flat_if]; simp
  have hne : ∃ b rest, os.filter (fun p => (pcs w kk t).any (· == p)) = b :: rest := by
    have h0 : 0 < (pcs w kk t).length := by omega
    have hm : (pcs w kk t)[0]'h0 ∈ os.filter (fun p => (pcs w kk t).any (· == p)) := List.mem_filter.mpr ⟨(ho.2 _).mpr (pcs_mem ht (List.getElem_mem h0)), List.any_eq_true.mpr ⟨_, List.getElem_mem h0, beq_self_eq_true _⟩⟩
    cases q : os.filter (fun p => (pcs w kk t).any (· == p)) with
    | nil => rw [q] at hm; cases hm
    | cons b rest => exact ⟨b, rest, rfl⟩
  obtain ⟨b, rest, hb⟩ := hne
  rw [hb] at c2
  obtain ⟨r, x, xs, q1, q2, q3⟩ := pick_ok (last := last) hb fun p hp => (ho.2 p).mpr (pcs_mem ht hp)
  have okb : okTx b = true := oko b (List.mem_filter.mp (by rw [hb]; exact List.mem_cons_self ..)).1
  have c1 : evE P (runF P fns fu k) E__law_first_1 [some (shD (l, w, kk)), some (.lst false (os.map .str)), some (.bl last), some (.str t), some (.lst true ((pcs w kk t).map .str)), some (.str b), none, none, none] = .ok (.lst true ((spots (pcs w kk t) b).map fun (n : Nat) => .int n)) [some (shD (l, w, kk)), some (.lst false (os.map .str)), some (.bl last), some (.str t), some (.lst false ((pcs w kk t).map .str)), some (.str b), none, none, none] := by
    unfold E__law_first_1
    refine (lc_eq (is := (pcs w kk t).zipIdx.map fun q => .tup [.int q.2, .str q.1]) (e1 := [some (shD (l, w, kk)), some (.lst false (os.map .str)), some (.bl last), some (.str t), some (.lst false ((pcs w kk t).map .str)), some (.str b), none, none, none]) (ys := (pcs w kk t).zipIdx.flatMap fun q => if (q.1 == b) = true then [.int q.2] else []) (e2 := [some (shD (l, w, kk)), some (.lst false (os.map .str)), some (.bl last), some (.str t), some (.lst false ((pcs w kk t).map .str)), some (.str b), none, none, none]) ?_ ?_ ?_ ?_).trans ?_
    · simp [frzL_str, items_enum, isFL_str, List.zipIdx_map]
    · simp [freeS_cons]
    · refine loopC_map _ fun q hq => ?_
      rw [stepC_eq]
      cases hc : (q.1 == b) <;> simp [hc]
    · rw [flat_if, List.length_map]
      have := List.length_filter_le (fun q : List Nat × Nat => q.1 == b) (pcs w kk t).zipIdx
      rw [List.length_zipIdx] at this
      omega
    · rw [flat_if]; simp [spots]
  rw [q1] at c1
  refine ⟨r, ?_, q3⟩
  rw [run_eq hf rfl rfl]
  have osh : owned (shD (l, w, kk)) = false := rfl
  cases last with
  | false =>
    have q2 : x = r := q2
    subst q2
    simp [F__law_first, osh, c3, c2, c1]
  | true =>
    have hl : idxF (.lst true ((x :: xs).map fun (n : Nat) => D.int n)) (.int (-1)) = some (.int r) := by
      have hne : (x :: xs).map (fun (n : Nat) => D.int n) ≠ [] := by simp
      have e : ((x :: xs).map (fun (n : Nat) => D.int n)).getLast hne = .int r := by
        rw [List.getLast_map]
        rw [← q2]
        rfl
      exact idx_l (by rw [atI_last hne, e]) rfl
    simp only [List.map_cons] at hl c1
    simp [F__law_first, osh, c3, c2, c1, hl]
end
end Wpk.M
set_option Elab.async false
set_option linter.all false
set_option maxRecDepth 100000
/-! M6: drawn tables and rules; rules by orders are forward. -/
namespace Wpk.M
open PySem
section
variable {P : Pg} {fns : List Fd} {fu k i : Nat}
@[simp] theorem owned_shD {s : Nat × Nat × Nat} : owned (shD s) = false := (rfl)
@[simp] theorem frz_shD {s : Nat × Nat × Nat} : frz (shD s) = shD s := frz_isF _ isF_shD
@[simp] theorem isF_shD' {s : Nat × Nat × Nat} : isF (shD s) = true := isF_shD
@[simp] theorem shD_0 {s : Nat × Nat × Nat} : idxF (shD s) (.int 0) = some (.int s.1) := by simp [shD]
@[simp] theorem shD_1 {s : Nat × Nat × Nat} : idxF (shD s) (.int 1) = some (.int s.2.1) := by simp [shD]
@[simp] theorem shD_2 {s : Nat × Nat × Nat} : idxF (shD s) (.int 2) = some (.int s.2.2) := by simp [shD]
/-- a table by an order -/
def ByO (l w k : Nat) (os : List (List Nat)) (last : Bool) (tb : List Int) : Prop := tb.length = l ^ (w + k - 1) ∧ ∀ (j : Nat) (t : List Nat), (txt l (w + k - 1))[j]? = some t → ∃ r : Nat, tb[j]? = some (r : Int) ∧ PickAt os last (pcs w k t) r
theorem ByO.okT {l w k : Nat} {os : List (List Nat)} {last : Bool} {tb : List Int} (hl : l ≤ 4) (h : ByO l w k os last tb) : OkT w tb := fun x hx => by
  obtain ⟨j, hj, rfl⟩ := List.getElem_of_mem hx
  have hj2 : j < (txt l (w + k - 1)).length := by rw [txt_len l hl, ← h.1]; exact hj
  obtain ⟨r, h1, h2⟩ := h.2 j _ (List.getElem?_eq_getElem hj2)
  rw [List.getElem?_eq_getElem hj] at h1
  have e := Option.some.inj h1
  have := h2.lt
  rw [show (pcs w k _).length = w from by simp [pcs]] at this
  rw [e]
  omega
def SpByOrder (c : Call) (i : Nat) : Prop := ∀ (l w k : Nat) (os : List (List Nat)) (last : Bool), OkS l w k → OkO l k os → l ^ (w + k - 1) ≤ 4096 → ∃ tb : List Int, c i [shD (l, w, k), .lst false (os.map .str), .bl last] = .ok (.lst true (tb.map .int)) [none, none, none] ∧ ByO l w k os last tb
/-- a comprehension each of whose values is some int with a fact -/
theorem loopC_ints {α : Type} {bc : D → Env → R (List D)} {f : α → D} {e : Env} {Q : α → Int → Prop} : ∀ (xs : List α) (_ : ∀ x ∈ xs, ∃ r : Int, bc (f x) e = .ok [.int r] e ∧ Q x r), ∃ rs : List Int, loopC bc (xs.map f) e = .ok (rs.map .int) e ∧ rs.length = xs.length ∧ ∀ (j : Nat) (x : α), xs[j]? = some x → ∃ r, rs[j]? = some r ∧ Q x r
  | [], _ => ⟨[], rfl, rfl, fun j x h => by simp at h⟩
  | x :: xs, h => by
    obtain ⟨r, b, q⟩ := h x (List.mem_cons_self ..)
    obtain ⟨rs, b2, l2, q2⟩ := loopC_ints xs fun y hy => h y (List.mem_cons_of_mem _ hy)
    refine ⟨r :: rs, ?_, by simp [l2], fun j y hj => ?_⟩
    · rw [List.map_cons]
      unfold loopC
      rw [b]
      show (loopC bc (xs.map f) e).bind _ = _
      rw [b2]
      rfl
    · cases j with
      | zero => simp at hj; subst hj; exact ⟨r, rfl, q⟩
      | succ j => simpa using q2 j y (by simpa using hj)
theorem sp_by_order {c1 c2 : Nat} (h1 : ∀ k, SpFirst (runF P fns fu (k + 1)) c1) (h2 : ∀ k, SpTexts (runF P fns fu (k + 1)) c2) (hf : fns[i]? = some (F__law_by_order c1 c2)) (k : Nat) : SpByOrder (runF P fns fu (k + 2)) i := fun l w kk os last hs ho h9 => by
  have hs' := hs
  obtain ⟨s1, s2, s3, s4, s5, s6⟩ := hs
  obtain ⟨m, q⟩ := h2 k l (w + kk - 1) s2 h9 (by omega)
  have e1 : (w : Int) + kk - 1 = ((w + kk - 1 : Nat) : Int) := by omega
  obtain ⟨rs, b, l2, q2⟩ := loopC_ints (f := D.str) (e := [some (shD (l, w, kk)), some (.lst false (os.map .str)), some (.bl last), some (.lst false ((txt l (w + kk - 1)).map .str)), none]) (bc := stepC [4] (bindT [] (.tName 4)) (evT P (runF P fns fu (k + 1)) .yes) (evE P (runF P fns fu (k + 1)) (.call c1 (.cons (.pk 0) (.cons (.pk 1) (.cons (.pk 2) (.cons (.pk 4) .nil))))))) (Q := fun t r => ∃ n : Nat, r = n ∧ PickAt os last (pcs w kk t) n) (txt l (w + kk - 1)) fun t ht => by
    obtain ⟨r, b, pk⟩ := h1 k l w kk os last t hs' ho ht
    refine ⟨r, ?_, r, rfl, pk⟩
    rw [stepC_eq]
    simp [doCall, b]
  refine ⟨rs, ?_, by rw [l2, txt_len l s2], fun j t hj => ?_⟩
  · have comp : evE P (runF P fns fu (k + 1)) (E__law_by_order_1 c1) [some (shD (l, w, kk)), some (.lst false (os.map .str)), some (.bl last), some (.lst m ((txt l (w + kk - 1)).map .str)), none] = .ok (.lst true (rs.map .int)) [some (shD (l, w, kk)), some (.lst false (os.map .str)), some (.bl last), some (.lst false ((txt l (w + kk - 1)).map .str)), none] := by
      unfold E__law_by_order_1
      refine (lc_eq (is := (txt l (w + kk - 1)).map .str) (e1 := [some (shD (l, w, kk)), some (.lst false (os.map .str)), some (.bl last), some (.lst false ((txt l (w + kk - 1)).map .str)), none]) (ys := rs.map .int) (e2 := [some (shD (l, w, kk)), some (.lst false (os.map .str)), some (.bl last), some (.lst false ((txt l (w + kk - 1)).map .str)), none]) ?_ ?_ ?_ ?_).trans ?_
      · cases m <;> simp [frzL_str, items_list, isFL_str]
      · simp [freeS_cons]
      · exact b
      · rw [List.length_map, l2, txt_len l s2]; omega
      · simp
    rw [run_eq hf rfl rfl]
    simp [F__law_by_order, doCall, e1, q, comp]
  · obtain ⟨r, a1, n, rfl, a2⟩ := q2 j t hj
    exact ⟨n, a1, a2⟩
/-! ### drawn tables -/
def SpTable (c : Call) (i : Nat) : Prop := ∀ (b : Bx) (l w k : Nat), OkS l w k → l ^ (w + k - 1) ≤ 4096 → l ^ k < 1000 → ∃ (b' : Bx) (tb : List Int), c i [bx b, shD (l, w, k)] = .ok (.lst true (tb.map .int)) [some (bx b'), none] ∧ OkT w tb ∧ tb.length = l ^ (w + k - 1)
/-- a mixed row of all pieces is an order -/
theorem mixed_order {l k : Nat} (hl : l ≤ 4) (h9 : l ^ k < 1000) {zs : List D} (hp : zs.Perm ((txt l k).map .str)) : ∃ os : List (List Nat), zs = os.map .str ∧ OkO l k os := by
  have hall : ∀ z ∈ zs, ∃ s, z = .str s := fun z hz => by
    obtain ⟨s, _, rfl⟩ := List.mem_map.mp (hp.mem_iff.mp hz)
    exact ⟨s, rfl⟩
  have hex : ∀ q : List D, (∀ z ∈ q, ∃ s, z = .str s) → ∃ os : List (List Nat), q = os.map .str := fun q => by
    induction q with
    | nil => exact fun _ => ⟨[], rfl⟩
    | cons z q ih =>
      intro h
      obtain ⟨s, rfl⟩ := h z (List.mem_cons_self ..)
      obtain ⟨os, rfl⟩ := ih fun y hy => h y (List.mem_cons_of_mem _ hy)
      exact ⟨s :: os, rfl⟩
  obtain ⟨os, rfl⟩ := hex zs hall
  refine ⟨os, rfl, ?_, fun s => ?_⟩
  · have := hp.length_eq
    rw [List.length_map, List.length_map, txt_len l hl] at this
    omega
  · have := hp.mem_iff (a := D.str s)
    constructor
    · intro h
      obtain ⟨s', h1, h2⟩ := List.mem_map.mp (this.mp (List.mem_map.mpr ⟨s, h, rfl⟩))
      cases h2
      exact h1
    · intro h
      obtain ⟨s', h1, h2⟩ := List.mem_map.mp (this.mpr (List.mem_map.mpr ⟨s, h, rfl⟩))
      cases h2
      exact h1
/-- ints are known by their form -/
theorem ints_of : ∀ ys : List D, (∀ y ∈ ys, ∃ r : Int, y = .int r) → ∃ rs : List Int, ys = rs.map .int
  | [], _ => ⟨[], rfl⟩
  | y :: ys, h => by
    obtain ⟨r, rfl⟩ := h y (List.mem_cons_self ..)
    obtain ⟨rs, rfl⟩ := ints_of ys fun z hz => h z (List.mem_cons_of_mem _ hz)
    exact ⟨r :: rs, rfl⟩
theorem set_int {tb : List Int} {n : Nat} {v : Int} (h : n < tb.length) : setD (.lst true (tb.map .int)) (.int n) (.int v) = some (.lst true ((tb.set n v).map .int)) := by
  unfold setD
  dsimp only
  have h0 : L2.ixN (tb.map D.int).length (n : Int) = some n := by
    unfold L2.ixN
    rw [List.length_map, if_pos (by omega), if_pos (by omega)]
    simp
  rw [h0]
  dsimp only
  rw [List.map_set]
theorem sp_table {c1 c2 c3 c4 : Nat} (h1 : ∀ k, SpByOrder (runF P fns fu (k + 2)) c1) (h2 : ∀ k, SpMixed (runF P fns fu (k + 2)) c2) (h3 : ∀ k, SpTake (runF P fns fu (k + 1)) c3) (h4 : ∀ k, SpTexts (runF P fns fu (k + 1)) c4) (hf : fns[i]? = some (F__law_table c1 c2 c3 c4)) (k : Nat) : SpTable (runF P fns fu (k + 3)) i := fun b l w kk hs h9 hk => by
  have hs' := hs
  obtain ⟨s1, s2, s3, s4, s5, s6⟩ := hs
  obtain ⟨r, b1, q1, q2, q3⟩ := h3 (k + 1) b 5 (by decide) (by decide)
  have e1 : (w : Int) + kk - 1 = ((w + kk - 1 : Nat) : Int) := by omega
  by_cases hr : r = 4
  · obtain ⟨m, t1⟩ := h4 (k + 1) l (w + kk - 1) s2 h9 (by omega)
    obtain ⟨ys, e', bb, ⟨b2, hb2⟩, l2, qy⟩ := loopC_any (f := D.str) (bc := stepC [4] (bindT [] (.tName 4)) (evT P (runF P fns fu (k + 2)) .yes) (evE P (runF P fns fu (k + 2)) (.call c3 (.cons (.pk 0) (.cons (.ov (.idx (.pk 1) (.ov (.cst (.int (1)))))) .nil))))) (I := fun e => ∃ b' : Bx, e = [some (bx b'), some (shD (l, w, kk)), some (.int 4), none, none]) (Q := fun y => ∃ x : Int, y = .int x ∧ 0 ≤ x ∧ x < w) (fun t e ⟨b', he⟩ => by
      subst he
      obtain ⟨x, b3, z1, z2, z3⟩ := h3 (k + 1) b' w (by omega) (by omega)
      refine ⟨.int x, [some (bx b3), some (shD (l, w, kk)), some (.int 4), none, none], ?_, ⟨b3, rfl⟩, x, rfl, z2, z3⟩
      rw [stepC_eq]
      simp [doCall, z1]) (txt l (w + kk - 1)) [some (bx b1), some (shD (l, w, kk)), some (.int 4), none, none] ⟨b1, rfl⟩
    subst hb2
    obtain ⟨tb, rfl⟩ := ints_of ys fun y hy => by obtain ⟨x, e, _⟩ := qy y hy; exact ⟨x, e⟩
    rw [List.length_map] at l2
    refine ⟨b2, tb, ?_, fun x hx => ?_, by rw [l2, txt_len l s2]⟩
    · have comp : evE P (runF P fns fu (k + 2)) (E__law_table_1 c3 c4) [some (bx b1), some (shD (l, w, kk)), some (.int 4), none, none] = .ok (.lst true (tb.map .int)) [some (bx b2), some (shD (l, w, kk)), some (.int 4), none, none] := by
        unfold E__law_table_1
        refine (lc_eq (is := (txt l (w + kk - 1)).map .str) (e1 := [some (bx b1), some (shD (l, w, kk)), some (.int 4), none, none]) (ys := tb.map .int) (e2 := [some (bx b2), some (shD (l, w, kk)), some (.int 4), none, none]) ?_ ?_ ?_ ?_).trans ?_
        · simp [doCall, e1, t1, items_list, isFL_str]
        · simp [freeS_cons]
        · exact bb
        · rw [List.length_map, l2, txt_len l s2]; omega
        · simp
      rw [run_eq hf rfl rfl]
      subst hr
      simp [F__law_table, doCall, q1, comp]
    · obtain ⟨x', e, h0, h1'⟩ := qy (.int x) (List.mem_map.mpr ⟨x, hx, rfl⟩)
      cases e
      exact ⟨h0, h1'⟩
  · obtain ⟨m, t1⟩ := h4 (k + 1) l kk s2 (by omega) (by omega)
    obtain ⟨b2, zs, hp, mx⟩ := h2 k b1 ((txt l kk).map .str) (isFL_str _) (by rw [List.length_map, txt_len l s2]; exact hk)
    obtain ⟨os, rfl, ho⟩ := mixed_order s2 hk hp
    obtain ⟨tb, tq, tby⟩ := h1 k l w kk os (decide (r = 1)) hs' ho h9
    have fz := frzL_str os
    have fz2 := frzL_str (txt l kk)
    have hrb : (r == 1) = decide (r = 1) := by
      by_cases h : r = 1 <;> simp [h]
    by_cases hr2 : r = 2
    · subst hr2
      obtain ⟨v, b3, z1, z2, z3⟩ := h3 (k + 1) b2 w (by omega) (by omega)
      obtain ⟨n0, b4, y1, y2, y3⟩ := h3 (k + 1) b3 tb.length (by rw [tby.1]; have := Nat.pow_pos (n := w + kk - 1) (show 0 < l by omega); omega) (by rw [tby.1]; omega)
      obtain ⟨n, rfl⟩ : ∃ n : Nat, n0 = n := ⟨n0.toNat, by omega⟩
      have hn : n < tb.length := by omega
      refine ⟨b4, tb.set n v, ?_, fun x hx => ?_, by rw [List.length_set]; exact tby.1⟩
      · rw [run_eq hf rfl rfl]
        simp at tq
        simp [F__law_table, doCall, q1, t1, fz2, mx, fz, tq, z1, y1, set_int hn]
      · rcases List.mem_or_eq_of_mem_set hx with h | h
        · exact tby.okT s2 x h
        · rw [h]; exact ⟨z2, z3⟩
    · refine ⟨b2, tb, ?_, tby.okT s2, tby.1⟩
      rw [run_eq hf rfl rfl]
      simp [F__law_table, doCall, q1, hr, t1, fz2, mx, fz, hrb, tq, hr2]
end
end Wpk.M
set_option Elab.async false
set_option linter.all false
set_option maxRecDepth 100000
/-! M7: drawn rules; rules by orders are forward. -/
namespace Wpk.M
open PySem
section
variable {P : Pg} {fns : List Fd} {fu k i : Nat}
/-- what is drawn -/
def dr (l w k : Nat) (tb : List Int) : D := .tup [.int l, .int w, .int k, .lst false (tb.map .int)]
section
variable {l w k : Nat} {tb : List Int}
@[simp] theorem owned_dr : owned (dr l w k tb) = false := (rfl)
@[simp] theorem isF_dr : isF (dr l w k tb) = true := by simp [dr, isFL_int]
@[simp] theorem frz_dr : frz (dr l w k tb) = dr l w k tb := frz_isF _ isF_dr
@[simp] theorem dr_0 : idxF (dr l w k tb) (.int 0) = some (.int l) := by simp [dr]
@[simp] theorem dr_1 : idxF (dr l w k tb) (.int 1) = some (.int w) := by simp [dr]
@[simp] theorem dr_2 : idxF (dr l w k tb) (.int 2) = some (.int k) := by simp [dr]
@[simp] theorem dr_3 : idxF (dr l w k tb) (.int 3) = some (.lst false (tb.map .int)) := by simp [dr, isFL_int]
theorem sh_dr : opD .Add (shD (l, w, k)) (.tup [.lst false (tb.map .int)]) = some (dr l w k tb) := by simp [shD, dr, op_add_tt]
theorem dr_cut : slcD (dr l w k tb) none (some 3) = some (shD (l, w, k)) := by
  show some (D.tup (cutL [.int l, .int w, .int k, .lst false (tb.map .int)] none (some 3))) = _
  rw [show (3 : Int) = ((3 : Nat) : Int) from rfl, cut_take]
  rfl
end
structure Dr (most : Int) (l w k : Nat) (tb : List Int) : Prop where
  s : OkS l w k
  t : OkT w tb
  len : tb.length = l ^ (w + k - 1)
  fit : (l ^ (2 * w + k - 2) : Nat) ≤ most
  big : l ^ (w + k) ≤ 4096
  big1 : l ^ (w + k - 1) ≤ 4096
  bigk : l ^ k < 1000
def SpRule (c : Call) (i : Nat) : Prop := ∀ (b : Bx) (most : Int), 2 ≤ most → ∃ (b' : Bx) (l w k : Nat) (tb : List Int), Dr most l w k tb ∧ c i [bx b, .int most] = .ok (dr l w k tb) [some (bx b'), none]
theorem shapes_fit : ∀ s ∈ shapesL, s.1 ^ (s.2.1 + s.2.2) ≤ 4096 ∧ s.1 ^ (s.2.1 + s.2.2 - 1) ≤ 4096 ∧ s.1 ^ s.2.2 < 1000 := by decide
theorem sp_rule {c1 c2 : Nat} (h1 : ∀ k, SpShape (runF P fns fu (k + 3)) c1) (h2 : ∀ k, SpTable (runF P fns fu (k + 3)) c2) (hf : fns[i]? = some (F__law_rule c1 c2)) (k : Nat) : SpRule (runF P fns fu (k + 4)) i := fun b most hm => by
  obtain ⟨b1, ⟨l, w, kk⟩, hs, hfit, q1⟩ := h1 k b most hm
  have ok := okS_of (shapes_ok _ hs)
  have ft := shapes_fit _ hs
  obtain ⟨b2, tb, q2, ht, hl⟩ := h2 k b1 l w kk ok ft.2.1 ft.2.2
  refine ⟨b2, l, w, kk, tb, ⟨ok, ht, hl, hfit, ft.1, ft.2.1, ft.2.2⟩, ?_⟩
  rw [run_eq hf rfl rfl]
  simp [F__law_rule, doCall, q1, q2, frzL_int, sh_dr]
def greatL : List (Nat × Nat × Nat) := [(2, 5, 4), (3, 5, 1), (4, 4, 1), (4, 1, 4), (2, 4, 3), (2, 5, 1), (2, 5, 2)]
theorem great_ok : ∀ s ∈ greatL, okS s = true := by decide
theorem great_fit : ∀ s ∈ greatL, s.1 ^ (s.2.1 + s.2.2) ≤ 4096 ∧ s.1 ^ (s.2.1 + s.2.2 - 1) ≤ 4096 ∧ s.1 ^ s.2.2 < 1000 ∧ s.1 ^ (2 * s.2.1 + s.2.2 - 2) ≤ 100000 := by decide
def SpGreat (c : Call) (i : Nat) : Prop := ∀ (b : Bx), ∃ (b' : Bx) (l w k : Nat) (tb : List Int), Dr 100000 l w k tb ∧ c i [bx b] = .ok (dr l w k tb) [some (bx b')]
theorem sp_great {c1 c2 : Nat} (h1 : ∀ k, SpPick (runF P fns fu (k + 2)) c1) (h2 : ∀ k, SpTable (runF P fns fu (k + 3)) c2) (hf : fns[i]? = some (F__law_great c1 c2)) (k : Nat) : SpGreat (runF P fns fu (k + 4)) i := fun b => by
  obtain ⟨b1, y, hy, q1⟩ := h1 (k + 1) b (greatL.map shD) (by decide) (isFL_shD _) (by decide)
  obtain ⟨⟨l, w, kk⟩, hs, rfl⟩ := List.mem_map.mp hy
  have ok := okS_of (great_ok _ hs)
  have ft := great_fit _ hs
  obtain ⟨b2, tb, q2, ht, hl⟩ := h2 k b1 l w kk ok ft.2.1 ft.2.2.1
  refine ⟨b2, l, w, kk, tb, ⟨ok, ht, hl, by have := ft.2.2.2; dsimp only at this; omega, ft.1, ft.2.1, ft.2.2.1⟩, ?_⟩
  rw [run_eq hf rfl rfl]
  simp [greatL, shD] at q1
  simp [F__law_great, doCall, q1]
  have e : D.tup [.int l, .int w, .int kk] = shD (l, w, kk) := rfl
  rw [e]
  simp [q2, frzL_int, sh_dr]
def rulT (l w k : Nat) (tb : List Int) : D := .ins true 0 ["letters", "w", "k", "table"] [.int l, .int w, .int k, .tup (tb.map .int)]
@[simp] theorem frz_rulT {l w k : Nat} {tb : List Int} : frz (rulT l w k tb) = rul l w k tb := by simp [rulT, rul, frzL_int]
def SpRuleOf (c : Call) (i : Nat) : Prop := ∀ (most : Int) (l w k : Nat) (tb : List Int), Dr most l w k tb → c i [dr l w k tb] = .ok (rulT l w k tb) [none]
theorem sp_rule_of {c1 : Nat} (h1 : ∀ k, SpInit (runF P fns fu (k + 3)) c1) (hf : fns[i]? = some (F__law_rule_of c1)) (k : Nat) : SpRuleOf (runF P fns fu (k + 4)) i := fun most l w kk tb h => by
  have q := h1 k l w kk tb h.s h.t h.len (by rw [h.len]; exact h.big1)
  rw [run_eq hf rfl rfl]
  simp [F__law_rule_of, doMake, frzL_int, q, rulT]
def SpSpot (c : Call) (i : Nat) : Prop := ∀ (l w k : Nat) (tb : List Int) (t : List Nat) (v : Int), l ≤ 4 → (∀ c ∈ t, c ∈ ab l) → tb[num l t]? = some v → c i [dr l w k tb, .str t] = .ok (.int v) [none, none]
theorem ab_sub {l c : Nat} (hl : l ≤ 4) (h : c ∈ ab l) : c ∈ ab 4 := by
  have := (abc_take hl).mp h
  exact (abc_take (Nat.le_refl 4)).mpr ⟨this.1, by omega⟩
theorem sp_spot (hf : fns[i]? = some F__law_spot) (k : Nat) : SpSpot (runF P fns fu (k + 1)) i := fun l w kk tb t v hl ht hv => by
  have loop : ∃ x3, evS P (runF P fns fu k) fu [] B__law_spot_1 [some (dr l w kk tb), some (.str t), some (.int 0), none] = .ok .nx [some (dr l w kk tb), some (.str t), some (.int (num l t : Nat)), x3] := by
    unfold B__law_spot_1
    rw [for_eq (is := t.map fun c => .str [c]) (e1 := [some (dr l w kk tb), some (.str t), some (.int 0), none]) (by simp)]
    obtain ⟨e', b, x3, pre, he1, he2⟩ := loopF_go (f := fun c => D.str [c]) (body := forB P (runF P fns fu k) fu [] (.tName 3) (.asg (.tName 2) (.op .Add (.ov (.op .Mult (.pk 2) (.ov (.idx (.pk 0) (.ov (.cst (.int (0)))))))) (.ov (.mt .index (.ov (.cst (.str [97, 98, 99, 100]))) (.cons (.pk 3) .nil))))))
      (I := fun cs e => ∃ x3 pre, t = pre ++ cs ∧ e = [some (dr l w kk tb), some (.str t), some (.int (num l pre : Nat)), x3]) (fun c cs e ⟨x3, pre, h1, h2⟩ => by
        subst h2
        have hcm : c ∈ ab l := ht c (by rw [h1]; simp)
        have ix : mtD .index (.str [97, 98, 99, 100]) [.str [c]] = some (.int ((c - 97 : Nat) : Int)) := idx_ab (l := 4) (Nat.le_refl 4) (ab_sub hl hcm)
        refine ⟨_, ?_, some (.str [c]), pre ++ [c], by rw [h1]; simp, rfl⟩
        rw [forB_eq]
        have h2 : (-18446744073709551616 < (l : Int) ∧ (l : Int) < 18446744073709551616) := by omega
        simp [op_mul_ii, h2, ix, num_app]) t _ ⟨none, [], rfl, rfl⟩
    subst he2
    rw [List.append_nil] at he1
    subst he1
    exact ⟨x3, b⟩
  obtain ⟨x3, loop⟩ := loop
  rw [run_eq hf rfl rfl]
  have hx : idxF (.lst false (tb.map .int)) (.int (num l t : Nat)) = some (.int v) := idx_l (atI_nat (by rw [List.getElem?_map, hv]; rfl)) rfl
  simp [F__law_spot, loop, hx]
def SpLawFwd (c : Call) (i : Nat) : Prop := ∀ (most : Int) (l w k : Nat) (tb : List Int), Dr most l w k tb → c i [dr l w k tb] = .ok (.bl (fwd l w k tb)) [none]
theorem sp_law_fwd {co ct : Nat} (h1 : ∀ k, SpSpot (runF P fns fu (k + 1)) co) (h3 : ∀ k, SpTexts (runF P fns fu (k + 1)) ct) (hf : fns[i]? = some (F__law_is_forward co ct)) (k : Nat) : SpLawFwd (runF P fns fu (k + 2)) i := fun most l w kk tb hd => by
  obtain ⟨s1, s2, s3, s4, s5, s6⟩ := hd.s
  have hb := hd.len
  obtain ⟨m, q3⟩ := h3 k l (w + kk) s2 hd.big (by omega)
  have hin : semIt .plain (evVs P (runF P fns fu (k + 1)) (.cons (.call ct (.cons (.ov (.idx (.pk 0) (.ov (.cst (.int (0)))))) (.cons (.ov (.op .Add (.ov (.idx (.pk 0) (.ov (.cst (.int (1)))))) (.ov (.idx (.pk 0) (.ov (.cst (.int (2)))))))) .nil))) .nil)) [some (dr l w kk tb), none] = .ok ((txt l (w + kk)).map .str) [some (dr l w kk tb), none] := by
    simp only [Int.natCast_add] at q3
    simp [doCall, q3, items_list, isFL_str]
  have loop : ∃ x1, evS P (runF P fns fu (k + 1)) fu [] (B__law_is_forward_1 co ct) [some (dr l w kk tb), none] = .ok (if (txt l (w + kk)).any (bad l tb) then .rt (.bl false) else .nx) [some (dr l w kk tb), x1] := by
    unfold B__law_is_forward_1
    rw [for_eq hin]
    obtain ⟨e', b, x1, he⟩ := loopF_findM (f := D.str) (p := bad l tb) (d := .bl false) (I := fun e => ∃ x1, e = [some (dr l w kk tb), x1]) (body := forB P (runF P fns fu (k + 1)) fu [] (.tName 1) (.ifS (.tv (.cmp .Gt (.ov (.call co (.cons (.pk 0) (.cons (.ov (.slc (.pk 1) .nil (.ov (.neg (.cst (.int (1))))))) .nil)))) (.ov (.op .Add (.ov (.call co (.cons (.pk 0) (.cons (.ov (.slc (.pk 1) (.ov (.cst (.int (1)))) .nil)) .nil)))) (.ov (.cst (.int (1)))))))) (.ret (.cst (.bl false))) .pas)) (txt l (w + kk)) (fun t htm e ⟨x1, he⟩ => by
      subst he
      obtain ⟨t1, t2⟩ := txt_mem.mp htm
      have o1 := h1 k l w kk tb t.dropLast _ s2 (fun c hc => t2 c ((List.dropLast_sublist t).subset hc)) (offs_at s2 (n := w + kk - 1) (by simp [t1]) (fun c hc => t2 c ((List.dropLast_sublist t).subset hc)) hb)
      have o2 := h1 k l w kk tb t.tail _ s2 (fun c hc => t2 c (List.mem_of_mem_tail hc)) (offs_at s2 (n := w + kk - 1) (by simp [t1]) (fun c hc => t2 c (List.mem_of_mem_tail hc)) hb)
      have h100 : t.length ≤ 100000 := by omega
      have key : forB P (runF P fns fu (k + 1)) fu [] (.tName 1) (.ifS (.tv (.cmp .Gt (.ov (.call co (.cons (.pk 0) (.cons (.ov (.slc (.pk 1) .nil (.ov (.neg (.cst (.int (1))))))) .nil)))) (.ov (.op .Add (.ov (.call co (.cons (.pk 0) (.cons (.ov (.slc (.pk 1) (.ov (.cst (.int (1)))) .nil)) .nil)))) (.ov (.cst (.int (1)))))))) (.ret (.cst (.bl false))) .pas) (.str t) [some (dr l w kk tb), x1] = .ok (if bad l tb t then .rt (.bl false) else .nx) [some (dr l w kk tb), some (.str t)] := by
        rw [forB_eq]
        simp [slcD, h100, cut_dropLast, cut_tail, doCall, o1, o2, bad]
        split <;> simp
      cases hbd : bad l tb t with
      | true => rw [hbd] at key; exact .inl ⟨rfl, _, key, _, rfl⟩
      | false => rw [hbd] at key; exact .inr ⟨rfl, _, key, _, rfl⟩) _ ⟨none, rfl⟩
    subst he
    exact ⟨x1, b⟩
  obtain ⟨x1, loop⟩ := loop
  rw [run_eq hf rfl rfl]
  unfold fwd
  cases ha : (txt l (w + kk)).any (bad l tb) <;> (rw [ha] at loop; simp [F__law_is_forward, loop])
end
end Wpk.M
set_option Elab.async false
set_option linter.all false
set_option maxRecDepth 100000
/-! M8: a rule by an order is forward. -/
namespace Wpk.M
theorem flat_at {α β : Type} {g : α → List β} {l : Nat} : ∀ (xs : List α) (_ : ∀ x ∈ xs, (g x).length = l) (i j : Nat) (x : α), xs[i]? = some x → j < l → (xs.flatMap g)[i * l + j]? = (g x)[j]?
  | [], _, i, j, x, h, _ => by simp at h
  | y :: xs, hg, i, j, x, h, hj => by
    rw [List.flatMap_cons]
    have hy := hg y (List.mem_cons_self ..)
    cases i with
    | zero =>
      simp at h
      subst h
      rw [Nat.zero_mul, Nat.zero_add, List.getElem?_append_left (by omega)]
    | succ i =>
      rw [List.getElem?_append_right (by rw [hy, Nat.succ_mul]; omega), hy]
      have e : (i + 1) * l + j - l = i * l + j := by rw [Nat.succ_mul]; omega
      rw [e]
      exact flat_at xs (fun z hz => hg z (List.mem_cons_of_mem _ hz)) i j x (by simpa using h) hj
theorem ab_len {l : Nat} (hl : l ≤ 4) : (ab l).length = l := by simp [ab, abc]; omega
theorem ab_at {l c : Nat} (hl : l ≤ 4) (h : c ∈ ab l) : (ab l)[c - 97]? = some c := by
  have := (abc_take hl).mp h
  obtain ⟨j, hj, rfl⟩ : ∃ j, j < l ∧ c = 97 + j := ⟨c - 97, by omega, by omega⟩
  rcases (by omega : l = 0 ∨ l = 1 ∨ l = 2 ∨ l = 3 ∨ l = 4) with rfl | rfl | rfl | rfl | rfl
  · omega
  · rcases (by omega : j = 0) with rfl; rfl
  · rcases (by omega : j = 0 ∨ j = 1) with rfl | rfl <;> rfl
  · rcases (by omega : j = 0 ∨ j = 1 ∨ j = 2) with rfl | rfl | rfl <;> rfl
  · rcases (by omega : j = 0 ∨ j = 1 ∨ j = 2 ∨ j = 3) with rfl | rfl | rfl | rfl <;> rfl
/-- a text stands at its number -/
theorem txt_num {l : Nat} (hl : l ≤ 4) : ∀ {n : Nat} {t : List Nat}, t ∈ txt l n → (txt l n)[num l t]? = some t
  | 0, t, h => by
    simp only [txt, List.mem_singleton] at h
    subst h
    rfl
  | n + 1, t, h => by
    obtain ⟨h1, h2⟩ := txt_mem.mp h
    have hne : t ≠ [] := fun z => by rw [z] at h1; cases h1
    have e := List.dropLast_concat_getLast hne
    have hd : t.dropLast ∈ txt l n := txt_mem.mpr ⟨by simp [h1], fun c hc => h2 c ((List.dropLast_sublist t).subset hc)⟩
    have hc := h2 _ (List.getLast_mem hne)
    have hcl := (abc_take hl).mp hc
    have ih := txt_num hl hd
    rw [← e, num_app]
    show ((txt l n).flatMap _)[_]? = _
    rw [flat_at (l := l) _ (fun x _ => by rw [List.length_map, ab_len hl]) _ _ _ ih (by omega), List.getElem?_map, ab_at hl hc]
    rfl
theorem pcs_drop {w k : Nat} {t : List Nat} (hk : 1 ≤ k) (ht : t.length = w + k) {a : Nat} (ha : a < w) : (t.dropLast.drop a).take k = (t.drop a).take k := by
  rw [List.dropLast_eq_take, List.drop_take, List.take_take]
  congr 1
  omega
theorem pcs_get {w k : Nat} {t : List Nat} {a : Nat} (h : a < (pcs w k t).length) : (pcs w k t)[a]'h = (t.drop a).take k := by simp [pcs]
theorem pcs_tail {t : List Nat} {a k : Nat} : (t.tail.drop a).take k = (t.drop (a + 1)).take k := by
  rw [List.drop_tail]
theorem idx_inj {os : List (List Nat)} {x y : List Nat} (hx : x ∈ os) (hy : y ∈ os) (h : os.idxOf x = os.idxOf y) : x = y := by
  have h1 := List.getElem_idxOf (List.idxOf_lt_length_of_mem hx)
  have h2 := List.getElem_idxOf (List.idxOf_lt_length_of_mem hy)
  rw [← h1, ← h2]
  congr 1
theorem byO_fwd {l w k : Nat} {os : List (List Nat)} {last : Bool} {tb : List Int} (hs : OkS l w k) (ho : OkO l k os) (hb : ByO l w k os last tb) : fwd l w k tb = true := by
  obtain ⟨s1, s2, s3, s4, s5, s6⟩ := hs
  unfold fwd
  rw [Bool.not_eq_true', List.any_eq_false]
  intro t ht
  obtain ⟨t1, t2⟩ := txt_mem.mp ht
  have hd : t.dropLast ∈ txt l (w + k - 1) := txt_mem.mpr ⟨by simp [t1], fun c hc => t2 c ((List.dropLast_sublist t).subset hc)⟩
  have hT : t.tail ∈ txt l (w + k - 1) := txt_mem.mpr ⟨by simp [t1], fun c hc => t2 c (List.mem_of_mem_tail hc)⟩
  obtain ⟨r1, a1, p1⟩ := hb.2 _ _ (txt_num s2 hd)
  obtain ⟨r2, a2, p2⟩ := hb.2 _ _ (txt_num s2 hT)
  have e1 : offs l tb t.dropLast = r1 := by unfold offs; rw [a1]; rfl
  have e2 : offs l tb t.tail = r2 := by unfold offs; rw [a2]; rfl
  unfold bad
  rw [e1, e2, decide_eq_true_eq]
  intro hlt
  have hlt : r2 + 1 < r1 := by omega
  have l1 : (pcs w k t.dropLast).length = w := by simp [pcs]
  have l2 : (pcs w k t.tail).length = w := by simp [pcs]
  have hr1 : r1 < w := by have := p1.lt; omega
  have g1 : ∀ a (h : a < (pcs w k t.dropLast).length), (pcs w k t.dropLast)[a]'h = (t.drop a).take k := fun a h => by
    rw [pcs_get]
    exact pcs_drop s5 t1 (by omega)
  have g2 : ∀ a (h : a < (pcs w k t.tail).length), (pcs w k t.tail)[a]'h = (t.drop (a + 1)).take k := fun a h => by
    rw [pcs_get]
    exact pcs_tail
  have i1 := p1.least (r2 + 1) (by omega)
  have i2 := p2.least (r1 - 1) (by omega)
  rw [g1, g1] at i1
  rw [g2, g2] at i2
  have e3 : r1 - 1 + 1 = r1 := by omega
  rw [e3] at i2
  have m1 : (t.drop r1).take k ∈ os := by
    rw [← g1 r1 (by omega)]
    exact (ho.2 _).mpr (pcs_mem hd (List.getElem_mem _))
  have m2 : (t.drop (r2 + 1)).take k ∈ os := by
    rw [← g1 (r2 + 1) (by omega)]
    exact (ho.2 _).mpr (pcs_mem hd (List.getElem_mem _))
  have eq := idx_inj m1 m2 (Nat.le_antisymm i1 i2)
  cases last with
  | false =>
    have := p1.fst rfl (r2 + 1) (by omega) hlt
    rw [g1, g1] at this
    exact this eq.symm
  | true =>
    have := p2.lst rfl (r1 - 1) (by omega) (by omega)
    rw [g2, g2, e3] at this
    exact this eq
end Wpk.M
set_option Elab.async false
set_option linter.all false
set_option maxRecDepth 100000
/-! M9: places that are picked. -/
namespace Wpk.M
open PySem
def B_wrong_at_1 (c_alphabet : Nat) : T := .forS (.tTup (.cons (.tName 2) (.cons (.tName 3) .nil))) .enum (.cons (.var 1) .nil) (.ifS (.tv (.cmp .NotIn (.pk 3) (.ov (.call c_alphabet (.cons (.pk 0) .nil))))) (.retV 2) .pas)
def F_wrong_at (c_alphabet : Nat) : Fd := ⟨2, 4, (.seq (B_wrong_at_1 c_alphabet) (.ret (.cst .non)))⟩
def F_need_letters (c_wrong_at : Nat) : Fd := ⟨2, 3, (.seq (.ifS (.tnt (.tv (.bi2 .isi (.cons (.pk 1) (.cons (.ov (.cst (.ty "str"))) .nil))))) .stk .pas) (.seq (.asg (.tName 2) (.call c_wrong_at (.cons (.pk 0) (.cons (.pk 1) .nil)))) (.ifS (.tv (.cmp .IsNot (.pk 2) (.ov (.cst .non)))) .stk .pas)))⟩
def B_places_of_1 (c_offset_of c_size : Nat) : T := .forS (.tName 3) .range (.cons (.op .Add (.ov (.op .Sub (.ov (.bi .len (.cons (.pk 1) .nil))) (.ov (.prp 0 c_size (.pk 0))))) (.ov (.cst (.int (1))))) .nil) (.sub 2 (.op .Add (.pk 3) (.ov (.meth 0 c_offset_of "offset_of" (.pk 0) (.cons (.ov (.slc (.pk 1) (.ov (.var 3)) (.ov (.op .Add (.pk 3) (.ov (.prp 0 c_size (.pk 0))))))) .nil)))) (.cst (.bl true)))
def F_places_of (c_offset_of c_size : Nat) : Fd := ⟨2, 4, (.seq (.asg (.tName 2) (.cst (.dct true false [] []))) (.seq (B_places_of_1 c_offset_of c_size) (.retV 2)))⟩
def E_picks_1 (c_places_of : Nat) : T := .lc [2] (.tName 2) .plain (.cons (.call c_places_of (.cons (.pk 0) (.cons (.pk 1) .nil))) .nil) .yes (.bi2 .int (.cons (.pk 2) .nil))
def F_picks (c_need_letters c_places_of : Nat) : Fd := ⟨2, 3, (.seq (.ex (.call c_need_letters (.cons (.ov (.fld [0] "letters" (.pk 0))) (.cons (.pk 1) .nil)))) (.ret (.bi .tuple (.cons (.ov (.bi2 .sorted (.cons (.ov (E_picks_1 c_places_of)) .nil))) .nil))))⟩
def F_is_picked (c_need_letters c_places_of : Nat) : Fd := ⟨2, 2, (.seq (.ex (.call c_need_letters (.cons (.ov (.fld [0] "letters" (.pk 0))) (.cons (.pk 1) .nil)))) (.ret (.cmp .In (.ov (.op .Sub (.ov (.fld [0] "w" (.pk 0))) (.ov (.cst (.int (1)))))) (.ov (.call c_places_of (.cons (.pk 0) (.cons (.pk 1) .nil)))))))⟩
def E__law_places_1 : T := .lc [5] (.tName 5) .plain (.cons (.var 4) .nil) .yes (.bi2 .int (.cons (.pk 5) .nil))
def B__law_places_2 (c__law_spot : Nat) : T := .forS (.tName 2) .range (.cons (.op .Add (.ov (.op .Sub (.ov (.bi .len (.cons (.pk 1) .nil))) (.pk 3))) (.ov (.cst (.int (1))))) .nil) (.seq (.asg (.tName 5) (.op .Add (.pk 2) (.ov (.call c__law_spot (.cons (.pk 0) (.cons (.ov (.slc (.pk 1) (.ov (.var 2)) (.ov (.op .Add (.pk 2) (.pk 3))))) .nil)))))) (.ex (.mut .ext 4 (.cons (.ite (.tv (.cmp .NotIn (.pk 5) (.pk 4))) (.lstD (.cons (.var 5) .nil)) (.lstD .nil)) .nil))))
def F__law_places (c__law_spot : Nat) : Fd := ⟨2, 6, (.seq (.par [3, 4] (.cons (.op .Sub (.ov (.op .Add (.ov (.idx (.pk 0) (.ov (.cst (.int (1)))))) (.ov (.idx (.pk 0) (.ov (.cst (.int (2)))))))) (.ov (.cst (.int (1))))) (.cons (.lstD .nil) .nil))) (.seq (B__law_places_2 c__law_spot) (.ret (.bi2 .sorted (.cons (.ov (E__law_places_1)) .nil)))))⟩
def B__law_known_1 (c__law_places c__law_texts : Nat) : T := .forS (.tName 2) .plain (.cons (.call c__law_texts (.cons (.ov (.idx (.pk 0) (.ov (.cst (.int (0)))))) (.cons (.ov (.op .Sub (.ov (.op .Add (.ov (.op .Mult (.ov (.cst (.int (2)))) (.ov (.idx (.pk 0) (.ov (.cst (.int (1)))))))) (.ov (.idx (.pk 0) (.ov (.cst (.int (2)))))))) (.ov (.cst (.int (2)))))) .nil))) .nil) (.sub 1 (.var 2) (.cmp .In (.ov (.op .Sub (.ov (.idx (.pk 0) (.ov (.cst (.int (1)))))) (.ov (.cst (.int (1)))))) (.ov (.call c__law_places (.cons (.pk 0) (.cons (.pk 2) .nil))))))
def F__law_known (c__law_places c__law_texts : Nat) : Fd := ⟨1, 3, (.seq (.asg (.tName 1) (.cst (.dct true false [] []))) (.seq (B__law_known_1 c__law_places c__law_texts) (.retV 1)))⟩
def E__law_text_1 (c__law_pick : Nat) : T := .lc [3] (.tName 3) .range (.cons (.var 2) .nil) .yes (.call c__law_pick (.cons (.pk 0) (.cons (.ov (.slc (.ov (.cst (.str [97, 98, 99, 100]))) .nil (.ov (.var 1)))) .nil)))
def F__law_text (c__law_pick : Nat) : Fd := ⟨3, 4, (.ret (.mt .join (.ov (.cst (.str []))) (.cons (.ov (E__law_text_1 c__law_pick)) .nil)))⟩
section
variable {P : Pg} {fns : List Fd} {fu k i : Nat}
/-! ### lots in the order of their coming -/
section
variable {α : Type} [DecidableEq α]
def addA (xs : List α) (x : α) : List α := if x ∈ xs then xs else xs ++ [x]
def dd (xs : List α) : List α := xs.foldl addA []
theorem dd_app (xs : List α) (x : α) : dd (xs ++ [x]) = addA (dd xs) x := by unfold dd; rw [List.foldl_append]; rfl
theorem mem_addA {xs : List α} {x y : α} : y ∈ addA xs x ↔ y ∈ xs ∨ y = x := by
  unfold addA
  split
  · rename_i h
    exact ⟨.inl, fun z => z.elim id fun e => e ▸ h⟩
  · simp
theorem mem_fold {y : α} : ∀ (xs acc : List α), y ∈ xs.foldl addA acc ↔ y ∈ acc ∨ y ∈ xs
  | [], acc => by simp
  | x :: xs, acc => by
    rw [List.foldl_cons, mem_fold xs, mem_addA, List.mem_cons]
    exact or_assoc
theorem mem_dd {xs : List α} {y : α} : y ∈ dd xs ↔ y ∈ xs := by unfold dd; rw [mem_fold]; simp
theorem len_fold : ∀ (xs acc : List α), (xs.foldl addA acc).length ≤ acc.length + xs.length
  | [], acc => by simp
  | x :: xs, acc => by
    rw [List.foldl_cons]
    have := len_fold xs (addA acc x)
    have h2 : (addA acc x).length ≤ acc.length + 1 := by unfold addA; split <;> simp
    rw [List.length_cons]
    omega
theorem len_dd (xs : List α) : (dd xs).length ≤ xs.length := by have := len_fold xs []; simpa [dd] using this
/-- a dict over such keys -/
theorem hasK_map {κ : α → D} (hκ : ∀ a b, eqK (κ a) (κ b) = decide (a = b)) (ks : List α) (x : α) : hasK (ks.map κ) (κ x) = decide (x ∈ ks) := by
  unfold hasK
  induction ks with
  | nil => simp
  | cons a ks ih =>
    rw [List.map_cons, List.any_cons, ih, hκ]
    by_cases h : a = x
    · simp [h]
    · have h' : x ≠ a := fun z => h z.symm
      simp [h, h']
theorem setK_map {κ g : α → D} (hκ : ∀ a b, eqK (κ a) (κ b) = decide (a = b)) (x : α) : ∀ ks : List α, setK (ks.map κ) (ks.map g) (κ x) (g x) = ks.map g
  | [] => rfl
  | a :: ks => by
    rw [List.map_cons, List.map_cons, setK, setK_map hκ x ks, hκ]
    by_cases h : a = x <;> simp [h]
theorem put_map {κ g : α → D} (hκ : ∀ a b, eqK (κ a) (κ b) = decide (a = b)) (ks : List α) (x : α) : putD (ks.map κ) (ks.map g) (κ x) (g x) = .dct true false ((addA ks x).map κ) ((addA ks x).map g) := by
  unfold putD addA
  rw [hasK_map hκ, setK_map hκ]
  by_cases h : x ∈ ks <;> simp [h]
theorem getK_map {κ g : α → D} (hκ : ∀ a b, eqK (κ a) (κ b) = decide (a = b)) {x : α} : ∀ ks : List α, x ∈ ks → getK (ks.map κ) (ks.map g) (κ x) = some (g x)
  | [], h => nomatch h
  | a :: ks, h => by
    rw [List.map_cons, List.map_cons, getK, hκ]
    by_cases e : a = x
    · simp [e]
    · simp only [e, decide_false]
      exact getK_map hκ ks ((List.mem_cons.mp h).resolve_left fun z => e z.symm)
end
theorem idxF_dct {m : Bool} {ks vs : List D} {b d : D} (hb : isKy b = true) (h : getK ks vs b = some d) (hf : isF d = true) : idxF (.dct m false ks vs) b = some d := by
  simp [idxF, hb, h, hf]
theorem eqK_int (a b : Int) : eqK (.int a) (.int b) = decide (a = b) := by simp [eqK, BEq.beq]
theorem eqK_str (a b : List Nat) : eqK (.str a) (.str b) = decide (a = b) := by
  show (a == b) = _
  by_cases h : a = b <;> simp [h]
theorem isFL_bl {α : Type} (g : α → Bool) (l : List α) : isFL (l.map fun a => D.bl (g a)) = true := by
  rw [isFL_all]
  simp
theorem items_dct {m : Bool} {ks vs : List D} (h : isFL vs = true) : itemsD .plain [.dct m false ks vs] = some ks := if_pos h
@[simp] theorem items_enumS {s : List Nat} : itemsD .enum [.str s] = some (s.zipIdx.map fun p => .tup [.int p.2, .str [p.1]]) := (rfl)
theorem ints_map : ∀ l : List Int, intsOf (l.map .int) = some l
  | [] => rfl
  | i :: l => by rw [List.map_cons, intsOf, ints_map l]; rfl
theorem mem_insI {i y : Int} : ∀ l : List Int, y ∈ insI i l ↔ y = i ∨ y ∈ l
  | [] => by simp [insI]
  | j :: js => by
    unfold insI
    split
    · simp
    · rw [List.mem_cons, mem_insI js, List.mem_cons]
      exact ⟨fun z => z.elim (fun a => .inr (.inl a)) fun z => z.elim .inl fun a => .inr (.inr a), fun z => z.elim (fun a => .inr (.inl a)) fun z => z.elim .inl fun a => .inr (.inr a)⟩
theorem mem_srtI {y : Int} : ∀ l : List Int, y ∈ srtI l ↔ y ∈ l
  | [] => by simp [srtI]
  | i :: l => by rw [srtI, mem_insI, mem_srtI l, List.mem_cons]
theorem bi2_sorted {m : Bool} (l : List Int) : bi2D .sorted [.lst m (l.map .int)] = some (.lst true ((srtI l).map .int)) := by
  show sortedL (l.map .int) = _
  unfold sortedL
  rw [ints_map]
theorem shpL_int (n : Nat) : ∀ l : List Int, shpL n (l.map .int) = true
  | [] => by simp
  | i :: l => by simp [shpL_int n l]
theorem inD_int (x : Int) (l : List Int) : inD (.int x) (l.map .int) = decide (x ∈ l) := by
  unfold inD
  induction l with
  | nil => simp
  | cons a l ih =>
    rw [List.map_cons, List.any_cons, ih, eqD_ii]
    by_cases h : a = x
    · simp [h]
    · have h' : x ≠ a := fun z => h z.symm
      have h2 : (a == x) = false := by simpa using h
      simp [h2, h']
theorem flat_ints (l : List Int) : (l.map D.int).all flatD = true := by rw [List.all_map, List.all_eq_true]; intro x _; rfl
/-! ### rules, owned or not -/
def rulM (m : Bool) (l w k : Nat) (tb : List Int) : D := .ins m 0 ["letters", "w", "k", "table"] [.int l, .int w, .int k, .tup (tb.map .int)]
def fin (m : Bool) (d : D) : Option D := if m then some d else none
@[simp] theorem fin_t {d : D} : fin true d = some d := (rfl)
@[simp] theorem fin_f {d : D} : fin false d = none := (rfl)
def lks (m : Bool) : List Nat := if m then [0] else []
section
variable {m : Bool} {l w k : Nat} {tb : List Int}
theorem rulM_t : rulM true l w k tb = rulT l w k tb := rfl
theorem rulM_f : rulM false l w k tb = rul l w k tb := rfl
@[simp] theorem owned_rulM : owned (rulM m l w k tb) = m := (rfl)
@[simp] theorem frz_rulM : frz (rulM m l w k tb) = rul l w k tb := by cases m <;> simp [rulM, rul, frzL_int, isFL_int]
@[simp] theorem mfld_letters : fldD [0] "letters" (rulM m l w k tb) = some (.int l) := by simp [rulM, fldD, getF]
@[simp] theorem mfld_w : fldD [0] "w" (rulM m l w k tb) = some (.int w) := by simp [rulM, fldD, getF]
@[simp] theorem mfld_k : fldD [0] "k" (rulM m l w k tb) = some (.int k) := by simp [rulM, fldD, getF]
@[simp] theorem mfld_table : fldD [0] "table" (rulM m l w k tb) = some (.tup (tb.map .int)) := by simp [rulM, fldD, getF, isFL_int]
@[simp] theorem isInc_rulM : isInc 0 (rulM m l w k tb) = true := (rfl)
@[simp] theorem isIns_rulM_offset_of : isIns 0 "offset_of" (rulM m l w k tb) = true := isIns_rul_offset_of (l := l) (w := w) (k := k) (tb := tb)
end
def SpSizeM (c : Call) (i : Nat) : Prop := ∀ (m : Bool) (l w k : Nat) (tb : List Int), 1 ≤ w → c i [rulM m l w k tb] = .ok (.int ((w + k - 1 : Nat) : Int)) [fin m (rulM m l w k tb)]
theorem sp_sizeM (hf : fns[i]? = some F_Rule_size) (k : Nat) : SpSizeM (runF P fns fu (k + 1)) i := fun m l w kk tb hw => by
  rw [run_eq hf rfl rfl]
  have e1 : (w : Int) + kk - 1 = ((w + kk - 1 : Nat) : Int) := by omega
  cases m <;> simp [F_Rule_size, e1]
def SpOffsetOfM (c : Call) (i : Nat) : Prop := ∀ (m : Bool) (l w k : Nat) (tb : List Int) (t : List Nat) (v : Int), l ≤ 4 → (∀ c ∈ t, c ∈ ab l) → tb[num l t]? = some v → c i [rulM m l w k tb, .str t] = .ok (.int v) [fin m (rulM m l w k tb), none]
theorem sp_offset_ofM {ca : Nat} (hc : ∀ k, SpAlphabet (runF P fns fu (k + 1)) ca) (hf : fns[i]? = some (F_Rule_offset_of ca)) (k : Nat) : SpOffsetOfM (runF P fns fu (k + 2)) i := fun m l w kk tb t v hl ht hv => by
  have loop : ∀ L : List Nat, L = [] ∨ L = [0] → ∃ x3, evS P (runF P fns fu (k + 1)) fu L (B_Rule_offset_of_1 ca) [some (rulM m l w kk tb), some (.str t), some (.int 0), none] = .ok .nx [some (rulM m l w kk tb), some (.str t), some (.int (num l t : Nat)), x3] := fun L hL => by
    unfold B_Rule_offset_of_1
    rw [for_eq (is := t.map fun c => .str [c]) (e1 := [some (rulM m l w kk tb), some (.str t), some (.int 0), none]) (by simp)]
    obtain ⟨e', b, x3, pre, he1, he2⟩ := loopF_go (f := fun c => D.str [c]) (body := forB P (runF P fns fu (k + 1)) fu L (.tName 3) (.asg (.tName 2) (.op .Add (.ov (.op .Mult (.pk 2) (.ov (.fld [0] "letters" (.pk 0))))) (.ov (.mt .index (.ov (.call ca (.cons (.ov (.fld [0] "letters" (.pk 0))) .nil))) (.cons (.pk 3) .nil))))))
      (I := fun cs e => ∃ x3 pre, t = pre ++ cs ∧ e = [some (rulM m l w kk tb), some (.str t), some (.int (num l pre : Nat)), x3]) (fun c cs e ⟨x3, pre, h1, h2⟩ => by
        subst h2
        have hcm : c ∈ ab l := ht c (by rw [h1]; simp)
        refine ⟨_, ?_, some (.str [c]), pre ++ [c], by rw [h1]; simp, rfl⟩
        rw [forB_eq]
        have h2 : (-18446744073709551616 < (l : Int) ∧ (l : Int) < 18446744073709551616) := by omega
        rcases hL with rfl | rfl <;> simp [op_mul_ii, h2, doCall, hc k l, idx_ab hl hcm, num_app]) t _ ⟨none, [], rfl, rfl⟩
    subst he2
    rw [List.append_nil] at he1
    subst he1
    exact ⟨x3, b⟩
  have hx : idxF (.tup (tb.map .int)) (.int (num l t : Nat)) = some (.int v) := idx_t (atI_nat (by rw [List.getElem?_map, hv]; rfl)) rfl
  rw [run_eq hf rfl rfl]
  cases m with
  | false =>
    obtain ⟨x3, q⟩ := loop [] (.inl rfl)
    simp [F_Rule_offset_of, q, hx]
  | true =>
    obtain ⟨x3, q⟩ := loop [0] (.inr rfl)
    simp [F_Rule_offset_of, q, hx]
/-! ### letters -/
def SpWrongAt (c : Call) (i : Nat) : Prop := ∀ (l : Nat) (t : List Nat), (∀ c ∈ t, c ∈ ab l) → c i [.int l, .str t] = .ok .non [none, none]
theorem sp_wrong_at {ca : Nat} (hc : ∀ k, SpAlphabet (runF P fns fu (k + 1)) ca) (hf : fns[i]? = some (F_wrong_at ca)) (k : Nat) : SpWrongAt (runF P fns fu (k + 2)) i := fun l t ht => by
  have loop : ∃ x2 x3, evS P (runF P fns fu (k + 1)) fu [] (B_wrong_at_1 ca) [some (.int l), some (.str t), none, none] = .ok .nx [some (.int l), some (.str t), x2, x3] := by
    unfold B_wrong_at_1
    rw [for_eq (is := t.zipIdx.map fun p => .tup [.int p.2, .str [p.1]]) (e1 := [some (.int l), some (.str t), none, none]) (by simp)]
    obtain ⟨e', b, x2, x3, _, he⟩ := loopF_go (f := fun p : Nat × Nat => D.tup [.int p.2, .str [p.1]]) (body := forB P (runF P fns fu (k + 1)) fu [] (.tTup (.cons (.tName 2) (.cons (.tName 3) .nil))) (.ifS (.tv (.cmp .NotIn (.pk 3) (.ov (.call ca (.cons (.pk 0) .nil))))) (.retV 2) .pas))
      (I := fun cs e => ∃ x2 x3, (∀ p ∈ cs, p.1 ∈ ab l) ∧ e = [some (.int l), some (.str t), x2, x3]) (fun p cs e ⟨x2, x3, h1, h2⟩ => by
        subst h2
        have hcm : p.1 ∈ ab l := h1 p (List.mem_cons_self ..)
        refine ⟨[some (.int l), some (.str t), some (.int p.2), some (.str [p.1])], ?_, _, _, fun q hq => h1 q (List.mem_cons_of_mem _ hq), rfl⟩
        rw [forB_eq]
        simp [doCall, hc k l, cmp_notin_s, hcm]) t.zipIdx _ ⟨none, none, fun p hp => ht _ (List.fst_mem_of_mem_zipIdx hp), rfl⟩
    subst he
    exact ⟨x2, x3, b⟩
  obtain ⟨x2, x3, q⟩ := loop
  rw [run_eq hf rfl rfl]
  simp [F_wrong_at, q]
def SpNeedLetters (c : Call) (i : Nat) : Prop := ∀ (l : Nat) (t : List Nat), (∀ c ∈ t, c ∈ ab l) → c i [.int l, .str t] = .ok .non [none, none]
theorem sp_need_letters {ca : Nat} (hc : ∀ k, SpWrongAt (runF P fns fu (k + 2)) ca) (hf : fns[i]? = some (F_need_letters ca)) (k : Nat) : SpNeedLetters (runF P fns fu (k + 3)) i := fun l t ht => by
  rw [run_eq hf rfl rfl]
  simp [F_need_letters, isiD, tyNm, okTys, isTy, doCall, hc k l t ht]
/-! ### places -/
def win (n : Nat) (t : List Nat) (a : Nat) : List Nat := (t.drop a).take n
def spt (l n : Nat) (tb : List Int) (t : List Nat) (a : Nat) : Int := (a : Int) + offs l tb (win n t a)
def pkL (l n : Nat) (tb : List Int) (t : List Nat) : List Int := (List.range (t.length + 1 - n)).map (spt l n tb t)
def pkD (l n : Nat) (tb : List Int) (t : List Nat) : List Int := dd (pkL l n tb t)
theorem win_len {n : Nat} {t : List Nat} {a : Nat} (h : a + n ≤ t.length) : (win n t a).length = n := by unfold win; rw [List.length_take, List.length_drop]; omega
theorem win_ab {l n : Nat} {t : List Nat} {a : Nat} (h : ∀ c ∈ t, c ∈ ab l) : ∀ c ∈ win n t a, c ∈ ab l := fun c hc => h c (List.mem_of_mem_drop (List.mem_of_mem_take hc))
theorem rng_succ {β : Type} (f : Nat → β) (j : Nat) : (List.range (j + 1)).map f = (List.range j).map f ++ [f j] := by rw [List.range_succ, List.map_append]; rfl
def SpPlacesOf (c : Call) (i : Nat) : Prop := ∀ (m : Bool) (l w k : Nat) (tb : List Int) (t : List Nat), OkS l w k → tb.length = l ^ (w + k - 1) → (∀ c ∈ t, c ∈ ab l) → t.length ≤ 10000 → c i [rulM m l w k tb, .str t] = .ok (.dct true false ((pkD l (w + k - 1) tb t).map .int) ((pkD l (w + k - 1) tb t).map fun _ => .bl true)) [fin m (rulM m l w k tb), none]
theorem sp_places_of {co cs : Nat} (h1 : ∀ k, SpOffsetOfM (runF P fns fu (k + 2)) co) (h2 : ∀ k, SpSizeM (runF P fns fu (k + 1)) cs) (hf : fns[i]? = some (F_places_of co cs)) (k : Nat) : SpPlacesOf (runF P fns fu (k + 3)) i := fun m l w kk tb t hs hb ht hl => by
  obtain ⟨s1, s2, s3, s4, s5, s6⟩ := hs
  have q2 := h2 (k + 1) m l w kk tb s3
  generalize hn : w + kk - 1 = n at hb q2
  have h100 : t.length ≤ 100000 := by omega
  have loop : ∃ x3, evS P (runF P fns fu (k + 2)) fu (lks m) (B_places_of_1 co cs) [some (rulM m l w kk tb), some (.str t), some (.dct true false [] []), none] = .ok .nx [some (rulM m l w kk tb), some (.str t), some (.dct true false ((pkD l n tb t).map .int) ((pkD l n tb t).map fun _ => .bl true)), x3] := by
    unfold B_places_of_1
    have e1 : ((t.length : Int) - (n : Int) + 1).toNat = t.length + 1 - n := by omega
    rw [for_eq (is := (List.range (t.length + 1 - n)).map fun (i : Nat) => D.int i) (e1 := [some (rulM m l w kk tb), some (.str t), some (.dct true false [] []), none]) (by
      cases m <;> (simp [bi_len_s, h100, doCall, q2]; rw [items_range (by omega), e1]; simp))]
    obtain ⟨e', b, x3, he⟩ := loop_range0 (n := t.length + 1 - n) (body := forB P (runF P fns fu (k + 2)) fu (lks m) (.tName 3) (.sub 2 (.op .Add (.pk 3) (.ov (.meth 0 co "offset_of" (.pk 0) (.cons (.ov (.slc (.pk 1) (.ov (.var 3)) (.ov (.op .Add (.pk 3) (.ov (.prp 0 cs (.pk 0))))))) .nil)))) (.cst (.bl true))))
      (I := fun j e => ∃ x3, e = [some (rulM m l w kk tb), some (.str t), some (.dct true false ((dd ((List.range j).map (spt l n tb t))).map .int) ((dd ((List.range j).map (spt l n tb t))).map fun _ => .bl true)), x3]) (e := [some (rulM m l w kk tb), some (.str t), some (.dct true false [] []), none])
      (fun j e hj ⟨x3, he⟩ => by
        subst he
        have o1 := h1 k m l w kk tb (win n t j) _ s2 (win_ab ht) (offs_at s2 (n := n) (win_len (by omega)) (win_ab ht) hb)
        have hlen := len_dd ((List.range j).map (spt l n tb t))
        rw [List.length_map, List.length_range] at hlen
        have hp := put_map (κ := D.int) (g := fun _ => D.bl true) eqK_int (dd ((List.range j).map (spt l n tb t))) (spt l n tb t j)
        rw [rng_succ, dd_app]
        generalize dd ((List.range j).map (spt l n tb t)) = ks at hlen hp
        refine ⟨[some (rulM m l w kk tb), some (.str t), some (.dct true false ((addA ks (spt l n tb t j)).map .int) ((addA ks (spt l n tb t j)).map fun _ => .bl true)), some (.int j)], ?_, _, rfl⟩
        have hk : ks.length < 100000 := by omega
        have hsl : slcD (.str t) (some (j : Int)) (some ((j : Int) + (n : Int))) = some (.str (win n t j)) := by simp [slcD, h100, cut_mid, win]
        have hset : setD (.dct true false (ks.map .int) (ks.map fun _ => .bl true)) (.int (spt l n tb t j)) (.bl true) = some (.dct true false ((addA ks (spt l n tb t j)).map .int) ((addA ks (spt l n tb t j)).map fun _ => .bl true)) := by
          simp [setD, isKy, hk, hp]
        rw [forB_eq]
        unfold spt at hset ⊢
        cases m <;> simp [lks, doCall, q2, hsl, o1, hset]) ⟨none, rfl⟩
    subst he
    exact ⟨x3, b⟩
  obtain ⟨x3, loop⟩ := loop
  rw [run_eq hf rfl rfl]
  cases m <;> simp [lks] at loop <;> simp [F_places_of, loop]
def SpIsPicked (c : Call) (i : Nat) : Prop := ∀ (m : Bool) (l w k : Nat) (tb : List Int) (t : List Nat), OkS l w k → tb.length = l ^ (w + k - 1) → (∀ c ∈ t, c ∈ ab l) → t.length ≤ 10000 → c i [rulM m l w k tb, .str t] = .ok (.bl (decide (((w : Int) - 1) ∈ pkL l (w + k - 1) tb t))) [fin m (rulM m l w k tb), none]
theorem sp_is_picked {cn cp : Nat} (h1 : ∀ k, SpNeedLetters (runF P fns fu (k + 3)) cn) (h2 : ∀ k, SpPlacesOf (runF P fns fu (k + 3)) cp) (hf : fns[i]? = some (F_is_picked cn cp)) (k : Nat) : SpIsPicked (runF P fns fu (k + 4)) i := fun m l w kk tb t hs hb ht hl => by
  have q1 := h1 k l t ht
  have q2 := h2 k m l w kk tb t hs hb ht hl
  have hh := hasK_map (κ := D.int) eqK_int (pkD l (w + kk - 1) tb t) ((w : Int) - 1)
  have hm : (decide (((w : Int) - 1) ∈ pkD l (w + kk - 1) tb t)) = decide (((w : Int) - 1) ∈ pkL l (w + kk - 1) tb t) := by simp only [pkD, mem_dd]
  rw [hm] at hh
  generalize pkD l (w + kk - 1) tb t = ks at q2 hh
  rw [run_eq hf rfl rfl]
  cases m <;> simp [F_is_picked, doCall, q1, q2, cmp_in_d, isKy, hh]
def SpPicks (c : Call) (i : Nat) : Prop := ∀ (m : Bool) (l w k : Nat) (tb : List Int) (t : List Nat), OkS l w k → tb.length = l ^ (w + k - 1) → (∀ c ∈ t, c ∈ ab l) → t.length ≤ 10000 → c i [rulM m l w k tb, .str t] = .ok (.tup ((srtI (pkD l (w + k - 1) tb t)).map .int)) [fin m (rulM m l w k tb), none]
theorem flat_self (l : List Int) : (l.flatMap fun x => [D.int x]) = l.map .int := by
  induction l with
  | nil => rfl
  | cons x l ih => rw [List.flatMap_cons, ih]; rfl
theorem len_pkD (l n : Nat) (tb : List Int) (t : List Nat) : (pkD l n tb t).length ≤ t.length + 1 := by
  have := len_dd (pkL l n tb t)
  unfold pkD
  unfold pkL at this ⊢
  rw [List.length_map, List.length_range] at this
  omega
theorem sp_picks {cn cp : Nat} (h1 : ∀ k, SpNeedLetters (runF P fns fu (k + 3)) cn) (h2 : ∀ k, SpPlacesOf (runF P fns fu (k + 3)) cp) (hf : fns[i]? = some (F_picks cn cp)) (k : Nat) : SpPicks (runF P fns fu (k + 4)) i := fun m l w kk tb t hs hb ht hl => by
  have q1 := h1 k l t ht
  have q2 := h2 k m l w kk tb t hs hb ht hl
  have hle := len_pkD l (w + kk - 1) tb t
  generalize pkD l (w + kk - 1) tb t = ks at q2 hle
  have comp : evE P (runF P fns fu (k + 3)) (E_picks_1 cp) [some (rulM m l w kk tb), some (.str t), none] = .ok (.lst true (ks.map .int)) [some (rulM m l w kk tb), some (.str t), none] := by
    unfold E_picks_1
    refine (lc_eq (is := ks.map .int) (e1 := [some (rulM m l w kk tb), some (.str t), none]) (ys := ks.flatMap fun x => [D.int x]) (e2 := [some (rulM m l w kk tb), some (.str t), none]) ?_ ?_ ?_ ?_).trans ?_
    · have z := items_dct (m := true) (ks := ks.map .int) (isFL_bl (fun _ => true) ks)
      cases m <;> simp [doCall, q2, z]
    · simp [freeS_cons]
    · refine loopC_map ks fun x hx => ?_
      rw [stepC_eq]
      simp
    · rw [flat_self, List.length_map]; omega
    · rw [flat_self]; simp
  rw [run_eq hf rfl rfl]
  cases m <;> simp [F_picks, doCall, q1, comp, bi2_sorted, bi_tuple_l, isFL_int]
def SpPlaces (c : Call) (i : Nat) : Prop := ∀ (l w k : Nat) (tb : List Int) (t : List Nat), OkS l w k → tb.length = l ^ (w + k - 1) → (∀ c ∈ t, c ∈ ab l) → t.length ≤ 10000 → c i [dr l w k tb, .str t] = .ok (.lst true ((srtI (pkD l (w + k - 1) tb t)).map .int)) [none, none]
theorem sp_places {cs : Nat} (h1 : ∀ k, SpSpot (runF P fns fu (k + 1)) cs) (hf : fns[i]? = some (F__law_places cs)) (k : Nat) : SpPlaces (runF P fns fu (k + 2)) i := fun l w kk tb t hs hb ht hl => by
  obtain ⟨s1, s2, s3, s4, s5, s6⟩ := hs
  have e0 : (w : Int) + kk - 1 = ((w + kk - 1 : Nat) : Int) := by omega
  generalize hn : w + kk - 1 = n at hb e0
  have h100 : t.length ≤ 100000 := by omega
  have loop : ∃ x2 x5, (x5 = none ∨ ∃ v, x5 = some (.int v)) ∧ evS P (runF P fns fu (k + 1)) fu [] (B__law_places_2 cs) [some (dr l w kk tb), some (.str t), none, some (.int n), some (.lst true []), none] = .ok .nx [some (dr l w kk tb), some (.str t), x2, some (.int n), some (.lst true ((pkD l n tb t).map .int)), x5] := by
    unfold B__law_places_2
    have e1 : ((t.length : Int) - (n : Int) + 1).toNat = t.length + 1 - n := by omega
    rw [for_eq (is := (List.range (t.length + 1 - n)).map fun (i : Nat) => D.int i) (e1 := [some (dr l w kk tb), some (.str t), none, some (.int n), some (.lst true []), none]) (by
      simp [bi_len_s, h100]; rw [items_range (by omega), e1]; simp)]
    obtain ⟨e', b, x2, x5, h5, he⟩ := loop_range0 (n := t.length + 1 - n) (body := forB P (runF P fns fu (k + 1)) fu [] (.tName 2) (.seq (.asg (.tName 5) (.op .Add (.pk 2) (.ov (.call cs (.cons (.pk 0) (.cons (.ov (.slc (.pk 1) (.ov (.var 2)) (.ov (.op .Add (.pk 2) (.pk 3))))) .nil)))))) (.ex (.mut .ext 4 (.cons (.ite (.tv (.cmp .NotIn (.pk 5) (.pk 4))) (.lstD (.cons (.var 5) .nil)) (.lstD .nil)) .nil)))))
      (I := fun j e => ∃ x2 x5, (x5 = none ∨ ∃ v, x5 = some (.int v)) ∧ e = [some (dr l w kk tb), some (.str t), x2, some (.int n), some (.lst true ((dd ((List.range j).map (spt l n tb t))).map .int)), x5]) (e := [some (dr l w kk tb), some (.str t), none, some (.int n), some (.lst true []), none])
      (fun j e hj ⟨x2, x5, _, he⟩ => by
        subst he
        have o1 := h1 k l w kk tb (win n t j) _ s2 (win_ab ht) (offs_at s2 (n := n) (win_len (by omega)) (win_ab ht) hb)
        have hlen := len_dd ((List.range j).map (spt l n tb t))
        rw [List.length_map, List.length_range] at hlen
        rw [rng_succ, dd_app]
        generalize dd ((List.range j).map (spt l n tb t)) = ks at hlen
        refine ⟨[some (dr l w kk tb), some (.str t), some (.int j), some (.int n), some (.lst true ((addA ks (spt l n tb t j)).map .int)), some (.int (spt l n tb t j))], ?_, _, _, .inr ⟨_, rfl⟩, rfl⟩
        have hk : ks.length < 100000 := by omega
        have hsl : slcD (.str t) (some (j : Int)) (some ((j : Int) + (n : Int))) = some (.str (win n t j)) := by simp [slcD, h100, cut_mid, win]
        have hin : cmpD .NotIn (.int (spt l n tb t j)) (.lst true (ks.map .int)) = some (!decide (spt l n tb t j ∈ ks)) := by rw [cmp_notin_l, shpL_int, inD_int]; simp
        rw [forB_eq]
        by_cases hm : spt l n tb t j ∈ ks
        · have ha : addA ks (spt l n tb t j) = ks := if_pos hm
          rw [ha]
          have he := mut_ext (xs := ks.map .int) (zs := []) (by simp; omega)
          rw [decide_eq_true hm] at hin
          unfold spt at hin ⊢
          simp [doCall, hsl, o1, hin, he]
        · have ha : addA ks (spt l n tb t j) = ks ++ [spt l n tb t j] := if_neg hm
          rw [ha, List.map_append]
          have he := mut_ext (xs := ks.map .int) (zs := [.int (spt l n tb t j)]) (by simp; omega)
          rw [decide_eq_false hm] at hin
          unfold spt at hin he ⊢
          simp [doCall, hsl, o1, hin, he]) ⟨none, none, .inl rfl, rfl⟩
    subst he
    exact ⟨x2, x5, h5, b⟩
  obtain ⟨x2, x5, h5, loop⟩ := loop
  have hle := len_pkD l n tb t
  generalize pkD l n tb t = ks at loop hle
  have comp : evE P (runF P fns fu (k + 1)) E__law_places_1 [some (dr l w kk tb), some (.str t), x2, some (.int n), some (.lst true (ks.map .int)), x5] = .ok (.lst true (ks.map .int)) [some (dr l w kk tb), some (.str t), x2, some (.int n), some (.lst false (ks.map .int)), x5] := by
    unfold E__law_places_1
    refine (lc_eq (is := ks.map .int) (e1 := [some (dr l w kk tb), some (.str t), x2, some (.int n), some (.lst false (ks.map .int)), x5]) (ys := ks.flatMap fun x => [D.int x]) (e2 := [some (dr l w kk tb), some (.str t), x2, some (.int n), some (.lst false (ks.map .int)), none]) ?_ ?_ ?_ ?_).trans ?_
    · simp [frzL_int, items_list, isFL_int]
    · rcases h5 with rfl | ⟨v, rfl⟩ <;> simp [freeS_cons]
    · refine loopC_map ks fun x hx => ?_
      rw [stepC_eq]
      simp
    · rw [flat_self, List.length_map]; omega
    · rw [flat_self]; simp
  rw [run_eq hf rfl rfl]
  simp [F__law_places, e0, loop, comp, bi2_sorted]
/-! ### what is known of all texts -/
def pkB (l w k : Nat) (tb : List Int) (t : List Nat) : Bool := decide (((w : Int) - 1) ∈ pkL l (w + k - 1) tb t)
def SpKnown (c : Call) (i : Nat) : Prop := ∀ (l w k : Nat) (tb : List Int), Dr 256 l w k tb → c i [dr l w k tb] = .ok (.dct true false ((dd (txt l (2 * w + k - 2))).map .str) ((dd (txt l (2 * w + k - 2))).map fun t => .bl (pkB l w k tb t))) [none]
theorem sp_known {cp ct : Nat} (h1 : ∀ k, SpPlaces (runF P fns fu (k + 2)) cp) (h2 : ∀ k, SpTexts (runF P fns fu (k + 1)) ct) (hf : fns[i]? = some (F__law_known cp ct)) (k : Nat) : SpKnown (runF P fns fu (k + 3)) i := fun l w kk tb hd => by
  obtain ⟨s1, s2, s3, s4, s5, s6⟩ := hd.s
  have hfit := hd.fit
  have hW : 2 * w + kk - 2 ≤ 20 := by omega
  obtain ⟨mm, qt⟩ := h2 (k + 1) l (2 * w + kk - 2) s2 (by omega) hW
  have e0 : 2 * (w : Int) + kk - 2 = ((2 * w + kk - 2 : Nat) : Int) := by omega
  have hlT := txt_len l s2 (2 * w + kk - 2)
  have loop : ∃ x2, evS P (runF P fns fu (k + 2)) fu [] (B__law_known_1 cp ct) [some (dr l w kk tb), some (.dct true false [] []), none] = .ok .nx [some (dr l w kk tb), some (.dct true false ((dd (txt l (2 * w + kk - 2))).map .str) ((dd (txt l (2 * w + kk - 2))).map fun t => .bl (pkB l w kk tb t))), x2] := by
    unfold B__law_known_1
    rw [for_eq (is := (txt l (2 * w + kk - 2)).map .str) (e1 := [some (dr l w kk tb), some (.dct true false [] []), none]) (by
      have hmul : opD .Mult (.int 2) (.int (w : Int)) = some (.int (2 * (w : Int))) := by rw [op_mul_ii, if_pos (by omega)]
      cases mm <;> simp [doCall, hmul, e0, qt, items_list, isFL_str])]
    obtain ⟨e', b, x2, pre, hp1, he⟩ := loopF_go (f := D.str) (body := forB P (runF P fns fu (k + 2)) fu [] (.tName 2) (.sub 1 (.var 2) (.cmp .In (.ov (.op .Sub (.ov (.idx (.pk 0) (.ov (.cst (.int (1)))))) (.ov (.cst (.int (1)))))) (.ov (.call cp (.cons (.pk 0) (.cons (.pk 2) .nil)))))))
      (I := fun cs e => ∃ x2 pre, txt l (2 * w + kk - 2) = pre ++ cs ∧ e = [some (dr l w kk tb), some (.dct true false ((dd pre).map .str) ((dd pre).map fun t => .bl (pkB l w kk tb t))), x2])
      (fun t cs e ⟨x2, pre, hp, he⟩ => by
        subst he
        obtain ⟨t1, t2⟩ := txt_mem.mp (show t ∈ txt l (2 * w + kk - 2) by rw [hp]; simp)
        have q1 := h1 k l w kk tb t hd.s hd.len t2 (by omega)
        have hlen := len_dd pre
        have hle : pre.length ≤ 256 := by
          have := congrArg List.length hp
          rw [List.length_append] at this
          omega
        have hpm := put_map (κ := D.str) (g := fun t => D.bl (pkB l w kk tb t)) eqK_str (dd pre) t
        refine ⟨[some (dr l w kk tb), some (.dct true false ((dd (pre ++ [t])).map .str) ((dd (pre ++ [t])).map fun t => .bl (pkB l w kk tb t))), some (.str t)], ?_, _, pre ++ [t], by rw [hp]; simp, rfl⟩
        rw [dd_app]
        generalize dd pre = ks at hlen hpm
        have hk : ks.length < 100000 := by omega
        have hset : setD (.dct true false (ks.map .str) (ks.map fun t => .bl (pkB l w kk tb t))) (.str t) (.bl (pkB l w kk tb t)) = some (.dct true false ((addA ks t).map .str) ((addA ks t).map fun t => .bl (pkB l w kk tb t))) := by
          simp [setD, isKy, hk, hpm]
        have hin : cmpD .In (.int ((w : Int) - 1)) (.lst true ((srtI (pkD l (w + kk - 1) tb t)).map .int)) = some (pkB l w kk tb t) := by
          rw [cmp_in_l, shpL_int, inD_int]
          simp [pkB, mem_srtI, pkD, mem_dd]
        rw [forB_eq]
        simp [doCall, q1, hin, hset]) (txt l (2 * w + kk - 2)) _ ⟨none, [], rfl, rfl⟩
    rw [List.append_nil] at hp1
    subst hp1 he
    exact ⟨x2, b⟩
  obtain ⟨x2, loop⟩ := loop
  rw [run_eq hf rfl rfl]
  simp [F__law_known, loop]
/-! ### drawn texts -/
def SpPickS (c : Call) (i : Nat) : Prop := ∀ (b : Bx) (s : List Nat), s ≠ [] → s.length ≤ 1000 → ∃ (b' : Bx) (x : Nat), x ∈ s ∧ c i [bx b, .str s] = .ok (.str [x]) [some (bx b'), none]
theorem sp_pickS {ct : Nat} (h : ∀ k, SpTake (runF P fns fu (k + 1)) ct) (hf : fns[i]? = some (F__law_pick ct)) (k : Nat) : SpPickS (runF P fns fu (k + 2)) i := fun b s hn hl => by
  have hp : 0 < s.length := List.length_pos_iff.mpr hn
  obtain ⟨r, b', h1, h2, h3⟩ := h k b s.length (by omega) (by omega)
  obtain ⟨n, rfl⟩ : ∃ n : Nat, r = n := ⟨r.toNat, by omega⟩
  have hn : n < s.length := by omega
  have h100 : s.length ≤ 100000 := by omega
  have hx : idxF (.str s) (.int n) = some (.str [s[n]'hn]) := idx_s (by show s.length ≤ 100000; omega) (atI_nat (List.getElem?_eq_getElem hn))
  refine ⟨b', s[n]'hn, List.getElem_mem hn, ?_⟩
  rw [run_eq hf rfl rfl]
  simp [F__law_pick, doCall, bi_len_s, h100, h1, hx]
@[simp] theorem mbT_join : mbT .join = ["str"] := (rfl)
theorem joinL_one : ∀ t : List Nat, TL.joinL [] (t.map fun c => [c]) = t
  | [] => rfl
  | [_] => rfl
  | a :: b :: t => by
    show [a] ++ ([] ++ TL.joinL [] ((b :: t).map fun c => [c])) = _
    rw [joinL_one (b :: t)]
    rfl
theorem strs_of : ∀ t : List Nat, strsOf (t.map fun c => D.str [c]) = some (t.map fun c => [c])
  | [] => rfl
  | a :: t => by rw [List.map_cons, strsOf, strs_of t]; rfl
theorem join_one {t : List Nat} (h : t.length ≤ 1000) : mtD .join (.str []) [.lst true (t.map fun c => D.str [c])] = some (.str t) := by
  show joinD [] (t.map fun c => D.str [c]) = _
  unfold joinD
  rw [strs_of]
  have : ((t.map fun c => [c]).map (·.length)).sum = t.length := by
    rw [List.map_map]
    induction t with
    | nil => rfl
    | cons a t ih => rw [List.map_cons, List.sum_cons, ih (by rw [List.length_cons] at h; omega), List.length_cons]; show 1 + _ = _; omega
  dsimp only
  rw [this, joinL_one, if_pos]
  simp
  omega
theorem chars_of {l : Nat} : ∀ ys : List D, (∀ y ∈ ys, ∃ x ∈ ab l, y = D.str [x]) → ∃ t : List Nat, ys = t.map (fun c => D.str [c]) ∧ ∀ c ∈ t, c ∈ ab l
  | [], _ => ⟨[], rfl, fun _ z => nomatch z⟩
  | y :: ys, h => by
    obtain ⟨x, hx, rfl⟩ := h y (List.mem_cons_self ..)
    obtain ⟨t, rfl, ht⟩ := chars_of ys fun z hz => h z (List.mem_cons_of_mem _ hz)
    exact ⟨x :: t, rfl, fun c hc => (List.mem_cons.mp hc).elim (fun e => e ▸ hx) (ht c)⟩
def SpText (c : Call) (i : Nat) : Prop := ∀ (b : Bx) (l n : Nat), 1 ≤ l → l ≤ 4 → n ≤ 1000 → ∃ (b' : Bx) (t : List Nat), t.length = n ∧ (∀ c ∈ t, c ∈ ab l) ∧ c i [bx b, .int l, .int n] = .ok (.str t) [some (bx b'), none, none]
theorem sp_text {cp : Nat} (h : ∀ k, SpPickS (runF P fns fu (k + 2)) cp) (hf : fns[i]? = some (F__law_text cp)) (k : Nat) : SpText (runF P fns fu (k + 3)) i := fun b l n hl1 hl hn => by
  have hal : (ab l).length = l := ab_len hl
  have hcut : slcD (.str [97, 98, 99, 100]) none (some (l : Int)) = some (.str (ab l)) := by
    have e : cutL [97, 98, 99, 100] none (some (l : Int)) = ab l := cut_take abc l
    simp [slcD, e]
  obtain ⟨ys, e', q, ⟨b', he⟩, hlen, hq⟩ := loopC_any (f := fun (i : Nat) => D.int i) (bc := stepC [3] (bindT [] (.tName 3)) (evT P (runF P fns fu (k + 2)) .yes) (evE P (runF P fns fu (k + 2)) (.call cp (.cons (.pk 0) (.cons (.ov (.slc (.ov (.cst (.str [97, 98, 99, 100]))) .nil (.ov (.var 1)))) .nil)))))
    (I := fun e => ∃ b' : Bx, e = [some (bx b'), some (.int l), some (.int n), none]) (Q := fun y => ∃ x ∈ ab l, y = .str [x]) (fun j e ⟨b0, he⟩ => by
      subst he
      obtain ⟨b1, x, hx, q⟩ := h k b0 (ab l) (fun z => by rw [z] at hal; simp at hal; omega) (by omega)
      refine ⟨.str [x], [some (bx b1), some (.int l), some (.int n), none], ?_, ⟨b1, rfl⟩, x, hx, rfl⟩
      rw [stepC_eq]
      simp [doCall, hcut, q]) (List.range n) [some (bx b), some (.int l), some (.int n), none] ⟨b, rfl⟩
  obtain ⟨t, rfl, ht⟩ := chars_of ys hq
  rw [List.length_map, List.length_range] at hlen
  refine ⟨b', t, hlen, ht, ?_⟩
  subst he
  have comp : evE P (runF P fns fu (k + 2)) (E__law_text_1 cp) [some (bx b), some (.int l), some (.int n), none] = .ok (.lst true (t.map fun c => D.str [c])) [some (bx b'), some (.int l), some (.int n), none] := by
    unfold E__law_text_1
    refine (lc_eq (is := (List.range n).map fun (i : Nat) => D.int i) (e1 := [some (bx b), some (.int l), some (.int n), none]) (ys := t.map fun c => D.str [c]) (e2 := [some (bx b'), some (.int l), some (.int n), none]) ?_ ?_ ?_ ?_).trans ?_
    · simp
      rw [items_range (by omega)]
      simp
    · simp [freeS_cons]
    · exact q
    · rw [List.length_map]; omega
    · simp
  rw [run_eq hf rfl rfl]
  simp [F__law_text, comp, join_one (show t.length ≤ 1000 by omega)]
/-! ### a place and its surroundings -/
theorem offs_lt {l w : Nat} {tb : List Int} (h : OkT w tb) (hw : 1 ≤ w) (t : List Nat) : 0 ≤ offs l tb t ∧ offs l tb t < w := by
  unfold offs
  cases q : tb[num l t]? with
  | none => exact ⟨by decide, by show (0 : Int) < w; omega⟩
  | some v => exact h v (List.mem_of_getElem? q)
theorem win_win {n W : Nat} {t : List Nat} {a b : Nat} (h : b + n ≤ W) : win n (win W t a) b = win n t (a + b) := by
  unfold win
  rw [List.drop_take, List.take_take, List.drop_drop]
  congr 1
  omega
theorem around {l w k : Nat} {tb : List Int} {t : List Nat} {a : Nat} (ht : OkT w tb) (hw : 1 ≤ w) (hk : 1 ≤ k) (ha : a + (2 * w + k - 2) ≤ t.length) : ((w : Int) - 1 ∈ pkL l (w + k - 1) tb (win (2 * w + k - 2) t a)) ↔ ((a : Int) + w - 1 ∈ pkL l (w + k - 1) tb t) := by
  unfold pkL
  rw [win_len ha]
  constructor
  · intro h
    obtain ⟨j, hj, e⟩ := List.mem_map.mp h
    have hj := List.mem_range.mp hj
    refine List.mem_map.mpr ⟨a + j, List.mem_range.mpr (by omega), ?_⟩
    unfold spt at e ⊢
    rw [win_win (by omega)] at e
    omega
  · intro h
    obtain ⟨j, hj, e⟩ := List.mem_map.mp h
    have hj := List.mem_range.mp hj
    unfold spt at e
    have ho := offs_lt (l := l) ht hw (win (w + k - 1) t j)
    refine List.mem_map.mpr ⟨j - a, List.mem_range.mpr (by omega), ?_⟩
    unfold spt
    rw [win_win (by omega), show a + (j - a) = j by omega]
    omega
end
end Wpk.M
set_option Elab.async false
set_option linter.all false
set_option maxRecDepth 100000
/-! M10: places with their pieces; what is shown. -/
namespace Wpk.M
open PySem
def E_picked_1 (c_picks : Nat) : T := .lc [2] (.tName 2) .plain (.cons (.call c_picks (.cons (.pk 0) (.cons (.pk 1) .nil))) .nil) .yes (.tupD (.cons (.var 2) (.cons (.slc (.pk 1) (.ov (.var 2)) (.ov (.op .Add (.pk 2) (.ov (.fld [0] "k" (.pk 0)))))) .nil)))
def F_picked (c_picks : Nat) : Fd := ⟨2, 3, (.ret (.bi .tuple (.cons (.ov (E_picked_1 c_picks)) .nil)))⟩
section
variable {P : Pg} {fns : List Fd} {fu k i : Nat}
theorem pk_bound {l w k : Nat} {tb : List Int} {t : List Nat} {x : Int} (ht : OkT w tb) (hw : 1 ≤ w) (hk : 1 ≤ k) (h : x ∈ pkL l (w + k - 1) tb t) : 0 ≤ x ∧ x + k ≤ t.length := by
  unfold pkL at h
  obtain ⟨j, hj, e⟩ := List.mem_map.mp h
  have hj := List.mem_range.mp hj
  unfold spt at e
  have ho := offs_lt (l := l) ht hw (win (w + k - 1) t j)
  omega
theorem mem_pk {l n : Nat} {tb : List Int} {t : List Nat} {x : Int} : x ∈ srtI (pkD l n tb t) ↔ x ∈ pkL l n tb t := by rw [mem_srtI]; unfold pkD; rw [mem_dd]
def pcD (k : Nat) (t : List Nat) (x : Int) : D := .tup [.int x, .str (win k t x.toNat)]
theorem isFL_pcD (k : Nat) (t : List Nat) (l : List Int) : isFL (l.map (pcD k t)) = true := by
  rw [isFL_all, List.all_eq_true]
  intro d hd
  obtain ⟨q, _, rfl⟩ := List.mem_map.mp hd
  simp [pcD]
theorem flat_map1 {α : Type} (g : α → D) (l : List α) : (l.flatMap fun x => [g x]) = l.map g := by
  induction l with
  | nil => rfl
  | cons x l ih => rw [List.flatMap_cons, ih]; rfl
theorem len_insI (i : Int) : ∀ l : List Int, (insI i l).length = l.length + 1
  | [] => rfl
  | j :: js => by
    unfold insI
    split
    · rfl
    · rw [List.length_cons, len_insI i js, List.length_cons]
theorem len_srtI : ∀ l : List Int, (srtI l).length = l.length
  | [] => rfl
  | i :: l => by rw [srtI, len_insI, len_srtI l, List.length_cons]
theorem len_pkS (l n : Nat) (tb : List Int) (t : List Nat) : (srtI (pkD l n tb t)).length ≤ t.length + 1 := by rw [len_srtI]; exact len_pkD l n tb t
theorem slc_pc {k : Nat} {t : List Nat} {x : Int} (h : 0 ≤ x) (hl : t.length ≤ 100000) : slcD (.str t) (some x) (some (x + (k : Int))) = some (.str (win k t x.toNat)) := by
  obtain ⟨n, rfl⟩ : ∃ n : Nat, x = n := ⟨x.toNat, by omega⟩
  simp [slcD, hl, cut_mid, win]
def SpPicked (c : Call) (i : Nat) : Prop := ∀ (m : Bool) (l w k : Nat) (tb : List Int) (t : List Nat), OkS l w k → OkT w tb → tb.length = l ^ (w + k - 1) → (∀ c ∈ t, c ∈ ab l) → t.length ≤ 10000 → c i [rulM m l w k tb, .str t] = .ok (.tup ((srtI (pkD l (w + k - 1) tb t)).map (pcD k t))) [fin m (rulM m l w k tb), none]
theorem sp_picked {cp : Nat} (h1 : ∀ k, SpPicks (runF P fns fu (k + 4)) cp) (hf : fns[i]? = some (F_picked cp)) (k : Nat) : SpPicked (runF P fns fu (k + 5)) i := fun m l w kk tb t hs hT hb ht hl => by
  have q1 := h1 k m l w kk tb t hs hb ht hl
  have hle := len_pkS l (w + kk - 1) tb t
  have hge : ∀ x ∈ srtI (pkD l (w + kk - 1) tb t), 0 ≤ x := fun x hx => (pk_bound hT hs.2.2.1 hs.2.2.2.2.1 (mem_pk.mp hx)).1
  generalize srtI (pkD l (w + kk - 1) tb t) = ks at q1 hle hge
  have comp : evE P (runF P fns fu (k + 4)) (E_picked_1 cp) [some (rulM m l w kk tb), some (.str t), none] = .ok (.lst true (ks.map (pcD kk t))) [some (rulM m l w kk tb), some (.str t), none] := by
    unfold E_picked_1
    refine (lc_eq (is := ks.map .int) (e1 := [some (rulM m l w kk tb), some (.str t), none]) (ys := ks.flatMap fun x => [pcD kk t x]) (e2 := [some (rulM m l w kk tb), some (.str t), none]) ?_ ?_ ?_ ?_).trans ?_
    · cases m <;> simp [doCall, q1]
    · simp [freeS_cons]
    · refine loopC_map ks fun x hx => ?_
      have sl := slc_pc (k := kk) (hge x hx) (show t.length ≤ 100000 by omega)
      rw [stepC_eq]
      simp [sl, pcD]
    · rw [flat_map1, List.length_map]; omega
    · rw [flat_map1]; simp
  rw [run_eq hf rfl rfl]
  cases m <;> simp [F_picked, comp, bi_tuple_l, isFL_pcD]
/-! ### what is shown -/
theorem piled_le {B : Nat} : ∀ ts : List Str, (∀ t ∈ ts, t.length ≤ B) → piled ts ≤ ts.length * (B + 2)
  | [], _ => by simp [piled]
  | t :: ts, h => by
    rw [piled_cons]
    have h1 := h t (List.mem_cons_self ..)
    have h2 := piled_le ts fun s hs => h s (List.mem_cons_of_mem _ hs)
    rw [List.length_cons, Nat.add_mul]
    omega
theorem tupText_le {B : Nat} {ts : List Str} (h : ∀ t ∈ ts, t.length ≤ B) : (tupleText ts).length ≤ ts.length * (B + 2) + 3 := by
  have hp := piled_le ts h
  unfold tupleText
  rw [strLen_append, strLen_append]
  have e1 : ((("(" : String) : Str)).length = 1 := rfl
  have e2 : (((if ts.length == 1 then ",)" else ")" : String)) : Str).length ≤ 2 := by split <;> decide
  cases ts with
  | nil =>
    have e3 : (Str.join ", " ([] : List Str)).length = 0 := rfl
    rw [e1, e3]
    omega
  | cons t ts =>
    have := join_length_add (t :: ts) (by simp)
    rw [e1]
    omega
theorem int_len : ∀ n ∈ List.range 1000, (Str.ofString (toString (n : Int))).length ≤ 3 := by decide +kernel
theorem pcs_all : ∀ t ∈ (List.range 5).flatMap (txt 4), (reprText (sOf t)).length ≤ 6 := by decide +kernel
theorem toPDs_map {α : Type} (g : α → D) : ∀ l : List α, toPDs (l.map g) = l.map fun a => toPD (g a)
  | [] => by simp [toPDs]
  | a :: l => by rw [List.map_cons, toPDs, toPDs_map g l]; rfl
theorem shownAll_map {α : Type} (g : α → PyData) : ∀ l : List α, PyData.shownAll (l.map g) = l.map fun a => (g a).shown
  | [] => by simp [PyData.shownAll]
  | a :: l => by rw [List.map_cons, PyData.shownAll, shownAll_map g l]; rfl
theorem showableAll_map {α : Type} (g : α → PyData) : ∀ l : List α, (∀ a ∈ l, (g a).showable = true) → PyData.showableAll (l.map g) = true
  | [], _ => by simp [PyData.showableAll]
  | a :: l, h => by rw [List.map_cons, PyData.showableAll, h a (List.mem_cons_self ..), showableAll_map g l fun b hb => h b (List.mem_cons_of_mem _ hb)]; rfl
theorem shpL_map {α : Type} (n : Nat) (g : α → D) : ∀ l : List α, (∀ a ∈ l, shp n (g a) = true) → shpL n (l.map g) = true
  | [], _ => by simp
  | a :: l, h => by rw [List.map_cons, shpL_cons, h a (List.mem_cons_self ..), shpL_map n g l fun b hb => h b (List.mem_cons_of_mem _ hb)]; rfl
/-- a tuple of things that are shown in few signs -/
theorem repr_tup {α : Type} {g : α → D} {B : Nat} {l : List α} (h1 : ∀ a ∈ l, shp 59 (g a) = true) (h2 : ∀ a ∈ l, (toPD (g a)).showable = true) (h3 : ∀ a ∈ l, (toPD (g a)).shown.length ≤ B) (hl : l.length * (B + 2) + 3 ≤ 100000) : ∃ r, bi2D .repr [.tup (l.map g)] = some (.str r) := by
  refine ⟨ofS (toPD (.tup (l.map g))).shown, ?_⟩
  show reprC (.tup (l.map g)) = _
  have e : toPD (.tup (l.map g)) = .tuple (l.map fun a => toPD (g a)) := by rw [toPD, toPDs_map]
  unfold reprC
  rw [if_pos]
  rw [e, shp_tup, shpL_map 59 g l h1, Bool.and_eq_true, Bool.and_eq_true, decide_eq_true_eq]
  refine ⟨⟨rfl, ?_⟩, ?_⟩
  · rw [PyData.showable]; exact showableAll_map _ l h2
  · rw [PyData.shown, shownAll_map]
    have := tupText_le (B := B) (ts := l.map fun a => (toPD (g a)).shown) (fun t ht => by obtain ⟨a, ha, rfl⟩ := List.mem_map.mp ht; exact h3 a ha)
    rw [List.length_map] at this
    show _ ≤ 100000
    omega
theorem int_shown {x : Int} (h0 : 0 ≤ x) (h1 : x < 1000) : (toPD (.int x)).showable = true ∧ (toPD (.int x)).shown.length ≤ 3 := by
  obtain ⟨n, rfl⟩ : ∃ n : Nat, x = n := ⟨x.toNat, by omega⟩
  refine ⟨?_, ?_⟩
  · show decide ((n : Int).natAbs.log2 < 1920) = true
    have : (n : Int).natAbs.log2 ≤ (n : Int).natAbs := Nat.log2_le_self _
    simp only [decide_eq_true_eq]
    omega
  · exact int_len n (List.mem_range.mpr (by omega))
theorem repr_ints {xs : List Int} (h : ∀ x ∈ xs, 0 ≤ x ∧ x < 1000) (hl : xs.length ≤ 1000) : ∃ r, bi2D .repr [.tup (xs.map .int)] = some (.str r) :=
  repr_tup (B := 3) (fun _ _ => by simp) (fun x hx => (int_shown (h x hx).1 (h x hx).2).1) (fun x hx => (int_shown (h x hx).1 (h x hx).2).2) (by omega)
theorem ab_4 {l : Nat} {t : List Nat} (hl : l ≤ 4) (h : ∀ c ∈ t, c ∈ ab l) : ∀ c ∈ t, c ∈ ab 4 := fun c hc => ab_sub hl (h c hc)
theorem repr_pcs {l k : Nat} {t : List Nat} {xs : List Int} (hl4 : l ≤ 4) (hk : k ≤ 4) (ht : ∀ c ∈ t, c ∈ ab l) (h : ∀ x ∈ xs, 0 ≤ x ∧ x < 1000) (hl : xs.length ≤ 1000) : ∃ r, bi2D .repr [.tup (xs.map (pcD k t))] = some (.str r) := by
  have hw : ∀ a, (win k t a).length ≤ 4 := fun a => by unfold win; rw [List.length_take]; omega
  have hm : ∀ a, win k t a ∈ (List.range 5).flatMap (txt 4) := fun a => List.mem_flatMap.mpr ⟨(win k t a).length, List.mem_range.mpr (by have := hw a; omega), txt_mem.mpr ⟨rfl, ab_4 hl4 (win_ab ht)⟩⟩
  have hc : ∀ a, (win k t a).all (fun c => decide (c < 1114112)) = true := fun a => by
    rw [List.all_eq_true]
    intro c hcm
    have := (abc_take (Nat.le_refl 4)).mp (ab_4 hl4 (win_ab ht) c hcm)
    simp only [decide_eq_true_eq]
    omega
  refine repr_tup (B := 30) (fun x hx => ?_) (fun x hx => ?_) (fun x hx => ?_) (by omega)
  · simp [pcD, hc]
  · have := (int_shown (h x hx).1 (h x hx).2).1
    show PyData.showableAll [toPD (.int x), toPD (.str _)] = true
    rw [PyData.showableAll, this, PyData.showableAll, PyData.showableAll]
    rfl
  · have e1 := (int_shown (h x hx).1 (h x hx).2).2
    have e2 := pcs_all _ (hm x.toNat)
    have : (toPD (pcD k t x)).shown = tupleText [(toPD (.int x)).shown, reprText (sOf (win k t x.toNat))] := rfl
    rw [this]
    have := tupText_le (B := 6) (ts := [(toPD (.int x)).shown, reprText (sOf (win k t x.toNat))]) (fun s hs => by
      rcases List.mem_cons.mp hs with rfl | hs
      · omega
      · rw [List.mem_singleton.mp hs]; exact e2)
    simp only [List.length_cons, List.length_nil] at this
    omega
theorem eqDL_self : ∀ xs : List Int, eqDL (xs.map .int) (xs.map .int) = true
  | [] => by simp
  | x :: xs => by simp [eqDL_self xs]
end
end Wpk.M
set_option Elab.async false
set_option linter.all false
set_option maxRecDepth 100000
/-! M15: places that are moved. -/
namespace Wpk.M
open PySem
def E_moved_1 : T := .lc [7] (.tName 7) .plain (.cons (.var 6) .nil) (.tv (.cmp .NotIn (.pk 7) (.pk 5))) (.var 7)
def E_moved_2 : T := .lc [7] (.tName 7) .plain (.cons (.var 5) .nil) (.tv (.cmp .NotIn (.pk 7) (.pk 6))) (.var 7)
def F_moved (c_picks : Nat) : Fd := ⟨4, 8, (.seq (.par [5, 6] (.cons (.call c_picks (.cons (.pk 0) (.cons (.pk 1) .nil))) (.cons (.call c_picks (.cons (.pk 0) (.cons (.ov (.op .Add (.ov (.op .Add (.ov (.slc (.pk 1) .nil (.ov (.var 2)))) (.pk 3))) (.ov (.slc (.pk 1) (.ov (.op .Add (.pk 2) (.ov (.cst (.int (1)))))) .nil)))) .nil))) .nil))) (.seq (.asg (.tName 4) (.bi .tuple (.cons (.ov (E_moved_2)) .nil))) (.ret (.tupD (.cons (.var 4) (.cons (.bi .tuple (.cons (.ov (E_moved_1)) .nil)) .nil))))))⟩
section
variable {P : Pg} {fns : List Fd} {fu k i : Nat}
/-- a letter changed -/
def chg (t : List Nat) (a : Nat) (s : List Nat) : List Nat := t.take a ++ s ++ t.drop (a + 1)
/-- what of the one is not in the other -/
def out (xs ys : List Int) : List Int := xs.filter fun x => !decide (x ∈ ys)
theorem slc_to (t : List Nat) (a : Nat) (h : t.length ≤ 100000) : slcD (.str t) none (some (a : Int)) = some (.str (t.take a)) := by
  simp [slcD, h, cut_take]
theorem slc_from (t : List Nat) (a : Nat) (h : t.length ≤ 100000) : slcD (.str t) (some ((a : Int) + 1)) none = some (.str (t.drop (a + 1))) := by
  have e : cutL t (some ((a : Int) + 1)) none = t.drop (a + 1) := by
    unfold cutL HT.sIx
    have h0 : ¬ ((a : Int) + 1 < 0) := by omega
    have h1 : ((a : Int) + 1).toNat = a + 1 := by omega
    simp [h0, h1]
    by_cases c : a + 1 ≤ t.length
    · rw [show min (a + 1) t.length = a + 1 by omega, List.take_of_length_le (by simp)]
    · rw [show min (a + 1) t.length = t.length by omega, List.drop_eq_nil_of_le (by omega), List.drop_eq_nil_of_le (by omega)]
      simp
  simp [slcD, h, e]
theorem all_flat (ys : List Int) : (ys.map D.int).all flatD = true := by rw [List.all_map, List.all_eq_true]; intro x _; rfl
theorem notin_t (x : Int) (ys : List Int) : cmpD .NotIn (.int x) (.tup (ys.map .int)) = some (!decide (x ∈ ys)) := by
  show (if flatD (.int x) && (ys.map D.int).all flatD then some (!inD (.int x) (ys.map .int)) else none) = _
  rw [all_flat, inD_int]
  rfl
theorem out_map (xs ys : List Int) : (xs.flatMap fun x => if (!decide (x ∈ ys)) = true then [D.int x] else []) = (out xs ys).map .int := by
  induction xs with
  | nil => rfl
  | cons x xs ih =>
    rw [List.flatMap_cons, ih]
    unfold out
    rw [List.filter_cons]
    split <;> simp
theorem out_len (xs ys : List Int) : (out xs ys).length ≤ xs.length := List.length_filter_le _ _
def SpMoved (c : Call) (i : Nat) : Prop := ∀ (m : Bool) (l w k : Nat) (tb : List Int) (t s : List Nat) (a : Nat), OkS l w k → tb.length = l ^ (w + k - 1) → (∀ c ∈ t, c ∈ ab l) → (∀ c ∈ s, c ∈ ab l) → t.length ≤ 1000 → s.length ≤ 1000 →
  c i [rulM m l w k tb, .str t, .int a, .str s] = .ok (.tup [.tup ((out (srtI (pkD l (w + k - 1) tb t)) (srtI (pkD l (w + k - 1) tb (chg t a s)))).map .int), .tup ((out (srtI (pkD l (w + k - 1) tb (chg t a s))) (srtI (pkD l (w + k - 1) tb t))).map .int)]) [fin m (rulM m l w k tb), none, none, none]
theorem sp_moved {cp : Nat} (h1 : ∀ k, SpPicks (runF P fns fu (k + 4)) cp) (hf : fns[i]? = some (F_moved cp)) (k : Nat) : SpMoved (runF P fns fu (k + 5)) i := fun m l w kk tb t s a hs hb ht hts hl hl2 => by
  have q1 := h1 k m l w kk tb t hs hb ht (by omega)
  have cl : (chg t a s).length ≤ 3000 := by
    unfold chg
    rw [List.length_append, List.length_append, List.length_take, List.length_drop]
    omega
  have cc : ∀ c ∈ chg t a s, c ∈ ab l := fun c hc => by
    unfold chg at hc
    simp only [List.mem_append] at hc
    rcases hc with (z | z) | z
    · exact ht c (List.mem_of_mem_take z)
    · exact hts c z
    · exact ht c (List.mem_of_mem_drop z)
  have q2 := h1 k m l w kk tb (chg t a s) hs hb cc (by omega)
  have n1 := len_pkS l (w + kk - 1) tb t
  have n2 := len_pkS l (w + kk - 1) tb (chg t a s)
  generalize srtI (pkD l (w + kk - 1) tb t) = xs at q1 n1
  generalize srtI (pkD l (w + kk - 1) tb (chg t a s)) = ys at q2 n2
  have s1 := slc_to t a (by omega)
  have s2 := slc_from t a (by omega)
  have o1 : opD .Add (.str (t.take a)) (.str s) = some (.str (t.take a ++ s)) := if_pos (by rw [List.length_take, LN_eq]; omega)
  have o2 : opD .Add (.str (t.take a ++ s)) (.str (t.drop (a + 1))) = some (.str (chg t a s)) := if_pos (by rw [List.length_append, List.length_take, List.length_drop, LN_eq]; omega)
  have f1 := isFL_int xs
  have f2 := isFL_int ys
  have comp : ∀ (xs ys : List Int) (r0 r2 r3 r4 : Option D) (e : Env), xs.length ≤ 4000 → e = [r0, some (.str t), r2, r3, r4, some (.tup (xs.map .int)), some (.tup (ys.map .int)), none] → evE P (runF P fns fu (k + 4)) E_moved_2 e = .ok (.lst true ((out xs ys).map .int)) e ∧ True := fun xs ys r0 r2 r3 r4 e hx he => ⟨by
    subst he
    have f1 := isFL_int xs
    unfold E_moved_2
    refine (lc_eq (is := xs.map .int) (e1 := [r0, some (.str t), r2, r3, r4, some (.tup (xs.map .int)), some (.tup (ys.map .int)), none]) (ys := xs.flatMap fun x => if (!decide (x ∈ ys)) = true then [D.int x] else []) (e2 := [r0, some (.str t), r2, r3, r4, some (.tup (xs.map .int)), some (.tup (ys.map .int)), none]) ?_ ?_ ?_ ?_).trans ?_
    · simp [f1]
    · simp [freeS_cons]
    · refine loopC_map xs fun x _ => ?_
      rw [stepC_eq]
      by_cases c : x ∈ ys
      · simp [notin_t, c]
      · simp [notin_t, c]
    · rw [out_map, List.length_map]; have := out_len xs ys; omega
    · rw [out_map]; simp, trivial⟩
  have comp1 : ∀ (xs ys : List Int) (r0 r2 r3 r4 : Option D) (e : Env), ys.length ≤ 4000 → e = [r0, some (.str t), r2, r3, r4, some (.tup (xs.map .int)), some (.tup (ys.map .int)), none] → evE P (runF P fns fu (k + 4)) E_moved_1 e = .ok (.lst true ((out ys xs).map .int)) e := fun xs ys r0 r2 r3 r4 e hx he => by
    subst he
    have f1 := isFL_int ys
    unfold E_moved_1
    refine (lc_eq (is := ys.map .int) (e1 := [r0, some (.str t), r2, r3, r4, some (.tup (xs.map .int)), some (.tup (ys.map .int)), none]) (ys := ys.flatMap fun x => if (!decide (x ∈ xs)) = true then [D.int x] else []) (e2 := [r0, some (.str t), r2, r3, r4, some (.tup (xs.map .int)), some (.tup (ys.map .int)), none]) ?_ ?_ ?_ ?_).trans ?_
    · simp [f1]
    · simp [freeS_cons]
    · refine loopC_map ys fun x _ => ?_
      rw [stepC_eq]
      by_cases c : x ∈ xs
      · simp [notin_t, c]
      · simp [notin_t, c]
    · rw [out_map, List.length_map]; have := out_len ys xs; omega
    · rw [out_map]; simp
  have c2 := fun r0 r2 r3 r4 => (comp xs ys r0 r2 r3 r4 _ (by omega) rfl).1
  have c1 := fun r0 r2 r3 r4 => comp1 xs ys r0 r2 r3 r4 _ (by omega) rfl
  have g1 := isFL_int (out xs ys)
  have g2 := isFL_int (out ys xs)
  have z1 := frzL_int (out xs ys)
  have z2 := frzL_int (out ys xs)
  rw [run_eq hf rfl rfl]
  cases m <;> simp [F_moved, doCall, q1, q2, s1, s2, o1, o2, f1, f2, c1, c2, bi_tuple_l, g1, g2, z1, z2]
end
end Wpk.M
set_option Elab.async false
set_option linter.all false
set_option maxRecDepth 100000
/-! M16: the places of all texts around a place; two rules compared. -/
namespace Wpk.M
open PySem
def F_status (c_places_of c_texts_of : Nat) : Fd := ⟨1, 3, (.seq (.asg (.tName 1) (.call c_texts_of (.cons (.ov (.fld [0] "letters" (.pk 0))) (.cons (.ov (.op .Sub (.ov (.op .Add (.ov (.op .Mult (.ov (.cst (.int (2)))) (.ov (.fld [0] "w" (.pk 0))))) (.ov (.fld [0] "k" (.pk 0))))) (.ov (.cst (.int (2)))))) .nil)))) (.ret (.dc [2] (.tName 2) .plain (.cons (.var 1) .nil) .yes (.var 2) (.cmp .In (.ov (.op .Sub (.ov (.fld [0] "w" (.pk 0))) (.ov (.cst (.int (1)))))) (.ov (.call c_places_of (.cons (.pk 0) (.cons (.pk 2) .nil))))))))⟩
def F_sides : Fd := ⟨2, 2, (.ret (.tupD (.cons (.op .Sub (.ov (.bi .max (.cons (.ov (.fld [0] "w" (.pk 0))) (.cons (.ov (.fld [0] "w" (.pk 1))) .nil)))) (.ov (.cst (.int (1))))) (.cons (.op .Sub (.ov (.bi .max (.cons (.ov (.op .Add (.ov (.fld [0] "w" (.pk 0))) (.ov (.fld [0] "k" (.pk 0))))) (.cons (.ov (.op .Add (.ov (.fld [0] "w" (.pk 1))) (.ov (.fld [0] "k" (.pk 1))))) .nil)))) (.ov (.cst (.int (2))))) .nil))))⟩
def F_around : Fd := ⟨3, 3, (.ret (.slc (.pk 1) (.ov (.op .Add (.ov (.op .Sub (.pk 2) (.ov (.fld [0] "w" (.pk 0))))) (.ov (.cst (.int (1)))))) (.ov (.op .Sub (.ov (.op .Add (.ov (.op .Add (.pk 2) (.ov (.fld [0] "w" (.pk 0))))) (.ov (.fld [0] "k" (.pk 0))))) (.ov (.cst (.int (1))))))))⟩
def B_unlike_texts_1 (c_around c_texts_of : Nat) : T := .forS (.tName 3) .plain (.cons (.call c_texts_of (.cons (.ov (.fld [0] "letters" (.pk 0))) (.cons (.ov (.op .Add (.ov (.op .Add (.pk 4) (.ov (.cst (.int (1)))))) (.pk 5))) .nil))) .nil) (.seq (.asg (.tName 8) (.tupD (.cons (.idx (.pk 6) (.ov (.call c_around (.cons (.pk 0) (.cons (.pk 3) (.cons (.pk 4) .nil)))))) (.cons (.idx (.pk 7) (.ov (.call c_around (.cons (.pk 1) (.cons (.pk 3) (.cons (.pk 4) .nil)))))) .nil)))) (.ifS (.tv (.cmp .NotEq (.ov (.idx (.pk 8) (.ov (.cst (.int (0)))))) (.ov (.idx (.pk 8) (.ov (.cst (.int (1)))))))) (.ex (.app 2 (.tupD (.cons (.var 3) (.cons (.var 8) .nil))))) .pas))
def F_unlike_texts (c_around c_sides c_status c_texts_of : Nat) : Fd := ⟨2, 9, (.seq (.asg (.tTup (.cons (.tName 4) (.cons (.tName 5) .nil))) (.call c_sides (.cons (.pk 0) (.cons (.pk 1) .nil)))) (.seq (.par [6, 7] (.cons (.call c_status (.cons (.pk 0) .nil)) (.cons (.call c_status (.cons (.pk 1) .nil)) .nil))) (.seq (.asg (.tName 2) (.lstD .nil)) (.seq (B_unlike_texts_1 c_around c_texts_of) (.retV 2)))))⟩
def F_parting (c_sides c_unlike_texts : Nat) : Fd := ⟨2, 3, (.seq (.asg (.tName 2) (.call c_unlike_texts (.cons (.pk 0) (.cons (.pk 1) .nil)))) (.ret (.ite (.tv (.cmp .Eq (.ov (.bi .len (.cons (.pk 2) .nil))) (.ov (.cst (.int (0)))))) (.cst .non) (.tupD (.cons (.idx (.ov (.idx (.pk 2) (.ov (.cst (.int (0)))))) (.ov (.cst (.int (0))))) (.cons (.idx (.ov (.call c_sides (.cons (.pk 0) (.cons (.pk 1) .nil)))) (.ov (.cst (.int (0))))) .nil))))))⟩
def F_alike (c_unlike_texts : Nat) : Fd := ⟨2, 2, (.ret (.cmp .Eq (.ov (.bi .len (.cons (.ov (.call c_unlike_texts (.cons (.pk 0) (.cons (.pk 1) .nil)))) .nil))) (.ov (.cst (.int (0))))))⟩
def E_no_more_1 (c_unlike_texts : Nat) : T := .lc [2, 3] (.tTup (.cons (.tName 2) (.cons (.tName 3) .nil))) .plain (.cons (.call c_unlike_texts (.cons (.pk 0) (.cons (.pk 1) .nil))) .nil) .yes (.idx (.pk 3) (.ov (.cst (.int (0)))))
def F_no_more (c_unlike_texts : Nat) : Fd := ⟨2, 4, (.ret (.nt (.bi .any (.cons (.ov (E_no_more_1 c_unlike_texts)) .nil))))⟩
/-! ### dict comprehensions -/
section
variable {P : Pg} {c : Nat → List D → R D} {e e1 e2 : Env} {tg it t x z : T} {k : It} {is : List D} {ps : List (D × D)} {vs : List Nat} {q : List D × List D}
theorem dc_eq (hi : semIt k (evVs P c it) e = .ok is e1) (hf : freeS e1 vs = true) (hl : loopP (stepP vs (bindT [] tg) (evT P c t) (evE P c x) (evE P c z)) is (wipeE e1 vs) = .ok ps e2) (hn : ps.length ≤ 100000) (hq : putPs ([], []) ps = some q) : evE P c (.dc vs tg k it t x z) e = .ok (.dct true false q.1 q.2) (backE e1 e2 vs) := by
  show (semIt k (evVs P c it) e).bind _ = _
  rw [hi]
  show (if freeS e1 vs then _ else _) = _
  rw [if_pos hf, hl]
  show (if ps.length ≤ LN then _ else _) = _
  rw [if_pos hn, hq]
theorem loopP_map {α : Type} {bc : D → Env → R (List (D × D))} {f : α → D} {g : α → D × D} {e : Env} : ∀ (xs : List α) (_ : ∀ x ∈ xs, bc (f x) e = .ok [g x] e), loopP bc (xs.map f) e = .ok (xs.map g) e
  | [], _ => rfl
  | x :: xs, h => by
    rw [List.map_cons]
    unfold loopP
    rw [h x (List.mem_cons_self ..)]
    show (loopP bc (xs.map f) e).bind _ = _
    rw [loopP_map xs fun y hy => h y (List.mem_cons_of_mem _ hy)]
    rfl
def kP3 (vs : List Nat) (y w : D) (e6 : Env) : R (List (D × D)) := .ok [(y, w)] (wipeE e6 vs)
def kP2 (vs : List Nat) (z : Env → R D) (y : D) (e5 : Env) : R (List (D × D)) := (z e5).bind (kP3 vs y)
def kP1 (vs : List Nat) (x z : Env → R D) (k : Bool) (e4 : Env) : R (List (D × D)) := if k then (x e4).bind (kP2 vs z) else .ok [] (wipeE e4 vs)
def kP0 (vs : List Nat) (t : Env → R Bool) (x z : Env → R D) (e3 _e : Env) : R (List (D × D)) := (t e3).bind (kP1 vs x z)
@[simp] theorem kP3_eq {y w : D} : kP3 vs y w e = .ok [(y, w)] (wipeE e vs) := (rfl)
@[simp] theorem kP2_eq {z : Env → R D} {y : D} : kP2 vs z y e = (z e).bind (kP3 vs y) := (rfl)
@[simp] theorem kP1_eq {x z : Env → R D} {k : Bool} : kP1 vs x z k e = if k then (x e).bind (kP2 vs z) else .ok [] (wipeE e vs) := (rfl)
@[simp] theorem kP0_eq {t : Env → R Bool} {x z : Env → R D} {e0 : Env} : kP0 vs t x z e e0 = (t e).bind (kP1 vs x z) := (rfl)
theorem stepP_eq {b : D → Env → Option Env} {t : Env → R Bool} {x z : Env → R D} {d : D} : stepP vs b t x z d e = (R.of (b d e) e).bind (kP0 vs t x z) := by
  unfold stepP
  cases b d e <;> rfl
end
theorem putPs_map {α : Type} [DecidableEq α] {κ g : α → D} (hκ : ∀ a b, eqK (κ a) (κ b) = decide (a = b)) (h1 : ∀ a, isKy (κ a) = true) (h2 : ∀ a, isF (g a) = true) : ∀ (xs ks : List α), putPs (ks.map κ, ks.map g) (xs.map fun x => (κ x, g x)) = some ((xs.foldl addA ks).map κ, (xs.foldl addA ks).map g)
  | [], ks => rfl
  | x :: xs, ks => by
    rw [List.map_cons]
    show (putP (ks.map κ) (ks.map g) (κ x) (g x)).bind (fun q' => putPs q' (xs.map fun x => (κ x, g x))) = _
    have e : putP (ks.map κ) (ks.map g) (κ x) (g x) = some ((addA ks x).map κ, (addA ks x).map g) := by
      unfold putP
      rw [if_pos (h1 x), hasK_map hκ, h2 x]
      by_cases c : x ∈ ks
      · rw [if_pos (decide_eq_true c), if_pos rfl, setK_map hκ]
        unfold addA
        rw [if_pos c]
      · rw [if_neg (by simp [c])]
        unfold addA
        rw [if_neg c, List.map_append, List.map_append]
        rfl
    rw [e]
    exact putPs_map hκ h1 h2 xs (addA ks x)
theorem addA_new {α : Type} [DecidableEq α] {ks : List α} {x : α} (h : x ∉ ks) : addA ks x = ks ++ [x] := by unfold addA; rw [if_neg h]
theorem dd_nodup {α : Type} [DecidableEq α] : ∀ (xs ks : List α), (ks ++ xs).Nodup → xs.foldl addA ks = ks ++ xs
  | [], ks, _ => by simp
  | x :: xs, ks, h => by
    have h1 : x ∉ ks := fun z => by
      have := (List.nodup_append.mp h).2.2 x z x (List.mem_cons_self ..)
      exact this rfl
    show xs.foldl addA (addA ks x) = _
    rw [addA_new h1, dd_nodup xs (ks ++ [x]) (by simpa using h)]
    simp
theorem dd_self {α : Type} [DecidableEq α] {xs : List α} (h : xs.Nodup) : dd xs = xs := by
  have := dd_nodup xs [] (by simpa using h)
  simpa [dd] using this
theorem ab_nodup (l : Nat) : (ab l).Nodup := List.Nodup.sublist (List.take_sublist l abc) (by decide)
theorem txt_nodup (l : Nat) : ∀ n, (txt l n).Nodup
  | 0 => by simp [txt]
  | n + 1 => by
    show List.Pairwise (· ≠ ·) ((txt l n).map fun t => (ab l).map fun c => t ++ [c]).flatten
    rw [List.pairwise_flatten]
    refine ⟨fun q hq => ?_, ?_⟩
    · obtain ⟨t, _, rfl⟩ := List.mem_map.mp hq
      exact List.pairwise_map.mpr ((show List.Pairwise (· ≠ ·) (ab l) from ab_nodup l).imp fun {a b} hab h => hab (by simpa using h))
    · refine List.pairwise_map.mpr ((show List.Pairwise (· ≠ ·) (txt l n) from txt_nodup l n).imp fun {a b} hab => fun x hx y hy h => ?_)
      obtain ⟨c, _, rfl⟩ := List.mem_map.mp hx
      obtain ⟨c', _, rfl⟩ := List.mem_map.mp hy
      exact hab (List.append_inj' h rfl).1
/-! ### the program's walks -/
section
variable {P : Pg} {fns : List Fd} {fu k i : Nat}
/-- for each text around a place whether it is picked -/
def stD (l w k : Nat) (tb : List Int) : D := .dct true false ((txt l (2 * w + k - 2)).map .str) ((txt l (2 * w + k - 2)).map fun t => .bl (pkB l w k tb t))
def SpStatus (c : Call) (i : Nat) : Prop := ∀ (m : Bool) (l w k : Nat) (tb : List Int), OkS l w k → tb.length = l ^ (w + k - 1) → l ^ (2 * w + k - 2) ≤ 4096 → c i [rulM m l w k tb] = .ok (stD l w k tb) [fin m (rulM m l w k tb)]
theorem hasK_picks {l w k : Nat} {tb : List Int} {t : List Nat} : hasK ((pkD l (w + k - 1) tb t).map .int) (.int ((w : Int) - 1)) = pkB l w k tb t := by
  rw [hasK_map (κ := D.int) eqK_int]
  simp only [pkB, pkD, mem_dd]
theorem sp_status {cp ct : Nat} (h1 : ∀ k, SpPlacesOf (runF P fns fu (k + 3)) cp) (h2 : ∀ k, SpTextsOf (runF P fns fu (k + 2)) ct) (hf : fns[i]? = some (F_status cp ct)) (k : Nat) : SpStatus (runF P fns fu (k + 4)) i := fun m l w kk tb hs hb hfit => by
  have hs' := hs
  obtain ⟨s1, s2, s3, s4, s5, s6⟩ := hs
  have hW : 2 * w + kk - 2 ≤ 20 := by omega
  have qt := h2 (k + 1) l (2 * w + kk - 2) s2 hfit hW
  have e0 : 2 * (w : Int) + kk - 2 = ((2 * w + kk - 2 : Nat) : Int) := by omega
  have hlT := txt_len l s2 (2 * w + kk - 2)
  have hmul : opD .Mult (.int 2) (.int (w : Int)) = some (.int (2 * (w : Int))) := by rw [op_mul_ii, if_pos (by omega)]
  have comp : evE P (runF P fns fu (k + 3)) (.dc [2] (.tName 2) .plain (.cons (.var 1) .nil) .yes (.var 2) (.cmp .In (.ov (.op .Sub (.ov (.fld [0] "w" (.pk 0))) (.ov (.cst (.int (1)))))) (.ov (.call cp (.cons (.pk 0) (.cons (.pk 2) .nil)))))) [some (rulM m l w kk tb), some (.lst true ((txt l (2 * w + kk - 2)).map .str)), none] = .ok (stD l w kk tb) [some (rulM m l w kk tb), some (.lst false ((txt l (2 * w + kk - 2)).map .str)), none] := by
    refine (dc_eq (is := (txt l (2 * w + kk - 2)).map .str) (e1 := [some (rulM m l w kk tb), some (.lst false ((txt l (2 * w + kk - 2)).map .str)), none]) (ps := (txt l (2 * w + kk - 2)).map fun t => (D.str t, D.bl (pkB l w kk tb t))) (e2 := [some (rulM m l w kk tb), some (.lst false ((txt l (2 * w + kk - 2)).map .str)), none]) (q := ((txt l (2 * w + kk - 2)).map .str, (txt l (2 * w + kk - 2)).map fun t => .bl (pkB l w kk tb t))) ?_ ?_ ?_ ?_ ?_).trans ?_
    · simp [frzL_str, items_list, isFL_str]
    · simp [freeS_cons]
    · refine loopP_map _ fun t ht => ?_
      obtain ⟨t1, t2⟩ := txt_mem.mp ht
      have q1 := h1 k m l w kk tb t hs' hb t2 (by omega)
      have hh := hasK_picks (l := l) (w := w) (k := kk) (tb := tb) (t := t)
      generalize pkD l (w + kk - 1) tb t = ks at q1 hh
      rw [stepP_eq]
      cases m <;> simp [doCall, q1, cmp_in_d, isKy, hh]
    · rw [List.length_map, hlT]; omega
    · have := putPs_map (κ := D.str) (g := fun t => D.bl (pkB l w kk tb t)) eqK_str (fun _ => rfl) (fun _ => by simp) (txt l (2 * w + kk - 2)) []
      rw [dd_nodup _ _ (by simpa using txt_nodup l (2 * w + kk - 2))] at this
      exact this
    · simp [stD]
  rw [run_eq hf rfl rfl]
  cases m <;> simp [F_status, doCall, hmul, e0, qt] <;> simp [rulM] at comp <;> simp [rulM, comp]
/-! ### two rules compared -/
def sdA (w w' : Nat) : Nat := max w w' - 1
def sdB (w k w' k' : Nat) : Nat := max (w + k) (w' + k') - 2
theorem max_if (a b : Nat) : (if (b : Int) > (a : Int) then (b : Int) else (a : Int)) = ((max a b : Nat) : Int) := by
  by_cases h : (b : Int) > (a : Int)
  · rw [if_pos h]; omega
  · rw [if_neg h]; omega
def SpSides (c : Call) (i : Nat) : Prop := ∀ (m : Bool) (l w k : Nat) (tb : List Int) (m' : Bool) (l' w' k' : Nat) (tb' : List Int), OkS l w k → OkS l' w' k' → c i [rulM m l w k tb, rulM m' l' w' k' tb'] = .ok (.tup [.int (sdA w w' : Nat), .int (sdB w k w' k' : Nat)]) [fin m (rulM m l w k tb), fin m' (rulM m' l' w' k' tb')]
theorem sp_sides (hf : fns[i]? = some F_sides) (k : Nat) : SpSides (runF P fns fu (k + 1)) i := fun m l w kk tb m' l' w' k' tb' hs hs' => by
  have a1 := hs.2.2.1
  have a2 := hs'.2.2.1
  have a3 := hs.2.2.2.2.1
  have e1 : ((max w w' : Nat) : Int) - 1 = (sdA w w' : Nat) := by unfold sdA; omega
  have e2 : ((max (w + kk) (w' + k') : Nat) : Int) - 2 = (sdB w kk w' k' : Nat) := by unfold sdB; omega
  have m1 := max_if w w'
  have m2 := max_if (w + kk) (w' + k')
  rw [run_eq hf rfl rfl]
  have m2' : (if ((w' : Int) + (k' : Int)) > ((w : Int) + (kk : Int)) then ((w' : Int) + (k' : Int)) else ((w : Int) + (kk : Int))) = ((max (w + kk) (w' + k') : Nat) : Int) := by rw [← m2]; push_cast; rfl
  have b1 : biD .max [.int (w : Int), .int (w' : Int)] = some (.int ((max w w' : Nat) : Int)) := by rw [bi_max_i, m1]
  have b2 : biD .max [.int ((w : Int) + (kk : Int)), .int ((w' : Int) + (k' : Int))] = some (.int ((max (w + kk) (w' + k') : Nat) : Int)) := by rw [bi_max_i, m2']
  cases m <;> cases m' <;> simp [F_sides, b1, b2, e1, e2, -bi_max_i]
def SpAround (c : Call) (i : Nat) : Prop := ∀ (m : Bool) (l w k : Nat) (tb : List Int) (t : List Nat) (a : Nat), OkS l w k → w - 1 ≤ a → t.length ≤ 10000 → c i [rulM m l w k tb, .str t, .int a] = .ok (.str (win (2 * w + k - 2) t (a - (w - 1)))) [fin m (rulM m l w k tb), none, none]
theorem sp_around (hf : fns[i]? = some F_around) (k : Nat) : SpAround (runF P fns fu (k + 1)) i := fun m l w kk tb t a hs ha hl => by
  have a1 := hs.2.2.1
  have a3 := hs.2.2.2.2.1
  have sl : slcD (.str t) (some ((a : Int) - (w : Int) + 1)) (some ((a : Int) + (w : Int) + (kk : Int) - 1)) = some (.str (win (2 * w + kk - 2) t (a - (w - 1)))) := by
    have e1 : (a : Int) - (w : Int) + 1 = ((a - (w - 1) : Nat) : Int) := by omega
    have e2 : (a : Int) + (w : Int) + (kk : Int) - 1 = ((a - (w - 1) : Nat) : Int) + ((2 * w + kk - 2 : Nat) : Int) := by omega
    rw [e1, e2]
    show (if t.length ≤ LN then some (D.str (cutL t _ _)) else none) = _
    rw [if_pos (by rw [LN_eq]; omega), cut_mid]
    rfl
  rw [run_eq hf rfl rfl]
  cases m <;> simp [F_around, sl]
/-- what two rules tell of a text around a place -/
def pA (l w k : Nat) (tb : List Int) (A : Nat) (t : List Nat) : Bool := pkB l w k tb (win (2 * w + k - 2) t (A - (w - 1)))
def ulT (l w k : Nat) (tb : List Int) (w' k' : Nat) (tb' : List Int) (ts : List (List Nat)) : List (List Nat) := ts.filter fun t => pA l w k tb (sdA w w') t != pA l w' k' tb' (sdA w w') t
def ulD (p q : List Nat → Bool) (t : List Nat) : D := .tup [.str t, .tup [.bl (p t), .bl (q t)]]
theorem win_txt {l W n a : Nat} {t : List Nat} (h : t ∈ txt l W) (ha : a + n ≤ W) : win n t a ∈ txt l n := by
  obtain ⟨h1, h2⟩ := txt_mem.mp h
  exact txt_mem.mpr ⟨win_len (by omega), win_ab h2⟩
theorem st_get {l w k : Nat} {tb : List Int} {t : List Nat} (h : t ∈ txt l (2 * w + k - 2)) : idxF (stD l w k tb) (.str t) = some (.bl (pkB l w k tb t)) :=
  idxF_dct rfl (getK_map (κ := D.str) (g := fun t => D.bl (pkB l w k tb t)) eqK_str _ h) (by simp)
theorem isFL_ulD (p q : List Nat → Bool) (ts : List (List Nat)) : isFL (ts.map (ulD p q)) = true := by
  rw [isFL_all, List.all_eq_true]
  intro d hd
  obtain ⟨t, _, rfl⟩ := List.mem_map.mp hd
  simp [ulD]
/-- the texts where two rules are unlike -/
def ulX (l w k : Nat) (tb : List Int) (w' k' : Nat) (tb' : List Int) : List (List Nat) := ulT l w k tb w' k' tb' (txt l (sdA w w' + 1 + sdB w k w' k'))
def SpUnlike (c : Call) (i : Nat) : Prop := ∀ (m : Bool) (l w k : Nat) (tb : List Int) (m' : Bool) (w' k' : Nat) (tb' : List Int), OkS l w k → OkS l w' k' → tb.length = l ^ (w + k - 1) → tb'.length = l ^ (w' + k' - 1) → l ^ (sdA w w' + 1 + sdB w k w' k') ≤ 4096 →
  c i [rulM m l w k tb, rulM m' l w' k' tb'] = .ok (.lst true ((ulX l w k tb w' k' tb').map (ulD (pA l w k tb (sdA w w')) (pA l w' k' tb' (sdA w w'))))) [fin m (rulM m l w k tb), fin m' (rulM m' l w' k' tb')]
theorem sides_fit {l w k w' k' : Nat} (hs : OkS l w k) (hs' : OkS l w' k') : w - 1 ≤ sdA w w' ∧ w' - 1 ≤ sdA w w' ∧ (sdA w w' - (w - 1)) + (2 * w + k - 2) ≤ sdA w w' + 1 + sdB w k w' k' ∧ (sdA w w' - (w' - 1)) + (2 * w' + k' - 2) ≤ sdA w w' + 1 + sdB w k w' k' := by
  obtain ⟨s1, s2, s3, s4, s5, s6⟩ := hs
  obtain ⟨t1, t2, t3, t4, t5, t6⟩ := hs'
  unfold sdA sdB
  omega
theorem sp_unlike {ca cs ct cx : Nat} (h1 : ∀ k, SpAround (runF P fns fu (k + 1)) ca) (h2 : ∀ k, SpSides (runF P fns fu (k + 1)) cs) (h3 : ∀ k, SpStatus (runF P fns fu (k + 4)) ct) (h4 : ∀ k, SpTextsOf (runF P fns fu (k + 2)) cx) (hf : fns[i]? = some (F_unlike_texts ca cs ct cx)) (k : Nat) : SpUnlike (runF P fns fu (k + 5)) i := fun m l w kk tb m' w' k' tb' hs hs' hb hb' hfit => by
  obtain ⟨f1, f2, f3, f4⟩ := sides_fit hs hs'
  have q2 := h2 (k + 3) m l w kk tb m' l w' k' tb' hs hs'
  obtain ⟨s1, s2, s3, s4, s5, s6⟩ := id hs
  have hn : sdA w w' + 1 + sdB w kk w' k' ≤ 20 := by
    obtain ⟨t1, t2, t3, t4, t5, t6⟩ := id hs'
    unfold sdA sdB; omega
  have q3 := h3 k m l w kk tb hs hb (Nat.le_trans (pow_mono (by omega) (by omega)) hfit)
  have q3' := h3 k m' l w' k' tb' hs' hb' (Nat.le_trans (pow_mono (by omega) (by omega)) hfit)
  have q4 := h4 (k + 2) l (sdA w w' + 1 + sdB w kk w' k') s2 hfit hn
  have e0 : ((sdA w w' : Nat) : Int) + 1 + ((sdB w kk w' k' : Nat) : Int) = ((sdA w w' + 1 + sdB w kk w' k' : Nat) : Int) := by omega
  have hlT := txt_len l s2 (sdA w w' + 1 + sdB w kk w' k')
  have g1 : ∀ t ∈ txt l (sdA w w' + 1 + sdB w kk w' k'), idxF (stD l w kk tb) (.str (win (2 * w + kk - 2) t (sdA w w' - (w - 1)))) = some (.bl (pA l w kk tb (sdA w w') t)) := fun t ht => st_get (win_txt ht (by omega))
  have g2 : ∀ t ∈ txt l (sdA w w' + 1 + sdB w kk w' k'), idxF (stD l w' k' tb') (.str (win (2 * w' + k' - 2) t (sdA w w' - (w' - 1)))) = some (.bl (pA l w' k' tb' (sdA w w') t)) := fun t ht => st_get (win_txt ht (by omega))
  have hT : ulX l w kk tb w' k' tb' = (txt l (sdA w w' + 1 + sdB w kk w' k')).filter fun t => pA l w kk tb (sdA w w') t != pA l w' k' tb' (sdA w w') t := rfl
  rw [hT]
  have a1 : ∀ t ∈ txt l (sdA w w' + 1 + sdB w kk w' k'), runF P fns fu (k + 4) ca [rulM m l w kk tb, .str t, .int (sdA w w' : Nat)] = .ok (.str (win (2 * w + kk - 2) t (sdA w w' - (w - 1)))) [fin m (rulM m l w kk tb), none, none] := fun t ht => h1 (k + 3) m l w kk tb t (sdA w w') hs f1 (by have := (txt_mem.mp ht).1; omega)
  have a2 : ∀ t ∈ txt l (sdA w w' + 1 + sdB w kk w' k'), runF P fns fu (k + 4) ca [rulM m' l w' k' tb', .str t, .int (sdA w w' : Nat)] = .ok (.str (win (2 * w' + k' - 2) t (sdA w w' - (w' - 1)))) [fin m' (rulM m' l w' k' tb'), none, none] := fun t ht => h1 (k + 3) m' l w' k' tb' t (sdA w w') hs' f2 (by have := (txt_mem.mp ht).1; omega)
  generalize pA l w kk tb (sdA w w') = p at g1 ⊢
  generalize pA l w' k' tb' (sdA w w') = q at g2 ⊢
  have hstD : ∀ (w k : Nat) (tb : List Int), owned (stD l w k tb) = true := fun _ _ _ => rfl
  have hs1 := hstD w kk tb
  have hs2 := hstD w' k' tb'
  generalize hsx : stD l w kk tb = s1x at *
  generalize hsy : stD l w' k' tb' = s2x at *
  generalize hn' : sdA w w' + 1 + sdB w kk w' k' = N at *
  generalize sdA w w' = A at *
  generalize sdB w kk w' k' = B at *
  have loop : ∃ x3 x8, evS P (runF P fns fu (k + 4)) fu (ownL [rulM m l w kk tb, rulM m' l w' k' tb'] 0) (B_unlike_texts_1 ca cx) [some (rulM m l w kk tb), some (rulM m' l w' k' tb'), some (.lst true []), none, some (.int A), some (.int B), some s1x, some s2x, none] = .ok .nx [some (rulM m l w kk tb), some (rulM m' l w' k' tb'), some (.lst true (((txt l N).filter fun t => p t != q t).map (ulD p q))), x3, some (.int A), some (.int B), some s1x, some s2x, x8] := by
    unfold B_unlike_texts_1
    rw [for_eq (is := (txt l N).map .str) (e1 := [some (rulM m l w kk tb), some (rulM m' l w' k' tb'), some (.lst true []), none, some (.int A), some (.int B), some s1x, some s2x, none]) (by
      cases m <;> cases m' <;> simp [doCall, e0, q4, items_list, isFL_str])]
    obtain ⟨e', b, x3, x8, pre, hp1, he⟩ := loopF_go (f := D.str) (body := forB P (runF P fns fu (k + 4)) fu (ownL [rulM m l w kk tb, rulM m' l w' k' tb'] 0) (.tName 3) (.seq (.asg (.tName 8) (.tupD (.cons (.idx (.pk 6) (.ov (.call ca (.cons (.pk 0) (.cons (.pk 3) (.cons (.pk 4) .nil)))))) (.cons (.idx (.pk 7) (.ov (.call ca (.cons (.pk 1) (.cons (.pk 3) (.cons (.pk 4) .nil)))))) .nil)))) (.ifS (.tv (.cmp .NotEq (.ov (.idx (.pk 8) (.ov (.cst (.int (0)))))) (.ov (.idx (.pk 8) (.ov (.cst (.int (1)))))))) (.ex (.app 2 (.tupD (.cons (.var 3) (.cons (.var 8) .nil))))) .pas)))
      (I := fun cs e => ∃ x3 x8 pre, txt l N = pre ++ cs ∧ e = [some (rulM m l w kk tb), some (rulM m' l w' k' tb'), some (.lst true ((pre.filter fun t => p t != q t).map (ulD p q))), x3, some (.int A), some (.int B), some s1x, some s2x, x8])
      (fun t cs e ⟨x3, x8, pre, hp, he⟩ => by
        subst he
        have ht : t ∈ txt l N := by rw [hp]; simp
        have b1 := a1 t ht
        have b2 := a2 t ht
        have c1 := g1 t ht
        have c2 := g2 t ht
        have hle : (pre.filter fun t => p t != q t).length ≤ 4096 := by
          have := congrArg List.length hp
          rw [List.length_append] at this
          have := List.length_filter_le (fun t => p t != q t) pre
          omega
        refine ⟨[some (rulM m l w kk tb), some (rulM m' l w' k' tb'), some (.lst true (((pre ++ [t]).filter fun t => p t != q t).map (ulD p q))), some (.str t), some (.int A), some (.int B), some s1x, some s2x, some (.tup [.bl (p t), .bl (q t)])], ?_, _, _, pre ++ [t], by rw [hp]; simp, rfl⟩
        rw [forB_eq, List.filter_append]
        generalize (pre.filter fun t => p t != q t) = fs at hle
        have hk : fs.length < 100000 := by omega
        cases hpt : p t <;> cases hqt : q t <;> cases m <;> cases m' <;> simp [doCall, b1, b2, c1, c2, hpt, hqt, hk, ulD]) (txt l N) _ ⟨none, none, [], rfl, rfl⟩
    rw [List.append_nil] at hp1
    subst hp1 he
    exact ⟨x3, x8, b⟩
  obtain ⟨x3, x8, loop⟩ := loop
  rw [run_eq hf rfl rfl]
  cases m <;> cases m' <;> simp at loop <;> simp [F_unlike_texts, doCall, q2, q3, q3', loop]
theorem ulX_len {l w k : Nat} {tb : List Int} {w' k' : Nat} {tb' : List Int} (hl : l ≤ 4) (hfit : l ^ (sdA w w' + 1 + sdB w k w' k') ≤ 4096) : (ulX l w k tb w' k' tb').length ≤ 4096 := by
  have h := List.length_filter_le (fun t => pA l w k tb (sdA w w') t != pA l w' k' tb' (sdA w w') t) (txt l (sdA w w' + 1 + sdB w k w' k'))
  rw [txt_len l hl] at h
  exact Nat.le_trans h hfit
def SpAlike (c : Call) (i : Nat) : Prop := ∀ (m : Bool) (l w k : Nat) (tb : List Int) (m' : Bool) (w' k' : Nat) (tb' : List Int), OkS l w k → OkS l w' k' → tb.length = l ^ (w + k - 1) → tb'.length = l ^ (w' + k' - 1) → l ^ (sdA w w' + 1 + sdB w k w' k') ≤ 4096 →
  c i [rulM m l w k tb, rulM m' l w' k' tb'] = .ok (.bl (ulX l w k tb w' k' tb').isEmpty) [fin m (rulM m l w k tb), fin m' (rulM m' l w' k' tb')]
theorem len_empty {α : Type} (xs : List α) : ((xs.length : Int) == 0) = xs.isEmpty := by cases xs <;> simp <;> omega
theorem sp_alike {cu : Nat} (h1 : ∀ k, SpUnlike (runF P fns fu (k + 5)) cu) (hf : fns[i]? = some (F_alike cu)) (k : Nat) : SpAlike (runF P fns fu (k + 6)) i := fun m l w kk tb m' w' k' tb' hs hs' hb hb' hfit => by
  have q := h1 k m l w kk tb m' w' k' tb' hs hs' hb hb' hfit
  have he := len_empty (ulX l w kk tb w' k' tb')
  have hm := isFL_ulD (pA l w kk tb (sdA w w')) (pA l w' k' tb' (sdA w w')) (ulX l w kk tb w' k' tb')
  generalize ulX l w kk tb w' k' tb' = us at q he hm ⊢
  rw [run_eq hf rfl rfl]
  cases m <;> cases m' <;> simp [F_alike, doCall, q, he]
theorem flat_mapD {α : Type} (g : α → D) (l : List α) : (l.flatMap fun x => [g x]) = l.map g := by
  induction l with
  | nil => rfl
  | cons x l ih => rw [List.flatMap_cons, ih]; rfl
theorem bools_map {α : Type} (p : α → Bool) : ∀ xs : List α, boolsOf (xs.map fun x => D.bl (p x)) = some (xs.map p)
  | [] => rfl
  | x :: xs => by rw [List.map_cons, boolsOf, bools_map p xs]; rfl
def SpNoMore (c : Call) (i : Nat) : Prop := ∀ (m : Bool) (l w k : Nat) (tb : List Int) (m' : Bool) (w' k' : Nat) (tb' : List Int), OkS l w k → OkS l w' k' → tb.length = l ^ (w + k - 1) → tb'.length = l ^ (w' + k' - 1) → l ^ (sdA w w' + 1 + sdB w k w' k') ≤ 4096 →
  c i [rulM m l w k tb, rulM m' l w' k' tb'] = .ok (.bl (!(ulX l w k tb w' k' tb').any (pA l w k tb (sdA w w')))) [fin m (rulM m l w k tb), fin m' (rulM m' l w' k' tb')]
theorem sp_no_more {cu : Nat} (h1 : ∀ k, SpUnlike (runF P fns fu (k + 5)) cu) (hf : fns[i]? = some (F_no_more cu)) (k : Nat) : SpNoMore (runF P fns fu (k + 6)) i := fun m l w kk tb m' w' k' tb' hs hs' hb hb' hfit => by
  have q := h1 k m l w kk tb m' w' k' tb' hs hs' hb hb' hfit
  have hle := ulX_len (tb := tb) (tb' := tb') hs.2.1 hfit
  have hm := isFL_ulD (pA l w kk tb (sdA w w')) (pA l w' k' tb' (sdA w w')) (ulX l w kk tb w' k' tb')
  generalize ulX l w kk tb w' k' tb' = us at q hle hm ⊢
  generalize pA l w kk tb (sdA w w') = p1 at q hm ⊢
  generalize pA l w' k' tb' (sdA w w') = p2 at q hm ⊢
  have comp : evE P (runF P fns fu (k + 5)) (E_no_more_1 cu) [some (rulM m l w kk tb), some (rulM m' l w' k' tb'), none, none] = .ok (.lst true (us.map fun t => .bl (p1 t))) [some (rulM m l w kk tb), some (rulM m' l w' k' tb'), none, none] := by
    unfold E_no_more_1
    refine (lc_eq (is := us.map (ulD p1 p2)) (e1 := [some (rulM m l w kk tb), some (rulM m' l w' k' tb'), none, none]) (ys := us.flatMap fun t => [D.bl (p1 t)]) (e2 := [some (rulM m l w kk tb), some (rulM m' l w' k' tb'), none, none]) ?_ ?_ ?_ ?_).trans ?_
    · cases m <;> cases m' <;> simp [doCall, q, items_list hm]
    · simp [freeS_cons]
    · refine loopC_map us fun t _ => ?_
      rw [stepC_eq]
      simp [ulD]
    · rw [flat_mapD, List.length_map]; omega
    · rw [flat_mapD]; simp
  have hb2 : biD .any [.lst true (us.map fun t => .bl (p1 t))] = some (.bl (us.any p1)) := by
    show (boolsOf (us.map fun t => D.bl (p1 t))).map _ = _
    rw [bools_map]
    simp [List.any_map]
  rw [run_eq hf rfl rfl]
  cases m <;> cases m' <;> simp [F_no_more, comp, hb2]
def SpParting (c : Call) (i : Nat) : Prop := ∀ (m : Bool) (l w k : Nat) (tb : List Int) (m' : Bool) (w' k' : Nat) (tb' : List Int), OkS l w k → OkS l w' k' → tb.length = l ^ (w + k - 1) → tb'.length = l ^ (w' + k' - 1) → l ^ (sdA w w' + 1 + sdB w k w' k') ≤ 4096 →
  c i [rulM m l w k tb, rulM m' l w' k' tb'] = .ok (match ulX l w k tb w' k' tb' with | [] => .non | t :: _ => .tup [.str t, .int (sdA w w' : Nat)]) [fin m (rulM m l w k tb), fin m' (rulM m' l w' k' tb')]
theorem sp_parting {cs cu : Nat} (h1 : ∀ k, SpUnlike (runF P fns fu (k + 5)) cu) (h2 : ∀ k, SpSides (runF P fns fu (k + 1)) cs) (hf : fns[i]? = some (F_parting cs cu)) (k : Nat) : SpParting (runF P fns fu (k + 6)) i := fun m l w kk tb m' w' k' tb' hs hs' hb hb' hfit => by
  have q := h1 k m l w kk tb m' w' k' tb' hs hs' hb hb' hfit
  have q2 := h2 (k + 4) m l w kk tb m' l w' k' tb' hs hs'
  generalize ulX l w kk tb w' k' tb' = us at q ⊢
  rw [run_eq hf rfl rfl]
  cases us with
  | nil => cases m <;> cases m' <;> simp [F_parting, doCall, q]
  | cons u us => 
    have hn : ¬ ((us.length : Int) + 1 = 0) := by omega
    cases m <;> cases m' <;> simp [F_parting, doCall, q, q2, hn, ulD]
end
end Wpk.M
set_option Elab.async false
set_option linter.all false
set_option maxRecDepth 100000
/-! M17: the rounds of a law; two rules compared, by data. -/
namespace Wpk.M
open PySem
section
variable {P : Pg} {c : Nat → List D → R D} {fu : Nat}
/-- for k in range(max(1, min(M, len(script)))) -/
abbrev itR (M : Int) : T := .cons (.bi .max (.cons (.ov (.cst (.int (1)))) (.cons (.ov (.bi .min (.cons (.ov (.cst (.int M))) (.cons (.ov (.bi .len (.cons (.pk 0) .nil))) .nil)))) .nil))) .nil
theorem rounds3 {M : Nat} {body : T} {ns : List Int} (I : List (Option D) → Prop) (h1 : 1 ≤ M) (hM : M ≤ 10) (h : ∀ (j : Nat), j < 10 → ∀ r : List (Option D), I r → ∃ r', I r' ∧ evS P c fu [] body (some (.ksq (ns.map .int)) :: some (.int j) :: r) = .ok .nx (some (.ksq (ns.map .int)) :: some (.int j) :: r'))
    (r : List (Option D)) (x : Option D) (hr : I r) : ∃ e, evS P c fu [] (.forS (.tName 1) .range (itR M) body) (some (.ksq (ns.map .int)) :: x :: r) = .ok .nx (some (.ksq (ns.map .int)) :: e) := by
  obtain ⟨t, ht, hle⟩ : ∃ t : Nat, (if (if (ns.length : Int) < (M : Int) then (ns.length : Int) else (M : Int)) > 1 then (if (ns.length : Int) < (M : Int) then (ns.length : Int) else (M : Int)) else 1) = (t : Int) ∧ t ≤ 10 := by
    by_cases a1 : ns.length < M
    · by_cases a2 : 1 < ns.length
      · exact ⟨ns.length, by rw [if_pos (by omega : (ns.length : Int) < (M : Int)), if_pos (by omega)], by omega⟩
      · exact ⟨1, by rw [if_pos (by omega : (ns.length : Int) < (M : Int)), if_neg (by omega)]; rfl, by omega⟩
    · by_cases a2 : 1 < M
      · exact ⟨M, by rw [if_neg (by omega : ¬ (ns.length : Int) < (M : Int)), if_pos (by omega)], by omega⟩
      · exact ⟨1, by rw [if_neg (by omega : ¬ (ns.length : Int) < (M : Int)), if_neg (by omega)]; rfl, by omega⟩
  rw [for_eq (is := (List.range t).map fun (i : Nat) => D.int i) (e1 := some (.ksq (ns.map .int)) :: x :: r) (by
    simp only [itR, semIt_eq, evVs_cons, semVc_eq, kVc_eq, evE_bi, semBi_eq, evOs_cons, semOc_eq, evO_ov, semOv_eq, evE_cst, bind_ok, evOs_nil, evO_pk, semPk_eq, get_zero, resL_cons, resL_nil, res_val, res_slot, bi_len_k, of_some, bi_min_i, bi_max_i, evVs_nil, List.length_map]
    rw [ht, items_range (by omega)]
    simp)]
  obtain ⟨e', b, x', r', hr', he⟩ := loop_range0 (n := t) (body := forB P c fu [] (.tName 1) body)
    (I := fun j e => ∃ (x' : Option D) (r' : List (Option D)), I r' ∧ e = some (.ksq (ns.map .int)) :: x' :: r') (e := some (.ksq (ns.map .int)) :: x :: r)
    (fun j e hj ⟨x', r', hr', he⟩ => by
      subst he
      obtain ⟨r2, h2, q⟩ := h j (by omega) r' hr'
      refine ⟨_, ?_, some (.int j), r2, h2, rfl⟩
      rw [forB_eq]
      simp [q]) ⟨x, r, hr, rfl⟩
  subst he
  exact ⟨_, b⟩
end
section
variable {P : Pg} {c : Nat → List D → R D} {x : T} {e : Env} {m : Env → R D}
@[simp] theorem evE_fz : evE P c (.fz x) e = semFz (evE P c x) e := (rfl)
@[simp] theorem semFz_eq : semFz m e = (m e).bind fun d e1 => .ok (frz d) e1 := (rfl)
end
/-! ### rules by data -/
/-- w, k, the table -/
abbrev Ru := Nat × Nat × List Int
def rD (m : Bool) (l : Nat) (r : Ru) : D := rulM m l r.1 r.2.1 r.2.2
def okR (l : Nat) (r : Ru) : Bool := okS (l, r.1, r.2.1) && decide (r.2.2.length = l ^ (r.1 + r.2.1 - 1))
def okR2 (l : Nat) (a b : Ru) : Bool := okR l a && okR l b && decide (l ^ (sdA a.1 b.1 + 1 + sdB a.1 a.2.1 b.1 b.2.1) ≤ 4096)
def uR (l : Nat) (a b : Ru) : List (List Nat) := ulX l a.1 a.2.1 a.2.2 b.1 b.2.1 b.2.2
def alR (l : Nat) (a b : Ru) : Bool := (uR l a b).isEmpty
def nmR (l : Nat) (a b : Ru) : Bool := !(uR l a b).any (pA l a.1 a.2.1 a.2.2 (sdA a.1 b.1))
def paR (l : Nat) (a b : Ru) : D := match uR l a b with | [] => .non | t :: _ => .tup [.str t, .int (sdA a.1 b.1 : Nat)]
section
variable {l : Nat} {a b : Ru} {m m' : Bool}
@[simp] theorem owned_rD : owned (rD m l a) = m := (rfl)
@[simp] theorem frz_rD : frz (rD m l a) = rD false l a := by rw [rD, frz_rulM]; rfl
@[simp] theorem isF_rD : isF (rD m l a) = !m := by cases m <;> simp [rD, rulM, isFL_int]
theorem okR_s (h : okR l a = true) : OkS l a.1 a.2.1 ∧ a.2.2.length = l ^ (a.1 + a.2.1 - 1) := by
  unfold okR at h
  rw [Bool.and_eq_true, decide_eq_true_eq] at h
  exact ⟨okS_of h.1, h.2⟩
theorem okR2_s (h : okR2 l a b = true) : (OkS l a.1 a.2.1 ∧ a.2.2.length = l ^ (a.1 + a.2.1 - 1)) ∧ (OkS l b.1 b.2.1 ∧ b.2.2.length = l ^ (b.1 + b.2.1 - 1)) ∧ l ^ (sdA a.1 b.1 + 1 + sdB a.1 a.2.1 b.1 b.2.1) ≤ 4096 := by
  unfold okR2 at h
  rw [Bool.and_eq_true, Bool.and_eq_true, decide_eq_true_eq] at h
  exact ⟨okR_s h.1.1, okR_s h.1.2, h.2⟩
theorem al_ok {c : Call} {i : Nat} (h : SpAlike c i) (ok : okR2 l a b = true) : c i [rD m l a, rD m' l b] = .ok (.bl (alR l a b)) [fin m (rD m l a), fin m' (rD m' l b)] := by
  obtain ⟨a1, b1, f⟩ := okR2_s ok
  exact h m l a.1 a.2.1 a.2.2 m' b.1 b.2.1 b.2.2 a1.1 b1.1 a1.2 b1.2 f
theorem nm_ok {c : Call} {i : Nat} (h : SpNoMore c i) (ok : okR2 l a b = true) : c i [rD m l a, rD m' l b] = .ok (.bl (nmR l a b)) [fin m (rD m l a), fin m' (rD m' l b)] := by
  obtain ⟨a1, b1, f⟩ := okR2_s ok
  exact h m l a.1 a.2.1 a.2.2 m' b.1 b.2.1 b.2.2 a1.1 b1.1 a1.2 b1.2 f
theorem pa_ok {c : Call} {i : Nat} (h : SpParting c i) (ok : okR2 l a b = true) : c i [rD m l a, rD m' l b] = .ok (paR l a b) [fin m (rD m l a), fin m' (rD m' l b)] := by
  obtain ⟨a1, b1, f⟩ := okR2_s ok
  exact h m l a.1 a.2.1 a.2.2 m' b.1 b.2.1 b.2.2 a1.1 b1.1 a1.2 b1.2 f
theorem ip_ok {c : Call} {i : Nat} {t : List Nat} (h : SpIsPicked c i) (ok : okR l a = true) (ht : ∀ c ∈ t, c ∈ ab l) (hl : t.length ≤ 10000) : c i [rD m l a, .str t] = .ok (.bl (pkB l a.1 a.2.1 a.2.2 t)) [fin m (rD m l a), none] := by
  obtain ⟨a1, a2⟩ := okR_s ok
  exact h m l a.1 a.2.1 a.2.2 t a1 a2 ht hl
end
end Wpk.M
set_option Elab.async false
set_option linter.all false
set_option maxRecDepth 100000
/-! M18: what one changed letter moves. -/
namespace Wpk.M
open PySem
def E_many_moved_1 : T := .lc [5] (.tName 5) .range (.cons (.var 4) .nil) (.tv (.cmp .NotEq (.ov (.idx (.pk 1) (.ov (.slc (.pk 2) (.ov (.var 5)) (.ov (.op .Add (.pk 5) (.pk 4))))))) (.ov (.idx (.pk 1) (.ov (.slc (.pk 3) (.ov (.var 5)) (.ov (.op .Add (.pk 5) (.pk 4))))))))) (.cst (.int (1)))
def F_many_moved : Fd := ⟨4, 6, (.seq (.asg (.tName 4) (.op .Sub (.ov (.op .Add (.ov (.op .Mult (.ov (.cst (.int (2)))) (.ov (.fld [0] "w" (.pk 0))))) (.ov (.fld [0] "k" (.pk 0))))) (.ov (.cst (.int (2)))))) (.ret (.bi .len (.cons (.ov (E_many_moved_1)) .nil))))⟩
def B_most_moved_1 (c_alphabet c_many_moved : Nat) : T := .forS (.tName 5) .plain (.cons (.call c_alphabet (.cons (.ov (.fld [0] "letters" (.pk 0))) .nil)) .nil) (.seq (.asg (.tName 6) (.call c_many_moved (.cons (.pk 0) (.cons (.pk 2) (.cons (.pk 1) (.cons (.ov (.op .Add (.ov (.op .Add (.ov (.slc (.pk 1) .nil (.ov (.var 3)))) (.pk 5))) (.ov (.slc (.pk 1) (.ov (.op .Add (.pk 3) (.ov (.cst (.int (1)))))) .nil)))) .nil)))))) (.ifS (.tor (.tv (.cmp .Is (.pk 4) (.ov (.cst .non)))) (.tv (.cmp .Gt (.pk 6) (.ov (.idx (.pk 4) (.ov (.cst (.int (2))))))))) (.asg (.tName 4) (.tupD (.cons (.var 1) (.cons (.var 5) (.cons (.var 6) .nil))))) .pas))
def B_most_moved_2 (c_alphabet c_many_moved c_texts_of : Nat) : T := .forS (.tName 1) .plain (.cons (.call c_texts_of (.cons (.ov (.fld [0] "letters" (.pk 0))) (.cons (.ov (.op .Add (.ov (.op .Mult (.ov (.cst (.int (2)))) (.pk 3))) (.ov (.cst (.int (1)))))) .nil))) .nil) (B_most_moved_1 c_alphabet c_many_moved)
def F_most_moved (c_alphabet c_many_moved c_status c_texts_of : Nat) : Fd := ⟨1, 7, (.seq (.par [2, 3, 4] (.cons (.call c_status (.cons (.pk 0) .nil)) (.cons (.op .Sub (.ov (.op .Add (.ov (.op .Mult (.ov (.cst (.int (2)))) (.ov (.fld [0] "w" (.pk 0))))) (.ov (.fld [0] "k" (.pk 0))))) (.ov (.cst (.int (3))))) (.cons (.cst .non) .nil)))) (.seq (B_most_moved_2 c_alphabet c_many_moved c_texts_of) (.retV 4)))⟩
def F_greatest_moved (c_most_moved : Nat) : Fd := ⟨1, 1, (.ret (.idx (.ov (.call c_most_moved (.cons (.pk 0) .nil))) (.ov (.cst (.int (2))))))⟩
section
variable {P : Pg} {fns : List Fd} {fu k i : Nat}
/-- how many of the places around a letter are picked in one of two texts alone -/
def mmN (l w k : Nat) (tb : List Int) (t u : List Nat) : Nat := ((List.range (2 * w + k - 2)).filter fun a => pkB l w k tb (win (2 * w + k - 2) t a) != pkB l w k tb (win (2 * w + k - 2) u a)).length
theorem flat_if1 {α : Type} (p : α → Bool) (d : D) : ∀ l : List α, (l.flatMap fun x => if p x = true then [d] else []).length = (l.filter p).length
  | [] => rfl
  | x :: l => by
    rw [List.flatMap_cons, List.length_append, flat_if1 p d l, List.filter_cons]
    cases p x <;> simp <;> omega
def SpMany (c : Call) (i : Nat) : Prop := ∀ (m : Bool) (l w k : Nat) (tb : List Int) (t u : List Nat), OkS l w k → t ∈ txt l (2 * (2 * w + k - 3) + 1) → u ∈ txt l (2 * (2 * w + k - 3) + 1) →
  c i [rulM m l w k tb, stD l w k tb, .str t, .str u] = .ok (.int (mmN l w k tb t u : Nat)) [fin m (rulM m l w k tb), some (stD l w k tb), none, none]
theorem sp_many (hf : fns[i]? = some F_many_moved) (k : Nat) : SpMany (runF P fns fu (k + 1)) i := fun m l w kk tb t u hs ht hu => by
  obtain ⟨s1, s2, s3, s4, s5, s6⟩ := hs
  have hmul : opD .Mult (.int 2) (.int (w : Int)) = some (.int (2 * (w : Int))) := by rw [op_mul_ii, if_pos (by omega)]
  have e0 : 2 * (w : Int) + (kk : Int) - 2 = ((2 * w + kk - 2 : Nat) : Int) := by omega
  have tl := (txt_mem.mp ht).1
  have ul := (txt_mem.mp hu).1
  have oS : owned (stD l w kk tb) = true := rfl
  have g1 : ∀ a < 2 * w + kk - 2, idxF (stD l w kk tb) (.str (win (2 * w + kk - 2) t a)) = some (.bl (pkB l w kk tb (win (2 * w + kk - 2) t a))) := fun a ha => st_get (win_txt ht (by omega))
  have g2 : ∀ a < 2 * w + kk - 2, idxF (stD l w kk tb) (.str (win (2 * w + kk - 2) u a)) = some (.bl (pkB l w kk tb (win (2 * w + kk - 2) u a))) := fun a ha => st_get (win_txt hu (by omega))
  have sl : ∀ (t : List Nat) (a : Nat), t.length = 2 * (2 * w + kk - 3) + 1 → slcD (.str t) (some (a : Int)) (some ((a : Int) + ((2 * w + kk - 2 : Nat) : Int))) = some (.str (win (2 * w + kk - 2) t a)) := fun t a h => by
    show (if t.length ≤ LN then some (D.str (cutL t _ _)) else none) = _
    rw [if_pos (by rw [LN_eq]; omega), cut_mid]
    rfl
  generalize hS : stD l w kk tb = S at *
  have comp : evE P (runF P fns fu k) E_many_moved_1 [some (rulM m l w kk tb), some S, some (.str t), some (.str u), some (.int ((2 * w + kk - 2 : Nat) : Int)), none] = .ok (.lst true ((List.range (2 * w + kk - 2)).flatMap fun a => if (pkB l w kk tb (win (2 * w + kk - 2) t a) != pkB l w kk tb (win (2 * w + kk - 2) u a)) = true then [D.int 1] else [])) [some (rulM m l w kk tb), some S, some (.str t), some (.str u), some (.int ((2 * w + kk - 2 : Nat) : Int)), none] := by
    unfold E_many_moved_1
    refine (lc_eq (is := (List.range (2 * w + kk - 2)).map fun (i : Nat) => D.int i) (e1 := [some (rulM m l w kk tb), some S, some (.str t), some (.str u), some (.int ((2 * w + kk - 2 : Nat) : Int)), none]) (ys := (List.range (2 * w + kk - 2)).flatMap fun a => if (pkB l w kk tb (win (2 * w + kk - 2) t a) != pkB l w kk tb (win (2 * w + kk - 2) u a)) = true then [D.int 1] else []) (e2 := [some (rulM m l w kk tb), some S, some (.str t), some (.str u), some (.int ((2 * w + kk - 2 : Nat) : Int)), none]) ?_ ?_ ?_ ?_).trans ?_
    · simp [items_range (j := ((2 * w + kk - 2 : Nat) : Int)) (by omega)]
    · simp [freeS_cons]
    · refine loopC_map _ fun a ha => ?_
      have ha := List.mem_range.mp ha
      have b1 := g1 a ha
      have b2 := g2 a ha
      have c1 := sl t a tl
      have c2 := sl u a ul
      generalize win (2 * w + kk - 2) t a = w1 at *
      generalize win (2 * w + kk - 2) u a = w2 at *
      generalize 2 * w + kk - 2 = N at *
      rw [stepC_eq]
      cases h1 : pkB l w kk tb w1 <;> cases h2 : pkB l w kk tb w2 <;> simp [c1, c2, b1, b2, h1, h2]
    · have := flat_if1 (fun a => pkB l w kk tb (win (2 * w + kk - 2) t a) != pkB l w kk tb (win (2 * w + kk - 2) u a)) (D.int 1) (List.range (2 * w + kk - 2))
      rw [this]
      have := List.length_filter_le (fun a => pkB l w kk tb (win (2 * w + kk - 2) t a) != pkB l w kk tb (win (2 * w + kk - 2) u a)) (List.range (2 * w + kk - 2))
      rw [List.length_range] at this
      omega
    · simp
  have hlen := flat_if1 (fun a => pkB l w kk tb (win (2 * w + kk - 2) t a) != pkB l w kk tb (win (2 * w + kk - 2) u a)) (D.int 1) (List.range (2 * w + kk - 2))
  rw [show ((List.range (2 * w + kk - 2)).filter fun a => pkB l w kk tb (win (2 * w + kk - 2) t a) != pkB l w kk tb (win (2 * w + kk - 2) u a)).length = mmN l w kk tb t u from rfl] at hlen
  rw [run_eq hf rfl rfl]
  generalize ((List.range (2 * w + kk - 2)).flatMap fun a => if (pkB l w kk tb (win (2 * w + kk - 2) t a) != pkB l w kk tb (win (2 * w + kk - 2) u a)) = true then [D.int 1] else []) = ys at *
  cases m <;> simp [F_many_moved, hmul, e0, comp, hlen, oS]
/-! ### the greatest number -/
abbrev Fd3 := Option (List Nat × Nat × Nat)
def fD : Fd3 → D
  | none => .non
  | some (t, c, m) => .tup [.str t, .str [c], .int m]
def stepM (g : List Nat → Nat → Nat) (t : List Nat) (f : Fd3) (c : Nat) : Fd3 := match f with
  | none => some (t, c, g t c)
  | some (t0, c0, m0) => if m0 < g t c then some (t, c, g t c) else some (t0, c0, m0)
def bestM (g : List Nat → Nat → Nat) (cs : List Nat) (ts : List (List Nat)) (f : Fd3) : Fd3 := ts.foldl (fun f t => cs.foldl (stepM g t) f) f
/-- f is the greatest of what it has seen -/
def IsB (g : List Nat → Nat → Nat) (s : List Nat → Nat → Prop) (f : Fd3) : Prop := match f with
  | none => ∀ t c, ¬ s t c
  | some (t, c, m) => s t c ∧ m = g t c ∧ ∀ t' c', s t' c' → g t' c' ≤ m
theorem isB_step {g : List Nat → Nat → Nat} {s : List Nat → Nat → Prop} {f : Fd3} {t : List Nat} {c : Nat} (h : IsB g s f) : IsB g (fun t' c' => s t' c' ∨ (t' = t ∧ c' = c)) (stepM g t f c) := by
  cases f with
  | none => exact ⟨.inr ⟨rfl, rfl⟩, rfl, fun t' c' z => z.elim (fun z => absurd z (h t' c')) fun ⟨a, b⟩ => by rw [a, b]; exact Nat.le_refl _⟩
  | some q =>
    obtain ⟨t0, c0, m0⟩ := q
    obtain ⟨h1, h2, h3⟩ := h
    unfold stepM
    dsimp only
    by_cases hc : m0 < g t c
    · rw [if_pos hc]
      exact ⟨.inr ⟨rfl, rfl⟩, rfl, fun t' c' z => z.elim (fun z => Nat.le_of_lt (Nat.lt_of_le_of_lt (h3 t' c' z) hc)) fun ⟨a, b⟩ => by rw [a, b]; exact Nat.le_refl _⟩
    · rw [if_neg hc]
      exact ⟨.inl h1, h2, fun t' c' z => z.elim (h3 t' c') fun ⟨a, b⟩ => by rw [a, b]; omega⟩
theorem isB_cs {g : List Nat → Nat → Nat} {t : List Nat} : ∀ (cs : List Nat) {s : List Nat → Nat → Prop} {f : Fd3}, IsB g s f → IsB g (fun t' c' => s t' c' ∨ (t' = t ∧ c' ∈ cs)) (cs.foldl (stepM g t) f)
  | [], s, f, h => by
    have e : (fun t' c' => s t' c' ∨ (t' = t ∧ c' ∈ ([] : List Nat))) = s := by funext a b; simp
    rw [e]; exact h
  | c :: cs, s, f, h => by
    have := isB_cs (t := t) cs (isB_step (t := t) (c := c) h)
    have e : (fun t' c' => (s t' c' ∨ (t' = t ∧ c' = c)) ∨ (t' = t ∧ c' ∈ cs)) = (fun t' c' => s t' c' ∨ (t' = t ∧ c' ∈ c :: cs)) := by
      funext a b
      simp only [List.mem_cons]
      apply propext
      constructor
      · rintro ((z | ⟨z1, z2⟩) | ⟨z1, z2⟩)
        · exact .inl z
        · exact .inr ⟨z1, .inl z2⟩
        · exact .inr ⟨z1, .inr z2⟩
      · rintro (z | ⟨z1, z2 | z2⟩)
        · exact .inl (.inl z)
        · exact .inl (.inr ⟨z1, z2⟩)
        · exact .inr ⟨z1, z2⟩
    rw [e] at this
    exact this
theorem isB_ts {g : List Nat → Nat → Nat} {cs : List Nat} : ∀ (ts : List (List Nat)) {s : List Nat → Nat → Prop} {f : Fd3}, IsB g s f → IsB g (fun t' c' => s t' c' ∨ (t' ∈ ts ∧ c' ∈ cs)) (bestM g cs ts f)
  | [], s, f, h => by
    have e : (fun t' c' => s t' c' ∨ (t' ∈ ([] : List (List Nat)) ∧ c' ∈ cs)) = s := by funext a b; simp
    rw [e]; exact h
  | t :: ts, s, f, h => by
    have := isB_ts (cs := cs) ts (isB_cs (t := t) cs h)
    have e : (fun t' c' => (s t' c' ∨ (t' = t ∧ c' ∈ cs)) ∨ (t' ∈ ts ∧ c' ∈ cs)) = (fun t' c' => s t' c' ∨ (t' ∈ t :: ts ∧ c' ∈ cs)) := by
      funext a b
      simp only [List.mem_cons]
      apply propext
      constructor
      · rintro ((z | ⟨z1, z2⟩) | ⟨z1, z2⟩)
        · exact .inl z
        · exact .inr ⟨.inl z1, z2⟩
        · exact .inr ⟨.inr z1, z2⟩
      · rintro (z | ⟨z1 | z1, z2⟩)
        · exact .inl (.inl z)
        · exact .inl (.inr ⟨z1, z2⟩)
        · exact .inr ⟨z1, z2⟩
    rw [e] at this
    exact this
/-- what a changed letter moves amid a text -/
def mvN (l w k : Nat) (tb : List Int) (t : List Nat) (c : Nat) : Nat := mmN l w k tb t (chg t (2 * w + k - 3) [c])
def mostM (l w k : Nat) (tb : List Int) : Fd3 := bestM (mvN l w k tb) (ab l) (txt l (2 * (2 * w + k - 3) + 1)) none
theorem mostM_is {l w k : Nat} {tb : List Int} (hl : 1 ≤ l) : ∃ t c, mostM l w k tb = some (t, c, mvN l w k tb t c) ∧ t ∈ txt l (2 * (2 * w + k - 3) + 1) ∧ c ∈ ab l ∧ ∀ t' ∈ txt l (2 * (2 * w + k - 3) + 1), ∀ c' ∈ ab l, mvN l w k tb t' c' ≤ mvN l w k tb t c := by
  have h : IsB (mvN l w k tb) (fun _ _ => False) none := fun _ _ z => z
  have h2 := isB_ts (cs := ab l) (txt l (2 * (2 * w + k - 3) + 1)) h
  unfold mostM
  cases hb : bestM (mvN l w k tb) (ab l) (txt l (2 * (2 * w + k - 3) + 1)) none with
  | none =>
    rw [hb] at h2
    have h97 : 97 ∈ ab l := by
      unfold ab abc
      obtain ⟨l', rfl⟩ : ∃ l', l = l' + 1 := ⟨l - 1, by omega⟩
      simp
    exact absurd (.inr ⟨txt_mem.mpr ⟨List.length_replicate, fun c hc => by rw [List.eq_of_mem_replicate hc]; exact h97⟩, h97⟩) (h2 (List.replicate (2 * (2 * w + k - 3) + 1) 97) 97)
  | some q =>
    obtain ⟨t, c, m⟩ := q
    rw [hb] at h2
    obtain ⟨a1, a2, a3⟩ := h2
    subst a2
    rcases a1 with a1 | a1
    · exact a1.elim
    · exact ⟨t, c, rfl, a1.1, a1.2, fun t' h1 c' h3 => a3 t' c' (.inr ⟨h1, h3⟩)⟩
def SpMost (c : Call) (i : Nat) : Prop := ∀ (m : Bool) (l w k : Nat) (tb : List Int), OkS l w k → tb.length = l ^ (w + k - 1) → l ^ (2 * (2 * w + k - 3) + 1) ≤ 4096 → 2 * (2 * w + k - 3) + 1 ≤ 20 → c i [rulM m l w k tb] = .ok (fD (mostM l w k tb)) [fin m (rulM m l w k tb)]
@[simp] theorem owned_fD {f : Fd3} : owned (fD f) = false := by rcases f with _ | ⟨_, _, _⟩ <;> rfl
theorem chg_txt {l N h c : Nat} {t : List Nat} (ht : t ∈ txt l N) (hc : c ∈ ab l) (hh : h < N) : chg t h [c] ∈ txt l N := by
  obtain ⟨a, b⟩ := txt_mem.mp ht
  refine txt_mem.mpr ⟨?_, fun x hx => ?_⟩
  · unfold chg
    simp [List.length_take, List.length_drop]
    omega
  · unfold chg at hx
    simp only [List.mem_append, List.mem_singleton] at hx
    rcases hx with (z | z) | z
    · exact b x (List.mem_of_mem_take z)
    · rw [z]; exact hc
    · exact b x (List.mem_of_mem_drop z)
theorem sp_most {ca cm cs ct : Nat} (h1 : ∀ k, SpAlphabet (runF P fns fu (k + 1)) ca) (h2 : ∀ k, SpMany (runF P fns fu (k + 1)) cm) (h3 : ∀ k, SpStatus (runF P fns fu (k + 4)) cs) (h4 : ∀ k, SpTextsOf (runF P fns fu (k + 2)) ct) (hf : fns[i]? = some (F_most_moved ca cm cs ct)) (k : Nat) : SpMost (runF P fns fu (k + 5)) i := fun m l w kk tb hs hb hfit hn => by
  have hs' := hs
  obtain ⟨s1, s2, s3, s4, s5, s6⟩ := hs
  have hmul : opD .Mult (.int 2) (.int (w : Int)) = some (.int (2 * (w : Int))) := by rw [op_mul_ii, if_pos (by omega)]
  have e0 : 2 * (w : Int) + (kk : Int) - 3 = ((2 * w + kk - 3 : Nat) : Int) := by omega
  have q1 := h1 (k + 3) l
  have q3 := h3 k m l w kk tb hs' hb (Nat.le_trans (pow_mono (by omega) (by omega)) hfit)
  have q4 := h4 (k + 2) l (2 * (2 * w + kk - 3) + 1) s2 hfit hn
  have hmul2 : opD .Mult (.int 2) (.int ((2 * w + kk - 3 : Nat) : Int)) = some (.int (2 * ((2 * w + kk - 3 : Nat) : Int))) := by rw [op_mul_ii, if_pos (by omega)]
  have e1 : 2 * ((2 * w + kk - 3 : Nat) : Int) + 1 = ((2 * (2 * w + kk - 3) + 1 : Nat) : Int) := by omega
  have q2 : ∀ t ∈ txt l (2 * (2 * w + kk - 3) + 1), ∀ c ∈ ab l, runF P fns fu (k + 4) cm [rulM m l w kk tb, stD l w kk tb, .str t, .str (chg t (2 * w + kk - 3) [c])] = .ok (.int (mvN l w kk tb t c : Nat)) [fin m (rulM m l w kk tb), some (stD l w kk tb), none, none] := fun t ht c hc => h2 (k + 3) m l w kk tb t _ hs' ht (chg_txt ht hc (by omega))
  have oS : owned (stD l w kk tb) = true := rfl
  have hmost : mostM l w kk tb = bestM (mvN l w kk tb) (ab l) (txt l (2 * (2 * w + kk - 3) + 1)) none := rfl
  rw [hmost]
  generalize mvN l w kk tb = g at *
  generalize hS : stD l w kk tb = S at *
  generalize hh : 2 * w + kk - 3 = h at *
  generalize hN : 2 * h + 1 = N at *
  have inner : ∀ (t : List Nat), t ∈ txt l N → ∀ (f : Fd3) (x5 x6 : Option D), ∃ y5 y6, evS P (runF P fns fu (k + 4)) fu (lks m) (B_most_moved_1 ca cm) [some (rulM m l w kk tb), some (.str t), some S, some (.int (h : Nat)), some (fD f), x5, x6] = .ok .nx [some (rulM m l w kk tb), some (.str t), some S, some (.int (h : Nat)), some (fD ((ab l).foldl (stepM g t) f)), y5, y6] := fun t ht f x5 x6 => by
    have tl := (txt_mem.mp ht).1
    have sl1 := slc_to t h (by omega)
    have sl2 := slc_from t h (by omega)
    unfold B_most_moved_1
    rw [for_eq (is := (ab l).map fun c => .str [c]) (e1 := [some (rulM m l w kk tb), some (.str t), some S, some (.int (h : Nat)), some (fD f), x5, x6]) (by cases m <;> simp [doCall, q1])]
    obtain ⟨e', b, y5, y6, pre, hp1, he⟩ := loopF_go (f := fun c => D.str [c]) (body := forB P (runF P fns fu (k + 4)) fu (lks m) (.tName 5) (.seq (.asg (.tName 6) (.call cm (.cons (.pk 0) (.cons (.pk 2) (.cons (.pk 1) (.cons (.ov (.op .Add (.ov (.op .Add (.ov (.slc (.pk 1) .nil (.ov (.var 3)))) (.pk 5))) (.ov (.slc (.pk 1) (.ov (.op .Add (.pk 3) (.ov (.cst (.int (1)))))) .nil)))) .nil)))))) (.ifS (.tor (.tv (.cmp .Is (.pk 4) (.ov (.cst .non)))) (.tv (.cmp .Gt (.pk 6) (.ov (.idx (.pk 4) (.ov (.cst (.int (2))))))))) (.asg (.tName 4) (.tupD (.cons (.var 1) (.cons (.var 5) (.cons (.var 6) .nil))))) .pas)))
      (I := fun cs e => ∃ y5 y6 pre, ab l = pre ++ cs ∧ e = [some (rulM m l w kk tb), some (.str t), some S, some (.int (h : Nat)), some (fD (pre.foldl (stepM g t) f)), y5, y6])
      (fun c cs e ⟨y5, y6, pre, hp, he⟩ => by
        subst he
        have hc : c ∈ ab l := by rw [hp]; simp
        have z := q2 t ht c hc
        have o1 : opD .Add (.str (t.take h)) (.str [c]) = some (.str (t.take h ++ [c])) := if_pos (by rw [List.length_take, LN_eq]; simp; omega)
        have o2 : opD .Add (.str (t.take h ++ [c])) (.str (t.drop (h + 1))) = some (.str (chg t h [c])) := if_pos (by rw [List.length_append, List.length_take, List.length_drop, LN_eq]; simp; omega)
        refine ⟨[some (rulM m l w kk tb), some (.str t), some S, some (.int (h : Nat)), some (fD ((pre ++ [c]).foldl (stepM g t) f)), some (.str [c]), some (.int (g t c : Nat))], ?_, _, _, pre ++ [c], by rw [hp]; simp, rfl⟩
        rw [forB_eq, List.foldl_append]
        generalize pre.foldl (stepM g t) f = f1
        rcases f1 with _ | ⟨t0, c0, m0⟩
        · cases m <;> simp [lks, doCall, oS, sl1, sl2, o1, o2, z, fD, stepM]
        · by_cases hlt : m0 < g t c
          · have hlt2 : ((m0 : Nat) : Int) < ((g t c : Nat) : Int) := by omega
            cases m <;> simp [lks, doCall, oS, sl1, sl2, o1, o2, z, fD, stepM, hlt, hlt2, cmp_gt_ii]
          · have hlt2 : ¬ ((m0 : Nat) : Int) < ((g t c : Nat) : Int) := by omega
            cases m <;> simp [lks, doCall, oS, sl1, sl2, o1, o2, z, fD, stepM, hlt, hlt2, cmp_gt_ii]) (ab l) _ ⟨x5, x6, [], rfl, rfl⟩
    rw [List.append_nil] at hp1
    subst hp1 he
    exact ⟨y5, y6, b⟩
  have outer : ∃ y1 y5 y6, evS P (runF P fns fu (k + 4)) fu (lks m) (B_most_moved_2 ca cm ct) [some (rulM m l w kk tb), none, some S, some (.int (h : Nat)), some .non, none, none] = .ok .nx [some (rulM m l w kk tb), y1, some S, some (.int (h : Nat)), some (fD (bestM g (ab l) (txt l N) none)), y5, y6] := by
    unfold B_most_moved_2
    rw [for_eq (is := (txt l N).map .str) (e1 := [some (rulM m l w kk tb), none, some S, some (.int (h : Nat)), some .non, none, none]) (by cases m <;> simp [doCall, hmul2, e1, q4, items_list, isFL_str])]
    obtain ⟨e', b, y1, y5, y6, pre, hp1, he⟩ := loopF_go (f := D.str) (body := forB P (runF P fns fu (k + 4)) fu (lks m) (.tName 1) (B_most_moved_1 ca cm))
      (I := fun cs e => ∃ y1 y5 y6 pre, txt l N = pre ++ cs ∧ e = [some (rulM m l w kk tb), y1, some S, some (.int (h : Nat)), some (fD (bestM g (ab l) pre none)), y5, y6])
      (fun t cs e ⟨y1, y5, y6, pre, hp, he⟩ => by
        subst he
        have ht : t ∈ txt l N := by rw [hp]; simp
        obtain ⟨z5, z6, q⟩ := inner t ht (bestM g (ab l) pre none) y5 y6
        refine ⟨_, ?_, some (.str t), z5, z6, pre ++ [t], by rw [hp]; simp, rfl⟩
        rw [forB_eq]
        have e2 : bestM g (ab l) (pre ++ [t]) none = (ab l).foldl (stepM g t) (bestM g (ab l) pre none) := by unfold bestM; rw [List.foldl_append]; rfl
        rw [e2]
        cases m <;> simp [lks] at q ⊢ <;> simp [q]) (txt l N) _ ⟨none, none, none, [], rfl, rfl⟩
    rw [List.append_nil] at hp1
    subst hp1 he
    exact ⟨y1, y5, y6, b⟩
  obtain ⟨y1, y5, y6, outer⟩ := outer
  rw [run_eq hf rfl rfl]
  cases m <;> simp [lks] at outer <;> simp [F_most_moved, doCall, hmul, e0, q3, outer]
def SpGreatest (c : Call) (i : Nat) : Prop := ∀ (m : Bool) (l w k : Nat) (tb : List Int), OkS l w k → tb.length = l ^ (w + k - 1) → l ^ (2 * (2 * w + k - 3) + 1) ≤ 4096 → 2 * (2 * w + k - 3) + 1 ≤ 20 → ∃ t x, mostM l w k tb = some (t, x, mvN l w k tb t x) ∧ c i [rulM m l w k tb] = .ok (.int (mvN l w k tb t x : Nat)) [fin m (rulM m l w k tb)]
theorem sp_greatest {cm : Nat} (h1 : ∀ k, SpMost (runF P fns fu (k + 5)) cm) (hf : fns[i]? = some (F_greatest_moved cm)) (k : Nat) : SpGreatest (runF P fns fu (k + 6)) i := fun m l w kk tb hs hb hfit hn => by
  have q := h1 k m l w kk tb hs hb hfit hn
  obtain ⟨t, x, e, _⟩ := mostM_is (l := l) (w := w) (k := kk) (tb := tb) (Nat.le_of_succ_le hs.1)
  refine ⟨t, x, e, ?_⟩
  rw [e] at q
  rw [run_eq hf rfl rfl]
  cases m <;> simp [F_greatest_moved, doCall, q, fD]
/-! ### how many places a changed letter moves -/
theorem fold_nodup {α : Type} [DecidableEq α] : ∀ (xs acc : List α), acc.Nodup → (xs.foldl addA acc).Nodup
  | [], acc, h => h
  | x :: xs, acc, h => by
    refine fold_nodup xs (addA acc x) ?_
    unfold addA
    split
    · exact h
    · rename_i c
      exact List.nodup_append.mpr ⟨h, by simp, fun a ha b hb e => by rw [List.mem_singleton.mp hb] at e; exact c (e ▸ ha)⟩
theorem insI_permM (i : Int) : ∀ l : List Int, (insI i l).Perm (i :: l)
  | [] => .refl _
  | j :: l => by
    unfold insI
    split
    · exact .refl _
    · exact ((insI_permM i l).cons j).trans (.swap i j l)
theorem srtI_permM : ∀ l : List Int, (srtI l).Perm l
  | [] => .refl _
  | i :: l => (insI_permM i (srtI l)).trans ((srtI_permM l).cons i)
theorem dd_is_nodup {α : Type} [DecidableEq α] (xs : List α) : (dd xs).Nodup := fold_nodup xs [] List.nodup_nil
theorem pkS_nodup (l n : Nat) (tb : List Int) (t : List Nat) : (srtI (pkD l n tb t)).Nodup := ((srtI_permM (pkD l n tb t)).nodup_iff).mpr (dd_is_nodup _)
theorem chg_len {t : List Nat} {a c : Nat} (h : a < t.length) : (chg t a [c]).length = t.length := by
  unfold chg
  simp [List.length_take, List.length_drop]
  omega
/-- a window beside the letter is the same -/
theorem win_chg {n s a c : Nat} {t : List Nat} (h : a < t.length) (hs : a < s ∨ s + n ≤ a) : win n (chg t a [c]) s = win n t s := by
  unfold win
  apply List.ext_getElem?
  intro j
  by_cases hj : j < n
  · rw [List.getElem?_take_of_lt hj, List.getElem?_take_of_lt hj, List.getElem?_drop, List.getElem?_drop]
    unfold chg
    rcases hs with hs | hs
    · rw [List.getElem?_append_right (by simp [List.length_take]; omega), List.getElem?_drop]
      congr 1
      simp [List.length_take]
      omega
    · rw [List.append_assoc, List.getElem?_append_left (by rw [List.length_take]; omega), List.getElem?_take_of_lt (by omega)]
  · rw [List.getElem?_eq_none (by rw [List.length_take]; omega), List.getElem?_eq_none (by rw [List.length_take]; omega)]
theorem pk_far {l w k : Nat} {tb : List Int} {t : List Nat} {a c : Nat} {p : Int} (hT : OkT w tb) (hw : 1 ≤ w) (hk : 1 ≤ k) (h : a < t.length) (hp : p ∈ pkL l (w + k - 1) tb t) (hn : p ∉ pkL l (w + k - 1) tb (chg t a [c])) : (a : Int) - (w + k - 2 : Nat) ≤ p ∧ p ≤ a + (w - 1 : Nat) := by
  unfold pkL at hp hn
  obtain ⟨s, hs, rfl⟩ := List.mem_map.mp hp
  have hs := List.mem_range.mp hs
  have ho := offs_lt (l := l) hT hw (win (w + k - 1) t s)
  by_cases hd : a < s ∨ s + (w + k - 1) ≤ a
  · refine absurd (List.mem_map.mpr ⟨s, List.mem_range.mpr (by rw [chg_len h]; exact hs), ?_⟩) hn
    unfold spt
    rw [win_chg h hd]
  · unfold spt
    omega
theorem chg_back {t : List Nat} {a c x : Nat} (h : t[a]? = some x) : chg (chg t a [c]) a [x] = t := by
  have hl : a < t.length := (List.getElem?_eq_some_iff.mp h).1
  have e1 : (chg t a [c]).take a = t.take a := by
    unfold chg
    rw [List.append_assoc, List.take_append_of_le_length (by rw [List.length_take]; omega), List.take_take, Nat.min_self]
  have e2 : (chg t a [c]).drop (a + 1) = t.drop (a + 1) := by
    unfold chg
    rw [List.drop_append, List.drop_eq_nil_of_le (by simp [List.length_take]; omega), List.nil_append, List.length_append, List.length_take, List.length_singleton, Nat.min_eq_left (Nat.le_of_lt hl), Nat.sub_self, List.drop_zero]
  unfold chg at e1 e2 ⊢
  rw [e1, e2]
  apply List.ext_getElem?
  intro j
  rcases Nat.lt_trichotomy j a with hj | hj | hj
  · rw [List.append_assoc, List.getElem?_append_left (by rw [List.length_take]; omega), List.getElem?_take_of_lt hj]
  · subst hj
    rw [List.append_assoc, List.getElem?_append_right (by rw [List.length_take]; omega), h]
    simp [List.length_take, Nat.min_eq_left (Nat.le_of_lt hl)]
  · rw [List.getElem?_append_right (by simp [List.length_take]; omega), List.getElem?_drop]
    congr 1
    simp [List.length_take]
    omega
/-- the windows around a changed letter that tell it -/
def diffs (l w k : Nat) (tb : List Int) (t u : List Nat) (b : Nat) : List Nat := (List.range (2 * w + k - 2)).filter fun j => pkB l w k tb (win (2 * w + k - 2) t (b + j)) != pkB l w k tb (win (2 * w + k - 2) u (b + j))
theorem perm_of_mem {xs ys : List Int} (h1 : xs.Nodup) (h2 : ys.Nodup) (h : ∀ x, x ∈ xs ↔ x ∈ ys) : xs.length = ys.length := ((List.perm_ext_iff_of_nodup h1 h2).mpr h).length_eq
theorem moved_count {l w k : Nat} {tb : List Int} {t : List Nat} {a c : Nat} (hT : OkT w tb) (hw : 1 ≤ w) (hk : 1 ≤ k) (h1 : 2 * w + k - 3 ≤ a) (h2 : a + (2 * w + k - 3) < t.length) :
    (out (srtI (pkD l (w + k - 1) tb t)) (srtI (pkD l (w + k - 1) tb (chg t a [c])))).length + (out (srtI (pkD l (w + k - 1) tb (chg t a [c]))) (srtI (pkD l (w + k - 1) tb t))).length = (diffs l w k tb t (chg t a [c]) (a - (2 * w + k - 3))).length := by
  have hlt : a < t.length := by omega
  have hlen := chg_len (c := c) hlt
  obtain ⟨x, hx⟩ : ∃ x, t[a]? = some x := ⟨_, List.getElem?_eq_getElem hlt⟩
  have hback := chg_back (c := c) hx
  have far1 : ∀ p, p ∈ pkL l (w + k - 1) tb t → p ∉ pkL l (w + k - 1) tb (chg t a [c]) → (a : Int) - (w + k - 2 : Nat) ≤ p ∧ p ≤ a + (w - 1 : Nat) := fun p => pk_far hT hw hk hlt
  have far2 : ∀ p, p ∈ pkL l (w + k - 1) tb (chg t a [c]) → p ∉ pkL l (w + k - 1) tb t → (a : Int) - (w + k - 2 : Nat) ≤ p ∧ p ≤ a + (w - 1 : Nat) := fun p h3 h4 => by
    rw [← hback] at h4
    exact pk_far hT hw hk (by rw [hlen]; exact hlt) h3 h4
  have ar1 : ∀ j < 2 * w + k - 2, pkB l w k tb (win (2 * w + k - 2) t (a - (2 * w + k - 3) + j)) = decide (((a - (2 * w + k - 3) + j : Nat) : Int) + w - 1 ∈ pkL l (w + k - 1) tb t) := fun j hj => by
    unfold pkB
    exact decide_eq_decide.mpr (around hT hw hk (by omega))
  have ar2 : ∀ j < 2 * w + k - 2, pkB l w k tb (win (2 * w + k - 2) (chg t a [c]) (a - (2 * w + k - 3) + j)) = decide (((a - (2 * w + k - 3) + j : Nat) : Int) + w - 1 ∈ pkL l (w + k - 1) tb (chg t a [c])) := fun j hj => by
    unfold pkB
    refine decide_eq_decide.mpr (around hT hw hk ?_)
    rw [chg_len hlt]
    omega
  have m1 : ∀ p, p ∈ out (srtI (pkD l (w + k - 1) tb t)) (srtI (pkD l (w + k - 1) tb (chg t a [c]))) ↔ p ∈ pkL l (w + k - 1) tb t ∧ p ∉ pkL l (w + k - 1) tb (chg t a [c]) := fun p => by
    unfold out
    rw [List.mem_filter, mem_pk]
    simp only [Bool.not_eq_true', decide_eq_false_iff_not, mem_pk]
  have m2 : ∀ p, p ∈ out (srtI (pkD l (w + k - 1) tb (chg t a [c]))) (srtI (pkD l (w + k - 1) tb t)) ↔ p ∈ pkL l (w + k - 1) tb (chg t a [c]) ∧ p ∉ pkL l (w + k - 1) tb t := fun p => by
    unfold out
    rw [List.mem_filter, mem_pk]
    simp only [Bool.not_eq_true', decide_eq_false_iff_not, mem_pk]
  have n1 : (out (srtI (pkD l (w + k - 1) tb t)) (srtI (pkD l (w + k - 1) tb (chg t a [c])))).Nodup := (pkS_nodup _ _ _ _).sublist List.filter_sublist
  have n2 : (out (srtI (pkD l (w + k - 1) tb (chg t a [c]))) (srtI (pkD l (w + k - 1) tb t))).Nodup := (pkS_nodup _ _ _ _).sublist List.filter_sublist
  have nd : ((diffs l w k tb t (chg t a [c]) (a - (2 * w + k - 3))).map fun (j : Nat) => ((a - (2 * w + k - 3) + j : Nat) : Int) + w - 1).Nodup := by
    have h0 : List.Pairwise (fun x y : Nat => x ≠ y) (diffs l w k tb t (chg t a [c]) (a - (2 * w + k - 3))) := (List.nodup_range).sublist List.filter_sublist
    refine List.pairwise_map.mpr (h0.imp fun {x y} hxy => ?_)
    show ((a - (2 * w + k - 3) + x : Nat) : Int) + w - 1 ≠ ((a - (2 * w + k - 3) + y : Nat) : Int) + w - 1
    omega
  have key := perm_of_mem (xs := out (srtI (pkD l (w + k - 1) tb t)) (srtI (pkD l (w + k - 1) tb (chg t a [c]))) ++ out (srtI (pkD l (w + k - 1) tb (chg t a [c]))) (srtI (pkD l (w + k - 1) tb t))) (List.nodup_append.mpr ⟨n1, n2, fun x hx y hy e => by
    subst e
    exact ((m2 x).mp hy).2 ((m1 x).mp hx).1⟩) nd fun p => by
    rw [List.mem_append, m1, m2, List.mem_map]
    constructor
    · intro h
      have hr : (a : Int) - (w + k - 2 : Nat) ≤ p ∧ p ≤ a + (w - 1 : Nat) := h.elim (fun z => far1 p z.1 z.2) fun z => far2 p z.1 z.2
      refine ⟨(p - (w - 1 : Nat) - (a - (2 * w + k - 3) : Nat)).toNat, ?_, by omega⟩
      unfold diffs
      rw [List.mem_filter, List.mem_range]
      have hj : (p - (w - 1 : Nat) - (a - (2 * w + k - 3) : Nat)).toNat < 2 * w + k - 2 := by omega
      refine ⟨hj, ?_⟩
      rw [ar1 _ hj, ar2 _ hj]
      have e : ((a - (2 * w + k - 3) + (p - (w - 1 : Nat) - (a - (2 * w + k - 3) : Nat)).toNat : Nat) : Int) + w - 1 = p := by omega
      rw [e]
      rcases h with ⟨z1, z2⟩ | ⟨z1, z2⟩ <;> simp [z1, z2]
    · rintro ⟨j, hj, rfl⟩
      unfold diffs at hj
      rw [List.mem_filter, List.mem_range] at hj
      obtain ⟨hj1, hj2⟩ := hj
      rw [ar1 _ hj1, ar2 _ hj1] at hj2
      by_cases z1 : ((a - (2 * w + k - 3) + j : Nat) : Int) + w - 1 ∈ pkL l (w + k - 1) tb t
      · by_cases z2 : ((a - (2 * w + k - 3) + j : Nat) : Int) + w - 1 ∈ pkL l (w + k - 1) tb (chg t a [c])
        · rw [decide_eq_true z1, decide_eq_true z2] at hj2; cases hj2
        · exact .inl ⟨z1, z2⟩
      · by_cases z2 : ((a - (2 * w + k - 3) + j : Nat) : Int) + w - 1 ∈ pkL l (w + k - 1) tb (chg t a [c])
        · exact .inr ⟨z2, z1⟩
        · rw [decide_eq_false z1, decide_eq_false z2] at hj2; cases hj2
  rw [List.length_append, List.length_map] at key
  exact key
theorem diffs_self {l w k : Nat} {tb : List Int} {t u : List Nat} : (diffs l w k tb t u 0).length = mmN l w k tb t u := by
  unfold diffs mmN
  simp only [Nat.zero_add]
end
end Wpk.M
set_option Elab.async false
set_option linter.all false
set_option maxRecDepth 100000
/-! M20: which places a changed letter moves. -/
namespace Wpk.M
open PySem
theorem insI_sortedM (i : Int) : ∀ {l : List Int}, l.Pairwise (· ≤ ·) → (insI i l).Pairwise (· ≤ ·)
  | [], _ => List.pairwise_singleton ..
  | j :: l, h => by
    unfold insI
    have hj := List.pairwise_cons.mp h
    split
    · refine List.pairwise_cons.mpr ⟨fun y hy => ?_, h⟩
      rcases List.mem_cons.mp hy with rfl | hy
      · omega
      · have := hj.1 y hy; omega
    · refine List.pairwise_cons.mpr ⟨fun y hy => ?_, insI_sortedM i hj.2⟩
      rcases (mem_insI l).mp hy with rfl | hy
      · omega
      · exact hj.1 y hy
theorem srtI_sortedM : ∀ l : List Int, (srtI l).Pairwise (· ≤ ·)
  | [] => List.Pairwise.nil
  | i :: l => insI_sortedM i (srtI_sortedM l)
theorem eq_of_lt {xs zs : List Int} (h1 : xs.Pairwise (· < ·)) (h2 : zs.Pairwise (· < ·)) (h : ∀ p, p ∈ xs ↔ p ∈ zs) : xs = zs := by
  have n1 : xs.Nodup := h1.imp fun hab => by omega
  have n2 : zs.Nodup := h2.imp fun hab => by omega
  exact ((List.perm_ext_iff_of_nodup n1 n2).mpr h).eq_of_pairwise (fun a b _ _ p q => by omega) h1 h2
theorem pkS_lt (l n : Nat) (tb : List Int) (t : List Nat) : (srtI (pkD l n tb t)).Pairwise (· < ·) := by
  have h1 := srtI_sortedM (pkD l n tb t)
  have h2 : List.Pairwise (fun a b : Int => a ≠ b) (srtI (pkD l n tb t)) := pkS_nodup l n tb t
  exact List.Pairwise.imp (fun {a b} (h : a ≤ b ∧ a ≠ b) => by have := h.1; have := h.2; omega) (h1.and h2)
/-- the places that are picked no more -/
def gone (l w k : Nat) (tb : List Int) (t u : List Nat) (b : Nat) : List Int := ((List.range (2 * w + k - 2)).filter fun j => pkB l w k tb (win (2 * w + k - 2) t (b + j)) && !pkB l w k tb (win (2 * w + k - 2) u (b + j))).map fun j => ((b + j : Nat) : Int) + w - 1
theorem out_loc {l w k : Nat} {tb : List Int} {t : List Nat} {a c : Nat} (hT : OkT w tb) (hw : 1 ≤ w) (hk : 1 ≤ k) (h1 : 2 * w + k - 3 ≤ a) (h2 : a + (2 * w + k - 3) < t.length) :
    out (srtI (pkD l (w + k - 1) tb t)) (srtI (pkD l (w + k - 1) tb (chg t a [c]))) = gone l w k tb t (chg t a [c]) (a - (2 * w + k - 3)) := by
  have hlt : a < t.length := by omega
  have far1 : ∀ p, p ∈ pkL l (w + k - 1) tb t → p ∉ pkL l (w + k - 1) tb (chg t a [c]) → (a : Int) - (w + k - 2 : Nat) ≤ p ∧ p ≤ a + (w - 1 : Nat) := fun p => pk_far hT hw hk hlt
  have ar1 : ∀ j < 2 * w + k - 2, pkB l w k tb (win (2 * w + k - 2) t (a - (2 * w + k - 3) + j)) = decide (((a - (2 * w + k - 3) + j : Nat) : Int) + w - 1 ∈ pkL l (w + k - 1) tb t) := fun j hj => by
    unfold pkB
    exact decide_eq_decide.mpr (around hT hw hk (by omega))
  have ar2 : ∀ j < 2 * w + k - 2, pkB l w k tb (win (2 * w + k - 2) (chg t a [c]) (a - (2 * w + k - 3) + j)) = decide (((a - (2 * w + k - 3) + j : Nat) : Int) + w - 1 ∈ pkL l (w + k - 1) tb (chg t a [c])) := fun j hj => by
    unfold pkB
    refine decide_eq_decide.mpr (around hT hw hk ?_)
    rw [chg_len hlt]
    omega
  have m1 : ∀ p, p ∈ out (srtI (pkD l (w + k - 1) tb t)) (srtI (pkD l (w + k - 1) tb (chg t a [c]))) ↔ p ∈ pkL l (w + k - 1) tb t ∧ p ∉ pkL l (w + k - 1) tb (chg t a [c]) := fun p => by
    unfold out
    rw [List.mem_filter, mem_pk]
    simp only [Bool.not_eq_true', decide_eq_false_iff_not, mem_pk]
  refine eq_of_lt ((pkS_lt _ _ _ _).sublist List.filter_sublist) ?_ fun p => ?_
  · unfold gone
    refine List.pairwise_map.mpr ((List.pairwise_lt_range.sublist List.filter_sublist).imp fun {x y} hxy => ?_)
    omega
  · rw [m1]
    unfold gone
    rw [List.mem_map]
    constructor
    · intro h
      have hr := far1 p h.1 h.2
      refine ⟨(p - (w - 1 : Nat) - (a - (2 * w + k - 3) : Nat)).toNat, ?_, by omega⟩
      rw [List.mem_filter, List.mem_range]
      have hj : (p - (w - 1 : Nat) - (a - (2 * w + k - 3) : Nat)).toNat < 2 * w + k - 2 := by omega
      refine ⟨hj, ?_⟩
      rw [ar1 _ hj, ar2 _ hj]
      have e : ((a - (2 * w + k - 3) + (p - (w - 1 : Nat) - (a - (2 * w + k - 3) : Nat)).toNat : Nat) : Int) + w - 1 = p := by omega
      rw [e, decide_eq_true h.1, decide_eq_false h.2]
      rfl
    · rintro ⟨j, hj, rfl⟩
      rw [List.mem_filter, List.mem_range] at hj
      obtain ⟨hj1, hj2⟩ := hj
      rw [ar1 _ hj1, ar2 _ hj1, Bool.and_eq_true, Bool.not_eq_true'] at hj2
      exact ⟨of_decide_eq_true hj2.1, of_decide_eq_false hj2.2⟩
end Wpk.M
set_option Elab.async false
set_option linter.all false
set_option maxRecDepth 100000
set_option maxHeartbeats 0
/-! The tables of law_k44_edits_known_by_hand, its head, its end (printed by gen_head2.py). -/
namespace Lk44
open PySem PySem.Spec PyProof.Rows L2 Wpk
def top (i : Nat) : Stmt := PySem.Challenge.pw_windowpicks_k44_edits_known_by_hand.main.body.getD i (.Pass ⟨0, 0, 0, 0⟩)
def sub (i j : Nat) : Stmt := match top i with | .ClassDef _ _ _ b _ _ _ _ _ _ _ => b.getD j (.Pass ⟨0, 0, 0, 0⟩) | s => s
def d0 : Df := ⟨"is_integer", "is_integer", defArgs (top 9), defBody (top 9), defScope (top 9), ["value"], ["value"]⟩
def d1 : Df := ⟨"is_sequence", "is_sequence", defArgs (top 10), defBody (top 10), defScope (top 10), ["value"], ["value"]⟩
def d2 : Df := ⟨"alphabet", "alphabet", defArgs (top 11), defBody (top 11), defScope (top 11), ["letters"], ["letters"]⟩
def d3 : Df := ⟨"texts_of", "texts_of", defArgs (top 12), defBody (top 12), defScope (top 12), ["letters", "size", "found", "turn", "text", "sign"], ["letters", "size"]⟩
def d4 : Df := ⟨"power", "power", defArgs (top 13), defBody (top 13), defScope (top 13), ["base", "many", "found", "turn"], ["base", "many"]⟩
def d5 : Df := ⟨"wrong_at", "wrong_at", defArgs (top 14), defBody (top 14), defScope (top 14), ["letters", "value", "at", "sign"], ["letters", "value"]⟩
def d6 : Df := ⟨"is_text", "is_text", defArgs (top 15), defBody (top 15), defScope (top 15), ["letters", "value"], ["letters", "value"]⟩
def d7 : Df := ⟨"is_piece", "is_piece", defArgs (top 16), defBody (top 16), defScope (top 16), ["letters", "k", "value"], ["letters", "k", "value"]⟩
def d8 : Df := ⟨"need_letters", "need_letters", defArgs (top 17), defBody (top 17), defScope (top 17), ["letters", "value", "at"], ["letters", "value"]⟩
def d9 : Df := ⟨"places_of", "places_of", defArgs (top 20), defBody (top 20), defScope (top 20), ["rule", "text", "found", "at"], ["rule", "text"]⟩
def d10 : Df := ⟨"picks", "picks", defArgs (top 21), defBody (top 21), defScope (top 21), ["rule", "text", "place"], ["rule", "text"]⟩
def d11 : Df := ⟨"status", "status", defArgs (top 22), defBody (top 22), defScope (top 22), ["rule", "around", "text"], ["rule"]⟩
def d12 : Df := ⟨"moved", "moved", defArgs (top 24), defBody (top 24), defScope (top 24), ["rule", "text", "at", "letter", "gone", "ahead", "behind", "place"], ["rule", "text", "at", "letter"]⟩
def d13 : Df := ⟨"many_moved", "many_moved", defArgs (top 25), defBody (top 25), defScope (top 25), ["rule", "known", "text", "other", "size", "at"], ["rule", "known", "text", "other"]⟩
def d14 : Df := ⟨"most_moved", "most_moved", defArgs (top 26), defBody (top 26), defScope (top 26), ["rule", "text", "known", "half", "found", "letter", "many"], ["rule"]⟩
def d15 : Df := ⟨"greatest_moved", "greatest_moved", defArgs (top 27), defBody (top 27), defScope (top 27), ["rule"], ["rule"]⟩
def d16 : Df := ⟨"need_sizes", "need_sizes", defArgs (top 30), defBody (top 30), defScope (top 30), ["letters", "w", "k", "value", "word", "least", "most"], ["letters", "w", "k"]⟩
def d17 : Df := ⟨"need_order", "need_order", defArgs (top 31), defBody (top 31), defScope (top 31), ["letters", "k", "order", "piece"], ["letters", "k", "order"]⟩
def d18 : Df := ⟨"is_table", "is_table", defArgs (top 32), defBody (top 32), defScope (top 32), ["w", "many", "value", "offset"], ["w", "many", "value"]⟩
def d19 : Df := ⟨"pieces_of", "pieces_of", defArgs (top 33), defBody (top 33), defScope (top 33), ["w", "k", "window", "at"], ["w", "k", "window"]⟩
def d20 : Df := ⟨"first_offset", "first_offset", defArgs (top 34), defBody (top 34), defScope (top 34), ["ranks", "w", "k", "last", "window", "found", "piece"], ["ranks", "w", "k", "last", "window"]⟩
def d21 : Df := ⟨"_law_box", "_law_box", defArgs (top 37), defBody (top 37), defScope (top 37), ["_law_script", "_law_k", "_law_own", "_law_cell", "_law_seed"], ["_law_script", "_law_k", "_law_own"]⟩
def d22 : Df := ⟨"_law_take", "_law_take", defArgs (top 38), defBody (top 38), defScope (top 38), ["_law_box_here", "_law_many", "_law_raw", "_law_wide", "_law_digit"], ["_law_box_here", "_law_many"]⟩
def d23 : Df := ⟨"law", "law", defArgs (top 39), defBody (top 39), defScope (top 39), ["_law_script", "_law_k", "_law_box_here", "_law_many", "_law_at", "_law_sole", "_law_rule_ab", "_law_every", "_law_left", "_law_right"], ["_law_script"]⟩
def d24 : Df := ⟨"__init__", "Rule.__init__", defArgs (sub 35 0), defBody (sub 35 0), defScope (sub 35 0), ["self", "letters", "w", "k", "table"], ["self", "letters", "w", "k", "table"]⟩
def d25 : Df := ⟨"by_order", "Rule.by_order", defArgs (sub 35 1), defBody (sub 35 1), defScope (sub 35 1), ["cls", "letters", "w", "k", "order", "last", "ranks", "windows", "at", "piece", "window"], ["cls", "letters", "w", "k", "order", "last"]⟩
def d26 : Df := ⟨"size", "Rule.size", defArgs (sub 35 3), defBody (sub 35 3), defScope (sub 35 3), ["self"], ["self"]⟩
def d27 : Df := ⟨"offset_of", "Rule.offset_of", defArgs (sub 35 4), defBody (sub 35 4), defScope (sub 35 4), ["self", "window", "found", "sign"], ["self", "window"]⟩
def d28 : Df := ⟨"turned", "Rule.turned", defArgs (sub 35 6), defBody (sub 35 6), defScope (sub 35 6), ["self", "windows", "window"], ["self"]⟩
def defs : List Df := [d0, d1, d2, d3, d4, d5, d6, d7, d8, d9, d10, d11, d12, d13, d14, d15, d16, d17, d18, d19, d20, d21, d22, d23, d24, d25, d26, d27, d28]
def fns : List (Str × Nat) := [(("is_integer" : Str), 0), (("is_sequence" : Str), 1), (("alphabet" : Str), 2), (("texts_of" : Str), 3), (("power" : Str), 4), (("wrong_at" : Str), 5), (("is_text" : Str), 6), (("is_piece" : Str), 7), (("need_letters" : Str), 8), (("places_of" : Str), 9), (("picks" : Str), 10), (("status" : Str), 11), (("moved" : Str), 12), (("many_moved" : Str), 13), (("most_moved" : Str), 14), (("greatest_moved" : Str), 15), (("need_sizes" : Str), 16), (("need_order" : Str), 17), (("is_table" : Str), 18), (("pieces_of" : Str), 19), (("first_offset" : Str), 20), (("_law_box" : Str), 21), (("_law_take" : Str), 22), (("law" : Str), 23)]
def gls : List (Str × Nat) := [(("ALL_LETTERS" : Str), 0), (("SIZES" : Str), 1)]
def bls : List Str := ["abs", "all", "bool", "classmethod", "enumerate", "int", "isinstance", "len", "list", "max", "min", "property", "range", "set", "sorted", "str", "tuple", "zip"]
def flds : List (Str × List Nat) := [("letters", [0]), ("w", [0]), ("k", [0]), ("table", [0])]
def mts : List (Str × Nat × Nat) := [("offset_of", 0, 27)]
def prs : List (Str × Nat × Nat) := [("size", 0, 26), ("turned", 0, 28)]
def mks : List (Str × Nat × Nat) := [("Rule", 0, 24)]
def dfs : List (Nat × Nat × List D) := [(25, 5, [.bl false])]
def cms : List ((Str × Str) × Nat × Nat) := [((("Rule" : Str), ("by_order" : Str)), 0, 25)]
def mki : List (Nat × Nat) := [(0, 24)]
def tab : Tab := ⟨defs, fns, gls, bls, 60, flds, mts, prs, mks, dfs, cms, mki⟩
def cns : List Str := ["Rule"]
def w0 (K : PySem.W.Frag) : Wd := ⟨K, fun c => He.ga K (cns.getD c ""), fun _ => 0⟩
def pg : Pg := ⟨fun i => ([.str [97, 98, 99, 100], .tup [.tup [.str [108, 101, 116, 116, 101, 114, 115], .int (2), .int (4)], .tup [.str [119], .int (1), .int (5)], .tup [.str [107], .int (1), .int (4)]]] : List D)[i]?⟩
def fx : List Fx := [fa (.glo "is_integer"), fa (.glo "is_sequence"), fa (.glo "alphabet"), fa (.glo "texts_of"), fa (.glo "power"), fa (.glo "wrong_at"), fa (.glo "is_text"), fa (.glo "is_piece"), fa (.glo "need_letters"), fa (.glo "places_of"), fa (.glo "picks"), fa (.glo "status"), fa (.glo "moved"), fa (.glo "many_moved"), fa (.glo "most_moved"), fa (.glo "greatest_moved"), fa (.glo "need_sizes"), fa (.glo "need_order"), fa (.glo "is_table"), fa (.glo "pieces_of"), fa (.glo "first_offset"), fa (.glo "_law_box"), fa (.glo "_law_take"), fa (.glo "law"), fa (.free "abs"), fa (.free "all"), fa (.free "bool"), fa (.free "classmethod"), fa (.free "enumerate"), fa (.free "int"), fa (.free "isinstance"), fa (.free "len"), fa (.free "list"), fa (.free "max"), fa (.free "min"), fa (.free "property"), fa (.free "range"), fa (.free "set"), fa (.free "sorted"), fa (.free "str"), fa (.free "tuple"), fa (.free "zip"), gloB "ALL_LETTERS" (.str [97, 98, 99, 100]), gloB "SIZES" (.tup [.tup [.str [108, 101, 116, 116, 101, 114, 115], .int (2), .int (4)], .tup [.str [119], .int (1), .int (5)], .tup [.str [107], .int (1), .int (4)]]), fa (.cls "Rule"), fa (.glo "Rule"), fa (.noat "Rule" "letters"), fa (.noat "Rule" "w"), fa (.noat "Rule" "k"), fa (.noat "Rule" "table"), fa (.meth "Rule" "offset_of"), prpB "Rule" "size", prpB "Rule" "turned", fa (.mkr "Rule"), cmB "Rule" "by_order"]
def e0 : He5.DefA := ⟨fun K => He.ga K "is_integer", "is_integer", "is_integer", defArgs (top 9), defBody (top 9), defScope (top 9), [], []⟩
def e1 : He5.DefA := ⟨fun K => He.ga K "is_sequence", "is_sequence", "is_sequence", defArgs (top 10), defBody (top 10), defScope (top 10), [], []⟩
def e2 : He5.DefA := ⟨fun K => He.ga K "alphabet", "alphabet", "alphabet", defArgs (top 11), defBody (top 11), defScope (top 11), [], []⟩
def e3 : He5.DefA := ⟨fun K => He.ga K "texts_of", "texts_of", "texts_of", defArgs (top 12), defBody (top 12), defScope (top 12), [], []⟩
def e4 : He5.DefA := ⟨fun K => He.ga K "power", "power", "power", defArgs (top 13), defBody (top 13), defScope (top 13), [], []⟩
def e5 : He5.DefA := ⟨fun K => He.ga K "wrong_at", "wrong_at", "wrong_at", defArgs (top 14), defBody (top 14), defScope (top 14), [], []⟩
def e6 : He5.DefA := ⟨fun K => He.ga K "is_text", "is_text", "is_text", defArgs (top 15), defBody (top 15), defScope (top 15), [], []⟩
def e7 : He5.DefA := ⟨fun K => He.ga K "is_piece", "is_piece", "is_piece", defArgs (top 16), defBody (top 16), defScope (top 16), [], []⟩
def e8 : He5.DefA := ⟨fun K => He.ga K "need_letters", "need_letters", "need_letters", defArgs (top 17), defBody (top 17), defScope (top 17), [], []⟩
def e9 : He5.DefA := ⟨fun K => He.ga K "places_of", "places_of", "places_of", defArgs (top 20), defBody (top 20), defScope (top 20), [], []⟩
def e10 : He5.DefA := ⟨fun K => He.ga K "picks", "picks", "picks", defArgs (top 21), defBody (top 21), defScope (top 21), [], []⟩
def e11 : He5.DefA := ⟨fun K => He.ga K "status", "status", "status", defArgs (top 22), defBody (top 22), defScope (top 22), [], []⟩
def e12 : He5.DefA := ⟨fun K => He.ga K "moved", "moved", "moved", defArgs (top 24), defBody (top 24), defScope (top 24), [], []⟩
def e13 : He5.DefA := ⟨fun K => He.ga K "many_moved", "many_moved", "many_moved", defArgs (top 25), defBody (top 25), defScope (top 25), [], []⟩
def e14 : He5.DefA := ⟨fun K => He.ga K "most_moved", "most_moved", "most_moved", defArgs (top 26), defBody (top 26), defScope (top 26), [], []⟩
def e15 : He5.DefA := ⟨fun K => He.ga K "greatest_moved", "greatest_moved", "greatest_moved", defArgs (top 27), defBody (top 27), defScope (top 27), [], []⟩
def e16 : He5.DefA := ⟨fun K => He.ga K "need_sizes", "need_sizes", "need_sizes", defArgs (top 30), defBody (top 30), defScope (top 30), [], []⟩
def e17 : He5.DefA := ⟨fun K => He.ga K "need_order", "need_order", "need_order", defArgs (top 31), defBody (top 31), defScope (top 31), [], []⟩
def e18 : He5.DefA := ⟨fun K => He.ga K "is_table", "is_table", "is_table", defArgs (top 32), defBody (top 32), defScope (top 32), [], []⟩
def e19 : He5.DefA := ⟨fun K => He.ga K "pieces_of", "pieces_of", "pieces_of", defArgs (top 33), defBody (top 33), defScope (top 33), [], []⟩
def e20 : He5.DefA := ⟨fun K => He.ga K "first_offset", "first_offset", "first_offset", defArgs (top 34), defBody (top 34), defScope (top 34), [], []⟩
def e21 : He5.DefA := ⟨fun K => He.ga K "_law_box", "_law_box", "_law_box", defArgs (top 37), defBody (top 37), defScope (top 37), [], []⟩
def e22 : He5.DefA := ⟨fun K => He.ga K "_law_take", "_law_take", "_law_take", defArgs (top 38), defBody (top 38), defScope (top 38), [], []⟩
def e23 : He5.DefA := ⟨fun K => He.ga K "law", "law", "law", defArgs (top 39), defBody (top 39), defScope (top 39), [], []⟩
def e24 : He5.DefA := ⟨fun K => He.ma K (He.ga K "Rule") "__init__", "__init__", "Rule.__init__", defArgs (sub 35 0), defBody (sub 35 0), defScope (sub 35 0), [], []⟩
def e25 : He5.DefA := ⟨fun K => He5.wf K (He.ga K "Rule") "classmethod" "by_order", "by_order", "Rule.by_order", defArgs (sub 35 1), defBody (sub 35 1), defScope (sub 35 1), [.bl false], []⟩
def e26 : He5.DefA := ⟨fun K => He5.wf K (He.ga K "Rule") "property" "size", "size", "Rule.size", defArgs (sub 35 3), defBody (sub 35 3), defScope (sub 35 3), [], []⟩
def e27 : He5.DefA := ⟨fun K => He.ma K (He.ga K "Rule") "offset_of", "offset_of", "Rule.offset_of", defArgs (sub 35 4), defBody (sub 35 4), defScope (sub 35 4), [], []⟩
def e28 : He5.DefA := ⟨fun K => He5.wf K (He.ga K "Rule") "property" "turned", "turned", "Rule.turned", defArgs (sub 35 6), defBody (sub 35 6), defScope (sub 35 6), [], []⟩
def fn : List He5.DefA := [e0, e1, e2, e3, e4, e5, e6, e7, e8, e9, e10, e11, e12, e13, e14, e15, e16, e17, e18, e19, e20, e21, e22, e23, e24, e25, e26, e27, e28]
abbrev R : PySem.W.OpenRow := PySem.W.OpenLaw.row PySem.Challenge.rw_windowpicks_k44_edits_known_by_hand
abbrev hk : PySem.W.Hook := hookX 5 fx fn
def ob (s : PySem.W.SharedT) : AlX := lookG 5 fx fn (HandSHeadRun.getT s)
theorem ob_eq (s : PySem.W.SharedT) : ob s = hk.obs s.abs := lookG_eq (HandSHeadRun.getT_eq s)
def loose : List PySem.Str := (["PickError", "InvalidRule", "InvalidText", "InvalidLetters", "InvalidOrder", "DIGITS", "ALL_LETTERS", "is_integer", "is_sequence", "alphabet", "texts_of", "power", "wrong_at", "is_text", "is_piece", "need_letters", "number_in", "places_of", "picks", "status", "moved", "many_moved", "most_moved", "greatest_moved", "SIZES", "need_sizes", "need_order", "is_table", "pieces_of", "first_offset", "Rule", "_law_box", "_law_take"] : List String).map PySem.Str.ofString
theorem run (w : World) : HandSHeadRun.RunEq R (PySem.W.view R.prog [39]) hk ob 4000 loose w := by
  intro os
  kernel_rfl
theorem sc0 : FnScope d0.N d0.ps d0.scope := ⟨by kernel_rfl, by kernel_rfl, by kernel_rfl, by decide +kernel, by decide +kernel, by decide +kernel, by decide +kernel⟩
theorem sc1 : FnScope d1.N d1.ps d1.scope := ⟨by kernel_rfl, by kernel_rfl, by kernel_rfl, by decide +kernel, by decide +kernel, by decide +kernel, by decide +kernel⟩
theorem sc2 : FnScope d2.N d2.ps d2.scope := ⟨by kernel_rfl, by kernel_rfl, by kernel_rfl, by decide +kernel, by decide +kernel, by decide +kernel, by decide +kernel⟩
theorem sc3 : FnScope d3.N d3.ps d3.scope := ⟨by kernel_rfl, by kernel_rfl, by kernel_rfl, by decide +kernel, by decide +kernel, by decide +kernel, by decide +kernel⟩
theorem sc4 : FnScope d4.N d4.ps d4.scope := ⟨by kernel_rfl, by kernel_rfl, by kernel_rfl, by decide +kernel, by decide +kernel, by decide +kernel, by decide +kernel⟩
theorem sc5 : FnScope d5.N d5.ps d5.scope := ⟨by kernel_rfl, by kernel_rfl, by kernel_rfl, by decide +kernel, by decide +kernel, by decide +kernel, by decide +kernel⟩
theorem sc6 : FnScope d6.N d6.ps d6.scope := ⟨by kernel_rfl, by kernel_rfl, by kernel_rfl, by decide +kernel, by decide +kernel, by decide +kernel, by decide +kernel⟩
theorem sc7 : FnScope d7.N d7.ps d7.scope := ⟨by kernel_rfl, by kernel_rfl, by kernel_rfl, by decide +kernel, by decide +kernel, by decide +kernel, by decide +kernel⟩
theorem sc8 : FnScope d8.N d8.ps d8.scope := ⟨by kernel_rfl, by kernel_rfl, by kernel_rfl, by decide +kernel, by decide +kernel, by decide +kernel, by decide +kernel⟩
theorem sc9 : FnScope d9.N d9.ps d9.scope := ⟨by kernel_rfl, by kernel_rfl, by kernel_rfl, by decide +kernel, by decide +kernel, by decide +kernel, by decide +kernel⟩
theorem sc10 : FnScope d10.N d10.ps d10.scope := ⟨by kernel_rfl, by kernel_rfl, by kernel_rfl, by decide +kernel, by decide +kernel, by decide +kernel, by decide +kernel⟩
theorem sc11 : FnScope d11.N d11.ps d11.scope := ⟨by kernel_rfl, by kernel_rfl, by kernel_rfl, by decide +kernel, by decide +kernel, by decide +kernel, by decide +kernel⟩
theorem sc12 : FnScope d12.N d12.ps d12.scope := ⟨by kernel_rfl, by kernel_rfl, by kernel_rfl, by decide +kernel, by decide +kernel, by decide +kernel, by decide +kernel⟩
theorem sc13 : FnScope d13.N d13.ps d13.scope := ⟨by kernel_rfl, by kernel_rfl, by kernel_rfl, by decide +kernel, by decide +kernel, by decide +kernel, by decide +kernel⟩
theorem sc14 : FnScope d14.N d14.ps d14.scope := ⟨by kernel_rfl, by kernel_rfl, by kernel_rfl, by decide +kernel, by decide +kernel, by decide +kernel, by decide +kernel⟩
theorem sc15 : FnScope d15.N d15.ps d15.scope := ⟨by kernel_rfl, by kernel_rfl, by kernel_rfl, by decide +kernel, by decide +kernel, by decide +kernel, by decide +kernel⟩
theorem sc16 : FnScope d16.N d16.ps d16.scope := ⟨by kernel_rfl, by kernel_rfl, by kernel_rfl, by decide +kernel, by decide +kernel, by decide +kernel, by decide +kernel⟩
theorem sc17 : FnScope d17.N d17.ps d17.scope := ⟨by kernel_rfl, by kernel_rfl, by kernel_rfl, by decide +kernel, by decide +kernel, by decide +kernel, by decide +kernel⟩
theorem sc18 : FnScope d18.N d18.ps d18.scope := ⟨by kernel_rfl, by kernel_rfl, by kernel_rfl, by decide +kernel, by decide +kernel, by decide +kernel, by decide +kernel⟩
theorem sc19 : FnScope d19.N d19.ps d19.scope := ⟨by kernel_rfl, by kernel_rfl, by kernel_rfl, by decide +kernel, by decide +kernel, by decide +kernel, by decide +kernel⟩
theorem sc20 : FnScope d20.N d20.ps d20.scope := ⟨by kernel_rfl, by kernel_rfl, by kernel_rfl, by decide +kernel, by decide +kernel, by decide +kernel, by decide +kernel⟩
theorem sc21 : FnScope d21.N d21.ps d21.scope := ⟨by kernel_rfl, by kernel_rfl, by kernel_rfl, by decide +kernel, by decide +kernel, by decide +kernel, by decide +kernel⟩
theorem sc22 : FnScope d22.N d22.ps d22.scope := ⟨by kernel_rfl, by kernel_rfl, by kernel_rfl, by decide +kernel, by decide +kernel, by decide +kernel, by decide +kernel⟩
theorem sc23 : FnScope d23.N d23.ps d23.scope := ⟨by kernel_rfl, by kernel_rfl, by kernel_rfl, by decide +kernel, by decide +kernel, by decide +kernel, by decide +kernel⟩
theorem sc24 : FnScope d24.N d24.ps d24.scope := ⟨by kernel_rfl, by kernel_rfl, by kernel_rfl, by decide +kernel, by decide +kernel, by decide +kernel, by decide +kernel⟩
theorem sc25 : FnScope d25.N d25.ps d25.scope := ⟨by kernel_rfl, by kernel_rfl, by kernel_rfl, by decide +kernel, by decide +kernel, by decide +kernel, by decide +kernel⟩
theorem sc26 : FnScope d26.N d26.ps d26.scope := ⟨by kernel_rfl, by kernel_rfl, by kernel_rfl, by decide +kernel, by decide +kernel, by decide +kernel, by decide +kernel⟩
theorem sc27 : FnScope d27.N d27.ps d27.scope := ⟨by kernel_rfl, by kernel_rfl, by kernel_rfl, by decide +kernel, by decide +kernel, by decide +kernel, by decide +kernel⟩
theorem sc28 : FnScope d28.N d28.ps d28.scope := ⟨by kernel_rfl, by kernel_rfl, by kernel_rfl, by decide +kernel, by decide +kernel, by decide +kernel, by decide +kernel⟩
theorem bn0 {K : PySem.W.Frag} {f : Addr} {fd : FuncData} (F : FunD K d0.name d0.qual d0.params d0.body d0.scope [] [] f fd) : Binds K fd d0.ps [] := F.bindsN fun _ _ _ _ _ _ us hl => match us, hl with | [_], _ => rfl
theorem bn1 {K : PySem.W.Frag} {f : Addr} {fd : FuncData} (F : FunD K d1.name d1.qual d1.params d1.body d1.scope [] [] f fd) : Binds K fd d1.ps [] := F.bindsN fun _ _ _ _ _ _ us hl => match us, hl with | [_], _ => rfl
theorem bn2 {K : PySem.W.Frag} {f : Addr} {fd : FuncData} (F : FunD K d2.name d2.qual d2.params d2.body d2.scope [] [] f fd) : Binds K fd d2.ps [] := F.bindsN fun _ _ _ _ _ _ us hl => match us, hl with | [_], _ => rfl
theorem bn3 {K : PySem.W.Frag} {f : Addr} {fd : FuncData} (F : FunD K d3.name d3.qual d3.params d3.body d3.scope [] [] f fd) : Binds K fd d3.ps [] := F.bindsN fun _ _ _ _ _ _ us hl => match us, hl with | [_, _], _ => rfl
theorem bn4 {K : PySem.W.Frag} {f : Addr} {fd : FuncData} (F : FunD K d4.name d4.qual d4.params d4.body d4.scope [] [] f fd) : Binds K fd d4.ps [] := F.bindsN fun _ _ _ _ _ _ us hl => match us, hl with | [_, _], _ => rfl
theorem bn5 {K : PySem.W.Frag} {f : Addr} {fd : FuncData} (F : FunD K d5.name d5.qual d5.params d5.body d5.scope [] [] f fd) : Binds K fd d5.ps [] := F.bindsN fun _ _ _ _ _ _ us hl => match us, hl with | [_, _], _ => rfl
theorem bn6 {K : PySem.W.Frag} {f : Addr} {fd : FuncData} (F : FunD K d6.name d6.qual d6.params d6.body d6.scope [] [] f fd) : Binds K fd d6.ps [] := F.bindsN fun _ _ _ _ _ _ us hl => match us, hl with | [_, _], _ => rfl
theorem bn7 {K : PySem.W.Frag} {f : Addr} {fd : FuncData} (F : FunD K d7.name d7.qual d7.params d7.body d7.scope [] [] f fd) : Binds K fd d7.ps [] := F.bindsN fun _ _ _ _ _ _ us hl => match us, hl with | [_, _, _], _ => rfl
theorem bn8 {K : PySem.W.Frag} {f : Addr} {fd : FuncData} (F : FunD K d8.name d8.qual d8.params d8.body d8.scope [] [] f fd) : Binds K fd d8.ps [] := F.bindsN fun _ _ _ _ _ _ us hl => match us, hl with | [_, _], _ => rfl
theorem bn9 {K : PySem.W.Frag} {f : Addr} {fd : FuncData} (F : FunD K d9.name d9.qual d9.params d9.body d9.scope [] [] f fd) : Binds K fd d9.ps [] := F.bindsN fun _ _ _ _ _ _ us hl => match us, hl with | [_, _], _ => rfl
theorem bn10 {K : PySem.W.Frag} {f : Addr} {fd : FuncData} (F : FunD K d10.name d10.qual d10.params d10.body d10.scope [] [] f fd) : Binds K fd d10.ps [] := F.bindsN fun _ _ _ _ _ _ us hl => match us, hl with | [_, _], _ => rfl
theorem bn11 {K : PySem.W.Frag} {f : Addr} {fd : FuncData} (F : FunD K d11.name d11.qual d11.params d11.body d11.scope [] [] f fd) : Binds K fd d11.ps [] := F.bindsN fun _ _ _ _ _ _ us hl => match us, hl with | [_], _ => rfl
theorem bn12 {K : PySem.W.Frag} {f : Addr} {fd : FuncData} (F : FunD K d12.name d12.qual d12.params d12.body d12.scope [] [] f fd) : Binds K fd d12.ps [] := F.bindsN fun _ _ _ _ _ _ us hl => match us, hl with | [_, _, _, _], _ => rfl
theorem bn13 {K : PySem.W.Frag} {f : Addr} {fd : FuncData} (F : FunD K d13.name d13.qual d13.params d13.body d13.scope [] [] f fd) : Binds K fd d13.ps [] := F.bindsN fun _ _ _ _ _ _ us hl => match us, hl with | [_, _, _, _], _ => rfl
theorem bn14 {K : PySem.W.Frag} {f : Addr} {fd : FuncData} (F : FunD K d14.name d14.qual d14.params d14.body d14.scope [] [] f fd) : Binds K fd d14.ps [] := F.bindsN fun _ _ _ _ _ _ us hl => match us, hl with | [_], _ => rfl
theorem bn15 {K : PySem.W.Frag} {f : Addr} {fd : FuncData} (F : FunD K d15.name d15.qual d15.params d15.body d15.scope [] [] f fd) : Binds K fd d15.ps [] := F.bindsN fun _ _ _ _ _ _ us hl => match us, hl with | [_], _ => rfl
theorem bn16 {K : PySem.W.Frag} {f : Addr} {fd : FuncData} (F : FunD K d16.name d16.qual d16.params d16.body d16.scope [] [] f fd) : Binds K fd d16.ps [] := F.bindsN fun _ _ _ _ _ _ us hl => match us, hl with | [_, _, _], _ => rfl
theorem bn17 {K : PySem.W.Frag} {f : Addr} {fd : FuncData} (F : FunD K d17.name d17.qual d17.params d17.body d17.scope [] [] f fd) : Binds K fd d17.ps [] := F.bindsN fun _ _ _ _ _ _ us hl => match us, hl with | [_, _, _], _ => rfl
theorem bn18 {K : PySem.W.Frag} {f : Addr} {fd : FuncData} (F : FunD K d18.name d18.qual d18.params d18.body d18.scope [] [] f fd) : Binds K fd d18.ps [] := F.bindsN fun _ _ _ _ _ _ us hl => match us, hl with | [_, _, _], _ => rfl
theorem bn19 {K : PySem.W.Frag} {f : Addr} {fd : FuncData} (F : FunD K d19.name d19.qual d19.params d19.body d19.scope [] [] f fd) : Binds K fd d19.ps [] := F.bindsN fun _ _ _ _ _ _ us hl => match us, hl with | [_, _, _], _ => rfl
theorem bn20 {K : PySem.W.Frag} {f : Addr} {fd : FuncData} (F : FunD K d20.name d20.qual d20.params d20.body d20.scope [] [] f fd) : Binds K fd d20.ps [] := F.bindsN fun _ _ _ _ _ _ us hl => match us, hl with | [_, _, _, _, _], _ => rfl
theorem bn21 {K : PySem.W.Frag} {f : Addr} {fd : FuncData} (F : FunD K d21.name d21.qual d21.params d21.body d21.scope [] [] f fd) : Binds K fd d21.ps [] := F.bindsN fun _ _ _ _ _ _ us hl => match us, hl with | [_, _, _], _ => rfl
theorem bn22 {K : PySem.W.Frag} {f : Addr} {fd : FuncData} (F : FunD K d22.name d22.qual d22.params d22.body d22.scope [] [] f fd) : Binds K fd d22.ps [] := F.bindsN fun _ _ _ _ _ _ us hl => match us, hl with | [_, _], _ => rfl
theorem bn23 {K : PySem.W.Frag} {f : Addr} {fd : FuncData} (F : FunD K d23.name d23.qual d23.params d23.body d23.scope [] [] f fd) : Binds K fd d23.ps [] := F.bindsN fun _ _ _ _ _ _ us hl => match us, hl with | [_], _ => rfl
theorem bn24 {K : PySem.W.Frag} {f : Addr} {fd : FuncData} (F : FunD K d24.name d24.qual d24.params d24.body d24.scope [] [] f fd) : Binds K fd d24.ps [] := F.bindsN fun _ _ _ _ _ _ us hl => match us, hl with | [_, _, _, _, _], _ => rfl
theorem bd25_5 {K : PySem.W.Frag} {f : Addr} {fd : FuncData} (F : FunD K d25.name d25.qual d25.params d25.body d25.scope (e25.dvs K) [] f fd) : ∃ us, Vals ((e25.dvs K).drop 0) us ∧ Binds K fd d25.ps us := F.binds1 5 0 (fun z => nomatch z) rfl fun _ _ _ _ _ _ _ us its h1 h2 => match us, its, h1, h2 with | [_, _, _, _, _], [_], _, _ => ⟨_, rfl, rfl⟩
theorem bd25_6 {K : PySem.W.Frag} {f : Addr} {fd : FuncData} (F : FunD K d25.name d25.qual d25.params d25.body d25.scope (e25.dvs K) [] f fd) : ∃ us, Vals ((e25.dvs K).drop 1) us ∧ Binds K fd d25.ps us := F.binds1 6 1 (fun z => nomatch z) rfl fun _ _ _ _ _ _ _ us its h1 h2 => match us, its, h1, h2 with | [_, _, _, _, _, _], [_], _, _ => ⟨_, rfl, rfl⟩
theorem bn25 {K : PySem.W.Frag} {f : Addr} {fd : FuncData} (F : FunD K d25.name d25.qual d25.params d25.body d25.scope (e25.dvs K) [] f fd) : Binds K fd d25.ps [] := by
  obtain ⟨us, h1, h2⟩ := bd25_6 F
  have e := vals_nil h1
  subst e
  exact h2
theorem bn26 {K : PySem.W.Frag} {f : Addr} {fd : FuncData} (F : FunD K d26.name d26.qual d26.params d26.body d26.scope [] [] f fd) : Binds K fd d26.ps [] := F.bindsN fun _ _ _ _ _ _ us hl => match us, hl with | [_], _ => rfl
theorem bn27 {K : PySem.W.Frag} {f : Addr} {fd : FuncData} (F : FunD K d27.name d27.qual d27.params d27.body d27.scope [] [] f fd) : Binds K fd d27.ps [] := F.bindsN fun _ _ _ _ _ _ us hl => match us, hl with | [_, _], _ => rfl
theorem bn28 {K : PySem.W.Frag} {f : Addr} {fd : FuncData} (F : FunD K d28.name d28.qual d28.params d28.body d28.scope [] [] f fd) : Binds K fd d28.ps [] := F.bindsN fun _ _ _ _ _ _ us hl => match us, hl with | [_], _ => rfl
theorem facts {P : Program} {w : World} {K : PySem.W.Frag} {h : Heap} {mg : Str → Option Value} {f : Addr} (X : K.In h) (G : h.Ns mainGlobals mg) (hfa : mg ("law" : Str) = some (.ref f)) (c : ToldX fx fn K) :
    ∃ (fd : FuncData), (∀ (s : Shared) (v : Value), BindsTo s fd ⟨[v], []⟩ [("_law_script", v)]) ∧ ∀ (fu k : Nat) (base : Heap), FnG P w K mg base (L2.CX P w) (2 * k) f fd ["_law_script"] (spOf (w0 K) (runF pg tab.fds fu k 23)) := by
  obtain ⟨f0, F0⟩ := c.def_ 0 (d := e0) rfl
  obtain ⟨f1, F1⟩ := c.def_ 1 (d := e1) rfl
  obtain ⟨f2, F2⟩ := c.def_ 2 (d := e2) rfl
  obtain ⟨f3, F3⟩ := c.def_ 3 (d := e3) rfl
  obtain ⟨f4, F4⟩ := c.def_ 4 (d := e4) rfl
  obtain ⟨f5, F5⟩ := c.def_ 5 (d := e5) rfl
  obtain ⟨f6, F6⟩ := c.def_ 6 (d := e6) rfl
  obtain ⟨f7, F7⟩ := c.def_ 7 (d := e7) rfl
  obtain ⟨f8, F8⟩ := c.def_ 8 (d := e8) rfl
  obtain ⟨f9, F9⟩ := c.def_ 9 (d := e9) rfl
  obtain ⟨f10, F10⟩ := c.def_ 10 (d := e10) rfl
  obtain ⟨f11, F11⟩ := c.def_ 11 (d := e11) rfl
  obtain ⟨f12, F12⟩ := c.def_ 12 (d := e12) rfl
  obtain ⟨f13, F13⟩ := c.def_ 13 (d := e13) rfl
  obtain ⟨f14, F14⟩ := c.def_ 14 (d := e14) rfl
  obtain ⟨f15, F15⟩ := c.def_ 15 (d := e15) rfl
  obtain ⟨f16, F16⟩ := c.def_ 16 (d := e16) rfl
  obtain ⟨f17, F17⟩ := c.def_ 17 (d := e17) rfl
  obtain ⟨f18, F18⟩ := c.def_ 18 (d := e18) rfl
  obtain ⟨f19, F19⟩ := c.def_ 19 (d := e19) rfl
  obtain ⟨f20, F20⟩ := c.def_ 20 (d := e20) rfl
  obtain ⟨f21, F21⟩ := c.def_ 21 (d := e21) rfl
  obtain ⟨f22, F22⟩ := c.def_ 22 (d := e22) rfl
  obtain ⟨f23, F23⟩ := c.def_ 23 (d := e23) rfl
  obtain ⟨f24, F24⟩ := c.def_ 24 (d := e24) rfl
  obtain ⟨f25, F25⟩ := c.def_ 25 (d := e25) rfl
  obtain ⟨f26, F26⟩ := c.def_ 26 (d := e26) rfl
  obtain ⟨f27, F27⟩ := c.def_ 27 (d := e27) rfl
  obtain ⟨f28, F28⟩ := c.def_ 28 (d := e28) rfl
  have e := hfa.symm.trans (He.glo_ok X G (c.at 23 rfl))
  cases e
  refine ⟨f23, fun s v => FunD.bindsA (ps := ["_law_script"]) F23 (fun _ _ _ _ _ _ us hl => match us, hl with | [_], _ => rfl) s [v] rfl, fun fu k base => ?_⟩
  have Kn : Known (w0 K) pg tab mg (fun i => (fn.getD i e0).at_ K) (fun i => [f0, f1, f2, f3, f4, f5, f6, f7, f8, f9, f10, f11, f12, f13, f14, f15, f16, f17, f18, f19, f20, f21, f22, f23, f24, f25, f26, f27, f28].getD i f0) := by
    refine ⟨fun i d hd => ?_, fun i d n ds hd hx => ?_, fun x i hx => ?_, fun x i hx => ?_, fun x hx => ?_, fun x cs hx => ?_, fun x cc i hx => ?_, fun x cc i hx => ?_, fun x cc i hx => ?_, fun x m cc i hx => ?_, fun cc i hx => ?_⟩
    · match i, hd with
      | 0, hd => cases hd; exact ⟨sc0, ⟨_, _, F0⟩, bn0 F0⟩
      | 1, hd => cases hd; exact ⟨sc1, ⟨_, _, F1⟩, bn1 F1⟩
      | 2, hd => cases hd; exact ⟨sc2, ⟨_, _, F2⟩, bn2 F2⟩
      | 3, hd => cases hd; exact ⟨sc3, ⟨_, _, F3⟩, bn3 F3⟩
      | 4, hd => cases hd; exact ⟨sc4, ⟨_, _, F4⟩, bn4 F4⟩
      | 5, hd => cases hd; exact ⟨sc5, ⟨_, _, F5⟩, bn5 F5⟩
      | 6, hd => cases hd; exact ⟨sc6, ⟨_, _, F6⟩, bn6 F6⟩
      | 7, hd => cases hd; exact ⟨sc7, ⟨_, _, F7⟩, bn7 F7⟩
      | 8, hd => cases hd; exact ⟨sc8, ⟨_, _, F8⟩, bn8 F8⟩
      | 9, hd => cases hd; exact ⟨sc9, ⟨_, _, F9⟩, bn9 F9⟩
      | 10, hd => cases hd; exact ⟨sc10, ⟨_, _, F10⟩, bn10 F10⟩
      | 11, hd => cases hd; exact ⟨sc11, ⟨_, _, F11⟩, bn11 F11⟩
      | 12, hd => cases hd; exact ⟨sc12, ⟨_, _, F12⟩, bn12 F12⟩
      | 13, hd => cases hd; exact ⟨sc13, ⟨_, _, F13⟩, bn13 F13⟩
      | 14, hd => cases hd; exact ⟨sc14, ⟨_, _, F14⟩, bn14 F14⟩
      | 15, hd => cases hd; exact ⟨sc15, ⟨_, _, F15⟩, bn15 F15⟩
      | 16, hd => cases hd; exact ⟨sc16, ⟨_, _, F16⟩, bn16 F16⟩
      | 17, hd => cases hd; exact ⟨sc17, ⟨_, _, F17⟩, bn17 F17⟩
      | 18, hd => cases hd; exact ⟨sc18, ⟨_, _, F18⟩, bn18 F18⟩
      | 19, hd => cases hd; exact ⟨sc19, ⟨_, _, F19⟩, bn19 F19⟩
      | 20, hd => cases hd; exact ⟨sc20, ⟨_, _, F20⟩, bn20 F20⟩
      | 21, hd => cases hd; exact ⟨sc21, ⟨_, _, F21⟩, bn21 F21⟩
      | 22, hd => cases hd; exact ⟨sc22, ⟨_, _, F22⟩, bn22 F22⟩
      | 23, hd => cases hd; exact ⟨sc23, ⟨_, _, F23⟩, bn23 F23⟩
      | 24, hd => cases hd; exact ⟨sc24, ⟨_, _, F24⟩, bn24 F24⟩
      | 25, hd => cases hd; exact ⟨sc25, ⟨_, _, F25⟩, bn25 F25⟩
      | 26, hd => cases hd; exact ⟨sc26, ⟨_, _, F26⟩, bn26 F26⟩
      | 27, hd => cases hd; exact ⟨sc27, ⟨_, _, F27⟩, bn27 F27⟩
      | 28, hd => cases hd; exact ⟨sc28, ⟨_, _, F28⟩, bn28 F28⟩
      | n + 29, hd => cases hd
    · obtain ⟨q, h1, h2⟩ := Option.map_eq_some_iff.mp hx
      have hm := List.mem_of_find?_eq_some h1
      have hp := List.find?_some h1
      subst h2
      simp only [tab, dfs, List.mem_cons, List.not_mem_nil, or_false] at hm
      rcases hm with rfl
      · simp only [Bool.and_eq_true, beq_iff_eq] at hp
        obtain ⟨rfl, rfl⟩ := hp
        cases hd
        obtain ⟨us, h3, h4⟩ := bd25_5 F25
        exact ⟨us, _, h4, h3, fun G H => ⟨[], [], _, _, rfl, rfl, ⟨rfl, rfl⟩, ⟨rfl, rfl⟩⟩⟩
    · have hh := lookup_cases hx
      simp only [tab, fns, List.mem_cons, List.not_mem_nil, or_false, Prod.mk.injEq] at hh
      rcases hh with ⟨rfl, rfl⟩ | ⟨rfl, rfl⟩ | ⟨rfl, rfl⟩ | ⟨rfl, rfl⟩ | ⟨rfl, rfl⟩ | ⟨rfl, rfl⟩ | ⟨rfl, rfl⟩ | ⟨rfl, rfl⟩ | ⟨rfl, rfl⟩ | ⟨rfl, rfl⟩ | ⟨rfl, rfl⟩ | ⟨rfl, rfl⟩ | ⟨rfl, rfl⟩ | ⟨rfl, rfl⟩ | ⟨rfl, rfl⟩ | ⟨rfl, rfl⟩ | ⟨rfl, rfl⟩ | ⟨rfl, rfl⟩ | ⟨rfl, rfl⟩ | ⟨rfl, rfl⟩ | ⟨rfl, rfl⟩ | ⟨rfl, rfl⟩ | ⟨rfl, rfl⟩ | ⟨rfl, rfl⟩
      · exact ⟨⟨d0, rfl⟩, He.glo_ok X G (c.at 0 rfl)⟩
      · exact ⟨⟨d1, rfl⟩, He.glo_ok X G (c.at 1 rfl)⟩
      · exact ⟨⟨d2, rfl⟩, He.glo_ok X G (c.at 2 rfl)⟩
      · exact ⟨⟨d3, rfl⟩, He.glo_ok X G (c.at 3 rfl)⟩
      · exact ⟨⟨d4, rfl⟩, He.glo_ok X G (c.at 4 rfl)⟩
      · exact ⟨⟨d5, rfl⟩, He.glo_ok X G (c.at 5 rfl)⟩
      · exact ⟨⟨d6, rfl⟩, He.glo_ok X G (c.at 6 rfl)⟩
      · exact ⟨⟨d7, rfl⟩, He.glo_ok X G (c.at 7 rfl)⟩
      · exact ⟨⟨d8, rfl⟩, He.glo_ok X G (c.at 8 rfl)⟩
      · exact ⟨⟨d9, rfl⟩, He.glo_ok X G (c.at 9 rfl)⟩
      · exact ⟨⟨d10, rfl⟩, He.glo_ok X G (c.at 10 rfl)⟩
      · exact ⟨⟨d11, rfl⟩, He.glo_ok X G (c.at 11 rfl)⟩
      · exact ⟨⟨d12, rfl⟩, He.glo_ok X G (c.at 12 rfl)⟩
      · exact ⟨⟨d13, rfl⟩, He.glo_ok X G (c.at 13 rfl)⟩
      · exact ⟨⟨d14, rfl⟩, He.glo_ok X G (c.at 14 rfl)⟩
      · exact ⟨⟨d15, rfl⟩, He.glo_ok X G (c.at 15 rfl)⟩
      · exact ⟨⟨d16, rfl⟩, He.glo_ok X G (c.at 16 rfl)⟩
      · exact ⟨⟨d17, rfl⟩, He.glo_ok X G (c.at 17 rfl)⟩
      · exact ⟨⟨d18, rfl⟩, He.glo_ok X G (c.at 18 rfl)⟩
      · exact ⟨⟨d19, rfl⟩, He.glo_ok X G (c.at 19 rfl)⟩
      · exact ⟨⟨d20, rfl⟩, He.glo_ok X G (c.at 20 rfl)⟩
      · exact ⟨⟨d21, rfl⟩, He.glo_ok X G (c.at 21 rfl)⟩
      · exact ⟨⟨d22, rfl⟩, He.glo_ok X G (c.at 22 rfl)⟩
      · exact ⟨⟨d23, rfl⟩, He.glo_ok X G (c.at 23 rfl)⟩
    · have hh := lookup_cases hx
      simp only [tab, gls, List.mem_cons, List.not_mem_nil, or_false, Prod.mk.injEq] at hh
      rcases hh with ⟨rfl, rfl⟩ | ⟨rfl, rfl⟩
      · obtain ⟨u, v, h1, h2, h3⟩ := gloB_ok (W := w0 K) rfl X G (c.at 42 rfl)
        exact ⟨u, v, _, h1, h2, rfl, h3⟩
      · obtain ⟨u, v, h1, h2, h3⟩ := gloB_ok (W := w0 K) rfl X G (c.at 43 rfl)
        exact ⟨u, v, _, h1, h2, rfl, h3⟩
    · have hx : x ∈ bls := hx
      simp only [bls, List.mem_cons, List.not_mem_nil, or_false] at hx
      rcases hx with rfl | rfl | rfl | rfl | rfl | rfl | rfl | rfl | rfl | rfl | rfl | rfl | rfl | rfl | rfl | rfl | rfl | rfl
      · exact He.free_ok X G (c.at 24 rfl)
      · exact He.free_ok X G (c.at 25 rfl)
      · exact He.free_ok X G (c.at 26 rfl)
      · exact He.free_ok X G (c.at 27 rfl)
      · exact He.free_ok X G (c.at 28 rfl)
      · exact He.free_ok X G (c.at 29 rfl)
      · exact He.free_ok X G (c.at 30 rfl)
      · exact He.free_ok X G (c.at 31 rfl)
      · exact He.free_ok X G (c.at 32 rfl)
      · exact He.free_ok X G (c.at 33 rfl)
      · exact He.free_ok X G (c.at 34 rfl)
      · exact He.free_ok X G (c.at 35 rfl)
      · exact He.free_ok X G (c.at 36 rfl)
      · exact He.free_ok X G (c.at 37 rfl)
      · exact He.free_ok X G (c.at 38 rfl)
      · exact He.free_ok X G (c.at 39 rfl)
      · exact He.free_ok X G (c.at 40 rfl)
      · exact He.free_ok X G (c.at 41 rfl)
    · have hh := lookup_cases hx
      simp only [tab, flds, List.mem_cons, List.not_mem_nil, or_false, Prod.mk.injEq] at hh
      rcases hh with ⟨rfl, rfl⟩ | ⟨rfl, rfl⟩ | ⟨rfl, rfl⟩ | ⟨rfl, rfl⟩
      · intro cc hc
        simp only [List.mem_cons, List.not_mem_nil, or_false] at hc
        rcases hc with rfl
        · exact ⟨He.cls_ok (c.at 44 rfl), He.noat_ok (c.at 46 rfl)⟩
      · intro cc hc
        simp only [List.mem_cons, List.not_mem_nil, or_false] at hc
        rcases hc with rfl
        · exact ⟨He.cls_ok (c.at 44 rfl), He.noat_ok (c.at 47 rfl)⟩
      · intro cc hc
        simp only [List.mem_cons, List.not_mem_nil, or_false] at hc
        rcases hc with rfl
        · exact ⟨He.cls_ok (c.at 44 rfl), He.noat_ok (c.at 48 rfl)⟩
      · intro cc hc
        simp only [List.mem_cons, List.not_mem_nil, or_false] at hc
        rcases hc with rfl
        · exact ⟨He.cls_ok (c.at 44 rfl), He.noat_ok (c.at 49 rfl)⟩
    · have hh := lookup_cases hx
      simp only [tab, mts, List.mem_cons, List.not_mem_nil, or_false, Prod.mk.injEq] at hh
      rcases hh with ⟨rfl, rfl, rfl⟩
      · exact ⟨⟨d27, rfl⟩, He.cls_ok (c.at 44 rfl), He.meth_ok (c.at 50 rfl)⟩
    · have hh := lookup_cases hx
      simp only [tab, prs, List.mem_cons, List.not_mem_nil, or_false, Prod.mk.injEq] at hh
      rcases hh with ⟨rfl, rfl, rfl⟩ | ⟨rfl, rfl, rfl⟩
      · exact ⟨⟨d26, rfl⟩, He.cls_ok (c.at 44 rfl), _, prpB_ok (c.at 51 rfl)⟩
      · exact ⟨⟨d28, rfl⟩, He.cls_ok (c.at 44 rfl), _, prpB_ok (c.at 52 rfl)⟩
    · have hh := lookup_cases hx
      simp only [tab, mks, List.mem_cons, List.not_mem_nil, or_false, Prod.mk.injEq] at hh
      rcases hh with ⟨rfl, rfl, rfl⟩
      · exact ⟨⟨d24, rfl⟩, He.glo_ok X G (c.at 45 rfl), He.mkr_ok (c.at 53 rfl)⟩
    · have hh := lookup_cases hx
      simp only [tab, cms, List.mem_cons, List.not_mem_nil, or_false, Prod.mk.injEq] at hh
      rcases hh with ⟨⟨rfl, rfl⟩, rfl, rfl⟩
      · exact ⟨⟨d25, rfl⟩, He.glo_ok X G (c.at 45 rfl), _, _, (cmB_ok (c.at 54 rfl)).1, (cmB_ok (c.at 54 rfl)).2⟩
    · have hh := lookup_cases hx
      simp only [tab, mki, List.mem_cons, List.not_mem_nil, or_false, Prod.mk.injEq] at hh
      rcases hh with ⟨rfl, rfl⟩
      · exact ⟨⟨d24, rfl⟩, He.mkr_ok (c.at 53 rfl)⟩
  exact prog_ok Kn k 23 d23 rfl
end Lk44
section
open PySem PySem.W PySem.Calls PyProof.Rows
theorem Lk44.holds_of (fu kk : Nat) (hkk : L2.Room (2 * kk) callerA) (hrun : ∀ ns : List Int, ns.length ≤ 63 → ∃ fs, Wpk.runF Lk44.pg Lk44.tab.fds fu kk 23 [.ksq (ns.map Wpk.D.int)] = .ok (.bl true) fs) : PySem.Challenge.rw_windowpicks_k44_edits_known_by_hand.Holds := by
  w_on; o_law
  refine HandSHeadRun.head_any (r := OpenLaw.row PySem.Challenge.rw_windowpicks_k44_edits_known_by_hand) (q := view (OpenLaw.row PySem.Challenge.rw_windowpicks_k44_edits_known_by_hand).prog [39]) (H := Lk44.hk) (ob := Lk44.ob) (M := 4000) (loose := Lk44.loose) (d := HandSHeadRun.topDef (OpenLaw.row PySem.Challenge.rw_windowpicks_k44_edits_known_by_hand).prog 39) (kwd := []) Lk44.ob_eq
    (by kernel_rfl) (fun s => by kernel_rfl) Lk44.run (by kernel_rfl) (by kernel_rfl) (by kernel_rfl) (by rfl) (by first | assumption | decide +kernel) (by decide +kernel) ⟨rfl, rfl, rfl, rfl, rfl, by decide +kernel⟩ ?hw ?hc
  case hw => w_witness2
  case hc =>
    refine Wpk.walk_end (l := PySem.Challenge.rw_windowpicks_k44_edits_known_by_hand) (x := "_law_script") (w0 := Lk44.w0) (fun _ => rfl) rfl (by kernel_rfl) hkk hrun ?F
    intro w mg fa h Y G hmg0
    obtain ⟨K, KX, c⟩ := Y
    have hmg : mg ("law" : PySem.Str) = some (.ref fa) := by
      have e : (HandSHeadRun.topDef (OpenLaw.row PySem.Challenge.rw_windowpicks_k44_edits_known_by_hand).prog 39).name = ("law" : PySem.Str) := by kernel_rfl
      rw [← e]
      exact hmg0
    obtain ⟨fd, hb, hF⟩ := Lk44.facts (P := (PySem.Challenge.rw_windowpicks_k44_edits_known_by_hand).prog) (w := w) KX G hmg c
    exact ⟨K, fd, KX, hb, hF⟩
end
set_option Elab.async false
set_option linter.all false
set_option maxRecDepth 1000000
/-! Lw44a: law k44, what is run. -/
namespace Wpk.M.L44
open PySem
def S0 (c__law_box : Nat) : T := .asg (.tName 2) (.call c__law_box (.cons (.pk 0) (.cons (.pk 1) (.cons (.ov (.cst (.int (44)))) .nil))))
def S1 (c___init__ c_by_order : Nat) : T := .par [6, 7] (.cons (.call c_by_order (.cons (.ov (.cst (.cls 0))) (.fill (.cons (.ov (.cst (.int (2)))) (.cons (.ov (.cst (.int (2)))) (.cons (.ov (.cst (.int (1)))) (.cons (.ov (.lstD (.cons (.cst (.str [97])) (.cons (.cst (.str [98])) .nil)))) .nil)))) [(.bl false)]))) (.cons (.mk 0 c___init__ (.cons (.ov (.cst (.int (2)))) (.cons (.ov (.cst (.int (2)))) (.cons (.ov (.cst (.int (1)))) (.cons (.ov (.lstD (.cons (.cst (.int (0))) (.cons (.cst (.int (0))) (.cons (.cst (.int (0))) (.cons (.cst (.int (0))) .nil)))))) .nil))))) .nil))
def S2 (c_moved : Nat) : T := .ifS (.tor (.tv (.cmp .NotEq (.ov (.call c_moved (.cons (.pk 6) (.cons (.ov (.cst (.str [98, 97, 98, 98, 97]))) (.cons (.ov (.cst (.int (3)))) (.cons (.ov (.cst (.str [97]))) .nil)))))) (.ov (.tupD (.cons (.tupD (.cons (.cst (.int (2))) (.cons (.cst (.int (4))) .nil))) (.cons (.tupD (.cons (.cst (.int (3))) .nil)) .nil)))))) (.tv (.cmp .NotEq (.ov (.call c_moved (.cons (.pk 6) (.cons (.ov (.cst (.str [98, 97, 98, 98, 97]))) (.cons (.ov (.cst (.int (2)))) (.cons (.ov (.cst (.str [97]))) .nil)))))) (.ov (.tupD (.cons (.tupD .nil) (.cons (.tupD .nil) .nil))))))) (.ret (.cst (.bl false))) .pas
def S3 (c_moved : Nat) : T := .ifS (.tor (.tv (.cmp .NotEq (.ov (.call c_moved (.cons (.pk 6) (.cons (.ov (.cst (.str [97]))) (.cons (.ov (.cst (.int (0)))) (.cons (.ov (.cst (.str [98]))) .nil)))))) (.ov (.tupD (.cons (.tupD .nil) (.cons (.tupD .nil) .nil)))))) (.tv (.cmp .NotEq (.ov (.call c_moved (.cons (.pk 6) (.cons (.ov (.cst (.str [97, 98]))) (.cons (.ov (.cst (.int (0)))) (.cons (.ov (.cst (.str [98]))) .nil)))))) (.ov (.tupD (.cons (.tupD .nil) (.cons (.tupD .nil) .nil))))))) (.ret (.cst (.bl false))) .pas
def S4 (c_moved : Nat) : T := .ifS (.tor (.tv (.cmp .NotEq (.ov (.call c_moved (.cons (.pk 6) (.cons (.ov (.cst (.str [98, 98]))) (.cons (.ov (.cst (.int (1)))) (.cons (.ov (.cst (.str [97]))) .nil)))))) (.ov (.tupD (.cons (.tupD (.cons (.cst (.int (0))) .nil)) (.cons (.tupD (.cons (.cst (.int (1))) .nil)) .nil)))))) (.tv (.cmp .NotEq (.ov (.call c_moved (.cons (.pk 6) (.cons (.ov (.cst (.str [98, 98]))) (.cons (.ov (.cst (.int (0)))) (.cons (.ov (.cst (.str [97]))) .nil)))))) (.ov (.tupD (.cons (.tupD .nil) (.cons (.tupD .nil) .nil))))))) (.ret (.cst (.bl false))) .pas
def S5 (c_greatest_moved c_turned : Nat) : T := .ifS (.tor (.tv (.cmp .NotEq (.ov (.call c_greatest_moved (.cons (.pk 6) .nil))) (.ov (.cst (.int (2)))))) (.tor (.tv (.cmp .NotEq (.ov (.call c_greatest_moved (.cons (.ov (.prp 0 c_turned (.pk 6))) .nil))) (.ov (.cst (.int (2)))))) (.tv (.cmp .NotEq (.ov (.call c_greatest_moved (.cons (.pk 7) .nil))) (.ov (.cst (.int (0)))))))) (.ret (.cst (.bl false))) .pas
def S6 (c__law_take : Nat) : T := .asg (.tName 3) (.op .Add (.ov (.cst (.int (1)))) (.ov (.call c__law_take (.cons (.pk 2) (.cons (.ov (.cst (.int (40)))) .nil)))))
def S7 : T := .par [8, 9] (.cons (.op .Mult (.ov (.cst (.str [98, 97]))) (.pk 3)) (.cons (.op .Mult (.ov (.cst (.str [97, 98]))) (.pk 3)) .nil))
def S8 : T := .asg (.tName 4) (.op .Mult (.ov (.cst (.int (2)))) (.pk 3))
def S9 (c_moved : Nat) : T := .ifS (.tv (.cmp .NotEq (.ov (.call c_moved (.cons (.pk 6) (.cons (.ov (.op .Add (.ov (.op .Add (.pk 8) (.ov (.cst (.str [98]))))) (.pk 9))) (.cons (.pk 4) (.cons (.ov (.cst (.str [97]))) .nil)))))) (.ov (.tupD (.cons (.tupD .nil) (.cons (.tupD (.cons (.var 4) .nil)) .nil)))))) (.ret (.cst (.bl false))) .pas
def S10 (c_moved : Nat) : T := .ifS (.tv (.cmp .NotEq (.ov (.call c_moved (.cons (.pk 6) (.cons (.ov (.op .Add (.ov (.op .Add (.pk 8) (.ov (.cst (.str [97]))))) (.pk 9))) (.cons (.pk 4) (.cons (.ov (.cst (.str [98]))) .nil)))))) (.ov (.tupD (.cons (.tupD (.cons (.var 4) .nil)) (.cons (.tupD .nil) .nil)))))) (.ret (.cst (.bl false))) .pas
def S11 (c_moved : Nat) : T := .ifS (.tv (.cmp .NotEq (.ov (.call c_moved (.cons (.pk 6) (.cons (.ov (.op .Mult (.ov (.cst (.str [98]))) (.ov (.op .Add (.pk 3) (.ov (.cst (.int (2)))))))) (.cons (.pk 3) (.cons (.ov (.cst (.str [97]))) .nil)))))) (.ov (.tupD (.cons (.tupD (.cons (.op .Sub (.pk 3) (.ov (.cst (.int (1))))) .nil)) (.cons (.tupD .nil) .nil)))))) (.ret (.cst (.bl false))) .pas
def S12 (c_most_moved : Nat) : T := .ifS (.tor (.tv (.cmp .NotEq (.ov (.idx (.ov (.call c_most_moved (.cons (.pk 7) .nil))) (.ov (.cst (.int (2)))))) (.ov (.cst (.int (0)))))) (.tv (.cmp .NotEq (.ov (.bi .len (.cons (.ov (.idx (.ov (.call c_most_moved (.cons (.pk 7) .nil))) (.ov (.cst (.int (0)))))) .nil))) (.ov (.cst (.int (5))))))) (.ret (.cst (.bl false))) .pas
def S13 (c___init__ : Nat) : T := .asg (.tName 5) (.mk 0 c___init__ (.cons (.ov (.cst (.int (4)))) (.cons (.ov (.cst (.int (1)))) (.cons (.ov (.cst (.int (1)))) (.cons (.ov (.lstD (.cons (.cst (.int (0))) (.cons (.cst (.int (0))) (.cons (.cst (.int (0))) (.cons (.cst (.int (0))) .nil)))))) .nil)))))
def S14 (c_greatest_moved c_most_moved c_moved : Nat) : T := .ifS (.tor (.tv (.cmp .NotEq (.ov (.call c_greatest_moved (.cons (.pk 5) .nil))) (.ov (.cst (.int (0)))))) (.tor (.tv (.cmp .NotEq (.ov (.bi .len (.cons (.ov (.idx (.ov (.call c_most_moved (.cons (.pk 5) .nil))) (.ov (.cst (.int (0)))))) .nil))) (.ov (.cst (.int (1)))))) (.tv (.cmp .NotEq (.ov (.call c_moved (.cons (.pk 5) (.cons (.ov (.cst (.str [97, 98, 99, 100]))) (.cons (.ov (.cst (.int (2)))) (.cons (.ov (.cst (.str [100]))) .nil)))))) (.ov (.tupD (.cons (.tupD .nil) (.cons (.tupD .nil) .nil)))))))) (.ret (.cst (.bl false))) .pas
def Sb (c___init__ c__law_box c__law_take c_by_order c_greatest_moved c_most_moved c_moved c_turned : Nat) : T := .seq (S0 c__law_box) (.seq (S1 c___init__ c_by_order) (.seq (S2 c_moved) (.seq (S3 c_moved) (.seq (S4 c_moved) (.seq (S5 c_greatest_moved c_turned) (.seq (S6 c__law_take) (.seq (S7) (.seq (S8) (.seq (S9 c_moved) (.seq (S10 c_moved) (.seq (S11 c_moved) (.seq (S12 c_most_moved) (.seq (S13 c___init__) (S14 c_greatest_moved c_most_moved c_moved))))))))))))))
def B_law_1 (c___init__ c__law_box c__law_take c_by_order c_greatest_moved c_most_moved c_moved c_turned : Nat) : T := .forS (.tName 1) .range (.cons (.bi .max (.cons (.ov (.cst (.int (1)))) (.cons (.ov (.bi .min (.cons (.ov (.cst (.int (3)))) (.cons (.ov (.bi .len (.cons (.pk 0) .nil))) .nil)))) .nil))) .nil) (Sb c___init__ c__law_box c__law_take c_by_order c_greatest_moved c_most_moved c_moved c_turned)
def F_law (c___init__ c__law_box c__law_take c_by_order c_greatest_moved c_most_moved c_moved c_turned : Nat) : Fd := ⟨1, 10, (.seq (B_law_1 c___init__ c__law_box c__law_take c_by_order c_greatest_moved c_most_moved c_moved c_turned) (.ret (.cst (.bl true))))⟩

abbrev rn (k : Nat) : Call := runF Lk44.pg Lk44.tab.fds 1000 k
def tab4 : List Int := [0, 0, 1, 0]
def AB : D := rulT 2 2 1 tab4
def EV : D := rulT 2 2 1 [0, 0, 0, 0]
def SO : D := rulT 4 1 1 [0, 0, 0, 0]
section
variable (s : D) (x1 b x3 x4 x5 x6 x7 x8 x9 : Option D)
theorem t1 : evS Lk44.pg (rn 29) 1000 [] (S1 24 25) [some s, x1, b, x3, x4, x5, x6, x7, x8, x9] = .ok .nx [some s, x1, b, x3, x4, x5, some AB, some EV, x8, x9] := by kernel_rfl
theorem t2 : evS Lk44.pg (rn 29) 1000 [] (S2 12) [some s, x1, b, x3, x4, x5, some AB, some EV, x8, x9] = .ok .nx [some s, x1, b, x3, x4, x5, some AB, some EV, x8, x9] := by kernel_rfl
theorem t3 : evS Lk44.pg (rn 29) 1000 [] (S3 12) [some s, x1, b, x3, x4, x5, some AB, some EV, x8, x9] = .ok .nx [some s, x1, b, x3, x4, x5, some AB, some EV, x8, x9] := by kernel_rfl
theorem t4 : evS Lk44.pg (rn 29) 1000 [] (S4 12) [some s, x1, b, x3, x4, x5, some AB, some EV, x8, x9] = .ok .nx [some s, x1, b, x3, x4, x5, some AB, some EV, x8, x9] := by kernel_rfl
theorem t13 : evS Lk44.pg (rn 29) 1000 [] (S13 24) [some s, x1, b, x3, x4, x5, some AB, some EV, x8, x9] = .ok .nx [some s, x1, b, x3, x4, some SO, some AB, some EV, x8, x9] := by kernel_rfl
theorem tn : rn 29 28 [AB] = .ok (rulM true 2 2 1 [1, 0, 1, 1]) [some AB] := by kernel_rfl
theorem ms : mostM 2 2 1 tab4 = some ([97, 98, 97, 97, 97], 98, 2) ∧ mostM 2 2 1 [1, 0, 1, 1] = some ([97, 97, 97, 98, 97], 98, 2) ∧ mostM 2 2 1 [0, 0, 0, 0] = some ([97, 97, 97, 97, 97], 97, 0) ∧ mostM 4 1 1 [0, 0, 0, 0] = some ([97], 97, 0) := by decide +kernel
theorem gr {c : Call} {i : Nat} (h : SpGreatest c i) {m : Bool} {l w k : Nat} {tb : List Int} (hs : OkS l w k) (hb : tb.length = l ^ (w + k - 1)) (h1 : l ^ (2 * (2 * w + k - 3) + 1) ≤ 4096) (h2 : 2 * (2 * w + k - 3) + 1 ≤ 20) {t : List Nat} {x n : Nat} (e : mostM l w k tb = some (t, x, n)) : c i [rulM m l w k tb] = .ok (.int n) [fin m (rulM m l w k tb)] := by
  obtain ⟨t', x', e', q⟩ := h m l w k tb hs hb h1 h2
  rw [e] at e'
  obtain ⟨_, _, rfl⟩ : t = t' ∧ x = x' ∧ n = mvN l w k tb t' x' := by simpa using e'
  exact q
theorem okS2 : OkS 2 2 1 := by unfold OkS; decide
theorem okS4 : OkS 4 1 1 := by unfold OkS; decide
theorem moved0 {c : Call} (h : SpMoved c 12) : c 12 [SO, .str [97, 98, 99, 100], .int 2, .str [100]] = .ok (.tup [.tup [], .tup []]) [some SO, none, none, none] := by
  have q := h true 4 1 1 [0, 0, 0, 0] [97, 98, 99, 100] [100] 2 okS4 rfl (by decide) (by decide) (by decide) (by decide)
  have e1 : out (srtI (pkD 4 (1 + 1 - 1) [0, 0, 0, 0] [97, 98, 99, 100])) (srtI (pkD 4 (1 + 1 - 1) [0, 0, 0, 0] (chg [97, 98, 99, 100] 2 [100]))) = [] ∧ out (srtI (pkD 4 (1 + 1 - 1) [0, 0, 0, 0] (chg [97, 98, 99, 100] 2 [100]))) (srtI (pkD 4 (1 + 1 - 1) [0, 0, 0, 0] [97, 98, 99, 100])) = [] := by decide +kernel
  rw [e1.1, e1.2] at q
  exact q
theorem t5 {c : Call} (q0 : c 28 [AB] = .ok (rulM true 2 2 1 [1, 0, 1, 1]) [some AB]) (hg : SpGreatest c 15) : evS Lk44.pg c 1000 [] (S5 15 28) [some s, x1, b, x3, x4, x5, some AB, some EV, x8, x9] = .ok .nx [some s, x1, b, x3, x4, x5, some AB, some EV, x8, x9] := by
  have q1 : c 15 [AB] = _ := gr hg (m := true) okS2 rfl (by decide) (by decide) ms.1
  have q2 := gr hg (m := false) okS2 rfl (by decide) (by decide) ms.2.1
  have q3 : c 15 [EV] = _ := gr hg (m := true) okS2 rfl (by decide) (by decide) ms.2.2.1
  have oA : owned AB = true := rfl
  have oE : owned EV = true := rfl
  have iA : isInc 0 AB = true := rfl
  have fZ : frz (rulM true 2 2 1 [1, 0, 1, 1]) = rulM false 2 2 1 [1, 0, 1, 1] := rfl
  rw [show fin false (rulM false 2 2 1 [1, 0, 1, 1]) = none from rfl] at q2
  rw [show fin true (rulM true 2 2 1 tab4) = some AB from rfl] at q1
  rw [show fin true (rulM true 2 2 1 [0, 0, 0, 0]) = some EV from rfl] at q3
  generalize rulM true 2 2 1 [1, 0, 1, 1] = Z at *
  generalize rulM false 2 2 1 [1, 0, 1, 1] = Z' at *
  generalize AB = A at *
  generalize EV = E at *
  unfold S5
  simp [doCall, oA, oE, iA, fZ, q0, q1, q2, q3]
theorem t12 {c : Call} (hm : SpMost c 14) : evS Lk44.pg c 1000 [] (S12 14) [some s, x1, b, x3, x4, x5, some AB, some EV, x8, x9] = .ok .nx [some s, x1, b, x3, x4, x5, some AB, some EV, x8, x9] := by
  have q : c 14 [EV] = _ := hm true 2 2 1 [0, 0, 0, 0] okS2 rfl (by decide) (by decide)
  rw [ms.2.2.1, show fin true (rulM true 2 2 1 [0, 0, 0, 0]) = some EV from rfl] at q
  have oE : owned EV = true := rfl
  generalize AB = A at *
  generalize EV = E at *
  unfold S12
  simp [doCall, oE, q, fD, show biD .len [.str [97, 97, 97, 97, 97]] = some (.int 5) from rfl]
theorem t14 {c : Call} (hg : SpGreatest c 15) (hm : SpMost c 14) (hv : SpMoved c 12) : evS Lk44.pg c 1000 [] (S14 15 14 12) [some s, x1, b, x3, x4, some SO, some AB, some EV, x8, x9] = .ok .nx [some s, x1, b, x3, x4, some SO, some AB, some EV, x8, x9] := by
  have q1 : c 15 [SO] = _ := gr hg (m := true) okS4 rfl (by decide) (by decide) ms.2.2.2
  have q2 : c 14 [SO] = _ := hm true 4 1 1 [0, 0, 0, 0] okS4 rfl (by decide) (by decide)
  have q3 := moved0 hv
  rw [show fin true (rulM true 4 1 1 [0, 0, 0, 0]) = some SO from rfl] at q1 q2
  rw [ms.2.2.2] at q2
  have oE : owned SO = true := rfl
  generalize AB = A at *
  generalize EV = E at *
  generalize SO = O at *
  unfold S14
  simp [doCall, oE, q1, q2, q3, fD, cmp_ne_tt, eqDL, show biD .len [.str [97]] = some (.int 1) from rfl]
end
/-- so many times -/
def tms (n : Nat) (x : List Nat) : List Nat := (List.replicate n x).flatten
def pk4 (t : List Nat) : List Int := srtI (pkD 2 2 tab4 t)
def tx1 (n : Nat) : List Nat := tms n [98, 97] ++ [98] ++ tms n [97, 98]
def tx2 (n : Nat) : List Nat := tms n [98, 97] ++ [97] ++ tms n [97, 98]
/-- what the law says of the long texts -/
def long (n : Nat) : Bool :=
  decide (chg (tx1 n) (2 * n) [97] = tx2 n) && decide (chg (tx2 n) (2 * n) [98] = tx1 n) && decide (gone 2 2 1 tab4 (tx1 n) (tx2 n) (2 * n - 2) = []) && decide (gone 2 2 1 tab4 (tx2 n) (tx1 n) (2 * n - 2) = [((2 * n : Nat) : Int)])
theorem long1_ok : ∀ n, n < 41 → 1 ≤ n → long n = true := by decide +kernel
def long3 (n : Nat) : Bool :=
  decide (pkL 2 2 tab4 (tms (n + 2) [98]) = (List.range (n + 1)).map fun (j : Nat) => (j : Int)) && decide (pkL 2 2 tab4 (chg (tms (n + 2) [98]) n [97]) = ((List.range (n - 1)).map fun (j : Nat) => (j : Int)) ++ [(n : Int), (n : Int)])
theorem long3_ok : ∀ n, n < 41 → 1 ≤ n → long3 n = true := by decide +kernel
theorem out3 {n : Nat} (h1 : n < 41) (h2 : 1 ≤ n) : out (pk4 (tms (n + 2) [98])) (pk4 (chg (tms (n + 2) [98]) n [97])) = [((n - 1 : Nat) : Int)] ∧ out (pk4 (chg (tms (n + 2) [98]) n [97])) (pk4 (tms (n + 2) [98])) = [] := by
  have z := long3_ok n h1 h2
  unfold long3 at z
  simp only [Bool.and_eq_true, decide_eq_true_eq] at z
  obtain ⟨z1, z2⟩ := z
  have m1 : ∀ p, p ∈ pk4 (tms (n + 2) [98]) ↔ 0 ≤ p ∧ p ≤ n := fun p => by
    show p ∈ srtI (pkD 2 2 tab4 _) ↔ _
    rw [mem_pk, z1, List.mem_map]
    constructor
    · rintro ⟨j, hj, rfl⟩
      have := List.mem_range.mp hj
      omega
    · intro h
      exact ⟨p.toNat, List.mem_range.mpr (by omega), by omega⟩
  have m2 : ∀ p, p ∈ pk4 (chg (tms (n + 2) [98]) n [97]) ↔ (0 ≤ p ∧ p < n - 1) ∨ p = n := fun p => by
    show p ∈ srtI (pkD 2 2 tab4 _) ↔ _
    rw [mem_pk, z2, List.mem_append, List.mem_map]
    constructor
    · rintro (⟨j, hj, rfl⟩ | h)
      · have := List.mem_range.mp hj
        omega
      · simp at h
        omega
    · rintro (h | h)
      · exact .inl ⟨p.toNat, List.mem_range.mpr (by omega), by omega⟩
      · subst h; simp
  refine ⟨eq_of_lt ((pkS_lt 2 2 tab4 (tms (n + 2) [98])).sublist List.filter_sublist) (List.pairwise_singleton ..) fun p => ?_, ?_⟩
  · unfold out
    rw [List.mem_filter, m1, Bool.not_eq_true', decide_eq_false_iff_not, m2, List.mem_singleton]
    omega
  · unfold out
    refine List.filter_eq_nil_iff.mpr fun p hp => ?_
    rw [Bool.not_eq_true', decide_eq_false_iff_not, m1]
    have := (m2 p).mp hp
    omega
theorem tms_len (n : Nat) (x : List Nat) : (tms n x).length = n * x.length := by unfold tms; rw [List.length_flatten, List.map_replicate, List.sum_replicate_nat]
theorem okT4 : OkT 2 tab4 := by unfold OkT tab4; decide
theorem long_ok {n : Nat} (h1 : n < 41) (h2 : 1 ≤ n) : chg (tx1 n) (2 * n) [97] = tx2 n ∧ chg (tx2 n) (2 * n) [98] = tx1 n ∧ out (pk4 (tx1 n)) (pk4 (tx2 n)) = [] ∧ out (pk4 (tx2 n)) (pk4 (tx1 n)) = [((2 * n : Nat) : Int)] ∧ out (pk4 (tms (n + 2) [98])) (pk4 (chg (tms (n + 2) [98]) n [97])) = [((n - 1 : Nat) : Int)] ∧ out (pk4 (chg (tms (n + 2) [98]) n [97])) (pk4 (tms (n + 2) [98])) = [] := by
  have z := long1_ok n h1 h2
  unfold long at z
  simp only [Bool.and_eq_true, decide_eq_true_eq] at z
  obtain ⟨⟨⟨z1, z2⟩, z3⟩, z4⟩ := z
  have l1 := tms_len n [98, 97]
  have l2 := tms_len n [97, 98]
  simp only [List.length_cons, List.length_nil] at l1 l2
  have a1 : (tx1 n).length = 4 * n + 1 := by unfold tx1; simp only [List.length_append, List.length_cons, List.length_nil]; omega
  have a2 : (tx2 n).length = 4 * n + 1 := by unfold tx2; simp only [List.length_append, List.length_cons, List.length_nil]; omega
  have o1 := out_loc (l := 2) (w := 2) (k := 1) (tb := tab4) (t := tx1 n) (a := 2 * n) (c := 97) okT4 (by decide) (by decide) (by omega) (by omega)
  have o2 := out_loc (l := 2) (w := 2) (k := 1) (tb := tab4) (t := tx2 n) (a := 2 * n) (c := 98) okT4 (by decide) (by decide) (by omega) (by omega)
  rw [z1] at o1
  rw [z2] at o2
  exact ⟨z1, z2, Eq.trans o1 z3, Eq.trans o2 z4, (out3 h1 h2).1, (out3 h1 h2).2⟩
end Wpk.M.L44
set_option Elab.async false
set_option linter.all false
set_option maxRecDepth 100000
/-! Lw44: law k44, edits known by hand. -/
namespace Wpk.M.L44
open PySem
theorem op_mul_n {x : List Nat} {n : Nat} (h : x.length * n ≤ 100000) (hn : n ≤ 1000) : opD .Mult (.str x) (.int (n : Int)) = some (.str (tms n x)) := by
  rw [op_mul_si, if_pos ⟨by simpa using h, by omega⟩]
  simp [tms]
theorem tms_ab {n : Nat} {x : List Nat} (h : ∀ c ∈ x, c ∈ ab 2) : ∀ c ∈ tms n x, c ∈ ab 2 := fun c hc => by
  unfold tms at hc
  obtain ⟨l, hl, hc⟩ := List.mem_flatten.mp hc
  rw [List.eq_of_mem_replicate hl] at hc
  exact h c hc
theorem app_ab {a b : List Nat} (h1 : ∀ c ∈ a, c ∈ ab 2) (h2 : ∀ c ∈ b, c ∈ ab 2) : ∀ c ∈ a ++ b, c ∈ ab 2 := fun c hc => (List.mem_append.mp hc).elim (h1 c) (h2 c)
theorem okS : OkS 2 2 1 := by unfold OkS; decide
/-- what is asked of the long texts -/
theorem asked (h : SpMoved (rn 29) 12) {n : Nat} (h1 : 1 ≤ n) (h2 : n < 41) :
    rn 29 12 [AB, .str (tms n [98, 97] ++ [98] ++ tms n [97, 98]), .int ((2 * n : Nat) : Int), .str [97]] = .ok (.tup [.tup [], .tup [.int ((2 * n : Nat) : Int)]]) [some AB, none, none, none] ∧
    rn 29 12 [AB, .str (tms n [98, 97] ++ [97] ++ tms n [97, 98]), .int ((2 * n : Nat) : Int), .str [98]] = .ok (.tup [.tup [.int ((2 * n : Nat) : Int)], .tup []]) [some AB, none, none, none] ∧
    rn 29 12 [AB, .str (tms (n + 2) [98]), .int ((n : Nat) : Int), .str [97]] = .ok (.tup [.tup [.int ((n - 1 : Nat) : Int)], .tup []]) [some AB, none, none, none] := by
  obtain ⟨z1, z2, z3, z4, z5, z6⟩ := long_ok h2 h1
  unfold tx1 tx2 at z1 z2 z3 z4
  have a0 : ∀ c ∈ [97], c ∈ ab 2 := by decide
  have b0 : ∀ c ∈ [98], c ∈ ab 2 := by decide
  have cl : ∀ c ∈ tms n [98, 97], c ∈ ab 2 := tms_ab (by decide)
  have cr : ∀ c ∈ tms n [97, 98], c ∈ ab 2 := tms_ab (by decide)
  have n1 := tms_len n [98, 97]
  have n2 := tms_len n [97, 98]
  have n3 := tms_len (n + 2) [98]
  simp only [List.length_cons, List.length_nil] at n1 n2 n3
  refine ⟨?_, ?_, ?_⟩
  · have q := h true 2 2 1 tab4 (tms n [98, 97] ++ [98] ++ tms n [97, 98]) [97] (2 * n) okS rfl (app_ab (app_ab cl b0) cr) a0 (by simp [n1, n2]; omega) (by decide)
    rw [z1] at q
    have e1 : out (srtI (pkD 2 (2 + 1 - 1) tab4 (tms n [98, 97] ++ [98] ++ tms n [97, 98]))) (srtI (pkD 2 (2 + 1 - 1) tab4 (tms n [98, 97] ++ [97] ++ tms n [97, 98]))) = [] := z3
    have e2 : out (srtI (pkD 2 (2 + 1 - 1) tab4 (tms n [98, 97] ++ [97] ++ tms n [97, 98]))) (srtI (pkD 2 (2 + 1 - 1) tab4 (tms n [98, 97] ++ [98] ++ tms n [97, 98]))) = [((2 * n : Nat) : Int)] := z4
    rw [e1, e2] at q
    exact q
  · have q := h true 2 2 1 tab4 (tms n [98, 97] ++ [97] ++ tms n [97, 98]) [98] (2 * n) okS rfl (app_ab (app_ab cl a0) cr) b0 (by simp [n1, n2]; omega) (by decide)
    rw [z2] at q
    have e1 : out (srtI (pkD 2 (2 + 1 - 1) tab4 (tms n [98, 97] ++ [98] ++ tms n [97, 98]))) (srtI (pkD 2 (2 + 1 - 1) tab4 (tms n [98, 97] ++ [97] ++ tms n [97, 98]))) = [] := z3
    have e2 : out (srtI (pkD 2 (2 + 1 - 1) tab4 (tms n [98, 97] ++ [97] ++ tms n [97, 98]))) (srtI (pkD 2 (2 + 1 - 1) tab4 (tms n [98, 97] ++ [98] ++ tms n [97, 98]))) = [((2 * n : Nat) : Int)] := z4
    rw [e1, e2] at q
    exact q
  · have q := h true 2 2 1 tab4 (tms (n + 2) [98]) [97] n okS rfl (tms_ab (by decide)) a0 (by simp [n3]; omega) (by decide)
    have e1 : out (srtI (pkD 2 (2 + 1 - 1) tab4 (tms (n + 2) [98]))) (srtI (pkD 2 (2 + 1 - 1) tab4 (chg (tms (n + 2) [98]) n [97]))) = [((n - 1 : Nat) : Int)] := z5
    have e2 : out (srtI (pkD 2 (2 + 1 - 1) tab4 (chg (tms (n + 2) [98]) n [97]))) (srtI (pkD 2 (2 + 1 - 1) tab4 (tms (n + 2) [98]))) = [] := z6
    rw [e1, e2] at q
    exact q
theorem turn (hbx : SpBox (rn 29) 21) (htk : SpTake (rn 29) 22) (hmv : SpMoved (rn 29) 12) (hg : SpGreatest (rn 29) 15) (hm : SpMost (rn 29) 14) (ns : List Int) (j : Nat) (hj : j ≤ 10) (x2 x3 x4 x5 x6 x7 x8 x9 : Option D) :
    ∃ y2 y3 y4 y5 y6 y7 y8 y9, evS Lk44.pg (rn 29) 1000 [] (Sb 24 21 22 25 15 14 12 28) [some (.ksq (ns.map .int)), some (.int j), x2, x3, x4, x5, x6, x7, x8, x9] = .ok .nx [some (.ksq (ns.map .int)), some (.int j), y2, y3, y4, y5, y6, y7, y8, y9] := by
  obtain ⟨b, q0⟩ := hbx ns j 44 hj
  obtain ⟨r, b2, q6, r1, r2⟩ := htk b 40 (by decide) (by decide)
  obtain ⟨n, hn1, hn2, hn⟩ : ∃ n : Nat, 1 ≤ n ∧ n < 41 ∧ 1 + r = (n : Int) := ⟨(1 + r).toNat, by omega, by omega, by omega⟩
  obtain ⟨p1, p2, p3⟩ := asked hmv hn1 hn2
  have oA : owned AB = true := rfl
  have l1 := tms_len n [98, 97]
  have l2 := tms_len n [97, 98]
  simp only [List.length_cons, List.length_nil] at l1 l2
  have g1 := op_mul_n (x := [98, 97]) (n := n) (by simp; omega) (by omega)
  have g2 := op_mul_n (x := [97, 98]) (n := n) (by simp; omega) (by omega)
  have g3 := op_mul_n (x := [98]) (n := n + 2) (by simp; omega) (by omega)
  have c2 : ((n + 2 : Nat) : Int) = (n : Int) + 2 := by omega
  have c3 : ((n - 1 : Nat) : Int) = (n : Int) - 1 := by omega
  have c4 : ((2 * n : Nat) : Int) = 2 * (n : Int) := by omega
  rw [c2] at g3
  rw [c3] at p3
  rw [c4] at p1 p2
  have m1 : opD .Mult (.int 2) (.int (n : Int)) = some (.int (2 * (n : Int))) := by rw [op_mul_ii, if_pos (.inl (by decide))]
  have a1 : opD .Add (.str (tms n [98, 97])) (.str [98]) = some (.str (tms n [98, 97] ++ [98])) := by rw [op_add_ss, if_pos (by simp [l1]; omega)]
  have a2 : opD .Add (.str (tms n [98, 97] ++ [98])) (.str (tms n [97, 98])) = some (.str (tms n [98, 97] ++ [98] ++ tms n [97, 98])) := by rw [op_add_ss, if_pos (by simp [l1, l2]; omega)]
  have a3 : opD .Add (.str (tms n [98, 97])) (.str [97]) = some (.str (tms n [98, 97] ++ [97])) := by rw [op_add_ss, if_pos (by simp [l1]; omega)]
  have a4 : opD .Add (.str (tms n [98, 97] ++ [97])) (.str (tms n [97, 98])) = some (.str (tms n [98, 97] ++ [97] ++ tms n [97, 98])) := by rw [op_add_ss, if_pos (by simp [l1, l2]; omega)]
  have ne1 : ∀ z : Int, cmpD .NotEq (.tup [.tup [], .tup [.int z]]) (.tup [.tup [], .tup [.int z]]) = some false := fun z => by rw [cmp_ne_tt]; simp [eqDL]
  have ne2 : ∀ z : Int, cmpD .NotEq (.tup [.tup [.int z], .tup []]) (.tup [.tup [.int z], .tup []]) = some false := fun z => by rw [cmp_ne_tt]; simp [eqDL]
  have T1 := t1 (.ksq (ns.map .int)) (some (.int j)) (some (bx b)) x3 x4 x5 x6 x7 x8 x9
  have T2 := t2 (.ksq (ns.map .int)) (some (.int j)) (some (bx b)) x3 x4 x5 x8 x9
  have T3 := t3 (.ksq (ns.map .int)) (some (.int j)) (some (bx b)) x3 x4 x5 x8 x9
  have T4 := t4 (.ksq (ns.map .int)) (some (.int j)) (some (bx b)) x3 x4 x5 x8 x9
  have T5 := t5 (.ksq (ns.map .int)) (some (.int j)) (some (bx b)) x3 x4 x5 x8 x9 tn hg
  generalize hc : rn 29 = c at q0 q6 p1 p2 p3 T1 T2 T3 T4 T5
  have T12 := t12 (.ksq (ns.map .int)) (some (.int j)) (some (bx b2)) (some (.int (n : Int))) (some (.int (2 * (n : Int)))) x5 (some (.str (tms n [98, 97]))) (some (.str (tms n [97, 98]))) hm
  have T13 := t13 (.ksq (ns.map .int)) (some (.int j)) (some (bx b2)) (some (.int (n : Int))) (some (.int (2 * (n : Int)))) x5 (some (.str (tms n [98, 97]))) (some (.str (tms n [97, 98])))
  have T14 := t14 (.ksq (ns.map .int)) (some (.int j)) (some (bx b2)) (some (.int (n : Int))) (some (.int (2 * (n : Int)))) (some (.str (tms n [98, 97]))) (some (.str (tms n [97, 98]))) hg hm hmv
  rw [hc] at T12 T13 T14
  generalize AB = A at *
  generalize EV = E at *
  generalize SO = O at *
  have e0 : evS Lk44.pg c 1000 [] (S0 21) [some (.ksq (ns.map .int)), some (.int j), x2, x3, x4, x5, x6, x7, x8, x9] = .ok .nx [some (.ksq (ns.map .int)), some (.int j), some (bx b), x3, x4, x5, x6, x7, x8, x9] := by
    unfold S0
    simp [doCall, q0]
  have e6 : evS Lk44.pg c 1000 [] (S6 22) [some (.ksq (ns.map .int)), some (.int j), some (bx b), x3, x4, x5, some A, some E, x8, x9] = .ok .nx [some (.ksq (ns.map .int)), some (.int j), some (bx b2), some (.int (n : Int)), x4, x5, some A, some E, x8, x9] := by
    unfold S6
    simp [doCall, q6, hn]
  have e7 : evS Lk44.pg c 1000 [] S7 [some (.ksq (ns.map .int)), some (.int j), some (bx b2), some (.int (n : Int)), x4, x5, some A, some E, x8, x9] = .ok .nx [some (.ksq (ns.map .int)), some (.int j), some (bx b2), some (.int (n : Int)), x4, x5, some A, some E, some (.str (tms n [98, 97])), some (.str (tms n [97, 98]))] := by
    unfold S7
    simp [g1, g2]
  generalize hl : tms n [98, 97] = L at *
  generalize hr : tms n [97, 98] = Rr at *
  generalize hbb : tms (n + 2) [98] = Bb at *
  generalize L ++ [98] ++ Rr = X1 at *
  generalize L ++ [97] ++ Rr = X2 at *
  generalize L ++ [98] = Y1 at *
  generalize L ++ [97] = Y2 at *
  have e8 : evS Lk44.pg c 1000 [] S8 [some (.ksq (ns.map .int)), some (.int j), some (bx b2), some (.int (n : Int)), x4, x5, some A, some E, some (.str L), some (.str Rr)] = .ok .nx [some (.ksq (ns.map .int)), some (.int j), some (bx b2), some (.int (n : Int)), some (.int (2 * (n : Int))), x5, some A, some E, some (.str L), some (.str Rr)] := by
    unfold S8
    simp [m1]
  have e9 : evS Lk44.pg c 1000 [] (S9 12) [some (.ksq (ns.map .int)), some (.int j), some (bx b2), some (.int (n : Int)), some (.int (2 * (n : Int))), x5, some A, some E, some (.str L), some (.str Rr)] = .ok .nx [some (.ksq (ns.map .int)), some (.int j), some (bx b2), some (.int (n : Int)), some (.int (2 * (n : Int))), x5, some A, some E, some (.str L), some (.str Rr)] := by
    unfold S9
    simp [doCall, oA, a1, a2, p1, ne1]
  have e10 : evS Lk44.pg c 1000 [] (S10 12) [some (.ksq (ns.map .int)), some (.int j), some (bx b2), some (.int (n : Int)), some (.int (2 * (n : Int))), x5, some A, some E, some (.str L), some (.str Rr)] = .ok .nx [some (.ksq (ns.map .int)), some (.int j), some (bx b2), some (.int (n : Int)), some (.int (2 * (n : Int))), x5, some A, some E, some (.str L), some (.str Rr)] := by
    unfold S10
    simp [doCall, oA, a3, a4, p2, ne2]
  have e11 : evS Lk44.pg c 1000 [] (S11 12) [some (.ksq (ns.map .int)), some (.int j), some (bx b2), some (.int (n : Int)), some (.int (2 * (n : Int))), x5, some A, some E, some (.str L), some (.str Rr)] = .ok .nx [some (.ksq (ns.map .int)), some (.int j), some (bx b2), some (.int (n : Int)), some (.int (2 * (n : Int))), x5, some A, some E, some (.str L), some (.str Rr)] := by
    unfold S11
    simp [doCall, oA, g3, p3, ne2]
  refine ⟨some (bx b2), some (.int (n : Int)), some (.int (2 * (n : Int))), some O, some A, some E, some (.str L), some (.str Rr), ?_⟩
  unfold Sb
  simp only [evS_seq, semSeq_eq, e0, T1, T2, T3, T4, T5, e6, e7, e8, e9, e10, e11, T12, T13, T14, bind_ok]
  simp [T1, T2, T3, T4, T5, e6, e7, e8, e9, e10, e11, T12, T13, T14]
theorem law_ok (hbx : SpBox (rn 29) 21) (htk : SpTake (rn 29) 22) (hmv : SpMoved (rn 29) 12) (hg : SpGreatest (rn 29) 15) (hm : SpMost (rn 29) 14) (ns : List Int) : ∃ e : Env, evS Lk44.pg (rn 29) 1000 [] (B_law_1 24 21 22 25 15 14 12 28) [some (.ksq (ns.map .int)), none, none, none, none, none, none, none, none, none] = .ok .nx e ∧ ∃ r, e = some (.ksq (ns.map .int)) :: r := by
  unfold B_law_1
  obtain ⟨n, hn, hle⟩ : ∃ n : Nat, (if (if (ns.length : Int) < 3 then (ns.length : Int) else 3) > 1 then (if (ns.length : Int) < 3 then (ns.length : Int) else 3) else 1) = (n : Int) ∧ n ≤ 3 := by
    by_cases h1 : ns.length < 3
    · by_cases h2 : 1 < ns.length
      · exact ⟨ns.length, by rw [if_pos (by omega : (ns.length : Int) < 3), if_pos (by omega)], by omega⟩
      · exact ⟨1, by rw [if_pos (by omega : (ns.length : Int) < 3), if_neg (by omega)]; rfl, by omega⟩
    · exact ⟨3, by rw [if_neg (by omega : ¬ (ns.length : Int) < 3)]; rfl, by omega⟩
  rw [for_eq (is := (List.range n).map fun (i : Nat) => D.int i) (e1 := [some (.ksq (ns.map .int)), none, none, none, none, none, none, none, none, none]) (by
    simp only [semIt_eq, evVs_cons, semVc_eq, kVc_eq, evE_bi, semBi_eq, evOs_cons, semOc_eq, evO_ov, semOv_eq, evE_cst, bind_ok, evOs_nil, evO_pk, semPk_eq, get_zero, resL_cons, resL_nil, res_val, res_slot, bi_len_k, of_some, bi_min_i, bi_max_i, evVs_nil, List.length_map]
    rw [hn, items_range (by omega)]
    simp)]
  obtain ⟨e', bb, r, hr1, hr2⟩ := loop_range0 (n := n) (body := forB Lk44.pg (rn 29) 1000 [] (.tName 1) (Sb 24 21 22 25 15 14 12 28))
    (I := fun j e => ∃ r : List (Option D), r.length = 9 ∧ e = some (.ksq (ns.map .int)) :: r) (e := [some (.ksq (ns.map .int)), none, none, none, none, none, none, none, none, none])
    (fun j e hj ⟨r, hr, he⟩ => by
      subst he
      match r, hr with
      | [r1, r2, r3, r4, r5, r6, r7, r8, r9], _ =>
        obtain ⟨y2, y3, y4, y5, y6, y7, y8, y9, q⟩ := turn hbx htk hmv hg hm ns j (by omega) r2 r3 r4 r5 r6 r7 r8 r9
        generalize rn 29 = c at q
        refine ⟨_, ?_, [some (.int j), y2, y3, y4, y5, y6, y7, y8, y9], rfl, rfl⟩
        rw [forB_eq]
        simp [q]) ⟨_, rfl, rfl⟩
  exact ⟨e', bb, _, hr2⟩
theorem fd0 : Lk44.tab.fds[0]? = some (F_is_integer) := by kernel_rfl
theorem fd1 : Lk44.tab.fds[1]? = some (F_is_sequence) := by kernel_rfl
theorem fd2 : Lk44.tab.fds[2]? = some (F_alphabet 0) := by kernel_rfl
theorem fd5 : Lk44.tab.fds[5]? = some (F_wrong_at 2) := by kernel_rfl
theorem fd8 : Lk44.tab.fds[8]? = some (F_need_letters 5) := by kernel_rfl
theorem fd9 : Lk44.tab.fds[9]? = some (F_places_of 27 26) := by kernel_rfl
theorem fd10 : Lk44.tab.fds[10]? = some (F_picks 8 9) := by kernel_rfl
theorem fd12 : Lk44.tab.fds[12]? = some (F_moved 10) := by kernel_rfl
theorem fd21 : Lk44.tab.fds[21]? = some (F__law_box) := by kernel_rfl
theorem fd22 : Lk44.tab.fds[22]? = some (F__law_take) := by kernel_rfl
theorem fd23 : Lk44.tab.fds[23]? = some (F_law 24 21 22 25 15 14 12 28) := by kernel_rfl
theorem fd26 : Lk44.tab.fds[26]? = some (F_Rule_size) := by kernel_rfl
theorem fd27 : Lk44.tab.fds[27]? = some (F_Rule_offset_of 2) := by kernel_rfl
theorem fd3 : Lk44.tab.fds[3]? = some (F_texts_of 2) := by kernel_rfl
theorem fd11 : Lk44.tab.fds[11]? = some (F_status 9 3) := by kernel_rfl
theorem fd13 : Lk44.tab.fds[13]? = some (F_many_moved) := by kernel_rfl
theorem fd14 : Lk44.tab.fds[14]? = some (F_most_moved 2 13 11 3) := by kernel_rfl
theorem fd15 : Lk44.tab.fds[15]? = some (F_greatest_moved 14) := by kernel_rfl
theorem run (ns : List Int) : ∃ fs, runF Lk44.pg Lk44.tab.fds 1000 30 23 [.ksq (ns.map .int)] = .ok (.bl true) fs := by
  have h2 : ∀ k, SpAlphabet (rn (k + 1)) 2 := sp_alphabet (g := 0) rfl fd2
  have h26 : ∀ k, SpSizeM (rn (k + 1)) 26 := sp_sizeM fd26
  have h27 : ∀ k, SpOffsetOfM (rn (k + 2)) 27 := sp_offset_ofM h2 fd27
  have h5 : ∀ k, SpWrongAt (rn (k + 2)) 5 := sp_wrong_at h2 fd5
  have h8 : ∀ k, SpNeedLetters (rn (k + 3)) 8 := sp_need_letters h5 fd8
  have h9 : ∀ k, SpPlacesOf (rn (k + 3)) 9 := sp_places_of h27 h26 fd9
  have h10 : ∀ k, SpPicks (rn (k + 4)) 10 := sp_picks h8 h9 fd10
  have h12 : ∀ k, SpMoved (rn (k + 5)) 12 := sp_moved h10 fd12
  have h3 : ∀ k, SpTextsOf (rn (k + 2)) 3 := sp_texts_of h2 fd3
  have h11 : ∀ k, SpStatus (rn (k + 4)) 11 := sp_status h9 h3 fd11
  have h13 : ∀ k, SpMany (rn (k + 1)) 13 := sp_many fd13
  have h14 : ∀ k, SpMost (rn (k + 5)) 14 := sp_most h2 h13 h11 h3 fd14
  have h15 : ∀ k, SpGreatest (rn (k + 6)) 15 := sp_greatest h14 fd15
  have h21 : ∀ k, SpBox (rn (k + 1)) 21 := sp_box fd21
  have h22 : ∀ k, SpTake (rn (k + 1)) 22 := sp_take fd22
  obtain ⟨e, q, r, rfl⟩ := law_ok (h21 28) (h22 28) (h12 24) (h15 23) (h14 24) ns
  refine ⟨[none], ?_⟩
  rw [run_eq fd23 rfl rfl]
  simp [F_law, q]
end Wpk.M.L44
theorem PySem.Challenge.cw_windowpicks_k44_edits_known_by_hand_holds : PySem.Challenge.rw_windowpicks_k44_edits_known_by_hand.Holds :=
  Lk44.holds_of 1000 30 (by constructor <;> decide) fun ns _ => Wpk.M.L44.run ns
