import PyProof.Rows.All
import Wide.All
import OpenK.AllK
import Wide.FinOn
import HandS.ForMost
import HandS.WideBits
import HandS.Deep
import HandS.Flow
import HandS.Style
import HandS.IsInst
import HandS.Conv
import HandS.DictComp
import KE.SortData
import PyProof.ReprRoads
import HandS.More
import HandS.Defaults
import HandS.Head2
import HandS.HeadHook2
import HandS.EndBits
import HandS.Codes
import HandS.Iter
import PyProof.ZipIter
import KE.GoesEnumKw
import HandS.DictTup
import KE.KDictWalk
import HandS.TupAny
import PySem.Challenge.RW_voicerows_k65_whole_greatest_beginnings
set_option Elab.async false
set_option linter.all false
set_option maxRecDepth 100000
set_option maxHeartbeats 2000000
/-! DL: values as data, owned objects by number, weakest preconditions over them. -/
namespace DL
open PySem L2

/-! ### data -/
inductive Dt where
  | non | bl (b : Bool) | int (i : Int) | str (s : Str)
  | lst (l : List Dt) | tup (l : List Dt)
  | dct (kvs : List (Key × Dt)) | dtt (kvs : List (List Key × Dt))
  | ins (C : Addr) (fs : List (Str × Dt))
  | adr (a : Addr)

mutual
def Rep (S : Hp) : Dt → V → Prop
  | .non, v => v = .non
  | .bl b, v => v = .bl b
  | .int i, v => v = .int i
  | .str x, v => v = .str x
  | .lst l, v => ∃ a xs, v = .ref a ∧ S a = some (.lst xs) ∧ Reps S l xs
  | .tup l, v => ∃ a xs, v = .ref a ∧ S a = some (.tup xs) ∧ Reps S l xs
  | .dct l, v => ∃ a xs, v = .ref a ∧ S a = some (.dK xs) ∧ RepK S l xs
  | .dtt l, v => ∃ a xs, v = .ref a ∧ S a = some (.dT xs) ∧ RepT S l xs
  | .ins C fs, v => ∃ a dx xs, v = .ref a ∧ S a = some (.ins C dx xs) ∧ RepF S fs xs
  | .adr a, v => v = .ref a
def Reps (S : Hp) : List Dt → List V → Prop
  | [], xs => xs = []
  | d :: l, xs => ∃ x r, xs = x :: r ∧ Rep S d x ∧ Reps S l r
def RepK (S : Hp) : List (Key × Dt) → List (Key × V) → Prop
  | [], xs => xs = []
  | (k, d) :: l, xs => ∃ x r, xs = (k, x) :: r ∧ Rep S d x ∧ RepK S l r
def RepT (S : Hp) : List (List Key × Dt) → List (List Key × V) → Prop
  | [], xs => xs = []
  | (k, d) :: l, xs => ∃ x r, xs = (k, x) :: r ∧ Rep S d x ∧ RepT S l r
def RepF (S : Hp) : List (Str × Dt) → List (Str × V) → Prop
  | [], xs => xs = []
  | (k, d) :: l, xs => ∃ x r, xs = (k, x) :: r ∧ Rep S d x ∧ RepF S l r
end

/-- what is known grows -/
def Le (S S' : Hp) : Prop := ∀ a o, S a = some o → S' a = some o
theorem Le.refl (S : Hp) : Le S S := fun _ _ h => h
theorem Le.trans {S T U : Hp} (a : Le S T) (b : Le T U) : Le S U := fun x o h => b x o (a x o h)
theorem Le.new {S : Hp} {p : Addr} {o : HO} (h : S p = none) : Le S (upd S p o) := fun a u e => by
  rw [upd_ne (ne_of_none e h)]
  exact e
theorem Le.back {S T : Hp} {p : Addr} (e : Le S T) (h : T p = none) : S p = none := by
  cases q : S p with
  | none => rfl
  | some o =>
    rw [e p o q] at h
    cases h

mutual
theorem Rep.mono {S S' : Hp} (e : Le S S') : ∀ {d : Dt} {v : V}, Rep S d v → Rep S' d v
  | .non, _, h => by simpa only [Rep] using h
  | .bl _, _, h => by simpa only [Rep] using h
  | .int _, _, h => by simpa only [Rep] using h
  | .str _, _, h => by simpa only [Rep] using h
  | .adr _, _, h => by simpa only [Rep] using h
  | .lst l, _, h => by
    simp only [Rep] at h ⊢
    obtain ⟨a, xs, h1, h2, h3⟩ := h
    exact ⟨a, xs, h1, e _ _ h2, Reps.mono e h3⟩
  | .tup l, _, h => by
    simp only [Rep] at h ⊢
    obtain ⟨a, xs, h1, h2, h3⟩ := h
    exact ⟨a, xs, h1, e _ _ h2, Reps.mono e h3⟩
  | .dct l, _, h => by
    simp only [Rep] at h ⊢
    obtain ⟨a, xs, h1, h2, h3⟩ := h
    exact ⟨a, xs, h1, e _ _ h2, RepK.mono e h3⟩
  | .dtt l, _, h => by
    simp only [Rep] at h ⊢
    obtain ⟨a, xs, h1, h2, h3⟩ := h
    exact ⟨a, xs, h1, e _ _ h2, RepT.mono e h3⟩
  | .ins C fs, _, h => by
    simp only [Rep] at h ⊢
    obtain ⟨a, dx, xs, h1, h2, h3⟩ := h
    exact ⟨a, dx, xs, h1, e _ _ h2, RepF.mono e h3⟩
theorem Reps.mono {S S' : Hp} (e : Le S S') : ∀ {l : List Dt} {xs : List V}, Reps S l xs → Reps S' l xs
  | [], _, h => by simpa only [Reps] using h
  | d :: l, _, h => by
    simp only [Reps] at h ⊢
    obtain ⟨x, r, h1, h2, h3⟩ := h
    exact ⟨x, r, h1, Rep.mono e h2, Reps.mono e h3⟩
theorem RepK.mono {S S' : Hp} (e : Le S S') : ∀ {l : List (Key × Dt)} {xs : List (Key × V)}, RepK S l xs → RepK S' l xs
  | [], _, h => by simpa only [RepK] using h
  | (k, d) :: l, _, h => by
    simp only [RepK] at h ⊢
    obtain ⟨x, r, h1, h2, h3⟩ := h
    exact ⟨x, r, h1, Rep.mono e h2, RepK.mono e h3⟩
theorem RepT.mono {S S' : Hp} (e : Le S S') : ∀ {l : List (List Key × Dt)} {xs : List (List Key × V)}, RepT S l xs → RepT S' l xs
  | [], _, h => by simpa only [RepT] using h
  | (k, d) :: l, _, h => by
    simp only [RepT] at h ⊢
    obtain ⟨x, r, h1, h2, h3⟩ := h
    exact ⟨x, r, h1, Rep.mono e h2, RepT.mono e h3⟩
theorem RepF.mono {S S' : Hp} (e : Le S S') : ∀ {l : List (Str × Dt)} {xs : List (Str × V)}, RepF S l xs → RepF S' l xs
  | [], _, h => by simpa only [RepF] using h
  | (k, d) :: l, _, h => by
    simp only [RepF] at h ⊢
    obtain ⟨x, r, h1, h2, h3⟩ := h
    exact ⟨x, r, h1, Rep.mono e h2, RepF.mono e h3⟩
end

section
variable {S S' : Hp}
theorem rep_non {v : V} : Rep S .non v ↔ v = .non := by simp only [Rep]
theorem rep_bl {b : Bool} {v : V} : Rep S (.bl b) v ↔ v = .bl b := by simp only [Rep]
theorem rep_int {i : Int} {v : V} : Rep S (.int i) v ↔ v = .int i := by simp only [Rep]
theorem rep_str {x : Str} {v : V} : Rep S (.str x) v ↔ v = .str x := by simp only [Rep]
theorem rep_lst {l : List Dt} {v : V} : Rep S (.lst l) v ↔ ∃ a xs, v = .ref a ∧ S a = some (.lst xs) ∧ Reps S l xs := by simp only [Rep]
theorem rep_tup {l : List Dt} {v : V} : Rep S (.tup l) v ↔ ∃ a xs, v = .ref a ∧ S a = some (.tup xs) ∧ Reps S l xs := by simp only [Rep]
theorem rep_dct {l : List (Key × Dt)} {v : V} : Rep S (.dct l) v ↔ ∃ a xs, v = .ref a ∧ S a = some (.dK xs) ∧ RepK S l xs := by simp only [Rep]
theorem rep_ins {C : Addr} {fs : List (Str × Dt)} {v : V} : Rep S (.ins C fs) v ↔ ∃ a dx xs, v = .ref a ∧ S a = some (.ins C dx xs) ∧ RepF S fs xs := by simp only [Rep]
theorem rep_adr {a : Addr} {v : V} : Rep S (.adr a) v ↔ v = .ref a := by simp only [Rep]
theorem reps_nil {xs : List V} : Reps S [] xs ↔ xs = [] := by simp only [Reps]
theorem reps_cons {d : Dt} {l : List Dt} {xs : List V} : Reps S (d :: l) xs ↔ ∃ x r, xs = x :: r ∧ Rep S d x ∧ Reps S l r := by simp only [Reps]
theorem Reps.length : ∀ {l : List Dt} {xs : List V}, Reps S l xs → xs.length = l.length
  | [], _, h => by
    rw [reps_nil.mp h]
    rfl
  | d :: l, _, h => by
    obtain ⟨x, r, rfl, _, h3⟩ := reps_cons.mp h
    rw [List.length_cons, List.length_cons, Reps.length h3]
theorem Reps.get : ∀ {l : List Dt} {xs : List V} {i : Nat} {x : V}, Reps S l xs → xs[i]? = some x → ∃ d, l[i]? = some d ∧ Rep S d x
  | [], _, i, x, h, e => by
    rw [reps_nil.mp h] at e
    simp at e
  | d :: l, _, 0, x, h, e => by
    obtain ⟨y, r, rfl, h2, h3⟩ := reps_cons.mp h
    simp at e
    subst e
    exact ⟨d, rfl, h2⟩
  | d :: l, _, i + 1, x, h, e => by
    obtain ⟨y, r, rfl, h2, h3⟩ := reps_cons.mp h
    obtain ⟨d', q1, q2⟩ := Reps.get (i := i) h3 (by simpa using e)
    exact ⟨d', by simpa using q1, q2⟩
theorem Reps.get' : ∀ {l : List Dt} {xs : List V} {i : Nat} {d : Dt}, Reps S l xs → l[i]? = some d → ∃ x, xs[i]? = some x ∧ Rep S d x
  | [], _, i, x, h, e => by simp at e
  | d :: l, _, 0, x, h, e => by
    obtain ⟨y, r, rfl, h2, h3⟩ := reps_cons.mp h
    simp at e
    subst e
    exact ⟨y, rfl, h2⟩
  | d :: l, _, i + 1, x, h, e => by
    obtain ⟨y, r, rfl, h2, h3⟩ := reps_cons.mp h
    obtain ⟨x', q1, q2⟩ := Reps.get' (i := i) h3 (by simpa using e)
    exact ⟨x', by simpa using q1, q2⟩
theorem Reps.append : ∀ {l m : List Dt} {xs ys : List V}, Reps S l xs → Reps S m ys → Reps S (l ++ m) (xs ++ ys)
  | [], _, _, _, h, k => by
    rw [reps_nil.mp h]
    exact k
  | d :: l, m, _, ys, h, k => by
    obtain ⟨x, r, rfl, h2, h3⟩ := reps_cons.mp h
    exact reps_cons.mpr ⟨x, r ++ ys, rfl, h2, h3.append k⟩
theorem Reps.one {d : Dt} {x : V} (h : Rep S d x) : Reps S [d] [x] := reps_cons.mpr ⟨x, [], rfl, h, reps_nil.mpr rfl⟩
theorem Reps.take : ∀ {l : List Dt} {xs : List V} (n : Nat), Reps S l xs → Reps S (l.take n) (xs.take n)
  | _, _, 0, _ => by simp only [List.take_zero]; exact reps_nil.mpr rfl
  | [], _, n + 1, h => by rw [reps_nil.mp h]; exact reps_nil.mpr rfl
  | d :: l, _, n + 1, h => by
    obtain ⟨x, r, rfl, h2, h3⟩ := reps_cons.mp h
    exact reps_cons.mpr ⟨x, r.take n, rfl, h2, h3.take n⟩
theorem Reps.drop : ∀ {l : List Dt} {xs : List V} (n : Nat), Reps S l xs → Reps S (l.drop n) (xs.drop n)
  | _, _, 0, h => h
  | [], _, n + 1, h => by rw [reps_nil.mp h]; exact reps_nil.mpr rfl
  | d :: l, _, n + 1, h => by
    obtain ⟨x, r, rfl, h2, h3⟩ := reps_cons.mp h
    exact h3.drop n
theorem Reps.set {d : Dt} {x : V} (q : Rep S d x) : ∀ {l : List Dt} {xs : List V} (n : Nat), Reps S l xs → Reps S (l.set n d) (xs.set n x)
  | [], _, n, h => by rw [reps_nil.mp h]; exact reps_nil.mpr rfl
  | e :: l, _, 0, h => by
    obtain ⟨y, r, rfl, h2, h3⟩ := reps_cons.mp h
    exact reps_cons.mpr ⟨x, r, rfl, q, h3⟩
  | e :: l, _, n + 1, h => by
    obtain ⟨y, r, rfl, h2, h3⟩ := reps_cons.mp h
    exact reps_cons.mpr ⟨y, r.set n x, rfl, h2, h3.set q n⟩
theorem Reps.eraseIdx : ∀ {l : List Dt} {xs : List V} (n : Nat), Reps S l xs → Reps S (l.eraseIdx n) (xs.eraseIdx n)
  | [], _, n, h => by rw [reps_nil.mp h]; simpa using reps_nil.mpr rfl
  | d :: l, _, 0, h => by
    obtain ⟨x, r, rfl, h2, h3⟩ := reps_cons.mp h
    exact h3
  | d :: l, _, n + 1, h => by
    obtain ⟨x, r, rfl, h2, h3⟩ := reps_cons.mp h
    exact reps_cons.mpr ⟨x, r.eraseIdx n, rfl, h2, h3.eraseIdx n⟩
theorem Reps.dropLast {l : List Dt} {xs : List V} (h : Reps S l xs) : Reps S l.dropLast xs.dropLast := by
  rw [List.dropLast_eq_take, List.dropLast_eq_take, h.length]
  exact h.take _
theorem Reps.reverse : ∀ {l : List Dt} {xs : List V}, Reps S l xs → Reps S l.reverse xs.reverse
  | [], _, h => by rw [reps_nil.mp h]; exact reps_nil.mpr rfl
  | d :: l, _, h => by
    obtain ⟨x, r, rfl, h2, h3⟩ := reps_cons.mp h
    rw [List.reverse_cons, List.reverse_cons]
    exact h3.reverse.append (Reps.one h2)
theorem Reps.rep {l : List Dt} {xs : List V} (h : Reps S l xs) : ∀ k : Nat, Reps S (List.replicate k l).flatten (List.replicate k xs).flatten
  | 0 => reps_nil.mpr rfl
  | k + 1 => by
    rw [List.replicate_succ, List.replicate_succ, List.flatten_cons, List.flatten_cons]
    exact h.append (Reps.rep h k)
theorem reps_ints : ∀ {ns : List Int} {xs : List V}, Reps S (ns.map .int) xs ↔ xs = ns.map .int
  | [], xs => by rw [List.map_nil]; exact reps_nil
  | n :: ns, xs => by
    rw [List.map_cons, reps_cons]
    constructor
    · rintro ⟨x, r, rfl, h1, h2⟩
      rw [rep_int.mp h1, reps_ints.mp h2]
      rfl
    · rintro rfl
      exact ⟨_, _, rfl, rep_int.mpr rfl, reps_ints.mpr rfl⟩
theorem reps_bls : ∀ {ns : List Bool} {xs : List V}, Reps S (ns.map .bl) xs ↔ xs = ns.map .bl
  | [], xs => by rw [List.map_nil]; exact reps_nil
  | n :: ns, xs => by
    rw [List.map_cons, reps_cons]
    constructor
    · rintro ⟨x, r, rfl, h1, h2⟩
      rw [rep_bl.mp h1, reps_bls.mp h2]
      rfl
    · rintro rfl
      exact ⟨_, _, rfl, rep_bl.mpr rfl, reps_bls.mpr rfl⟩
end

/-- a value that needs no heap -/
def Dt.sc : Dt → Bool
  | .non | .bl _ | .int _ | .str _ | .adr _ => true
  | _ => false
theorem Rep.sc {S : Hp} {d : Dt} {v : V} (h : d.sc = true) (r : Rep S d v) (S' : Hp) : Rep S' d v := by
  cases d <;> first | (simp only [Rep] at r ⊢; exact r) | cases h

/-! ### results, owned objects -/
inductive R where
  | d (x : Dt) | p (k : Nat)
/-- a thing of another kind: while it may change, and when it is known for good -/
structure RawO where
  ok : Addr → Hp → HO → Prop
  fz : Addr → Hp → HO → Prop
  mono : ∀ {a : Addr} {S S' : Hp} {o : HO}, Le S S' → ok a S o → ok a S' o
  monoF : ∀ {a : Addr} {S S' : Hp} {o : HO}, Le S S' → fz a S o → fz a S' o
inductive Ob where
  | frz (x : Dt) | lst (ds : List Dt) | lsp (rs : List R) | tpl (rs : List R) | dct (kvs : List (Key × Dt)) | dtt (kvs : List (List Key × Dt)) | ins (C : Addr) (fs : List (Str × R)) | rd (ds : List Dt) | raw (q : RawO)

/-- S within H; a dict may be locked -/
def isDict : HO → Bool
  | .dK _ | .dT _ => true
  | _ => false
def Ex (S H : Hp) : Prop := ∀ a o, S a = some o → H a = some o ∨ (isDict o = true ∧ ∃ ob, H a = some (.frz ob o))
theorem Ex.le {S T H : Hp} (e : Le S T) (h : Ex T H) : Ex S H := fun a o q => h a o (e a o q)
theorem Ex.at {S H : Hp} {a : Addr} {o : HO} (h : Ex S H) (q : S a = some o) (d : isDict o = false) : H a = some o := by
  rcases h a o q with z | ⟨z, _⟩
  · exact z
  · rw [d] at z
    cases z
theorem Ex.some {S H : Hp} {a : Addr} (h : Ex S H) (q : S a ≠ none) : H a ≠ none := by
  cases e : S a with
  | none => exact (q e).elim
  | some o =>
    rcases h a o e with z | ⟨_, u, z⟩ <;> (rw [z]; exact fun w => by cases w)
theorem Ex.fresh {S H : Hp} {a : Addr} (h : Ex S H) (q : H a = none) : S a = none := by
  cases e : S a with
  | none => rfl
  | some o => exact (h.some (by rw [e]; exact fun z => by cases z) q).elim

def RelR (S : Hp) (A : List Addr) : R → V → Prop
  | .d x, v => Rep S x v
  | .p k, v => ∃ a, A[k]? = some a ∧ v = .ref a
def RelRs (S : Hp) (A : List Addr) : List R → List V → Prop
  | [], xs => xs = []
  | r :: l, xs => ∃ x t, xs = x :: t ∧ RelR S A r x ∧ RelRs S A l t
def RelF (S : Hp) (A : List Addr) : List (Str × R) → List (Str × V) → Prop
  | [], xs => xs = []
  | (k, r) :: l, xs => ∃ x t, xs = (k, x) :: t ∧ RelR S A r x ∧ RelF S A l t
theorem relRs_nil {S A xs} : RelRs S A [] xs ↔ xs = [] := by simp only [RelRs]
theorem relRs_cons {S A r l xs} : RelRs S A (r :: l) xs ↔ ∃ x t, xs = x :: t ∧ RelR S A r x ∧ RelRs S A l t := by simp only [RelRs]

def Own (K : PySem.W.Frag) (S : Hp) (A : List Addr) (H : Hp) : Ob → Addr → Prop
  | .frz x, a => Rep S x (.ref a)
  | .lst ds, a => S a = none ∧ ∃ xs, H a = some (.lst xs) ∧ Reps S ds xs
  | .lsp rs, a => S a = none ∧ ∃ xs, H a = some (.lst xs) ∧ RelRs S A rs xs
  | .tpl rs, a => S a = none ∧ ∃ xs, H a = some (.tup xs) ∧ RelRs S A rs xs
  | .dct kvs, a => S a = none ∧ ∃ xs, H a = some (.dK xs) ∧ RepK S kvs xs
  | .dtt kvs, a => S a = none ∧ ∃ xs, H a = some (.dT xs) ∧ RepT S kvs xs
  | .ins C fs, a => S a = none ∧ ∃ dx xs, H a = some (.ins C dx xs) ∧ RelF S A fs xs
  | .rd ds, a => S a = none ∧ ∃ xs, SqL K H a xs ∧ Reps S ds xs
  | .raw q, a => (S a = none ∧ ∃ o, H a = some o ∧ q.ok a S o) ∨ ∃ o, S a = some o ∧ q.fz a S o

structure Good (K : PySem.W.Frag) (S : Hp) (A : List Addr) (H : Hp) (ob : List Ob) : Prop where
  ex : Ex S H
  nd : A.Nodup
  len : A.length = ob.length
  own : ∀ (k : Nat) (a : Addr) (c : Ob), A[k]? = some a → ob[k]? = some c → Own K S A H c a
  here : ∀ a ∈ A, H a ≠ none

def RelSl (S : Hp) (A : List Addr) (sl : List (Option R)) (σ : L2.St) : Prop := ∀ (i : Nat) (r : R), sl[i]? = some (some r) → ∃ v, σ[i]? = some (some v) ∧ RelR S A r v

/-- from one state to a later one: what is known stays known, only owned things change -/
structure Step (S : Hp) (A : List Addr) (H S' : Hp) (A' : List Addr) (H' : Hp) : Prop where
  le : Le S S'
  pre : A <+: A'
  keep : ∀ a o, H a = some o → (a ∉ A ∨ S a ≠ none) → H' a = some o
  new : ∀ a, (S' a ≠ none ∨ a ∈ A') → S a ≠ none ∨ a ∈ A ∨ H a = none

theorem Step.refl {S A H} : Step S A H S A H := ⟨Le.refl S, List.prefix_refl A, fun _ _ h _ => h, fun a h => h.elim .inl fun z => .inr (.inl z)⟩
theorem Step.trans {S A H S' A' H' S2 A2 H2} (x : Step S A H S' A' H') (y : Step S' A' H' S2 A2 H2) : Step S A H S2 A2 H2 where
  le := x.le.trans y.le
  pre := x.pre.trans y.pre
  keep := fun a o h c => by
    refine y.keep a o (x.keep a o h c) ?_
    by_cases hs : S a = none
    · refine .inl fun m => ?_
      rcases x.new a (.inr m) with z | z | z
      · exact z hs
      · rcases c with c | c
        · exact c z
        · exact c hs
      · rw [h] at z
        cases z
    · refine .inr fun z => ?_
      cases q : S a with
      | none => exact hs q
      | some u =>
        rw [x.le a u q] at z
        cases z
  new := fun a h => by
    rcases y.new a h with z | z | z
    · exact x.new a (.inl z)
    · exact x.new a (.inr z)
    · cases q : H a with
      | none => exact .inr (.inr rfl)
      | some o =>
        by_cases hs : S a = none
        · by_cases ha : a ∈ A
          · exact .inr (.inl ha)
          · rw [x.keep a o q (.inl ha)] at z
            cases z
        · exact .inl hs

section
variable {K : PySem.W.Frag} {S S' H H' : Hp} {A A' : List Addr} {r : R} {v : V} {ob ob' : List Ob} {sl : List (Option R)} {σ : L2.St}
theorem RelR.mono (e : Le S S') (p : A <+: A') (h : RelR S A r v) : RelR S' A' r v := by
  cases r with
  | d x => exact Rep.mono e h
  | p k =>
    obtain ⟨a, h1, h2⟩ := h
    obtain ⟨t, rfl⟩ := p
    refine ⟨a, ?_, h2⟩
    rw [List.getElem?_append_left (List.getElem?_eq_some_iff.mp h1).1]
    exact h1
theorem RelR.step (x : Step S A H S' A' H') (h : RelR S A r v) : RelR S' A' r v := h.mono x.le x.pre
theorem RelRs.mono (e : Le S S') (p : A <+: A') : ∀ {l : List R} {xs : List V}, RelRs S A l xs → RelRs S' A' l xs
  | [], _, h => by simpa only [RelRs] using h
  | r :: l, _, h => by
    obtain ⟨x, t, h1, h2, h3⟩ := relRs_cons.mp h
    exact relRs_cons.mpr ⟨x, t, h1, h2.mono e p, h3.mono e p⟩
theorem RelF.mono (e : Le S S') (p : A <+: A') : ∀ {l : List (Str × R)} {xs : List (Str × V)}, RelF S A l xs → RelF S' A' l xs
  | [], _, h => by simpa only [RelF] using h
  | (k, r) :: l, _, h => by
    simp only [RelF] at h ⊢
    obtain ⟨x, t, h1, h2, h3⟩ := h
    exact ⟨x, t, h1, h2.mono e p, h3.mono e p⟩
theorem RelSl.mono (e : Le S S') (p : A <+: A') (h : RelSl S A sl σ) : RelSl S' A' sl σ := fun i r q => by
  obtain ⟨v, h1, h2⟩ := h i r q
  exact ⟨v, h1, h2.mono e p⟩
theorem RelSl.step (x : Step S A H S' A' H') (h : RelSl S A sl σ) : RelSl S' A' sl σ := h.mono x.le x.pre
/-- an object whose content did not change -/
theorem Own.mono {c : Ob} {a : Addr} (e : Le S S') (p : A <+: A') (hs : S a = none → S' a = none) (k : S a = none → ∀ o, H a = some o → H' a = some o) (h : Own K S A H c a) : Own K S' A' H' c a := by
  cases c with
  | frz x => exact Rep.mono e h
  | lst ds =>
    obtain ⟨h0, xs, h1, h2⟩ := h
    exact ⟨hs h0, xs, k h0 _ h1, h2.mono e⟩
  | lsp rs =>
    obtain ⟨h0, xs, h1, h2⟩ := h
    exact ⟨hs h0, xs, k h0 _ h1, h2.mono e p⟩
  | tpl rs =>
    obtain ⟨h0, xs, h1, h2⟩ := h
    exact ⟨hs h0, xs, k h0 _ h1, h2.mono e p⟩
  | dct kvs =>
    obtain ⟨h0, xs, h1, h2⟩ := h
    exact ⟨hs h0, xs, k h0 _ h1, h2.mono e⟩
  | dtt kvs =>
    obtain ⟨h0, xs, h1, h2⟩ := h
    exact ⟨hs h0, xs, k h0 _ h1, h2.mono e⟩
  | ins C fs =>
    obtain ⟨h0, dx, xs, h1, h2⟩ := h
    exact ⟨hs h0, dx, xs, k h0 _ h1, h2.mono e p⟩
  | raw q =>
    rcases h with ⟨h0, o, h1, h2⟩ | ⟨o, h1, h2⟩
    · exact .inl ⟨hs h0, o, k h0 _ h1, q.mono e h2⟩
    · exact .inr ⟨o, e _ _ h1, q.monoF e h2⟩
  | rd ds =>
    obtain ⟨h0, xs, h1, h2⟩ := h
    refine ⟨hs h0, xs, ?_, h2.mono e⟩
    rcases h1 with (h1 | ⟨o, h1⟩) | h1
    · exact .inl (.inl (k h0 _ h1))
    · exact .inl (.inr ⟨o, k h0 _ h1⟩)
    · exact .inr h1
/-- a new thing that becomes data -/
theorem Step.newD {p : Addr} {o : HO} (hp : H p = none) (hs : S p = none) : Step S A H (upd S p o) A (upd H p o) where
  le := Le.new hs
  pre := List.prefix_refl A
  keep := fun a u h _ => by rw [upd_ne (ne_of_none h hp)]; exact h
  new := fun a h => by
    rcases h with h | h
    · by_cases e : a = p
      · subst e
        exact .inr (.inr hp)
      · rw [upd_ne e] at h
        exact .inl h
    · exact .inr (.inl h)
theorem Good.newD {p : Addr} {o : HO} (g : Good K S A H ob) (hp : H p = none) : Good K (upd S p o) A (upd H p o) ob where
  ex := fun a u h => by
    by_cases e : a = p
    · subst e
      rw [upd_same] at h
      exact .inl (by rw [upd_same]; exact h)
    · rw [upd_ne e] at h ⊢
      exact g.ex a u h
  nd := g.nd
  len := g.len
  own := fun k a c h1 h2 => by
    have na : a ≠ p := by
      rintro rfl
      exact g.here _ (List.mem_of_getElem? h1) hp
    exact (g.own k a c h1 h2).mono (Le.new (g.ex.fresh hp)) (List.prefix_refl A) (fun z => by rw [upd_ne na]; exact z) (fun _ u q => by rw [upd_ne na]; exact q)
  here := fun a ha => by
    have na : a ≠ p := by
      rintro rfl
      exact g.here _ ha hp
    rw [upd_ne na]
    exact g.here a ha
/-- a new thing that is owned -/
theorem Step.newO {p : Addr} {o : HO} (hp : H p = none) : Step S A H S (A ++ [p]) (upd H p o) where
  le := Le.refl S
  pre := List.prefix_append A [p]
  keep := fun a u h _ => by rw [upd_ne (ne_of_none h hp)]; exact h
  new := fun a h => by
    rcases h with h | h
    · exact .inl h
    · rcases List.mem_append.mp h with h | h
      · exact .inr (.inl h)
      · rw [List.mem_singleton] at h
        subst h
        exact .inr (.inr hp)
theorem Good.newO {p : Addr} {o : HO} {c : Ob} (g : Good K S A H ob) (hp : H p = none) (hc : Own K S (A ++ [p]) (upd H p o) c p) : Good K S (A ++ [p]) (upd H p o) (ob ++ [c]) where
  ex := fun a u h => by
    have na : a ≠ p := by
      rintro rfl
      exact g.ex.some (by rw [h]; exact fun z => by cases z) hp
    rw [upd_ne na]
    exact g.ex a u h
  nd := by
    rw [List.nodup_append]
    refine ⟨g.nd, by simp, fun a ha b hb => ?_⟩
    rw [List.mem_singleton] at hb
    subst hb
    rintro rfl
    exact g.here _ ha hp
  len := by rw [List.length_append, List.length_append, g.len]; rfl
  own := fun k a d h1 h2 => by
    by_cases hk : k < A.length
    · rw [List.getElem?_append_left hk] at h1
      rw [List.getElem?_append_left (by rw [← g.len]; exact hk)] at h2
      have na : a ≠ p := by
        rintro rfl
        exact g.here _ (List.mem_of_getElem? h1) hp
      exact (g.own k a d h1 h2).mono (Le.refl S) (List.prefix_append A [p]) (fun z => z) (fun _ u q => by rw [upd_ne na]; exact q)
    · rw [List.getElem?_append_right (by omega)] at h1
      rw [List.getElem?_append_right (by rw [← g.len]; omega)] at h2
      have e : k - A.length = 0 := by
        have := (List.getElem?_eq_some_iff.mp h1).1
        simp at this
        exact this
      have e2 : k - ob.length = 0 := by rw [← g.len]; exact e
      rw [e] at h1
      rw [e2] at h2
      simp at h1 h2
      subst h1 h2
      exact hc
  here := fun a ha => by
    rcases List.mem_append.mp ha with h | h
    · have na : a ≠ p := by
        rintro rfl
        exact g.here _ h hp
      rw [upd_ne na]
      exact g.here a h
    · rw [List.mem_singleton] at h
      subst h
      rw [upd_same]
      exact fun z => by cases z
theorem Good.at_len {p : Addr} (g : Good K S A H ob) : (A ++ [p])[ob.length]? = some p := by
  rw [← g.len, List.getElem?_append_right (Nat.le_refl _), Nat.sub_self]
  rfl
/-- an owned thing is changed -/
theorem Step.mut {p : Addr} {o : HO} (hp : p ∈ A) (hs : S p = none) : Step S A H S A (upd H p o) where
  le := Le.refl S
  pre := List.prefix_refl A
  keep := fun a u h c => by
    have na : a ≠ p := by
      rintro rfl
      rcases c with c | c
      · exact c hp
      · exact c hs
    rw [upd_ne na]
    exact h
  new := fun a h => h.elim .inl fun z => .inr (.inl z)
theorem Good.mut {p : Addr} {o : HO} {c : Ob} {k : Nat} (g : Good K S A H ob) (hp : A[k]? = some p) (hs : S p = none) (hc : Own K S A (upd H p o) c p) : Good K S A (upd H p o) (ob.set k c) where
  ex := fun a u h => by
    have na : a ≠ p := by
      rintro rfl
      rw [hs] at h
      cases h
    rw [upd_ne na]
    exact g.ex a u h
  nd := g.nd
  len := by rw [List.length_set]; exact g.len
  own := fun j a d h1 h2 => by
    by_cases e : j = k
    · subst e
      rw [hp] at h1
      cases h1
      have hl : j < ob.length := by rw [← g.len]; exact (List.getElem?_eq_some_iff.mp hp).1
      rw [List.getElem?_set_self hl] at h2
      cases h2
      exact hc
    · rw [List.getElem?_set_ne (Ne.symm e)] at h2
      have na : a ≠ p := by
        rintro rfl
        exact e (nd_ix g.nd h1 hp)
      exact (g.own j a d h1 h2).mono (Le.refl S) (List.prefix_refl A) (fun z => z) (fun _ u q => by rw [upd_ne na]; exact q)
  here := fun a ha => by
    by_cases e : a = p
    · subst e
      rw [upd_same]
      exact fun z => by cases z
    · rw [upd_ne e]
      exact g.here a ha
/-- an owned list becomes data -/
theorem Step.frz {p : Addr} {o : HO} (hp : p ∈ A) (hs : S p = none) : Step S A H (upd S p o) A H where
  le := Le.new hs
  pre := List.prefix_refl A
  keep := fun a u h _ => h
  new := fun a h => by
    rcases h with h | h
    · by_cases e : a = p
      · subst e
        exact .inr (.inl hp)
      · rw [upd_ne e] at h
        exact .inl h
    · exact .inr (.inl h)
theorem Good.frz {p : Addr} {o : HO} {x : Dt} {k : Nat} (g : Good K S A H ob) (hp : A[k]? = some p) (hs : S p = none) (ho : H p = some o) (hx : Rep (upd S p o) x (.ref p)) : Good K (upd S p o) A H (ob.set k (.frz x)) where
  ex := fun a u h => by
    by_cases e : a = p
    · subst e
      rw [upd_same] at h
      cases h
      exact .inl ho
    · rw [upd_ne e] at h
      exact g.ex a u h
  nd := g.nd
  len := by rw [List.length_set]; exact g.len
  own := fun j a d h1 h2 => by
    by_cases e : j = k
    · subst e
      rw [hp] at h1
      cases h1
      have hl : j < ob.length := by rw [← g.len]; exact (List.getElem?_eq_some_iff.mp hp).1
      rw [List.getElem?_set_self hl] at h2
      cases h2
      exact hx
    · rw [List.getElem?_set_ne (Ne.symm e)] at h2
      have na : a ≠ p := by
        rintro rfl
        exact e (nd_ix g.nd h1 hp)
      exact (g.own j a d h1 h2).mono (Le.new hs) (List.prefix_refl A) (fun z => by rw [upd_ne na]; exact z) (fun _ u q => q)
  here := g.here
end
end DL

/-! DL: weakest preconditions over data: expressions. -/
namespace DL
open PySem L2

/-! ### the model's own preconditions as readings -/
structure wpES (X : Cx) (e : Expr) (σ : L2.St) (H : Hp) (Q : VK) : Prop where
  run : ∀ pins s, Inv X pins σ H s → wpAny (model X.prog X.w) X.A (eval e X.env) (EP X pins σ Q) X.xe s
def wpE (X : Cx) (e : Expr) : TE := fun σ H Q => wpES X e σ H Q
structure wpTS (X : Cx) (e : Expr) (σ : L2.St) (H : Hp) (Q : Bool → Hp → Prop) : Prop where
  run : ∀ pins s, Inv X pins σ H s → wpAny (model X.prog X.w) X.A (isTrue e X.env (eval e X.env)) (TP X pins σ Q) X.xe s
def wpT (X : Cx) (e : Expr) : TT := fun σ H Q => wpTS X e σ H Q
structure wpWS (X : Cx) (e : Expr) (σ : L2.St) (H : Hp) (Q : Bool → Hp → Prop) : Prop where
  run : ∀ (whole : Sem Value) pins s, Inv X pins σ H s → wpAny (model X.prog X.w) X.A (isTrue e X.env whole) (TP X pins σ Q) X.xe s
def wpW (X : Cx) (e : Expr) : TT := fun σ H Q => wpWS X e σ H Q
structure wpAS (X : Cx) (es : List Expr) (σ : L2.St) (H : Hp) (Q : List V → Hp → Prop) : Prop where
  run : ∀ pos pins s, Inv X pins σ H s → wpAny (model X.prog X.w) X.A (spliced (backTo pos (starEach es X.env))) (AP X pins σ Q) X.xe s
def wpA (X : Cx) (es : List Expr) : TA := fun σ H Q => wpAS X es σ H Q
structure wpIS (X : Cx) (tg e : Expr) (σ : L2.St) (H : Hp) (R : It → Hp → Prop) : Prop where
  run : ∀ pins s, Inv X pins σ H s → wpAny (model X.prog X.w) X.A (eval e X.env) (fun v s1 => wpAny (model X.prog X.w) X.A (pyIter v) (PIE X pins σ tg R) X.xe s1) X.xe s
def wpI (X : Cx) (tg e : Expr) : TI := fun σ H R => wpIS X tg e σ H R
section
variable {X : Cx} {e : Expr} {σ : L2.St} {H : Hp}
theorem pe_wp : PE X e (wpE X e) := ⟨fun pins s _ _ _ I h => h.run pins s I⟩
theorem pt_wp : PT X e (wpT X e) := ⟨fun pins s _ _ _ I h => h.run pins s I⟩
theorem pw_wp : PW X e (wpW X e) := ⟨fun wh pins s _ _ _ I h => h.run wh pins s I⟩
theorem pa_wp {es : List Expr} : PA X es (wpA X es) := ⟨fun pos pins s _ _ _ I h => h.run pos pins s I⟩
theorem pi_wp {tg : Expr} : PI X tg e (wpI X tg e) := ⟨fun pins s _ _ _ I h => h.run pins s I⟩
theorem wpE.of {t : TE} {Q : VK} (h : PE X e t) (q : t σ H Q) : wpE X e σ H Q := ⟨fun pins s I => h.run pins s σ H Q I q⟩
theorem wpT.of {t : TT} {Q : Bool → Hp → Prop} (h : PT X e t) (q : t σ H Q) : wpT X e σ H Q := ⟨fun pins s I => h.run pins s σ H Q I q⟩
theorem wpW.of {t : TT} {Q : Bool → Hp → Prop} (h : PW X e t) (q : t σ H Q) : wpW X e σ H Q := ⟨fun wh pins s I => h.run wh pins s σ H Q I q⟩
theorem wpA.of {es : List Expr} {t : TA} {Q : List V → Hp → Prop} (h : PA X es t) (q : t σ H Q) : wpA X es σ H Q := ⟨fun pos pins s I => h.run pos pins s σ H Q I q⟩
theorem wpI.of {tg : Expr} {t : TI} {R : It → Hp → Prop} (h : PI X tg e t) (q : t σ H R) : wpI X tg e σ H R := ⟨fun pins s I => h.run pins s σ H R I q⟩
end

section
variable {S : Hp} {A : List Addr} {v : V}
theorem rr_int {i : Int} : RelR S A (.d (.int i)) (.int i) := (rep_int (S := S)).mpr rfl
theorem rr_bl {i : Bool} : RelR S A (.d (.bl i)) (.bl i) := (rep_bl (S := S)).mpr rfl
theorem rr_str {i : Str} : RelR S A (.d (.str i)) (.str i) := (rep_str (S := S)).mpr rfl
theorem rr_non : RelR S A (.d .non) .non := (rep_non (S := S)).mpr rfl
theorem RelR.int {i : Int} (h : RelR S A (.d (.int i)) v) : v = .int i := (rep_int (S := S)).mp h
theorem RelR.bl {i : Bool} (h : RelR S A (.d (.bl i)) v) : v = .bl i := (rep_bl (S := S)).mp h
theorem RelR.str {i : Str} (h : RelR S A (.d (.str i)) v) : v = .str i := (rep_str (S := S)).mp h
theorem RelR.non (h : RelR S A (.d .non) v) : v = .non := (rep_non (S := S)).mp h
end

/-! ### over data -/
abbrev Sls := List (Option R)
abbrev Obs := List Ob
abbrev Post := R → Obs → Prop
def End (K : PySem.W.Frag) (S : Hp) (A : List Addr) (H : Hp) (P : Post) (Q : VK) : Prop := ∀ r ob v S' A' H', P r ob → Good K S' A' H' ob → RelR S' A' r v → Step S A H S' A' H' → Q v H'
def EndT (K : PySem.W.Frag) (S : Hp) (A : List Addr) (H : Hp) (P : Bool → Obs → Prop) (Q : Bool → Hp → Prop) : Prop := ∀ b ob S' A' H', P b ob → Good K S' A' H' ob → Step S A H S' A' H' → Q b H'
def EndA (K : PySem.W.Frag) (S : Hp) (A : List Addr) (H : Hp) (P : List R → Obs → Prop) (Q : List V → Hp → Prop) : Prop := ∀ rs ob vs S' A' H', P rs ob → Good K S' A' H' ob → RelRs S' A' rs vs → Step S A H S' A' H' → Q vs H'
structure RelS (S : Hp) (A : List Addr) (sl : Sls) (σ : L2.St) : Prop where
  get : ∀ (i : Nat) (r : R), sl[i]? = some (some r) → ∃ v, σ[i]? = some (some v) ∧ RelR S A r v
  len : sl.length = σ.length
theorem RelS.step {S A H S' A' H' sl σ} (x : Step S A H S' A' H') (h : RelS S A sl σ) : RelS S' A' sl σ := ⟨fun i r q => let ⟨v, h1, h2⟩ := h.get i r q; ⟨v, h1, h2.step x⟩, h.len⟩
/-- e, in these slots and with these objects, ends within P -/
def We (X : Cx) (e : Expr) (ob : Obs) (sl : Sls) (P : Post) : Prop := ∀ S A H σ Q, Good X.K S A H ob → RelS S A sl σ → End X.K S A H P Q → wpE X e σ H Q
def Wt (X : Cx) (e : Expr) (ob : Obs) (sl : Sls) (P : Bool → Obs → Prop) : Prop := ∀ S A H σ Q, Good X.K S A H ob → RelS S A sl σ → EndT X.K S A H P Q → wpT X e σ H Q
def Ww (X : Cx) (e : Expr) (ob : Obs) (sl : Sls) (P : Bool → Obs → Prop) : Prop := ∀ S A H σ Q, Good X.K S A H ob → RelS S A sl σ → EndT X.K S A H P Q → wpW X e σ H Q
def Wa (X : Cx) (es : List Expr) (ob : Obs) (sl : Sls) (P : List R → Obs → Prop) : Prop := ∀ S A H σ Q, Good X.K S A H ob → RelS S A sl σ → EndA X.K S A H P Q → wpA X es σ H Q

/-- what every rule may lean on -/
structure Ct (X : Cx) (k : Nat) : Prop where
  calm : X.calm = true
  nd : X.N.Nodup
  room : Room k X.A
  po : PassesOwn (model X.prog X.w) X.A X.env X.xe

section
variable {X : Cx} {e a b : Expr} {pos : Pos} {ob : Obs} {sl : Sls} {P : Post} {K : PySem.W.Frag} {S S' H H' : Hp} {A A' : List Addr} {Q : VK}
theorem End.step (x : Step S A H S' A' H') (h : End K S A H P Q) : End K S' A' H' P Q := fun r ob v S2 A2 H2 p g q st => h r ob v S2 A2 H2 p g q (x.trans st)
theorem End.here {r : R} {v : V} (h : End K S A H P Q) (p : P r ob) (g : Good K S A H ob) (q : RelR S A r v) : Q v H := h r ob v S A H p g q Step.refl
theorem We.mono {P' : Post} (h : We X e ob sl P) (k : ∀ r ob', P r ob' → P' r ob') : We X e ob sl P' := fun S A H σ Q g rs en => h S A H σ Q g rs fun r ob' v S' A' H' p => en r ob' v S' A' H' (k r ob' p)
theorem EndT.step {P : Bool → Obs → Prop} {Q : Bool → Hp → Prop} (x : Step S A H S' A' H') (h : EndT K S A H P Q) : EndT K S' A' H' P Q := fun r ob S2 A2 H2 p g st => h r ob S2 A2 H2 p g (x.trans st)
theorem Wt.mono {P P' : Bool → Obs → Prop} (h : Wt X e ob sl P) (k : ∀ r ob', P r ob' → P' r ob') : Wt X e ob sl P' := fun S A H σ Q g rs en => h S A H σ Q g rs fun r ob' S' A' H' p => en r ob' S' A' H' (k r ob' p)

/-! ### names, constants -/
theorem we_name (i : Nat) {x : Str} {r : R} (hs : sl[i]? = some (some r)) (h : P r ob) (hN : X.N[i]? = some x := by rfl) (hv : Vis X.env.scope x := by first | exact Or.inl rfl | exact Or.inr (Or.inl rfl) | exact Or.inr (Or.inr rfl))
    (hd : (x == ("__debug__" : Str)) = false := by decide) (hcd : (x == ("__classdict__" : Str)) = false := by decide) : We X (.Name x pos) ob sl P := fun S A H σ Q g rs en => by
  obtain ⟨v, h1, h2⟩ := rs.get i r hs
  exact wpE.of (pe_var hN hv hd hcd) ⟨v, h1, en.here h g h2⟩
theorem we_int {i : Int} {j : Nat} (h : P (.d (.int i)) ob) : We X (.Constant (.int i) j pos) ob sl P := fun S A H σ Q g rs en => wpE.of pe_int (en.here h g rr_int)
theorem we_bl {i : Bool} {j : Nat} (h : P (.d (.bl i)) ob) : We X (.Constant (.bool i) j pos) ob sl P := fun S A H σ Q g rs en => wpE.of pe_bl (en.here h g rr_bl)
theorem we_non {j : Nat} (h : P (.d .non) ob) : We X (.Constant .none j pos) ob sl P := fun S A H σ Q g rs en => wpE.of pe_non (en.here h g rr_non)
theorem we_str {x : Str} {j : Nat} (h : P (.d (.str x)) ob) : We X (.Constant (.str x) j pos) ob sl P := fun S A H σ Q g rs en => wpE.of pe_str (en.here h g rr_str)
/-- a whole number of the module -/
theorem we_gint {x : Str} {i : Int} {t : Tok} (hm : X.mg x = some (.int i t)) (h : P (.d (.int i)) ob) (hg : Gl X x := by rfl) (hd : (x == ("__debug__" : Str)) = false := by decide) : We X (.Name x pos) ob sl P := fun S A H σ Q g rs en =>
  wpE.of (pe_glob hg hm (v := .int i) ⟨t, rfl⟩ hd) (en.here h g rr_int)

/-! ### operators -/
/-- a two-place operation, by values and results -/
def Op2 (X : Cx) (r : R2) (r1 r2 : R) (ob : Obs) (P : Post) : Prop := ∀ S A H x y Q, Good X.K S A H ob → RelR S A r1 x → RelR S A r2 y → End X.K S A H P Q → r x y H Q
theorem we_op {op : Operator} {r : R2} (ho : OpR X (binaryOp op) r) (h : We X a ob sl fun r1 ob1 => We X b ob1 sl fun r2 ob2 => Op2 X r r1 r2 ob2 P) : We X (.BinOp a op b pos) ob sl P := fun S A H σ Q g rs en => by
  refine wpE.of (pe_op ho pe_wp pe_wp) (h S A H σ _ g rs fun r1 ob1 x S1 A1 H1 h1 g1 q1 st1 => h1 S1 A1 H1 σ _ g1 (rs.step st1) fun r2 ob2 y S2 A2 H2 h2 g2 q2 st2 => ?_)
  exact h2 S2 A2 H2 x y Q g2 (q1.step st2) q2 (en.step (st1.trans st2))
theorem we_cmp {op : CmpOp} {r : R2} (ho : OpR X (compareOp op) r) (hm : behindInMarks op b = false) (h : We X a ob sl fun r1 ob1 => We X b ob1 sl fun r2 ob2 => Op2 X r r1 r2 ob2 P) : We X (.Compare a [op] [b] pos) ob sl P := fun S A H σ Q g rs en => by
  refine wpE.of (pe_cmpR ho pe_wp pe_wp hm) (h S A H σ _ g rs fun r1 ob1 x S1 A1 H1 h1 g1 q1 st1 => h1 S1 A1 H1 σ _ g1 (rs.step st1) fun r2 ob2 y S2 A2 H2 h2 g2 q2 st2 => ?_)
  exact h2 S2 A2 H2 x y Q g2 (q1.step st2) q2 (en.step (st1.trans st2))
/-- a bool, as a test -/
def asT (P : Bool → Obs → Prop) : Post := fun r ob => ∃ b, r = .d (.bl b) ∧ P b ob
theorem wt_cmp {op : CmpOp} {r : R2} {P : Bool → Obs → Prop} (ho : OpR X (compareOp op) r) (hm : behindInMarks op b = false) (h : We X a ob sl fun r1 ob1 => We X b ob1 sl fun r2 ob2 => Op2 X r r1 r2 ob2 (asT P)) : Wt X (.Compare a [op] [b] pos) ob sl P := fun S A H σ Q g rs en => by
  refine wpT.of (pt_cmpR ho pe_wp pe_wp hm) (h S A H σ _ g rs fun r1 ob1 x S1 A1 H1 h1 g1 q1 st1 => h1 S1 A1 H1 σ _ g1 (rs.step st1) fun r2 ob2 y S2 A2 H2 h2 g2 q2 st2 => ?_)
  refine h2 S2 A2 H2 x y _ g2 (q1.step st2) q2 fun r3 ob3 v S3 A3 H3 h3 g3 q3 st3 => ?_
  obtain ⟨k, rfl, hk⟩ := h3
  exact ⟨k, q3.bl, en k ob3 S3 A3 H3 hk g3 ((st1.trans st2).trans st3)⟩

/-- ints -/
theorem op2_I0 {f : Int → Int → Int} {i j : Int} (h : P (.d (.int (f i j))) ob) : Op2 X (rI0 fun i j => .int (f i j)) (.d (.int i)) (.d (.int j)) ob P := fun S A H x y Q g q1 q2 en => by
  cases q1.int
  cases q2.int
  exact ⟨i, j, rfl, rfl, en.here h g rr_int⟩
theorem op2_I {C : Int → Int → Prop} {f : Int → Int → Int} {i j : Int} (hc : C i j) (h : P (.d (.int (f i j))) ob) : Op2 X (rI C fun i j => .int (f i j)) (.d (.int i)) (.d (.int j)) ob P := fun S A H x y Q g q1 q2 en => by
  cases q1.int
  cases q2.int
  exact ⟨i, j, rfl, rfl, hc, en.here h g rr_int⟩
theorem op2_B0 {f : Int → Int → Bool} {i j : Int} (h : P (.d (.bl (f i j))) ob) : Op2 X (rI0 fun i j => .bl (f i j)) (.d (.int i)) (.d (.int j)) ob P := fun S A H x y Q g q1 q2 en => by
  cases q1.int
  cases q2.int
  exact ⟨i, j, rfl, rfl, en.here h g rr_bl⟩
theorem Op2.or1 {r r' : R2} {r1 r2 : R} (h : Op2 X r r1 r2 ob P) : Op2 X (fun x y H Q => r x y H Q ∨ r' x y H Q) r1 r2 ob P := fun S A H x y Q g q1 q2 en => .inl (h S A H x y Q g q1 q2 en)
theorem Op2.or2 {r r' : R2} {r1 r2 : R} (h : Op2 X r' r1 r2 ob P) : Op2 X (fun x y H Q => r x y H Q ∨ r' x y H Q) r1 r2 ob P := fun S A H x y Q g q1 q2 en => .inr (h S A H x y Q g q1 q2 en)
end

/-! ### lists -/
def listOf (ob : Obs) : R → Option (List Dt)
  | .d (.lst l) => some l
  | .d _ => none
  | .p k => match ob[k]? with
    | some (.lst l) => some l
    | some (.frz (.lst l)) => some l
    | _ => none
/-- .. that may be locked, too -/
def listRd (ob : Obs) : R → Option (List Dt)
  | .d (.lst l) => some l
  | .d _ => none
  | .p k => match ob[k]? with
    | some (.lst l) => some l
    | some (.rd l) => some l
    | some (.frz (.lst l)) => some l
    | _ => none
/-- a new list: owned (true), or data -/
abbrev Mk (own : Bool) (ds : List Dt) (ob : Obs) (P : Post) : Prop := match own with
  | true => P (.p ob.length) (ob ++ [.lst ds])
  | false => P (.d (.lst ds)) ob
section
variable {X : Cx} {e a b : Expr} {pos : Pos} {ob : Obs} {sl : Sls} {P : Post} {K : PySem.W.Frag} {S S' H H' : Hp} {A A' : List Addr} {Q : VK} {r : R} {v : V} {ds l m : List Dt}
theorem listOf_rel (h : listOf ob r = some l) (g : Good K S A H ob) (q : RelR S A r v) : ∃ p xs, v = .ref p ∧ H p = some (.lst xs) ∧ Reps S l xs := by
  cases r with
  | d x =>
    cases x with
    | lst l' =>
      have e : l' = l := Option.some.inj h
      subst e
      obtain ⟨p, xs, h1, h2, h3⟩ := rep_lst.mp q
      exact ⟨p, xs, h1, g.ex.at h2 rfl, h3⟩
    | _ => cases h
  | p k =>
    obtain ⟨p, h1, rfl⟩ := q
    unfold listOf at h
    cases e : ob[k]? with
    | none => simp only [e] at h; cases h
    | some c =>
      simp only [e] at h
      have o := g.own k p c h1 e
      cases c with
      | lst l' =>
        have e : l' = l := Option.some.inj h
        subst e
        obtain ⟨_, xs, h2, h3⟩ := o
        exact ⟨p, xs, rfl, h2, h3⟩
      | frz x =>
        cases x with
        | lst l' =>
          have e : l' = l := Option.some.inj h
          subst e
          obtain ⟨p', xs, h1, h2, h3⟩ := rep_lst.mp o
          cases h1
          exact ⟨p, xs, rfl, g.ex.at h2 rfl, h3⟩
        | _ => cases h
      | _ => cases h
theorem listRd_rel (h : listRd ob r = some l) (g : Good K S A H ob) (q : RelR S A r v) : ∃ p xs, v = .ref p ∧ SqL K H p xs ∧ Reps S l xs := by
  have key : listOf ob r = some l → ∃ p xs, v = .ref p ∧ SqL K H p xs ∧ Reps S l xs := fun h => by
    obtain ⟨p, xs, h1, h2, h3⟩ := listOf_rel h g q
    exact ⟨p, xs, h1, SqL.of h2, h3⟩
  cases r with
  | d x =>
    refine key ?_
    cases x <;> first | exact h | cases h
  | p k =>
    obtain ⟨p, h1, rfl⟩ := q
    unfold listRd at h
    cases e : ob[k]? with
    | none => simp only [e] at h; cases h
    | some c =>
      simp only [e] at h
      have o := g.own k p c h1 e
      cases c with
      | lst l' => refine key ?_; simp only [listOf, e]; exact h
      | frz x =>
        refine key ?_
        simp only [listOf, e]
        cases x <;> first | exact h | cases h
      | rd l' =>
        have e : l' = l := Option.some.inj h
        subst e
        obtain ⟨_, xs, h2, h3⟩ := o
        exact ⟨p, xs, rfl, h2, h3⟩
      | _ => cases h
/-- a new list has come -/
theorem Mk.fin {own : Bool} {p : Addr} {xs : List V} (h : Mk own ds ob P) (en : End K S A H P Q) (g : Good K S A H ob) (hx : Reps S ds xs) (hp : H p = none) : Q (.ref p) (upd H p (.lst xs)) := by
  cases own with
  | true =>
    have hs := g.ex.fresh hp
    refine en (.p ob.length) _ _ S (A ++ [p]) _ h (g.newO hp ⟨hs, xs, upd_same, hx⟩) ⟨p, g.at_len, rfl⟩ (Step.newO hp)
  | false =>
    have hs := g.ex.fresh hp
    refine en _ _ _ (upd S p (.lst xs)) A _ h (g.newD hp) (rep_lst.mpr ⟨p, xs, rfl, upd_same, hx.mono (Le.new hs)⟩) (Step.newD hp hs)
theorem op2_cat {own : Bool} {r1 r2 : R} (h1 : listOf ob r1 = some l) (h2 : listOf ob r2 = some m) (hz : l.length + m.length ≤ sizeLine) (h : Mk own (l ++ m) ob P) : Op2 X rCat r1 r2 ob P := fun S A H x y Q g q1 q2 en => by
  obtain ⟨p, xs, rfl, e1, r1⟩ := listOf_rel h1 g q1
  obtain ⟨q, ys, rfl, e2, r2⟩ := listOf_rel h2 g q2
  exact ⟨p, q, xs, ys, rfl, rfl, e1, e2, by rw [r1.length, r2.length]; exact hz, fun z hz => h.fin en g (r1.append r2) hz⟩
theorem op2_rep {own : Bool} {r1 : R} {k : Int} (h1 : listOf ob r1 = some l) (hk : -(2 ^ 63) ≤ k ∧ k < 2 ^ 63) (hz : l.length * k.toNat ≤ sizeLine) (h : Mk own (List.replicate k.toNat l).flatten ob P) : Op2 X rRep r1 (.d (.int k)) ob P := fun S A H x y Q g q1 q2 en => by
  obtain ⟨p, xs, rfl, e1, r1⟩ := listOf_rel h1 g q1
  cases q2.int
  exact ⟨p, k, xs, rfl, rfl, e1, hk.1, hk.2, by rw [r1.length]; exact hz, fun z hz => h.fin en g (r1.rep _) hz⟩
theorem op2_str {x y : Str} (hz : x.length + y.length ≤ sizeLine) (h : P (.d (.str (x ++ y))) ob) : Op2 X (fun x y H Q => ∃ i j, x = .str i ∧ y = .str j ∧ i.length + j.length ≤ sizeLine ∧ Q (.str (i ++ j)) H) (.d (.str x)) (.d (.str y)) ob P := fun S A H v w Q g q1 q2 en => by
  cases q1.str
  cases q2.str
  exact ⟨x, y, rfl, rfl, hz, en.here h g rr_str⟩

/-- + -/
def addP (own : Bool) (ob : Obs) (P : Post) (r1 r2 : R) : Prop := match r1, r2 with
  | .d (.int i), .d (.int j) => P (.d (.int (i + j))) ob
  | .d (.str i), .d (.str j) => i.length + j.length ≤ sizeLine ∧ P (.d (.str (i ++ j))) ob
  | r1, r2 => match listOf ob r1, listOf ob r2 with
    | some l, some m => l.length + m.length ≤ sizeLine ∧ Mk own (l ++ m) ob P
    | _, _ => False
theorem we_add (own : Bool) (h : We X a ob sl fun r1 ob1 => We X b ob1 sl fun r2 ob2 => addP own ob2 P r1 r2) : We X (.BinOp a .Add b pos) ob sl P := by
  refine we_op (op_add.or (op_cat.or op_add_str)) (h.mono fun r1 ob1 h1 => h1.mono fun r2 ob2 h2 => ?_)
  unfold addP at h2
  split at h2
  · exact (op2_I0 (f := fun i j => i + j) h2).or1
  · exact Op2.or2 (Op2.or2 (op2_str h2.1 h2.2))
  · split at h2
    · rename_i e1 e2
      exact Op2.or2 (Op2.or1 (op2_cat e1 e2 h2.1 h2.2))
    · exact h2.elim
theorem we_sub (h : We X a ob sl fun r1 ob1 => We X b ob1 sl fun r2 ob2 => ∃ i j, r1 = .d (.int i) ∧ r2 = .d (.int j) ∧ P (.d (.int (i - j))) ob2) : We X (.BinOp a .Sub b pos) ob sl P :=
  we_op op_sub (h.mono fun r1 ob1 h1 => h1.mono fun r2 ob2 ⟨i, j, e1, e2, h2⟩ => by subst e1 e2; exact op2_I0 (f := fun i j => i - j) h2)
/-- * of ints (not both beyond some million bits), of a list and an int -/
def mulP (own : Bool) (ob : Obs) (P : Post) (r1 r2 : R) : Prop := match r1, r2 with
  | .d (.int i), .d (.int j) => IntMulOk i j ∧ P (.d (.int (i * j))) ob
  | r1, .d (.int k) => match listOf ob r1 with
    | some l => (-(2 ^ 63) ≤ k ∧ k < 2 ^ 63) ∧ l.length * k.toNat ≤ sizeLine ∧ Mk own (List.replicate k.toNat l).flatten ob P
    | _ => False
  | _, _ => False
theorem op_mulA : OpR X (binaryOp .Mult) (rI IntMulOk fun i j => .int (i * j)) := opI fun _ _ _ _ _ _ _ hc q => PyProof.Rows.mul_int q hc
theorem we_mul (own : Bool) (h : We X a ob sl fun r1 ob1 => We X b ob1 sl fun r2 ob2 => mulP own ob2 P r1 r2) : We X (.BinOp a .Mult b pos) ob sl P := by
  refine we_op (op_mulA.or op_rep) (h.mono fun r1 ob1 h1 => h1.mono fun r2 ob2 h2 => ?_)
  unfold mulP at h2
  split at h2
  · exact (op2_I (f := fun i j => i * j) h2.1 h2.2).or1
  · split at h2
    · rename_i e1
      exact Op2.or2 (op2_rep e1 h2.1 h2.2.1 h2.2.2)
    · exact h2.elim
  · exact h2.elim
theorem we_fdiv (h : We X a ob sl fun r1 ob1 => We X b ob1 sl fun r2 ob2 => ∃ i j, r1 = .d (.int i) ∧ r2 = .d (.int j) ∧ (0 < j ∧ j.natAbs.log2 < 9000) ∧ P (.d (.int (i / j))) ob2) : We X (.BinOp a .FloorDiv b pos) ob sl P :=
  we_op op_fdivW (h.mono fun r1 ob1 h1 => h1.mono fun r2 ob2 ⟨i, j, e1, e2, c, h2⟩ => by subst e1 e2; exact op2_I (f := fun i j => i / j) c h2)
theorem we_mod (h : We X a ob sl fun r1 ob1 => We X b ob1 sl fun r2 ob2 => ∃ i j, r1 = .d (.int i) ∧ r2 = .d (.int j) ∧ 0 < j ∧ P (.d (.int (i % j))) ob2) : We X (.BinOp a .Mod b pos) ob sl P :=
  we_op op_mod (h.mono fun r1 ob1 h1 => h1.mono fun r2 ob2 ⟨i, j, e1, e2, c, h2⟩ => by subst e1 e2; exact op2_I (f := fun i j => i % j) c h2)
theorem we_pow (h : We X a ob sl fun r1 ob1 => We X b ob1 sl fun r2 ob2 => ∃ i j, r1 = .d (.int i) ∧ r2 = .d (.int j) ∧ CPow i j ∧ P (.d (.int (i ^ j.toNat))) ob2) : We X (.BinOp a .Pow b pos) ob sl P :=
  we_op op_pow (h.mono fun r1 ob1 h1 => h1.mono fun r2 ob2 ⟨i, j, e1, e2, c, h2⟩ => by subst e1 e2; exact op2_I (f := fun i j => i ^ j.toNat) c h2)
theorem we_neg (h : We X a ob sl fun r1 ob1 => ∃ i, r1 = .d (.int i) ∧ P (.d (.int (-i))) ob1) : We X (.UnaryOp .USub a pos) ob sl P := fun S A H σ Q g rs en => by
  refine wpE.of (pe_un un_neg pe_wp) (h S A H σ _ g rs fun r1 ob1 x S1 A1 H1 h1 g1 q1 st1 => ?_)
  obtain ⟨i, rfl, h1⟩ := h1
  cases q1.int
  exact ⟨i, rfl, (en.step st1).here h1 g1 rr_int⟩
end
end DL

/-! DL: comparisons, tests, and, or, displays, subscripts, calls. -/
namespace DL
open PySem L2

/-! ### data as the model's data -/
mutual
def toPy : Dt → PyData
  | .non => .none
  | .bl b => .bool b
  | .int i => .int i
  | .str s => .str s
  | .lst l => .list (toPys l)
  | .tup l => .tuple (toPys l)
  | .dct _ | .dtt _ | .ins _ _ | .adr _ => .dict []
def toPys : List Dt → List PyData
  | [] => []
  | x :: l => toPy x :: toPys l
end
mutual
/-- plain data, at most so deep -/
def okD : Nat → Dt → Bool
  | _, .non | _, .bl _ | _, .int _ => true
  | _, .str s => PyData.strOk s
  | n + 1, .lst l => okDs n l
  | n + 1, .tup l => okDs n l
  | _, _ => false
def okDs : Nat → List Dt → Bool
  | _, [] => true
  | n, x :: l => okD n x && okDs n l
end
theorem toPys_eq : ∀ l : List Dt, toPys l = l.map toPy
  | [] => rfl
  | x :: l => by simp only [toPys, List.map_cons, toPys_eq l]
theorem okDs_eq (n : Nat) : ∀ l : List Dt, okDs n l = l.all (okD n)
  | [] => by simp only [okDs, List.all_nil]
  | x :: l => by simp only [okDs, List.all_cons, okDs_eq n l]
def eqD (x y : Dt) : Bool := PyData.eqv (toPy x) (toPy y)
mutual
theorem okD_lay : ∀ (n : Nat) (x : Dt), okD n x = true → (toPy x).canLay0 = true ∧ (toPy x).depth ≤ n
  | n, .non, _ => by simp [toPy, PyData.canLay0, PyData.depth]
  | n, .bl _, _ => by simp [toPy, PyData.canLay0, PyData.depth]
  | n, .int _, _ => by simp [toPy, PyData.canLay0, PyData.depth]
  | n, .str s, h => by
    simp only [okD] at h
    simp [toPy, PyData.canLay0, PyData.depth, h]
  | n + 1, .lst l, h => by
    have q := okDs_lay n l (by simpa only [okD] using h)
    simp only [toPy, PyData.canLay0, PyData.depth]
    exact ⟨q.1, Nat.succ_le_succ q.2⟩
  | n + 1, .tup l, h => by
    have q := okDs_lay n l (by simpa only [okD] using h)
    simp only [toPy, PyData.canLay0, PyData.depth]
    exact ⟨q.1, Nat.succ_le_succ q.2⟩
  | 0, .lst _, h => by simp [okD] at h
  | 0, .tup _, h => by simp [okD] at h
  | n, .dct _, h => by simp [okD] at h
  | n, .dtt _, h => by simp [okD] at h
  | n, .ins _ _, h => by simp [okD] at h
  | n, .adr _, h => by simp [okD] at h
theorem okDs_lay : ∀ (n : Nat) (l : List Dt), okDs n l = true → PyData.canLayAll0 (toPys l) = true ∧ PyData.depthAll (toPys l) ≤ n
  | n, [], _ => by simp [toPys, PyData.canLayAll0, PyData.depthAll]
  | n, x :: l, h => by
    simp only [okDs, Bool.and_eq_true] at h
    have q1 := okD_lay n x h.1
    have q2 := okDs_lay n l h.2
    simp only [toPys, PyData.canLayAll0, PyData.depthAll, q1.1, q2.1, Bool.and_self, true_and]
    exact Nat.max_le.mpr ⟨q1.2, q2.2⟩
end
theorem okD_shaped {n : Nat} {x : Dt} (h : okD n x = true) (hn : n ≤ 64) : SeqAt.shaped (toPy x) = true := by
  obtain ⟨h1, h2⟩ := okD_lay n x h
  unfold SeqAt.shaped
  rw [h1, Bool.true_and, decide_eq_true_eq]
  omega
section
variable {K : PySem.W.Frag} {S H : Hp}
mutual
theorem Rep.dp (e : Ex S H) : ∀ (n : Nat) (x : Dt) (v : V), okD n x = true → Rep S x v → Dp K H v (toPy x)
  | n, .non, v, _, r => by rw [rep_non.mp r]; simp only [toPy]; exact .non
  | n, .bl _, v, _, r => by rw [rep_bl.mp r]; simp only [toPy]; exact .bl _
  | n, .int _, v, _, r => by rw [rep_int.mp r]; simp only [toPy]; exact .int _
  | n, .str _, v, _, r => by rw [rep_str.mp r]; simp only [toPy]; exact .str _
  | n + 1, .lst l, v, h, r => by
    obtain ⟨a, xs, rfl, h2, h3⟩ := rep_lst.mp r
    simp only [toPy]
    exact .lst (SqL.of (e.at h2 rfl)) (Reps.dp e n l xs (by simpa only [okD] using h) h3)
  | n + 1, .tup l, v, h, r => by
    obtain ⟨a, xs, rfl, h2, h3⟩ := rep_tup.mp r
    simp only [toPy]
    exact .tup (SqT.of (e.at h2 rfl)) (Reps.dp e n l xs (by simpa only [okD] using h) h3)
  | 0, .lst _, _, h, _ => by simp [okD] at h
  | 0, .tup _, _, h, _ => by simp [okD] at h
  | n, .dct _, _, h, _ => by simp [okD] at h
  | n, .dtt _, _, h, _ => by simp [okD] at h
  | n, .ins _ _, _, h, _ => by simp [okD] at h
  | n, .adr _, _, h, _ => by simp [okD] at h
theorem Reps.dp (e : Ex S H) : ∀ (n : Nat) (l : List Dt) (xs : List V), okDs n l = true → Reps S l xs → DpAll K H xs (toPys l)
  | n, [], xs, _, r => by rw [reps_nil.mp r]; simp only [toPys]; exact .nil
  | n, x :: l, xs, h, r => by
    obtain ⟨y, t, rfl, h2, h3⟩ := reps_cons.mp r
    simp only [okDs, Bool.and_eq_true] at h
    simp only [toPys]
    exact .cons (Rep.dp e n x y h.1 h2) (Reps.dp e n l t h.2 h3)
end
end
/-- what a result is, as data -/
def dtOf (ob : Obs) : R → Option Dt
  | .d x => some x
  | .p k => match ob[k]? with
    | some (.lst l) => some (.lst l)
    | some (.rd l) => some (.lst l)
    | some (.frz x) => some x
    | _ => none
section
variable {X : Cx} {e a b c : Expr} {pos : Pos} {ob : Obs} {sl : Sls} {P : Post} {PT : Bool → Obs → Prop} {K : PySem.W.Frag} {S S' H H' : Hp} {A A' : List Addr} {Q : VK} {r : R} {v : V} {x y : Dt} {l m : List Dt}
theorem dtOf_dp {n : Nat} (h : dtOf ob r = some x) (ok : okD n x = true) (g : Good K S A H ob) (q : RelR S A r v) : Dp K H v (toPy x) := by
  cases r with
  | d z =>
    have e : z = x := Option.some.inj h
    subst e
    exact Rep.dp g.ex n z v ok q
  | p k =>
    obtain ⟨p, h1, rfl⟩ := q
    unfold dtOf at h
    cases e : ob[k]? with
    | none => simp only [e] at h; cases h
    | some c =>
      simp only [e] at h
      have o := g.own k p c h1 e
      have key : ∀ l xs, x = .lst l → SqL K H p xs → Reps S l xs → Dp K H (.ref p) (toPy x) := fun l xs ex sq rs => by
        subst ex
        cases n with
        | zero => simp [okD] at ok
        | succ n =>
          simp only [toPy]
          exact .lst sq (Reps.dp g.ex n l xs (by simpa only [okD] using ok) rs)
      cases c with
      | lst l =>
        obtain ⟨_, xs, h2, h3⟩ := o
        exact key l xs (Option.some.inj h).symm (SqL.of h2) h3
      | rd l =>
        obtain ⟨_, xs, h2, h3⟩ := o
        exact key l xs (Option.some.inj h).symm h2 h3
      | frz z =>
        have e : z = x := Option.some.inj h
        subst e
        exact Rep.dp g.ex n z _ ok o
      | _ => cases h
theorem op2_eqD {n m : Nat} {r1 r2 : R} (e1 : dtOf ob r1 = some x) (e2 : dtOf ob r2 = some y) (o1 : okD n x = true) (o2 : okD m y = true) (hn : n ≤ 64) (hm : m ≤ 64) (h : P (.d (.bl (eqD x y))) ob) : Op2 X (rEqD X.K) r1 r2 ob P := fun S A H v w Q g q1 q2 en =>
  ⟨_, _, dtOf_dp e1 o1 g q1, dtOf_dp e2 o2 g q2, okD_shaped o1 hn, okD_shaped o2 hm, en.here h g rr_bl⟩
theorem op2_neD {n m : Nat} {r1 r2 : R} (e1 : dtOf ob r1 = some x) (e2 : dtOf ob r2 = some y) (o1 : okD n x = true) (o2 : okD m y = true) (hn : n ≤ 64) (hm : m ≤ 64) (h : P (.d (.bl (!eqD x y))) ob) : Op2 X (rNeD X.K) r1 r2 ob P := fun S A H v w Q g q1 q2 en =>
  ⟨_, _, dtOf_dp e1 o1 g q1, dtOf_dp e2 o2 g q2, okD_shaped o1 hn, okD_shaped o2 hm, en.here h g rr_bl⟩
/-- ==, != : of ints, bools, texts; of any plain data -/
def eqP (neg : Bool) (ob : Obs) (P : Post) (r1 r2 : R) : Prop := match r1, r2 with
  | .d (.int i), .d (.int j) => P (.d (.bl (bif neg then !decide (i = j) else decide (i = j)))) ob
  | r1, r2 => match dtOf ob r1, dtOf ob r2 with
    | some x, some y => (okD 64 x = true ∧ okD 64 y = true) ∧ P (.d (.bl (bif neg then !eqD x y else eqD x y))) ob
    | _, _ => False
theorem op_eqI : OpR X (compareOp .Eq) (rI0 fun i j => .bl (decide (i = j))) := opB0 fun _ _ _ _ _ _ _ q => PyProof.Rows.eq_int (by rw [Bool.beq_eq_decide_eq]; exact q)
theorem op_neI : OpR X (compareOp .NotEq) (rI0 fun i j => .bl (!decide (i = j))) := opB0 fun _ _ _ _ _ _ _ q => PyProof.Rows.ne_int (by rw [bne, Bool.beq_eq_decide_eq]; exact q)
theorem eqP_op {r1 r2 : R} (h : eqP false ob P r1 r2) : Op2 X (fun x y H Q => rI0 (fun i j => .bl (decide (i = j))) x y H Q ∨ rEqD X.K x y H Q) r1 r2 ob P := by
  unfold eqP at h
  split at h
  · exact (op2_B0 (f := fun i j => decide (i = j)) h).or1
  · split at h
    · rename_i e1 e2
      exact Op2.or2 (op2_eqD e1 e2 h.1.1 h.1.2 (Nat.le_refl _) (Nat.le_refl _) h.2)
    · exact h.elim
theorem neP_op {r1 r2 : R} (h : eqP true ob P r1 r2) : Op2 X (fun x y H Q => rI0 (fun i j => .bl (!decide (i = j))) x y H Q ∨ rNeD X.K x y H Q) r1 r2 ob P := by
  unfold eqP at h
  split at h
  · exact (op2_B0 (f := fun i j => !decide (i = j)) h).or1
  · split at h
    · rename_i e1 e2
      exact Op2.or2 (op2_neD e1 e2 h.1.1 h.1.2 (Nat.le_refl _) (Nat.le_refl _) h.2)
    · exact h.elim
variable {k : Nat}
theorem we_eq (ct : Ct X k) (h : We X a ob sl fun r1 ob1 => We X b ob1 sl fun r2 ob2 => eqP false ob2 P r1 r2) : We X (.Compare a [.Eq] [b] pos) ob sl P :=
  we_cmp (op_eqI.or (op_eqD ct.room.units)) (nomark _) (h.mono fun _ _ h1 => h1.mono fun _ _ h2 => eqP_op h2)
theorem we_ne (ct : Ct X k) (h : We X a ob sl fun r1 ob1 => We X b ob1 sl fun r2 ob2 => eqP true ob2 P r1 r2) : We X (.Compare a [.NotEq] [b] pos) ob sl P :=
  we_cmp (op_neI.or (op_neD ct.room.units)) (nomark _) (h.mono fun _ _ h1 => h1.mono fun _ _ h2 => neP_op h2)
theorem wt_eq (ct : Ct X k) (h : We X a ob sl fun r1 ob1 => We X b ob1 sl fun r2 ob2 => eqP false ob2 (asT PT) r1 r2) : Wt X (.Compare a [.Eq] [b] pos) ob sl PT :=
  wt_cmp (op_eqI.or (op_eqD ct.room.units)) (nomark _) (h.mono fun _ _ h1 => h1.mono fun _ _ h2 => eqP_op h2)
theorem wt_ne (ct : Ct X k) (h : We X a ob sl fun r1 ob1 => We X b ob1 sl fun r2 ob2 => eqP true ob2 (asT PT) r1 r2) : Wt X (.Compare a [.NotEq] [b] pos) ob sl PT :=
  wt_cmp (op_neI.or (op_neD ct.room.units)) (nomark _) (h.mono fun _ _ h1 => h1.mono fun _ _ h2 => neP_op h2)
/-- orders of ints -/
def ordP (f : Int → Int → Bool) (ob : Obs) (P : Post) (r1 r2 : R) : Prop := ∃ i j, r1 = .d (.int i) ∧ r2 = .d (.int j) ∧ P (.d (.bl (f i j))) ob
theorem ordP_op {f : Int → Int → Bool} {r1 r2 : R} (h : ordP f ob P r1 r2) : Op2 X (rI0 fun i j => .bl (f i j)) r1 r2 ob P := by
  obtain ⟨i, j, rfl, rfl, h⟩ := h
  exact op2_B0 h
abbrev fLt : Int → Int → Bool := fun i j => decide (i < j)
abbrev fLe : Int → Int → Bool := fun i j => decide (i ≤ j)
abbrev fGt : Int → Int → Bool := fun i j => decide (j < i)
abbrev fGe : Int → Int → Bool := fun i j => decide (j ≤ i)
theorem we_lt (h : We X a ob sl fun r1 ob1 => We X b ob1 sl fun r2 ob2 => ordP fLt ob2 P r1 r2) : We X (.Compare a [.Lt] [b] pos) ob sl P := we_cmp op_lt (nomark _) (h.mono fun _ _ h1 => h1.mono fun _ _ h2 => ordP_op h2)
theorem we_le (h : We X a ob sl fun r1 ob1 => We X b ob1 sl fun r2 ob2 => ordP fLe ob2 P r1 r2) : We X (.Compare a [.LtE] [b] pos) ob sl P := we_cmp op_le (nomark _) (h.mono fun _ _ h1 => h1.mono fun _ _ h2 => ordP_op h2)
theorem we_gt (h : We X a ob sl fun r1 ob1 => We X b ob1 sl fun r2 ob2 => ordP fGt ob2 P r1 r2) : We X (.Compare a [.Gt] [b] pos) ob sl P := we_cmp op_gt (nomark _) (h.mono fun _ _ h1 => h1.mono fun _ _ h2 => ordP_op h2)
theorem we_ge (h : We X a ob sl fun r1 ob1 => We X b ob1 sl fun r2 ob2 => ordP fGe ob2 P r1 r2) : We X (.Compare a [.GtE] [b] pos) ob sl P := we_cmp op_ge (nomark _) (h.mono fun _ _ h1 => h1.mono fun _ _ h2 => ordP_op h2)
theorem wt_lt (h : We X a ob sl fun r1 ob1 => We X b ob1 sl fun r2 ob2 => ordP fLt ob2 (asT PT) r1 r2) : Wt X (.Compare a [.Lt] [b] pos) ob sl PT := wt_cmp op_lt (nomark _) (h.mono fun _ _ h1 => h1.mono fun _ _ h2 => ordP_op h2)
theorem wt_le (h : We X a ob sl fun r1 ob1 => We X b ob1 sl fun r2 ob2 => ordP fLe ob2 (asT PT) r1 r2) : Wt X (.Compare a [.LtE] [b] pos) ob sl PT := wt_cmp op_le (nomark _) (h.mono fun _ _ h1 => h1.mono fun _ _ h2 => ordP_op h2)
theorem wt_gt (h : We X a ob sl fun r1 ob1 => We X b ob1 sl fun r2 ob2 => ordP fGt ob2 (asT PT) r1 r2) : Wt X (.Compare a [.Gt] [b] pos) ob sl PT := wt_cmp op_gt (nomark _) (h.mono fun _ _ h1 => h1.mono fun _ _ h2 => ordP_op h2)
theorem wt_ge (h : We X a ob sl fun r1 ob1 => We X b ob1 sl fun r2 ob2 => ordP fGe ob2 (asT PT) r1 r2) : Wt X (.Compare a [.GtE] [b] pos) ob sl PT := wt_cmp op_ge (nomark _) (h.mono fun _ _ h1 => h1.mono fun _ _ h2 => ordP_op h2)
/-- is None -/
def isNon : R → Bool
  | .d .non => true
  | _ => false
theorem isNon_rel (q : RelR S A r v) (nf : ∀ k, r = .p k → True) : decide (v = .non) = isNon r := by
  cases r with
  | p k =>
    obtain ⟨a, _, rfl⟩ := q
    rfl
  | d x =>
    cases x with
    | non => rw [q.non]; rfl
    | bl b => rw [q.bl]; rfl
    | int i => rw [q.int]; rfl
    | str s => rw [q.str]; rfl
    | lst l => obtain ⟨a, xs, rfl, _⟩ := rep_lst.mp q; rfl
    | tup l => obtain ⟨a, xs, rfl, _⟩ := rep_tup.mp q; rfl
    | dct l => obtain ⟨a, xs, rfl, _⟩ := rep_dct.mp q; rfl
    | dtt l =>
      have q' : Rep S (.dtt l) v := q
      simp only [Rep] at q'
      obtain ⟨a, xs, rfl, _⟩ := q'
      rfl
    | ins C fs => obtain ⟨a, dx, xs, rfl, _⟩ := rep_ins.mp q; rfl
    | adr a =>
      have e : v = .ref a := (rep_adr (S := S)).mp q
      rw [e]
      rfl
theorem op2_isN {r1 : R} (h : P (.d (.bl (isNon r1))) ob) : Op2 X (fun x y H Q => y = .non ∧ Q (.bl (decide (x = .non))) H) r1 (.d .non) ob P := fun S A H v w Q g q1 q2 en =>
  ⟨q2.non, by rw [isNon_rel q1 fun _ _ => trivial]; exact en.here h g rr_bl⟩
theorem op2_notN {r1 : R} (h : P (.d (.bl (!isNon r1))) ob) : Op2 X (fun x y H Q => y = .non ∧ Q (.bl (!decide (x = .non))) H) r1 (.d .non) ob P := fun S A H v w Q g q1 q2 en =>
  ⟨q2.non, by rw [isNon_rel q1 fun _ _ => trivial]; exact en.here h g rr_bl⟩
variable {j : Nat} {pos' : Pos}
theorem we_isN (h : We X a ob sl fun r1 ob1 => P (.d (.bl (isNon r1))) ob1) : We X (.Compare a [.Is] [.Constant .none j pos'] pos) ob sl P := we_cmp op_isN (nomark _) (h.mono fun _ _ h1 => we_non (op2_isN h1))
theorem we_notN (h : We X a ob sl fun r1 ob1 => P (.d (.bl (!isNon r1))) ob1) : We X (.Compare a [.IsNot] [.Constant .none j pos'] pos) ob sl P := we_cmp op_notN (nomark _) (h.mono fun _ _ h1 => we_non (op2_notN h1))
theorem wt_isN (h : We X a ob sl fun r1 ob1 => PT (isNon r1) ob1) : Wt X (.Compare a [.Is] [.Constant .none j pos'] pos) ob sl PT := wt_cmp op_isN (nomark _) (h.mono fun _ _ h1 => we_non (op2_isN ⟨_, rfl, h1⟩))
theorem wt_notN (h : We X a ob sl fun r1 ob1 => PT (!isNon r1) ob1) : Wt X (.Compare a [.IsNot] [.Constant .none j pos'] pos) ob sl PT := wt_cmp op_notN (nomark _) (h.mono fun _ _ h1 => we_non (op2_notN ⟨_, rfl, h1⟩))
/-- in, not in: a list of plain data -/
def inP (neg : Bool) (ob : Obs) (P : Post) (r1 r2 : R) : Prop := match dtOf ob r1, dtOf ob r2 with
  | some x, some (.lst l) => (okD 63 x = true ∧ okD 64 (.lst l) = true) ∧ P (.d (.bl (bif neg then !l.any (fun z => eqD z x) else l.any fun z => eqD z x))) ob
  | _, _ => False
theorem any_toPys (f : PyData → Bool) : ∀ l : List Dt, (toPys l).any f = l.any fun z => f (toPy z)
  | [] => rfl
  | x :: l => by simp only [toPys, List.any_cons, any_toPys f l]
theorem inP_op {r1 r2 : R} (h : inP false ob P r1 r2) : Op2 X (rInD X.K) r1 r2 ob P := fun S A H v w Q g q1 q2 en => by
  unfold inP at h
  split at h
  · rename_i x l e1 e2
    obtain ⟨⟨o1, o2⟩, h⟩ := h
    refine ⟨toPy x, toPys l, dtOf_dp e1 o1 g q1, ?_, okD_shaped o1 (by decide), ?_, ?_⟩
    · have := dtOf_dp e2 o2 g q2
      simpa only [toPy] using this
    · have := okD_shaped o2 (Nat.le_refl _)
      simpa only [toPy] using this
    · rw [any_toPys]
      exact en.here h g rr_bl
  · exact h.elim
theorem notInP_op {r1 r2 : R} (h : inP true ob P r1 r2) : Op2 X (rNotInD X.K) r1 r2 ob P := fun S A H v w Q g q1 q2 en => by
  unfold inP at h
  split at h
  · rename_i x l e1 e2
    obtain ⟨⟨o1, o2⟩, h⟩ := h
    refine ⟨toPy x, toPys l, dtOf_dp e1 o1 g q1, ?_, okD_shaped o1 (by decide), ?_, ?_⟩
    · have := dtOf_dp e2 o2 g q2
      simpa only [toPy] using this
    · have := okD_shaped o2 (Nat.le_refl _)
      simpa only [toPy] using this
    · rw [any_toPys]
      exact en.here h g rr_bl
  · exact h.elim
theorem Room.units65 {A : Around} (r : Room k A) : A.units + 65 < cLine := by have := r.un; omega
theorem we_in (ct : Ct X k) (h : We X a ob sl fun r1 ob1 => We X b ob1 sl fun r2 ob2 => inP false ob2 P r1 r2) (hm : behindInMarks .In b = false := by rfl) : We X (.Compare a [.In] [b] pos) ob sl P := we_cmp (op_inD (Room.units65 ct.room)) hm (h.mono fun _ _ h1 => h1.mono fun _ _ h2 => inP_op h2)
theorem we_notIn (ct : Ct X k) (h : We X a ob sl fun r1 ob1 => We X b ob1 sl fun r2 ob2 => inP true ob2 P r1 r2) (hm : behindInMarks .NotIn b = false := by rfl) : We X (.Compare a [.NotIn] [b] pos) ob sl P := we_cmp (op_notInD (Room.units65 ct.room)) hm (h.mono fun _ _ h1 => h1.mono fun _ _ h2 => notInP_op h2)
theorem wt_in (ct : Ct X k) (h : We X a ob sl fun r1 ob1 => We X b ob1 sl fun r2 ob2 => inP false ob2 (asT PT) r1 r2) (hm : behindInMarks .In b = false := by rfl) : Wt X (.Compare a [.In] [b] pos) ob sl PT := wt_cmp (op_inD (Room.units65 ct.room)) hm (h.mono fun _ _ h1 => h1.mono fun _ _ h2 => inP_op h2)
theorem wt_notIn (ct : Ct X k) (h : We X a ob sl fun r1 ob1 => We X b ob1 sl fun r2 ob2 => inP true ob2 (asT PT) r1 r2) (hm : behindInMarks .NotIn b = false := by rfl) : Wt X (.Compare a [.NotIn] [b] pos) ob sl PT := wt_cmp (op_notInD (Room.units65 ct.room)) hm (h.mono fun _ _ h1 => h1.mono fun _ _ h2 => notInP_op h2)
/-- a op b op c -/
theorem we_chain {op op' : CmpOp} {r r' : R2} (ho : OpR X (compareOp op) r) (ho' : OpR X (compareOp op') r')
    (h : We X a ob sl fun r1 ob1 => We X b ob1 sl fun r2 ob2 => Op2 X r r1 r2 ob2 fun r3 ob3 => ∃ c', r3 = .d (.bl c') ∧ (c' = true → We X c ob3 sl fun r4 ob4 => Op2 X r' r2 r4 ob4 P) ∧ (c' = false → P (.d (.bl false)) ob3))
    (hm : lastMarks [op, op'] [b, c] = false := by with_unfolding_all rfl) : We X (.Compare a [op, op'] [b, c] pos) ob sl P := fun S A H σ Q g rs en => by
  refine wpE.of (pe_chain ho ho' pe_wp pe_wp pe_wp hm) (h S A H σ _ g rs fun r1 ob1 x S1 A1 H1 h1 g1 q1 st1 => h1 S1 A1 H1 σ _ g1 (rs.step st1) fun r2 ob2 y S2 A2 H2 h2 g2 q2 st2 => ?_)
  refine h2 S2 A2 H2 x y _ g2 (q1.step st2) q2 fun r3 ob3 z S3 A3 H3 h3 g3 q3 st3 => ?_
  obtain ⟨c', rfl, ht, hf⟩ := h3
  refine ⟨c', q3.bl, ?_⟩
  have st := (st1.trans st2).trans st3
  cases c' with
  | false =>
    rw [if_neg Bool.false_ne_true]
    exact (en.step st).here (hf rfl) g3 rr_bl
  | true =>
    rw [if_pos rfl]
    refine ht rfl S3 A3 H3 σ _ g3 (rs.step st) fun r4 ob4 w S4 A4 H4 h4 g4 q4 st4 => ?_
    exact h4 S4 A4 H4 y w Q g4 (q2.step (st3.trans st4)) q4 (en.step (st.trans st4))
def Pv (x : Dt) (ob : Obs) : Post := fun r ob' => r = .d x ∧ ob' = ob
def Bv (c : Bool) (ob : Obs) : Bool → Obs → Prop := fun b ob' => b = c ∧ ob' = ob
/-- ints between: a op b op c, c a value -/
theorem we_chainI {op op' : CmpOp} {f f' : Int → Int → Bool} (ho : OpR X (compareOp op) (rI0 fun i j => .bl (f i j))) (ho' : OpR X (compareOp op') (rI0 fun i j => .bl (f' i j)))
    (h : We X a ob sl fun r1 ob1 => We X b ob1 sl fun r2 ob2 => ∃ i j l, r1 = .d (.int i) ∧ r2 = .d (.int j) ∧ We X c ob2 sl (Pv (.int l) ob2) ∧ P (.d (.bl (f i j && f' j l))) ob2)
    (hm : lastMarks [op, op'] [b, c] = false := by with_unfolding_all rfl) : We X (.Compare a [op, op'] [b, c] pos) ob sl P := by
  refine we_chain ho ho' (h.mono fun r1 ob1 h1 => h1.mono fun r2 ob2 h2 => ?_) hm
  obtain ⟨i, j, l, rfl, rfl, hc, hp⟩ := h2
  refine op2_B0 (f := f) ⟨_, rfl, fun ht => hc.mono fun r3 ob3 ⟨e1, e2⟩ => ?_, fun hf => ?_⟩
  · subst e1 e2
    rw [ht, Bool.true_and] at hp
    exact op2_B0 hp
  · rw [hf, Bool.false_and] at hp
    exact hp
end
end DL

/-! DL: tests, and, or, displays, subscripts, slices, calls of what is built in. -/
namespace DL
open PySem L2

section
variable {X : Cx} {e a b c : Expr} {es : List Expr} {pos : Pos} {ob : Obs} {sl : Sls} {P : Post} {B : Bool → Obs → Prop} {K : PySem.W.Frag} {S S' H H' : Hp} {A A' : List Addr} {Q : VK} {r : R} {v : V} {x y : Dt} {l m : List Dt} {k : Nat}
/-! ### tests -/
/-- a value's truth -/
def truD : Dt → Bool
  | .non => false
  | .bl b => b
  | .int i => i != 0
  | .str y => (y.length : Int) != 0
  | .lst l => !l.isEmpty
  | .tup l => !l.isEmpty
  | .dct l => !l.isEmpty
  | _ => true
def truOk : Dt → Prop
  | .str y => y.length ≤ sizeLine
  | .dct _ | .dtt _ | .ins _ _ | .adr _ => False
  | _ => True
def truP (ob : Obs) (B : Bool → Obs → Prop) (r : R) : Prop := match dtOf ob r with
  | some x => truOk x ∧ B (truD x) ob
  | none => False
theorem isEmpty_reps {xs : List V} (h : Reps S l xs) : (!xs.isEmpty) = !l.isEmpty := by
  have := h.length
  cases l <;> cases xs <;> simp_all
theorem truV_rep (ok : truOk x) (g : Good K S A H ob) (q : Rep S x v) : TruV K v H (truD x) := by
  cases x with
  | non => rw [rep_non.mp q]; exact rfl
  | bl b => rw [rep_bl.mp q]; exact rfl
  | int i => rw [rep_int.mp q]; exact rfl
  | str s => rw [rep_str.mp q]; exact ⟨ok, rfl⟩
  | lst l =>
    obtain ⟨a, xs, rfl, h2, h3⟩ := rep_lst.mp q
    exact .inl ⟨xs, SqL.of (g.ex.at h2 rfl), (isEmpty_reps h3).symm⟩
  | tup l =>
    obtain ⟨a, xs, rfl, h2, h3⟩ := rep_tup.mp q
    exact .inr (.inl ⟨xs, SqT.of (g.ex.at h2 rfl), (isEmpty_reps h3).symm⟩)
  | dct l => exact ok.elim
  | dtt l => exact ok.elim
  | ins C fs => exact ok.elim
  | adr a => exact ok.elim
theorem truV_of (e : dtOf ob r = some x) (ok : truOk x) (g : Good K S A H ob) (q : RelR S A r v) : TruV K v H (truD x) := by
  cases r with
  | d z =>
    have ez : z = x := Option.some.inj e
    subst ez
    exact truV_rep ok g q
  | p j =>
    obtain ⟨p, hp, rfl⟩ := q
    unfold dtOf at e
    cases ec : ob[j]? with
    | none => simp only [ec] at e; cases e
    | some c =>
      simp only [ec] at e
      have o := g.own j p c hp ec
      cases c with
      | lst l =>
        cases e
        obtain ⟨_, xs, h2, h3⟩ := o
        exact .inl ⟨xs, SqL.of h2, (isEmpty_reps h3).symm⟩
      | rd l =>
        cases e
        obtain ⟨_, xs, h2, h3⟩ := o
        exact .inl ⟨xs, h2, (isEmpty_reps h3).symm⟩
      | frz z =>
        cases e
        exact truV_rep ok g o
      | _ => cases e
/-- a test by a value's truth: a name, a call, a subscript, a field .. -/
theorem wt_val (h : We X e ob sl fun r ob1 => truP ob1 B r) (he : ∀ whole, isTrue e X.env whole = (do let v ← whole; standAt e.pos; holding [v] (truthy v)) := by intro _; rfl) : Wt X e ob sl B := fun S A H σ Q g rs en => by
  refine wpT.of (pt_truth pe_wp he) (h S A H σ _ g rs fun r1 ob1 v S1 A1 H1 h1 g1 q1 st1 => ?_)
  have h1 : truP ob1 B r1 := h1
  unfold truP at h1
  cases e : dtOf ob1 r1 with
  | none => rw [e] at h1; exact h1.elim
  | some x =>
    rw [e] at h1
    exact ⟨_, truV_of e h1.1 g1 q1, en _ _ _ _ _ h1.2 g1 st1⟩
theorem wt_not (h : Wt X a ob sl fun c ob1 => B (!c) ob1) : Wt X (.UnaryOp .Not a pos) ob sl B := fun S A H σ Q g rs en =>
  wpT.of (pt_not pt_wp) (h S A H σ _ g rs fun c ob1 S1 A1 H1 h1 g1 st1 => en _ _ _ _ _ h1 g1 st1)
variable {b' : Expr} {rest : List Expr} {op : BoolOp}
theorem ww_and1 (h : Wt X a ob sl B) : Ww X (.BoolOp .And [a] pos) ob sl B := fun S A H σ Q g rs en => wpW.of (pw_and1 pt_wp) (h S A H σ Q g rs en)
theorem ww_or1 (h : Wt X a ob sl B) : Ww X (.BoolOp .Or [a] pos) ob sl B := fun S A H σ Q g rs en => wpW.of (pw_or1 pt_wp) (h S A H σ Q g rs en)
theorem ww_and (h : Wt X a ob sl fun c ob1 => (c = true → Ww X (.BoolOp .And (b :: rest) pos) ob1 sl B) ∧ (c = false → B false ob1)) : Ww X (.BoolOp .And (a :: b :: rest) pos) ob sl B := fun S A H σ Q g rs en => by
  refine wpW.of (pw_and pt_wp pw_wp) (h S A H σ _ g rs fun c ob1 S1 A1 H1 h1 g1 st1 => ?_)
  cases c with
  | true => rw [if_pos rfl]; exact h1.1 rfl S1 A1 H1 σ Q g1 (rs.step st1) (en.step st1)
  | false => rw [if_neg Bool.false_ne_true]; exact en _ _ _ _ _ (h1.2 rfl) g1 st1
theorem ww_or (h : Wt X a ob sl fun c ob1 => (c = false → Ww X (.BoolOp .Or (b :: rest) pos) ob1 sl B) ∧ (c = true → B true ob1)) : Ww X (.BoolOp .Or (a :: b :: rest) pos) ob sl B := fun S A H σ Q g rs en => by
  refine wpW.of (pw_or pt_wp pw_wp) (h S A H σ _ g rs fun c ob1 S1 A1 H1 h1 g1 st1 => ?_)
  cases c with
  | false => rw [if_neg Bool.false_ne_true]; exact h1.1 rfl S1 A1 H1 σ Q g1 (rs.step st1) (en.step st1)
  | true => rw [if_pos rfl]; exact en _ _ _ _ _ (h1.2 rfl) g1 st1
theorem wt_w (h : Ww X e ob sl B) : Wt X e ob sl B := fun S A H σ Q g rs en => wpT.of pw_wp.pt (h S A H σ Q g rs en)
/-- and, or of pure tests, by their values -/
theorem ww_andV {c1 c2 : Bool} (h1 : Wt X a ob sl (Bv c1 ob)) (h2 : c1 = true → Ww X (.BoolOp .And (b :: rest) pos) ob sl (Bv c2 ob)) (h : B (c1 && c2) ob) : Ww X (.BoolOp .And (a :: b :: rest) pos) ob sl B :=
  ww_and (h1.mono fun c ob1 ⟨e1, e2⟩ => by
    subst e1 e2
    refine ⟨fun hc => ?_, fun hc => by rw [hc, Bool.false_and] at h; exact h⟩
    rw [hc, Bool.true_and] at h
    exact fun S A H σ Q g rs en => h2 hc S A H σ Q g rs fun r ob' S' A' H' ⟨e3, e4⟩ => en r ob' S' A' H' (by rw [e3, e4]; exact h))
theorem ww_orV {c1 c2 : Bool} (h1 : Wt X a ob sl (Bv c1 ob)) (h2 : c1 = false → Ww X (.BoolOp .Or (b :: rest) pos) ob sl (Bv c2 ob)) (h : B (c1 || c2) ob) : Ww X (.BoolOp .Or (a :: b :: rest) pos) ob sl B :=
  ww_or (h1.mono fun c ob1 ⟨e1, e2⟩ => by
    subst e1 e2
    refine ⟨fun hc => ?_, fun hc => by rw [hc, Bool.true_or] at h; exact h⟩
    rw [hc, Bool.false_or] at h
    exact fun S A H σ Q g rs en => h2 hc S A H σ Q g rs fun r ob' S' A' H' ⟨e3, e4⟩ => en r ob' S' A' H' (by rw [e3, e4]; exact h))
/-- .. as values: bools -/
theorem we_one (h : We X a ob sl P) : We X (.BoolOp op [a] pos) ob sl P := fun S A H σ Q g rs en => wpE.of (pe_one pe_wp) (h S A H σ Q g rs en)
theorem we_and (h : We X a ob sl fun r ob1 => ∃ c, r = .d (.bl c) ∧ (c = true → We X (.BoolOp .And (b :: rest) pos) ob1 sl P) ∧ (c = false → P (.d (.bl false)) ob1)) : We X (.BoolOp .And (a :: b :: rest) pos) ob sl P := fun S A H σ Q g rs en => by
  refine wpE.of (pe_and pe_wp pe_wp) (h S A H σ _ g rs fun r ob1 v S1 A1 H1 h1 g1 q1 st1 => ?_)
  obtain ⟨c, rfl, h2, h3⟩ := h1
  refine ⟨c, q1.bl, ?_⟩
  cases c with
  | true => rw [if_pos rfl]; exact h2 rfl S1 A1 H1 σ Q g1 (rs.step st1) (en.step st1)
  | false => rw [if_neg Bool.false_ne_true]; exact (en.step st1).here (h3 rfl) g1 rr_bl
theorem we_or (h : We X a ob sl fun r ob1 => ∃ c, r = .d (.bl c) ∧ (c = false → We X (.BoolOp .Or (b :: rest) pos) ob1 sl P) ∧ (c = true → P (.d (.bl true)) ob1)) : We X (.BoolOp .Or (a :: b :: rest) pos) ob sl P := fun S A H σ Q g rs en => by
  refine wpE.of (pe_or pe_wp pe_wp) (h S A H σ _ g rs fun r ob1 v S1 A1 H1 h1 g1 q1 st1 => ?_)
  obtain ⟨c, rfl, h2, h3⟩ := h1
  refine ⟨c, q1.bl, ?_⟩
  cases c with
  | false => rw [if_neg Bool.false_ne_true]; exact h2 rfl S1 A1 H1 σ Q g1 (rs.step st1) (en.step st1)
  | true => rw [if_pos rfl]; exact (en.step st1).here (h3 rfl) g1 rr_bl
theorem we_andV {c1 c2 : Bool} (h1 : We X a ob sl (Pv (.bl c1) ob)) (h2 : c1 = true → We X (.BoolOp .And (b :: rest) pos) ob sl (Pv (.bl c2) ob)) (h : P (.d (.bl (c1 && c2))) ob) : We X (.BoolOp .And (a :: b :: rest) pos) ob sl P :=
  we_and (h1.mono fun r ob1 ⟨e1, e2⟩ => by
    subst e1 e2
    refine ⟨c1, rfl, fun hc => ?_, fun hc => by rw [hc, Bool.false_and] at h; exact h⟩
    rw [hc, Bool.true_and] at h
    exact (h2 hc).mono fun r ob' ⟨e3, e4⟩ => by rw [e3, e4]; exact h)
theorem we_orV {c1 c2 : Bool} (h1 : We X a ob sl (Pv (.bl c1) ob)) (h2 : c1 = false → We X (.BoolOp .Or (b :: rest) pos) ob sl (Pv (.bl c2) ob)) (h : P (.d (.bl (c1 || c2))) ob) : We X (.BoolOp .Or (a :: b :: rest) pos) ob sl P :=
  we_or (h1.mono fun r ob1 ⟨e1, e2⟩ => by
    subst e1 e2
    refine ⟨c1, rfl, fun hc => ?_, fun hc => by rw [hc, Bool.true_or] at h; exact h⟩
    rw [hc, Bool.false_or] at h
    exact (h2 hc).mono fun r ob' ⟨e3, e4⟩ => by rw [e3, e4]; exact h)
/-- not, of any truth -/
theorem we_not (h : We X a ob sl fun r ob1 => ∃ c, r = .d (.bl c) ∧ P (.d (.bl (!c))) ob1) : We X (.UnaryOp .Not a pos) ob sl P := fun S A H σ Q g rs en => by
  refine wpE.of (pe_not pe_wp) (h S A H σ _ g rs fun r ob1 v S1 A1 H1 h1 g1 q1 st1 => ?_)
  obtain ⟨c, rfl, h1⟩ := h1
  exact ⟨c, q1.bl, (en.step st1).here h1 g1 rr_bl⟩
/-- a if t else b -/
theorem we_ifE (h : Wt X c ob sl fun t ob1 => (t = true → We X a ob1 sl P) ∧ (t = false → We X b ob1 sl P)) : We X (.IfExp c a b pos) ob sl P := fun S A H σ Q g rs en => by
  refine wpE.of (pe_ifExp pt_wp pe_wp pe_wp) (h S A H σ _ g rs fun t ob1 S1 A1 H1 h1 g1 st1 => ?_)
  cases t with
  | true => rw [if_pos rfl]; exact h1.1 rfl S1 A1 H1 σ Q g1 (rs.step st1) (en.step st1)
  | false => rw [if_neg Bool.false_ne_true]; exact h1.2 rfl S1 A1 H1 σ Q g1 (rs.step st1) (en.step st1)
theorem we_ifV {α : Type} {t : Bool} {u w : α} (enc : α → Dt) (h1 : Wt X c ob sl (Bv t ob)) (h2 : t = true → We X a ob sl (Pv (enc u) ob)) (h3 : t = false → We X b ob sl (Pv (enc w) ob)) (h : P (.d (enc (bif t then u else w))) ob) : We X (.IfExp c a b pos) ob sl P :=
  we_ifE (h1.mono fun t' ob1 ⟨e1, e2⟩ => by
    subst e1 e2
    refine ⟨fun ht => (h2 ht).mono fun r ob' ⟨e3, e4⟩ => ?_, fun ht => (h3 ht).mono fun r ob' ⟨e3, e4⟩ => ?_⟩
    · rw [ht] at h; rw [e3, e4]; exact h
    · rw [ht] at h; rw [e3, e4]; exact h)

/-! ### an owned thing as data -/
def fsD : List (Str × R) → Option (List (Str × Dt))
  | [] => some []
  | (n, .d x) :: r => match fsD r with
    | some l => some ((n, x) :: l)
    | none => none
  | (_, .p _) :: _ => none
theorem fsD_rel {S : Hp} {A : List Addr} : ∀ {fs : List (Str × R)} {l : List (Str × Dt)} {xs : List (Str × V)}, fsD fs = some l → RelF S A fs xs → RepF S l xs
  | [], l, xs, e, h => by
    cases e
    simp only [RelF] at h
    simp only [RepF]
    exact h
  | (n, .p k) :: r, l, xs, e, h => by cases e
  | (n, .d x) :: r, l, xs, e, h => by
    simp only [fsD] at e
    cases q : fsD r with
    | none => rw [q] at e; cases e
    | some l' =>
      rw [q] at e
      cases e
      simp only [RelF] at h
      simp only [RepF]
      obtain ⟨y, t, h1, h2, h3⟩ := h
      exact ⟨y, t, h1, h2, fsD_rel q h3⟩
def obD (ob : Obs) : R → Option Dt
  | .d x => some x
  | .p k => match ob[k]? with
    | some (.lst l) => some (.lst l)
    | some (.dct l) => some (.dct l)
    | some (.dtt l) => some (.dtt l)
    | some (.frz x) => some x
    | some (.ins C fs) => match fsD fs with
      | some l => some (.ins C l)
      | none => none
    | _ => none
def obF (ob : Obs) : R → Obs
  | .d _ => ob
  | .p k => match ob[k]? with
    | some (.lst l) => ob.set k (.frz (.lst l))
    | some (.dct l) => ob.set k (.frz (.dct l))
    | some (.dtt l) => ob.set k (.frz (.dtt l))
    | some (.ins C fs) => match fsD fs with
      | some l => ob.set k (.frz (.ins C l))
      | none => ob
    | _ => ob
/-- any result made data (an owned list may not change from here on) -/
def dataP (P : Post) : Post := fun r ob => match obD ob r with
  | some x => P (.d x) (obF ob r)
  | none => False
theorem data_end (en : End K S A H P Q) : End K S A H (dataP P) Q := fun r ob v S' A' H' h g q st => by
  unfold dataP at h
  cases r with
  | d x => exact en _ _ _ _ _ _ h g q st
  | p k =>
    obtain ⟨p, hp, rfl⟩ := q
    have hm := List.mem_of_getElem? hp
    simp only [obD, obF] at h
    cases ec : ob[k]? with
    | none => simp only [ec] at h
    | some c =>
      simp only [ec] at h
      have o := g.own k p c hp ec
      cases c with
      | lst l =>
        obtain ⟨h0, xs, h2, h3⟩ := o
        have hx : Rep (upd S' p (.lst xs)) (.lst l) (.ref p) := rep_lst.mpr ⟨p, xs, rfl, upd_same, h3.mono (Le.new h0)⟩
        exact en _ _ _ _ _ _ h (g.frz hp h0 h2 hx) hx (st.trans (Step.frz hm h0))
      | dct l =>
        obtain ⟨h0, xs, h2, h3⟩ := o
        have hx : Rep (upd S' p (.dK xs)) (.dct l) (.ref p) := rep_dct.mpr ⟨p, xs, rfl, upd_same, h3.mono (Le.new h0)⟩
        exact en _ _ _ _ _ _ h (g.frz hp h0 h2 hx) hx (st.trans (Step.frz hm h0))
      | dtt l =>
        obtain ⟨h0, xs, h2, h3⟩ := o
        have hx : Rep (upd S' p (.dT xs)) (.dtt l) (.ref p) := by
          simp only [Rep]
          exact ⟨p, xs, rfl, upd_same, h3.mono (Le.new h0)⟩
        exact en _ _ _ _ _ _ h (g.frz hp h0 h2 hx) hx (st.trans (Step.frz hm h0))
      | frz x => exact en _ _ _ _ _ _ h g o st
      | lsp l => exact h.elim
      | tpl l => exact h.elim
      | ins C fs =>
        cases q : fsD fs with
        | none => simp only [q] at h
        | some l =>
          simp only [q] at h
          obtain ⟨h0, dx, xs, h2, h3⟩ := o
          have hx : Rep (upd S' p (.ins C dx xs)) (.ins C l) (.ref p) := rep_ins.mpr ⟨p, dx, xs, rfl, upd_same, RepF.mono (Le.new h0) (fsD_rel q h3)⟩
          exact en _ _ _ _ _ _ h (g.frz hp h0 h2 hx) hx (st.trans (Step.frz hm h0))
      | rd l => exact h.elim
      | raw q => exact h.elim
theorem we_data (h : We X e ob sl (dataP P)) : We X e ob sl P := fun S A H σ Q g rs en => h S A H σ Q g rs (data_end en)

/-! ### argument lists, displays -/
theorem EndA.step {P : List R → Obs → Prop} {Q : List V → Hp → Prop} (x : Step S A H S' A' H') (h : EndA K S A H P Q) : EndA K S' A' H' P Q := fun r ob v S2 A2 H2 p g q st => h r ob v S2 A2 H2 p g q (x.trans st)
theorem wa_nil {P : List R → Obs → Prop} (h : P [] ob) : Wa X [] ob sl P := fun S A H σ Q g rs en => wpA.of pa_nil (en [] ob [] S A H h g (relRs_nil.mpr rfl) Step.refl)
theorem wa_cons {P : List R → Obs → Prop} (h : We X e ob sl fun r ob1 => Wa X es ob1 sl fun rs ob2 => P (r :: rs) ob2) (hs : starEach (e :: es) X.env = (false, eval e X.env) :: starEach es X.env := by rfl) : Wa X (e :: es) ob sl P := fun S A H σ Q g rs en => by
  refine wpA.of (pa_cons pe_wp pa_wp hs) (h S A H σ _ g rs fun r ob1 v S1 A1 H1 h1 g1 q1 st1 => h1 S1 A1 H1 σ _ g1 (rs.step st1) fun l ob2 vs S2 A2 H2 h2 g2 q2 st2 => ?_)
  exact en _ _ _ _ _ _ h2 g2 (relRs_cons.mpr ⟨_, _, rfl, q1.step st2, q2⟩) (st1.trans st2)
theorem relRs_d : ∀ {ds : List Dt} {xs : List V}, RelRs S A (ds.map R.d) xs ↔ Reps S ds xs
  | [], xs => by rw [List.map_nil, relRs_nil, reps_nil]
  | d :: ds, xs => by
    rw [List.map_cons, relRs_cons, reps_cons]
    constructor
    · rintro ⟨x, t, h1, h2, h3⟩
      exact ⟨x, t, h1, h2, relRs_d.mp h3⟩
    · rintro ⟨x, t, h1, h2, h3⟩
      exact ⟨x, t, h1, h2, relRs_d.mpr h3⟩
theorem we_lst (own : Bool) (h : Wa X es ob sl fun rs ob1 => ∃ ds, rs = ds.map R.d ∧ ds.length ≤ sizeLine ∧ Mk own ds ob1 P) : We X (.List es pos) ob sl P := fun S A H σ Q g rs en => by
  refine wpE.of (pe_lst pa_wp) (h S A H σ _ g rs fun l ob1 vs S1 A1 H1 h1 g1 q1 st1 => ?_)
  obtain ⟨ds, rfl, hz, hk⟩ := h1
  have hr := relRs_d.mp q1
  exact ⟨by rw [hr.length]; exact hz, fun p hp => hk.fin (en.step st1) g1 hr hp⟩
theorem we_tup {x1 : Nat} (h : Wa X es ob sl fun rs ob1 => ∃ ds, rs = ds.map R.d ∧ ds.length ≤ sizeLine ∧ P (.d (.tup ds)) ob1) : We X (.Tuple es x1 pos) ob sl P := fun S A H σ Q g rs en => by
  refine wpE.of (pe_tup pa_wp) (h S A H σ _ g rs fun l ob1 vs S1 A1 H1 h1 g1 q1 st1 => ?_)
  obtain ⟨ds, rfl, hz, hk⟩ := h1
  have hr := relRs_d.mp q1
  refine ⟨by rw [hr.length]; exact hz, fun p hp => ?_⟩
  have hs := g1.ex.fresh hp
  exact en _ _ _ _ _ _ hk (g1.newD hp) (rep_tup.mpr ⟨p, vs, rfl, upd_same, hr.mono (Le.new hs)⟩) (st1.trans (Step.newD hp hs))

/-! ### subscripts, slices -/
def ixP (ob : Obs) (P : Post) (r1 r2 : R) : Prop := match r1, r2 with
  | .d (.tup l), .d (.int i) => ∃ x, atI l i = some x ∧ P (.d x) ob
  | r1, .d (.int i) => match listRd ob r1 with
    | some l => ∃ x, atI l i = some x ∧ P (.d x) ob
    | none => False
  | _, _ => False
theorem Reps.atI {xs : List V} {i : Int} {x : Dt} (h : Reps S l xs) (e : L2.atI l i = some x) : ∃ v, L2.atI xs i = some v ∧ Rep S x v := by
  unfold L2.atI at e ⊢
  rw [h.length]
  cases q : ixN l.length i with
  | none => rw [q] at e; cases e
  | some j =>
    rw [q] at e
    exact h.get' (l := l) (i := j) e
theorem ixP_op {r1 r2 : R} (h : ixP ob P r1 r2) : Op2 X (rIx X.K) r1 r2 ob P := fun S A H v w Q g q1 q2 en => by
  unfold ixP at h
  split at h
  · obtain ⟨x, e, h⟩ := h
    obtain ⟨p, xs, rfl, h2, h3⟩ := rep_tup.mp q1
    obtain ⟨u, e', hu⟩ := h3.atI e
    rw [q2.int]
    exact .inr (.inl ⟨p, xs, _, u, rfl, rfl, SqT.of (g.ex.at h2 rfl), e', en.here h g hu⟩)
  · split at h
    · rename_i e1
      obtain ⟨x, e, h⟩ := h
      obtain ⟨p, xs, rfl, h2, h3⟩ := listRd_rel e1 g q1
      obtain ⟨u, e', hu⟩ := h3.atI e
      rw [q2.int]
      exact .inl ⟨p, xs, _, u, rfl, rfl, h2, e', en.here h g hu⟩
    · exact h.elim
  · exact h.elim
theorem we_ix (h : We X a ob sl fun r1 ob1 => We X b ob1 sl fun r2 ob2 => ixP ob2 P r1 r2) (hs : PlainIx b := by exact fun _ _ => rfl) : We X (.Subscript a b pos) ob sl P := fun S A H σ Q g rs en => by
  refine wpE.of (pe_ix ix_seq pe_wp pe_wp hs) (h S A H σ _ g rs fun r1 ob1 x S1 A1 H1 h1 g1 q1 st1 => h1 S1 A1 H1 σ _ g1 (rs.step st1) fun r2 ob2 y S2 A2 H2 h2 g2 q2 st2 => ?_)
  exact ixP_op h2 S2 A2 H2 x y Q g2 (q1.step st2) q2 (en.step (st1.trans st2))
def cutD (xs : List Dt) (lo hi : Option Int) : List Dt := (xs.drop (HT.sIx xs.length 0 lo)).take (HT.sIx xs.length xs.length hi - HT.sIx xs.length 0 lo)
theorem Reps.cut {xs : List V} {lo hi : Option Int} (h : Reps S l xs) : Reps S (cutD l lo hi) (cutV xs lo hi) := by
  unfold cutD cutV
  rw [h.length]
  exact (h.drop _).take _
/-- a part of a slice: left out, or an int -/
def wpO (X : Cx) (o : Option Expr) (t : TO) : Prop := PO X o t
variable {p2 : Pos} {lo hi : Expr}
def slP (own : Bool) (ob : Obs) (P : Post) (lo hi : Option Int) (r : R) : Prop := match r with
  | .d (.tup l) => cutD l lo hi ≠ l ∧ P (.d (.tup (cutD l lo hi))) ob
  | r => match listRd ob r with
    | some l => Mk own (cutD l lo hi) ob P
    | none => False
def rSlA (K : PySem.W.Frag) : V → Option Int → Option Int → Hp → VK → Prop := fun x lo hi H Q => rSlL K x lo hi H Q
theorem slP_op {own : Bool} {r1 : R} {lo hi : Option Int} {x : V} (h : slP own ob P lo hi r1) (g : Good X.K S A H ob) (q : RelR S A r1 x) (en : End X.K S A H P Q) (nt : ∀ l, r1 ≠ .d (.tup l)) : rSlL X.K x lo hi H Q := by
  unfold slP at h
  split at h
  · exact (nt _ rfl).elim
  · split at h
    · rename_i e1
      obtain ⟨p, xs, rfl, h2, h3⟩ := listRd_rel e1 g q
      exact ⟨p, xs, rfl, h2, fun z hz => h.fin en g h3.cut hz⟩
    · exact h.elim
theorem we_sl2 (own : Bool) (h : We X a ob sl fun r ob1 => We X lo ob1 sl fun r1 ob2 => ∃ i, r1 = .d (.int i) ∧ We X hi ob2 sl fun r2 ob3 => ∃ j, r2 = .d (.int j) ∧ (∀ l, r ≠ .d (.tup l)) ∧ slP own ob3 P (some i) (some j) r) : We X (.Subscript a (.Slice (some lo) (some hi) none p2) pos) ob sl P := fun S A H σ Q g rs en => by
  refine wpE.of (pe_slice sl_list pe_wp (po_some pe_wp) (po_some pe_wp)) (h S A H σ _ g rs fun r ob1 x S1 A1 H1 h1 g1 q1 st1 => h1 S1 A1 H1 σ _ g1 (rs.step st1) fun r1 ob2 y S2 A2 H2 h2 g2 q2 st2 => ?_)
  obtain ⟨i, rfl, h2⟩ := h2
  refine ⟨i, q2.int, h2 S2 A2 H2 σ _ g2 (rs.step (st1.trans st2)) fun r2 ob3 z S3 A3 H3 h3 g3 q3 st3 => ?_⟩
  obtain ⟨j, rfl, nt, h3⟩ := h3
  exact ⟨j, q3.int, slP_op h3 g3 (q1.step (st2.trans st3)) (en.step ((st1.trans st2).trans st3)) nt⟩
theorem we_slLo (own : Bool) (h : We X a ob sl fun r ob1 => We X lo ob1 sl fun r1 ob2 => ∃ i, r1 = .d (.int i) ∧ (∀ l, r ≠ .d (.tup l)) ∧ slP own ob2 P (some i) none r) : We X (.Subscript a (.Slice (some lo) none none p2) pos) ob sl P := fun S A H σ Q g rs en => by
  refine wpE.of (pe_slice sl_list pe_wp (po_some pe_wp) po_none) (h S A H σ _ g rs fun r ob1 x S1 A1 H1 h1 g1 q1 st1 => h1 S1 A1 H1 σ _ g1 (rs.step st1) fun r1 ob2 y S2 A2 H2 h2 g2 q2 st2 => ?_)
  obtain ⟨i, rfl, nt, h2⟩ := h2
  exact ⟨i, q2.int, slP_op h2 g2 (q1.step st2) (en.step (st1.trans st2)) nt⟩
theorem we_slHi (own : Bool) (h : We X a ob sl fun r ob1 => We X hi ob1 sl fun r1 ob2 => ∃ i, r1 = .d (.int i) ∧ (∀ l, r ≠ .d (.tup l)) ∧ slP own ob2 P none (some i) r) : We X (.Subscript a (.Slice none (some hi) none p2) pos) ob sl P := fun S A H σ Q g rs en => by
  refine wpE.of (pe_slice sl_list pe_wp po_none (po_some pe_wp)) (h S A H σ _ g rs fun r ob1 x S1 A1 H1 h1 g1 q1 st1 => h1 S1 A1 H1 σ _ g1 (rs.step st1) fun r1 ob2 y S2 A2 H2 h2 g2 q2 st2 => ?_)
  obtain ⟨i, rfl, nt, h2⟩ := h2
  exact ⟨i, q2.int, slP_op h2 g2 (q1.step st2) (en.step (st1.trans st2)) nt⟩
end
end DL

/-! DL: calls of what is built in. -/
namespace DL
open PySem L2

section
variable {X : Cx} {e a b c : Expr} {es : List Expr} {pos p1 p2 apos : Pos} {ob : Obs} {sl : Sls} {P : Post} {B : Bool → Obs → Prop} {K : PySem.W.Frag} {S S' H H' : Hp} {A A' : List Addr} {Q : VK} {r : R} {v : V} {x y : Dt} {l m : List Dt} {k : Nat} {nm : Str}
/-- a call on values and results -/
def CallP (X : Cx) (r : List V → Hp → VK → Prop) (rs : List R) (ob : Obs) (P : Post) : Prop := ∀ S A H vs Q, Good X.K S A H ob → RelRs S A rs vs → End X.K S A H P Q → r vs H Q
theorem we_cb {id : String} {r : List V → Hp → VK → Prop} (hc : CallR X (.builtin id) r) (hm : X.mg nm = none) (h : Wa X (e :: es) ob sl fun rs ob1 => CallP X r rs ob1 P) (hv : bootBuiltins nm = some (.builtin id) := by decide +kernel) (hg : Gl X nm := by rfl)
    (hn : nm ≠ "__name__" := by decide) (hdb : (nm == ("__debug__" : Str)) = false := by decide)
    (hs : starEach (e :: es) X.env = (false, eval e X.env) :: starEach es X.env := by rfl) (hp : (backTo pos (starEach es X.env)).any (·.1) = false := by rfl) : We X (.Call (.Name nm p1) (e :: es) [] pos) ob sl P := fun S A H σ Q g rs en =>
  wpE.of (pe_callB hc hg hm hv pa_wp hn hdb hs hp) (h S A H σ _ g rs fun l ob1 vs S1 A1 H1 h1 g1 q1 st1 => h1 S1 A1 H1 vs Q g1 q1 (en.step st1))
theorem we_ct {T : String} {r : List V → Hp → VK → Prop} (hc : CallR X (.type T) r) (hm : X.mg nm = none) (h : Wa X (e :: es) ob sl fun rs ob1 => CallP X r rs ob1 P) (hv : bootBuiltins nm = some (.type T) := by decide +kernel) (hg : Gl X nm := by rfl)
    (hn : nm ≠ "__name__" := by decide) (hdb : (nm == ("__debug__" : Str)) = false := by decide)
    (hs : starEach (e :: es) X.env = (false, eval e X.env) :: starEach es X.env := by rfl) (hp : (backTo pos (starEach es X.env)).any (·.1) = false := by rfl) : We X (.Call (.Name nm p1) (e :: es) [] pos) ob sl P := fun S A H σ Q g rs en =>
  wpE.of (pe_callTy hc hg hm hv pa_wp hn hdb hs hp) (h S A H σ _ g rs fun l ob1 vs S1 A1 H1 h1 g1 q1 st1 => h1 S1 A1 H1 vs Q g1 q1 (en.step st1))
theorem relRs1 {vs : List V} (q : RelRs S A [r] vs) : ∃ v, vs = [v] ∧ RelR S A r v := by
  obtain ⟨v, t, rfl, h1, h2⟩ := relRs_cons.mp q
  rw [relRs_nil.mp h2]
  exact ⟨v, rfl, h1⟩
theorem relRs2 {r2 : R} {vs : List V} (q : RelRs S A [r, r2] vs) : ∃ v w, vs = [v, w] ∧ RelR S A r v ∧ RelR S A r2 w := by
  obtain ⟨v, t, rfl, h1, h2⟩ := relRs_cons.mp q
  obtain ⟨w, rfl, h3⟩ := relRs1 h2
  exact ⟨v, w, rfl, h1, h3⟩

/-! ### len -/
def lenP (ob : Obs) (P : Post) (r : R) : Prop := match r with
  | .d (.tup l) => P (.d (.int l.length)) ob
  | .d (.str s) => s.length ≤ sizeLine ∧ P (.d (.int s.length)) ob
  | r => match listRd ob r with
    | some l => P (.d (.int l.length)) ob
    | none => False
theorem lenP_call (h : lenP ob P r) : CallP X (fun xs H Q => ∃ x n, xs = [x] ∧ LenV X.K x H n ∧ Q (.int n) H) [r] ob P := fun S A H vs Q g q en => by
  obtain ⟨v, rfl, qz⟩ := relRs1 q; clear q; have q := qz; clear qz
  unfold lenP at h
  split at h
  · obtain ⟨p, xs, rfl, h2, h3⟩ := rep_tup.mp q
    exact ⟨_, _, rfl, .inr ⟨_, SqT.of (g.ex.at h2 rfl), h3.length.symm⟩, en.here h g rr_int⟩
  · rw [q.str]
    exact ⟨_, _, rfl, ⟨h.1, rfl⟩, en.here h.2 g rr_int⟩
  · split at h
    · rename_i l e1
      obtain ⟨p, xs, rfl, h2, h3⟩ := listRd_rel e1 g q
      exact ⟨_, _, rfl, .inl ⟨_, h2, h3.length.symm⟩, en.here h g rr_int⟩
    · exact h.elim
theorem we_len (hm : X.mg "len" = none) (h : We X a ob sl fun r ob1 => lenP ob1 P r) (hg : Gl X "len" := by rfl) (hs : starEach [a] X.env = (false, eval a X.env) :: starEach [] X.env := by rfl) : We X (.Call (.Name "len" p1) [a] [] pos) ob sl P :=
  we_cb call_len hm (wa_cons (h.mono fun r ob1 h1 => wa_nil (lenP_call h1)) hs) PySem.boot_len hg (by decide) (by decide) hs rfl

/-! ### sorted -/
def RepV (S : Hp) (u : Value) (d : Dt) : Prop := ∃ x, RelV x u ∧ Rep S d x
theorem each_reps : ∀ {ds : List Dt} {xs : List V} {us : List Value}, Reps S ds xs → Vals xs us → PySem.W.EachIs (RepV S) us ds
  | [], _, _, h, r => by
    rw [reps_nil.mp h] at r
    cases r
    exact .nil
  | d :: ds, _, _, h, r => by
    obtain ⟨x, t, rfl, h1, h2⟩ := reps_cons.mp h
    cases r with
    | cons q r => exact .cons ⟨x, q, h1⟩ (each_reps h2 r)
theorem reps_each : ∀ {ds : List Dt} {us : List Value}, PySem.W.EachIs (RepV S) us ds → ∃ xs, Reps S ds xs ∧ Vals xs us
  | _, _, .nil => ⟨[], reps_nil.mpr rfl, .nil⟩
  | _, _, .cons ⟨x, q, h⟩ t => by
    obtain ⟨xs, h1, h2⟩ := reps_each t
    exact ⟨x :: xs, reps_cons.mpr ⟨x, xs, rfl, h, h1⟩, .cons q h2⟩
theorem each_reads {pins : List (Addr × Obj)} {σ : L2.St} {s : Shared} {n : Nat} (I : Inv X pins σ H s) (ex : Ex S H) : ∀ {ds : List Dt} {us : List Value}, PySem.W.EachIs (RepV S) us ds → okDs n ds = true → PySem.W.EachIs (fun v b => ∃ as, Reads s.heap v (toPy b) as) us ds
  | _, _, .nil, _ => .nil
  | _, _, .cons ⟨x, q, h⟩ t, ok => by
    simp only [okDs, Bool.and_eq_true] at ok
    exact .cons (Dp.reads I _ _ _ (Rep.dp ex n _ _ ok.1 h) q) (each_reads I ex t ok.2)
def sortD (ds : List Dt) : List Dt := ds.mergeSort (PySem.W.dataLe false toPy)
def SortOk (ds : List Dt) : Prop := okDs 60 ds = true ∧ PySem.W.AllAlike (ds.map toPy) ∧ PySem.W.Sortable (ds.map toPy)
def rSortD (K : PySem.W.Frag) : List V → Hp → VK → Prop := fun vs H Q => ∃ S ds a xs, vs = [.ref a] ∧ SqL K H a xs ∧ Ex S H ∧ Reps S ds xs ∧ SortOk ds ∧ ∀ p ys, H p = none → Reps S (sortD ds) ys → Q (.ref p) (upd H p (.lst ys))
theorem call_sortD (hr : Room k X.A) : CallR X (.builtin "sorted") (rSortD X.K) := by
  intro pins s σ H vs us Q I r h
  obtain ⟨S, ds, a, xs, rfl, hs, ex, hx, ⟨ok, al, so⟩, q⟩ := h
  obtain ⟨its, rv, hl, hz⟩ := I.list hs
  rw [Vals.ref1 r]
  have e := each_reps hx rv
  have dl := hx.length
  refine PySem.W.sorted_data hl.isList e (each_reads I ex e ok) al so (by rw [← dl]; exact hz) (fun d hd => ?_) fun out ho eo => ?_
  · rw [okDs_eq] at ok
    have := (okD_lay 60 d (List.all_eq_true.mp ok d hd)).2
    have := hr.un
    omega
  · obtain ⟨ys, h1, h2⟩ := reps_each eo
    obtain ⟨ep, he'⟩ := PyProof.Rows.sortedAll_at s.heap its (List.toArray out)
    have hlen : ys.length ≤ sizeLine := by rw [h2.length, ho, ← dl]; exact hz
    exact ⟨.ref _, upd H (s.heap.objs.size + 1) (.lst ys), I.laid (t' := s.toks) (fun _ _ => PyProof.Rows.sortedAll_old) (Nat.le_succ _) ⟨hlen, out, ep, h2, he'⟩, rfl, q _ ys (I.hok.fresh (Nat.le_succ _)) h1⟩
def sortP (own : Bool) (ob : Obs) (P : Post) (r : R) : Prop := match listRd ob r with
  | some l => SortOk l ∧ Mk own (sortD l) ob P
  | none => False
theorem sortP_call {own : Bool} (h : sortP own ob P r) : CallP X (rSortD X.K) [r] ob P := fun S A H vs Q g q en => by
  obtain ⟨v, rfl, qz⟩ := relRs1 q; clear q; have q := qz; clear qz
  unfold sortP at h
  split at h
  · rename_i l e1
    obtain ⟨p, xs, rfl, h2, h3⟩ := listRd_rel e1 g q
    exact ⟨S, l, p, xs, rfl, h2, g.ex, h3, h.1, fun z ys hz hy => h.2.fin en g hy hz⟩
  · exact h.elim
theorem we_sorted (own : Bool) (ct : Ct X k) (hm : X.mg "sorted" = none) (h : We X a ob sl fun r ob1 => sortP own ob1 P r) (hg : Gl X "sorted" := by rfl) (hs : starEach [a] X.env = (false, eval a X.env) :: starEach [] X.env := by rfl) : We X (.Call (.Name "sorted" p1) [a] [] pos) ob sl P :=
  we_cb (call_sortD ct.room) hm (wa_cons (h.mono fun r ob1 h1 => wa_nil (sortP_call h1)) hs) (by decide +kernel) hg (by decide) (by decide) hs rfl

/-! ### list(..) -/
def listP (own : Bool) (ob : Obs) (P : Post) (r : R) : Prop := match r with
  | .d (.tup l) => Mk own l ob P
  | r => match listRd ob r with
    | some l => Mk own l ob P
    | none => False
theorem listP_call {own : Bool} (h : listP own ob P r) : CallP X (fun xs H Q => ∃ p ys, xs = [.ref p] ∧ (SqL X.K H p ys ∨ SqT X.K H p ys) ∧ ∀ l, H l = none → Q (.ref l) (upd H l (.lst ys))) [r] ob P := fun S A H vs Q g q en => by
  obtain ⟨v, rfl, qz⟩ := relRs1 q; clear q; have q := qz; clear qz
  unfold listP at h
  split at h
  · obtain ⟨p, xs, rfl, h2, h3⟩ := rep_tup.mp q
    exact ⟨_, _, rfl, .inr (SqT.of (g.ex.at h2 rfl)), fun z hz => h.fin en g h3 hz⟩
  · split at h
    · rename_i l e1
      obtain ⟨p, xs, rfl, h2, h3⟩ := listRd_rel e1 g q
      exact ⟨_, _, rfl, .inl h2, fun z hz => h.fin en g h3 hz⟩
    · exact h.elim
theorem we_list (own : Bool) (hm : X.mg "list" = none) (h : We X a ob sl fun r ob1 => listP own ob1 P r) (hg : Gl X "list" := by rfl) (hs : starEach [a] X.env = (false, eval a X.env) :: starEach [] X.env := by rfl) : We X (.Call (.Name "list" p1) [a] [] pos) ob sl P :=
  we_ct call_list_of hm (wa_cons (h.mono fun r ob1 h1 => wa_nil (listP_call h1)) hs) (by decide +kernel) hg (by decide) (by decide) hs rfl
/-- a, a + 1, .. below b -/
def irange (a b : Int) : List Int := (List.range (b - a).toNat).map fun i => a + (i : Nat)
theorem irange_length (a b : Int) : (irange a b).length = (b - a).toNat := by unfold irange; rw [List.length_map, List.length_range]
theorem irange_rg (a b : Int) : rgV a b = (irange a b).map .int := by unfold irange rgV; rw [List.map_map]; rfl
theorem mem_irange {a b x : Int} : x ∈ irange a b ↔ a ≤ x ∧ x < b := by
  unfold irange
  rw [List.mem_map]
  constructor
  · rintro ⟨i, hi, rfl⟩
    rw [List.mem_range] at hi
    omega
  · rintro ⟨h1, h2⟩
    exact ⟨(x - a).toNat, by rw [List.mem_range]; omega, by omega⟩
theorem we_listRg1 (own : Bool) (ct : Ct X k) (hm : X.mg "list" = none) (hm2 : X.mg "range" = none) (h : We X a ob sl fun r ob1 => ∃ n, r = .d (.int n) ∧ n ≤ 16777216 ∧ -(2 ^ 62) ≤ n ∧ Mk own ((irange 0 n).map .int) ob1 P) (hg : Gl X "list" := by rfl) (hg2 : Gl X "range" := by rfl)
    (hs : starEach [a] X.env = (false, eval a X.env) :: starEach [] X.env := by rfl) (hs2 : starEach [Expr.Call (.Name "range" p2) [a] [] apos] X.env = (false, eval (.Call (.Name "range" p2) [a] [] apos) X.env) :: starEach [] X.env := by rfl) :
    We X (.Call (.Name "list" p1) [.Call (.Name "range" p2) [a] [] apos] [] pos) ob sl P := fun S A H σ Q g rs en => by
  refine wpE.of (pe_listRg ct.calm hg hm (prg_1 hg2 hm2 pe_wp hs) hs2) (h S A H σ _ g rs fun r1 ob1 x S1 A1 H1 h1 g1 q1 st1 => ?_)
  obtain ⟨n, rfl, n1, n2, hk⟩ := h1
  refine ⟨n, q1.int, ⟨by omega, by omega, by omega, by omega, by omega⟩, fun q hq => ?_⟩
  exact hk.fin (en.step st1) g1 (reps_ints.mpr (irange_rg 0 n)) hq
theorem we_listRg2 (own : Bool) (ct : Ct X k) (hm : X.mg "list" = none) (hm2 : X.mg "range" = none) (h : We X a ob sl fun r ob1 => We X b ob1 sl fun r2 ob2 => ∃ i n, r = .d (.int i) ∧ r2 = .d (.int n) ∧ RgOk i n ∧ Mk own ((irange i n).map .int) ob2 P) (hg : Gl X "list" := by rfl) (hg2 : Gl X "range" := by rfl)
    (hs : starEach [a, b] X.env = (false, eval a X.env) :: starEach [b] X.env := by rfl) (hs' : starEach [b] X.env = (false, eval b X.env) :: starEach [] X.env := by rfl) (hpp : (backTo apos (starEach [b] X.env)).any (·.1) = false := by rfl) (hs2 : starEach [Expr.Call (.Name "range" p2) [a, b] [] apos] X.env = (false, eval (.Call (.Name "range" p2) [a, b] [] apos) X.env) :: starEach [] X.env := by rfl) :
    We X (.Call (.Name "list" p1) [.Call (.Name "range" p2) [a, b] [] apos] [] pos) ob sl P := fun S A H σ Q g rs en => by
  refine wpE.of (pe_listRg ct.calm hg hm (prg_2 hg2 hm2 pe_wp pe_wp hs hs' hpp) hs2) (h S A H σ _ g rs fun r1 ob1 x S1 A1 H1 h1 g1 q1 st1 => h1 S1 A1 H1 σ _ g1 (rs.step st1) fun r2 ob2 y S2 A2 H2 h2 g2 q2 st2 => ?_)
  obtain ⟨i, n, rfl, rfl, ok, hk⟩ := h2
  refine ⟨i, n, (q1.step st2).int, q2.int, ok, fun q hq => ?_⟩
  exact hk.fin (en.step (st1.trans st2)) g2 (reps_ints.mpr (irange_rg i n)) hq

/-! ### isinstance of a built-in class -/
inductive Ty where
  | int | bool | list | tuple | str | dict
def Ty.nam : Ty → String
  | .int => "int" | .bool => "bool" | .list => "list" | .tuple => "tuple" | .str => "str" | .dict => "dict"
def tyOk : Dt → Bool
  | .dtt _ | .ins _ _ | .adr _ => false
  | _ => true
def tyD : Dt → String
  | .non => "NoneType" | .bl _ => "bool" | .int _ => "int" | .str _ => "str" | .lst _ => "list" | .tup _ => "tuple" | .dct _ => "dict" | _ => ""
def isi : Ty → Dt → Bool
  | .int, .int _ => true
  | .int, .bl _ => true
  | .bool, .bl _ => true
  | .list, .lst _ => true
  | .tuple, .tup _ => true
  | .str, .str _ => true
  | .dict, .dct _ => true
  | _, _ => false
theorem kit_isi (T : Ty) (x : Dt) (h : tyOk x = true) : kitB (tyD x) T.nam = some (isi T x) := by
  cases T <;> cases x <;> first | (show kitB _ _ = some _; simp only [tyD, Ty.nam, isi]; decide +kernel) | cases h
theorem tyD_x (g : Good K S A H ob) (e : dtOf ob r = some x) (q : RelR S A r v) (ne : tyOk x = true) : TyX K H v (.type (tyD x)) := by
  have key : ∀ v, Rep S x v → TyX K H v (.type (tyD x)) := fun v q => by
    cases x with
    | non => rw [rep_non.mp q]; exact .base .non
    | bl b => rw [rep_bl.mp q]; exact .base (.bl b)
    | int i => rw [rep_int.mp q]; exact .base (.int i)
    | str s => rw [rep_str.mp q]; exact .base (.str s)
    | lst l => obtain ⟨p, xs, rfl, h2, _⟩ := rep_lst.mp q; exact .base (.lst (g.ex.at h2 rfl))
    | tup l => obtain ⟨p, xs, rfl, h2, _⟩ := rep_tup.mp q; exact .base (.tup (g.ex.at h2 rfl))
    | dct l =>
      obtain ⟨p, xs, rfl, h2, _⟩ := rep_dct.mp q
      rcases g.ex _ _ h2 with z | ⟨_, o, z⟩
      · exact .base (.dK z)
      · exact .fDict z
    | dtt l => cases ne
    | ins C fs => cases ne
    | adr p => cases ne
  cases r with
  | d z =>
    have ez : z = x := Option.some.inj e
    subst ez
    exact key v q
  | p j =>
    obtain ⟨p, hp, rfl⟩ := q
    unfold dtOf at e
    cases ec : ob[j]? with
    | none => simp only [ec] at e; cases e
    | some c =>
      simp only [ec] at e
      have o := g.own j p c hp ec
      cases c with
      | lst l =>
        cases e
        obtain ⟨_, xs, h2, h3⟩ := o
        exact .base (.lst h2)
      | rd l =>
        cases e
        obtain ⟨_, xs, h2, h3⟩ := o
        rcases h2 with (h2 | ⟨u, h2⟩) | ⟨u, _, _, h2, h4, _⟩
        · exact .base (.lst h2)
        · exact .base (.frz h2)
        · exact .kList h2 h4
      | frz z =>
        cases e
        exact key _ o
      | _ => cases e
def isiP (T : Ty) (ob : Obs) (P : Post) (r : R) : Prop := match dtOf ob r with
  | some x => tyOk x = true ∧ P (.d (.bl (isi T x))) ob
  | none => False
/-- isinstance(e, T), T a built-in class's name -/
theorem we_isi (T : Ty) {nT : Str} (hm : X.mg "isinstance" = none) (hmT : X.mg nT = none) (h : We X a ob sl fun r ob1 => isiP T ob1 P r) (hvT : bootBuiltins nT = some (.type T.nam) := by decide +kernel) (hg : Gl X "isinstance" := by rfl) (hgT : Gl X nT := by rfl)
    (hs : starEach [a, .Name nT p2] X.env = (false, eval a X.env) :: starEach [.Name nT p2] X.env := by rfl) (hs2 : starEach [Expr.Name nT p2] X.env = (false, eval (.Name nT p2) X.env) :: starEach [] X.env := by rfl)
    (hp : (backTo pos (starEach [Expr.Name nT p2] X.env)).any (·.1) = false := by rfl) (hn : nT ≠ "__name__" := by decide) (hd : (nT == ("__debug__" : Str)) = false := by decide) : We X (.Call (.Name "isinstance" p1) [a, .Name nT p2] [] pos) ob sl P := fun S A H σ Q g rs en => by
  refine wpE.of (pe_callB call_isi hg hm (by decide +kernel) (pa_cons pe_wp (pa_cons (pe_bltn (v := .ty T.nam) hgT hmT hvT rfl hn hd) pa_nil hs2) hs) (by decide) (by decide) hs hp) (h S A H σ _ g rs fun r1 ob1 x S1 A1 H1 h1 g1 q1 st1 => ?_)
  have h1 : isiP T ob1 P r1 := h1
  unfold isiP at h1
  cases e : dtOf ob1 r1 with
  | none => rw [e] at h1; exact h1.elim
  | some d =>
    simp only [e] at h1
    exact ⟨x, .ty T.nam, _, _, _, rfl, .ty T.nam, tyD_x g1 e q1 h1.1, kit_ty (kit_isi T d h1.1), en _ _ _ _ _ _ h1.2 g1 rr_bl st1⟩

/-! ### ints -/
theorem we_int1 (hm : X.mg "int" = none) (h : We X a ob sl fun r ob1 => ∃ i, r = .d (.int i) ∧ P r ob1) (hg : Gl X "int" := by rfl) (hs : starEach [a] X.env = (false, eval a X.env) :: starEach [] X.env := by rfl) : We X (.Call (.Name "int" p1) [a] [] pos) ob sl P :=
  we_ct call_int1 hm (wa_cons (h.mono fun r ob1 h1 => wa_nil fun S A H vs Q g q en => by
    obtain ⟨v, rfl, qz⟩ := relRs1 q; clear q; have q := qz; clear qz
    obtain ⟨i, rfl, h1⟩ := h1
    exact .inl ⟨i, by rw [q.int], en.here h1 g rr_int⟩) hs) (by decide +kernel) hg (by decide) (by decide) hs rfl
theorem we_max2 (ct : Ct X k) (hm : X.mg "max" = none) (h : We X a ob sl fun r ob1 => We X b ob1 sl fun r2 ob2 => ∃ i j, r = .d (.int i) ∧ r2 = .d (.int j) ∧ P (.d (.int (max i j))) ob2) (hg : Gl X "max" := by rfl)
    (hs : starEach [a, b] X.env = (false, eval a X.env) :: starEach [b] X.env := by rfl) (hs2 : starEach [b] X.env = (false, eval b X.env) :: starEach [] X.env := by rfl) (hp : (backTo pos (starEach [b] X.env)).any (·.1) = false := by rfl) : We X (.Call (.Name "max" p1) [a, b] [] pos) ob sl P :=
  we_cb (call_max2 ct.calm) hm (wa_cons (h.mono fun r ob1 h1 => wa_cons (h1.mono fun r2 ob2 h2 => wa_nil fun S A H vs Q g q en => by
    obtain ⟨v, w, rfl, q1, q2⟩ := relRs2 q
    obtain ⟨i, j, rfl, rfl, h2⟩ := h2
    refine ⟨i, j, by rw [q1.int, q2.int], ?_⟩
    have e : (if j > i then j else i) = max i j := by split <;> omega
    rw [e]
    exact en.here h2 g rr_int) hs2) hs) (by decide +kernel) hg (by decide) (by decide) hs hp
theorem we_min2 (ct : Ct X k) (hm : X.mg "min" = none) (h : We X a ob sl fun r ob1 => We X b ob1 sl fun r2 ob2 => ∃ i j, r = .d (.int i) ∧ r2 = .d (.int j) ∧ P (.d (.int (min i j))) ob2) (hg : Gl X "min" := by rfl)
    (hs : starEach [a, b] X.env = (false, eval a X.env) :: starEach [b] X.env := by rfl) (hs2 : starEach [b] X.env = (false, eval b X.env) :: starEach [] X.env := by rfl) (hp : (backTo pos (starEach [b] X.env)).any (·.1) = false := by rfl) : We X (.Call (.Name "min" p1) [a, b] [] pos) ob sl P :=
  we_cb (call_min2 ct.calm) hm (wa_cons (h.mono fun r ob1 h1 => wa_cons (h1.mono fun r2 ob2 h2 => wa_nil fun S A H vs Q g q en => by
    obtain ⟨v, w, rfl, q1, q2⟩ := relRs2 q
    obtain ⟨i, j, rfl, rfl, h2⟩ := h2
    refine ⟨i, j, by rw [q1.int, q2.int], ?_⟩
    have e : (if j < i then j else i) = min i j := by split <;> omega
    rw [e]
    exact en.here h2 g rr_int) hs2) hs) (by decide +kernel) hg (by decide) (by decide) hs hp
theorem sqL_ints {ns : List Int} {p : Addr} {xs : List V} (h : SqL K H p xs) (q : Reps S (ns.map .int) xs) : SqL K H p (ns.map V.int) := by
  rw [reps_ints.mp q] at h
  exact h
theorem we_sum (ct : Ct X k) (hm : X.mg "sum" = none) (h : We X a ob sl fun r ob1 => ∃ ns : List Int, listRd ob1 r = some (ns.map .int) ∧ P (.d (.int ns.sum)) ob1) (hg : Gl X "sum" := by rfl) (hs : starEach [a] X.env = (false, eval a X.env) :: starEach [] X.env := by rfl) : We X (.Call (.Name "sum" p1) [a] [] pos) ob sl P :=
  we_cb (cr_sum ct.calm) hm (wa_cons (h.mono fun r ob1 h1 => wa_nil fun S A H vs Q g q en => by
    obtain ⟨v, rfl, qz⟩ := relRs1 q; clear q; have q := qz; clear qz
    obtain ⟨ns, e1, h1⟩ := h1
    obtain ⟨p, xs, rfl, h2, h3⟩ := listRd_rel e1 g q
    exact ⟨p, ns, rfl, sqL_ints h2 h3, en.here h1 g rr_int⟩) hs) (by decide +kernel) hg (by decide) (by decide) hs rfl
theorem we_maxL (ct : Ct X k) (hm : X.mg "max" = none) (h : We X a ob sl fun r ob1 => ∃ ns : List Int, listRd ob1 r = some (ns.map .int) ∧ 0 < ns.length ∧ ∀ m, m ∈ ns → (∀ y, y ∈ ns → y ≤ m) → P (.d (.int m)) ob1) (hg : Gl X "max" := by rfl) (hs : starEach [a] X.env = (false, eval a X.env) :: starEach [] X.env := by rfl) : We X (.Call (.Name "max" p1) [a] [] pos) ob sl P :=
  we_cb (cr_max ct.calm) hm (wa_cons (h.mono fun r ob1 h1 => wa_nil fun S A H vs Q g q en => by
    obtain ⟨v, rfl, qz⟩ := relRs1 q; clear q; have q := qz; clear qz
    obtain ⟨ns, e1, hl, h1⟩ := h1
    obtain ⟨p, xs, rfl, h2, h3⟩ := listRd_rel e1 g q
    exact ⟨p, ns, rfl, sqL_ints h2 h3, hl, fun m m1 m2 => en.here (h1 m m1 m2) g rr_int⟩) hs) (by decide +kernel) hg (by decide) (by decide) hs rfl
theorem we_all (ct : Ct X k) (hm : X.mg "all" = none) (h : We X a ob sl fun r ob1 => ∃ ns : List Bool, listRd ob1 r = some (ns.map .bl) ∧ P (.d (.bl (ns.all id))) ob1) (hg : Gl X "all" := by rfl) (hs : starEach [a] X.env = (false, eval a X.env) :: starEach [] X.env := by rfl) : We X (.Call (.Name "all" p1) [a] [] pos) ob sl P :=
  we_cb (cr_all ct.calm) hm (wa_cons (h.mono fun r ob1 h1 => wa_nil fun S A H vs Q g q en => by
    obtain ⟨v, rfl, qz⟩ := relRs1 q; clear q; have q := qz; clear qz
    obtain ⟨ns, e1, h1⟩ := h1
    obtain ⟨p, xs, rfl, h2, h3⟩ := listRd_rel e1 g q
    rw [reps_bls.mp h3] at h2
    exact ⟨p, ns, rfl, h2, en.here h1 g rr_bl⟩) hs) (by decide +kernel) hg (by decide) (by decide) hs rfl
end
end DL

/-! DL: what is walked, comprehensions, statements. -/
namespace DL
open PySem L2

/-! ### what is walked -/
/-- from wherever S is known, the iterator yields ds, one by one -/
def Yields (S : Hp) (J : It) (ds : List Dt) : Prop := ∀ (S1 H1 : Hp), Le S S1 → Ex S1 H1 → ∀ i,
  (i < ds.length → J.go i H1 ∧ ∀ x H2, J.yld i H1 x H2 → ∃ d S2, ds[i]? = some d ∧ Ex S2 H2 ∧ Le S1 S2 ∧ Rep S2 d x ∧ (∀ a o, H1 a = some o → H2 a = some o) ∧ (∀ a, S2 a ≠ none → S1 a ≠ none ∨ H1 a = none)) ∧
  (i = ds.length → J.stop i H1)
def Wi (X : Cx) (tg e : Expr) (ob : Obs) (sl : Sls) (P : List Dt → Obs → Prop) : Prop := ∀ S A H σ R, Good X.K S A H ob → RelS S A sl σ →
  (∀ ds ob' J S' A' H', P ds ob' → Good X.K S' A' H' ob' → Step S A H S' A' H' → Yields S' J ds → R J H') → wpI X tg e σ H R
section
variable {X : Cx} {e a b c tg : Expr} {es : List Expr} {pos p1 p2 apos : Pos} {ob : Obs} {sl : Sls} {P : Post} {PI : List Dt → Obs → Prop} {K : PySem.W.Frag} {S S' H H' : Hp} {A A' : List Addr} {Q : VK} {r : R} {v : V} {x y : Dt} {l m : List Dt} {k : Nat} {nm : Str}
theorem Good.ext {S2 H2 : Hp} (g : Good K S A H ob) (ex : Ex S2 H2) (le : Le S S2) (kp : ∀ a o, H a = some o → H2 a = some o) (nw : ∀ a, S2 a ≠ none → S a ≠ none ∨ H a = none) : Good K S2 A H2 ob where
  ex := ex
  nd := g.nd
  len := g.len
  own := fun k a c h1 h2 => (g.own k a c h1 h2).mono le (List.prefix_refl A) (fun z => by
    cases q : S2 a with
    | none => rfl
    | some o =>
      rcases nw a (by rw [q]; exact fun w => by cases w) with w | w
      · exact (w z).elim
      · exact (g.here a (List.mem_of_getElem? h1) w).elim) (fun _ o q => kp a o q)
  here := fun a ha => by
    cases q : H a with
    | none => exact (g.here a ha q).elim
    | some o => rw [kp a o q]; exact fun w => by cases w
theorem Step.ext {S2 H2 : Hp} (le : Le S S2) (kp : ∀ a o, H a = some o → H2 a = some o) (nw : ∀ a, S2 a ≠ none → S a ≠ none ∨ H a = none) : Step S A H S2 A H2 where
  le := le
  pre := List.prefix_refl A
  keep := fun a o h _ => kp a o h
  new := fun a h => by
    rcases h with h | h
    · rcases nw a h with z | z
      · exact .inl z
      · exact .inr (.inr z)
    · exact .inr (.inl h)
theorem yields_list {p : Addr} {xs : List V} (h : S p = some (.lst xs)) (q : Reps S l xs) : Yields S (Itl K p) l := fun S1 H1 le ex i => by
  have hp : SqL K H1 p xs := SqL.of (ex.at (le _ _ h) rfl)
  refine ⟨fun hi => ⟨⟨xs, xs[i]'(by rw [q.length]; exact hi), hp, by simp [q.length, hi]⟩, fun x H2 hy => ?_⟩, fun hi => ⟨xs, hp, by rw [q.length]; omega⟩⟩
  obtain ⟨rfl, hy⟩ := hy
  obtain ⟨d, e1, e2⟩ := q.get (hy xs hp)
  exact ⟨d, S1, e1, ex, Le.refl _, Rep.mono le e2, fun _ _ z => z, fun _ z => .inl z⟩
theorem yields_tup {p : Addr} {xs : List V} (h : S p = some (.tup xs)) (q : Reps S l xs) : Yields S (Itt K p) l := fun S1 H1 le ex i => by
  have hp : SqT K H1 p xs := SqT.of (ex.at (le _ _ h) rfl)
  refine ⟨fun hi => ⟨⟨xs, xs[i]'(by rw [q.length]; exact hi), hp, by simp [q.length, hi]⟩, fun x H2 hy => ?_⟩, fun hi => ⟨xs, hp, by rw [q.length]; omega⟩⟩
  obtain ⟨rfl, hy⟩ := hy
  obtain ⟨d, e1, e2⟩ := q.get (hy xs hp)
  exact ⟨d, S1, e1, ex, Le.refl _, Rep.mono le e2, fun _ _ z => z, fun _ z => .inl z⟩
theorem yields_range {lo hi : Int} : Yields S (Itr lo (hi - lo).toNat) ((irange lo hi).map .int) := fun S1 H1 le ex i => by
  have hl : ((irange lo hi).map Dt.int).length = (hi - lo).toNat := by rw [List.length_map, irange_length]
  rw [hl]
  refine ⟨fun h => ⟨h, fun x H2 hy => ?_⟩, fun h => by show (hi - lo).toNat ≤ i; omega⟩
  obtain ⟨e, y⟩ := hy
  subst e y
  refine ⟨.int (lo + i), S1, ?_, ex, Le.refl _, rep_int.mpr rfl, fun _ _ z => z, fun _ z => .inl z⟩
  unfold irange
  rw [List.map_map, List.getElem?_map, List.getElem?_range h]
  rfl
/-- every list and tuple fits -/
def Sz (H : Hp) : Prop := (∀ a xs, H a = some (.lst xs) → xs.length ≤ sizeLine) ∧ ∀ a xs, H a = some (.tup xs) → xs.length ≤ sizeLine
theorem wpE.sz {σ : L2.St} (h : wpE X e σ H fun v H1 => Sz H1 → Q v H1) : wpE X e σ H Q := ⟨fun pins s I => thn (h.run pins s I) fun u s1 ⟨v, H1, I1, r1, q1⟩ =>
  ⟨v, H1, I1, r1, q1 ⟨fun a xs h => (I1.hok a _ h).1, fun a xs h => (I1.hok a _ h).1⟩⟩⟩
/-- over a list or tuple that is data -/
theorem wi_lst (h : We X e ob sl fun r ob1 => ∃ l, r = .d (.lst l) ∧ (l.length ≤ sizeLine → PI l ob1)) : Wi X tg e ob sl PI := fun S A H σ R g rs en => by
  refine wpI.of (pi_list pe_wp) (wpE.sz (h S A H σ _ g rs fun r ob1 v S1 A1 H1 h1 g1 q1 st1 sz => ?_))
  obtain ⟨l, rfl, h1⟩ := h1
  obtain ⟨p, xs, rfl, h2, h3⟩ := rep_lst.mp q1
  exact ⟨p, rfl, ⟨xs, SqL.of (g1.ex.at h2 rfl)⟩, en l ob1 _ _ _ _ (h1 (by rw [← h3.length]; exact sz.1 p xs (g1.ex.at h2 rfl))) g1 st1 (yields_list h2 h3)⟩
theorem wi_tup (h : We X e ob sl fun r ob1 => ∃ l, r = .d (.tup l) ∧ (l.length ≤ sizeLine → PI l ob1)) : Wi X tg e ob sl PI := fun S A H σ R g rs en => by
  refine wpI.of (pi_tup pe_wp) (wpE.sz (h S A H σ _ g rs fun r ob1 v S1 A1 H1 h1 g1 q1 st1 sz => ?_))
  obtain ⟨l, rfl, h1⟩ := h1
  obtain ⟨p, xs, rfl, h2, h3⟩ := rep_tup.mp q1
  exact ⟨p, rfl, ⟨xs, SqT.of (g1.ex.at h2 rfl)⟩, en l ob1 _ _ _ _ (h1 (by rw [← h3.length]; exact sz.2 p xs (g1.ex.at h2 rfl))) g1 st1 (yields_tup h2 h3)⟩
/-- the length of a list that has come fits -/
theorem we_fit (h : We X e ob sl fun r ob1 => (∀ l, listOf ob1 r = some l → l.length ≤ sizeLine) → P r ob1) : We X e ob sl P := fun S A H σ Q g rs en =>
  wpE.sz (h S A H σ _ g rs fun r ob1 v S1 A1 H1 h1 g1 q1 st1 sz => en _ _ _ _ _ _ (h1 fun l e => by
    obtain ⟨p, xs, _, h2, h3⟩ := listOf_rel e g1 q1
    rw [← h3.length]
    exact sz.1 p xs h2) g1 q1 st1)
theorem wi_range1 (hm : X.mg "range" = none) (h : We X a ob sl fun r ob1 => ∃ n, r = .d (.int n) ∧ (-(2 ^ 62) ≤ n ∧ n < 2 ^ 62) ∧ PI ((irange 0 n).map .int) ob1) (hg : Gl X "range" := by rfl) (hs : starEach [a] X.env = [(false, eval a X.env)] := by rfl) : Wi X tg (.Call (.Name "range" p1) [a] [] pos) ob sl PI := fun S A H σ R g rs en => by
  refine wpI.of (pi_range1 hg hm (pa_cons pe_wp pa_nil hs) hs) (h S A H σ _ g rs fun r ob1 v S1 A1 H1 h1 g1 q1 st1 => ?_)
  obtain ⟨n, rfl, hn, h1⟩ := h1
  rw [q1.int]
  have e : n.toNat = (n - 0).toNat := by omega
  refine ⟨n, rfl, hn.1, hn.2, ?_⟩
  rw [e]
  exact en _ ob1 _ _ _ _ h1 g1 st1 yields_range
theorem wi_range2 (hm : X.mg "range" = none) (h : We X a ob sl fun r ob1 => We X b ob1 sl fun r2 ob2 => ∃ i n, r = .d (.int i) ∧ r2 = .d (.int n) ∧ (-(2 ^ 62) ≤ i ∧ i < 2 ^ 62 ∧ -(2 ^ 62) ≤ n ∧ n < 2 ^ 62) ∧ PI ((irange i n).map .int) ob2) (hg : Gl X "range" := by rfl)
    (hs : starEach [a, b] X.env = [(false, eval a X.env), (false, eval b X.env)] := by rfl) (hs2 : starEach [b] X.env = [(false, eval b X.env)] := by rfl) : Wi X tg (.Call (.Name "range" p1) [a, b] [] pos) ob sl PI := fun S A H σ R g rs en => by
  refine wpI.of (pi_range2 hg hm (pa_cons pe_wp (pa_cons pe_wp pa_nil hs2) (by rw [hs, hs2])) hs hs2) (h S A H σ _ g rs fun r ob1 v S1 A1 H1 h1 g1 q1 st1 => h1 S1 A1 H1 σ _ g1 (rs.step st1) fun r2 ob2 w S2 A2 H2 h2 g2 q2 st2 => ?_)
  obtain ⟨i, n, rfl, rfl, hn, h2⟩ := h2
  rw [q1.int, q2.int]
  exact ⟨i, n, rfl, hn, en _ ob2 _ _ _ _ h2 g2 (st1.trans st2) yields_range⟩
end

/-! ### targets -/
inductive Tg where
  | one (j : Nat) | many (ts : List Tg)
mutual
def tgR (K : PySem.W.Frag) : Tg → TG
  | .one j => gName j
  | .many ts => gTup K (ts.length) (tgsR K ts)
def tgsR (K : PySem.W.Frag) : List Tg → TGs
  | [] => gNil
  | t :: ts => gCons (tgR K t) (tgsR K ts)
end
mutual
def bindT : Tg → Dt → Sls → Option Sls
  | .one j, d, sl => if j < sl.length then some (sl.set j (some (.d d))) else none
  | .many ts, .tup ds, sl => if ds.length = ts.length then bindTs ts ds sl else none
  | .many _, _, _ => none
def bindTs : List Tg → List Dt → Sls → Option Sls
  | [], [], sl => some sl
  | t :: ts, d :: ds, sl => match bindT t d sl with
    | some sl' => bindTs ts ds sl'
    | none => none
  | _, _, _ => none
end
mutual
def Tg.own (vs : List Nat) : Tg → Bool
  | .one j => vs.contains j
  | .many ts => Tg.owns vs ts
def Tg.owns (vs : List Nat) : List Tg → Bool
  | [] => true
  | t :: ts => t.own vs && Tg.owns vs ts
end
def wipeSl (sl : Sls) : List Nat → Sls
  | [] => sl
  | v :: vs => (wipeSl sl vs).set v none
theorem RelS.set {S A sl σ} {j : Nat} {r : R} {v : V} (h : RelS S A sl σ) (q : RelR S A r v) : RelS S A (sl.set j (some r)) (σ.set j (some v)) where
  get := fun i r' e => by
    by_cases hi : j = i
    · subst hi
      by_cases hl : j < sl.length
      · rw [List.getElem?_set_self hl] at e
        cases e
        exact ⟨v, by rw [List.getElem?_set_self (by rw [← h.len]; exact hl)], q⟩
      · rw [List.getElem?_eq_none (by rw [List.length_set]; omega)] at e
        cases e
    · rw [List.getElem?_set_ne hi] at e ⊢
      exact h.get i r' e
  len := by rw [List.length_set, List.length_set, h.len]
theorem RelS.mono' {S S' A sl σ} (e : Le S S') (h : RelS S A sl σ) : RelS S' A sl σ := ⟨fun i r q => let ⟨v, h1, h2⟩ := h.get i r q; ⟨v, h1, h2.mono e (List.prefix_refl A)⟩, h.len⟩
theorem RelS.wipe {S A sl σ} (h : RelS S A sl σ) : ∀ vs, RelS S A (wipeSl sl vs) (L2.wipe σ vs)
  | [] => h
  | v :: vs => by
    have ih := RelS.wipe h vs
    refine ⟨fun i r e => ?_, by unfold wipeSl L2.wipe; rw [List.length_set, List.length_set, ih.len]⟩
    unfold wipeSl at e
    unfold L2.wipe
    by_cases hi : v = i
    · subst hi
      by_cases hl : v < (wipeSl sl vs).length
      · rw [List.getElem?_set_self hl] at e
        cases e
      · rw [List.getElem?_eq_none (by rw [List.length_set]; omega)] at e
        cases e
    · rw [List.getElem?_set_ne hi] at e ⊢
      exact ih.get i r e
theorem wipe_ext {σ τ : L2.St} : ∀ {vs : List Nat}, (∀ i, i ∉ vs → σ[i]? = τ[i]?) → σ.length = τ.length → L2.wipe σ vs = L2.wipe τ vs
  | vs, h, hl => by
    have key : ∀ (ρ : L2.St) (ws : List Nat) (i : Nat), (L2.wipe ρ ws)[i]? = if i ∈ ws ∧ i < ρ.length then some none else ρ[i]? := fun ρ ws => by
      induction ws with
      | nil => intro i; simp [L2.wipe]
      | cons w ws ih =>
        intro i
        unfold L2.wipe
        by_cases hw : w = i
        · subst hw
          by_cases hl : w < ρ.length
          · rw [List.getElem?_set_self (by rw [wipe_length]; exact hl)]
            simp [hl]
          · rw [List.getElem?_eq_none (by rw [List.length_set, wipe_length]; omega)]
            simp [hl]
        · rw [List.getElem?_set_ne hw, ih i]
          have : (i ∈ w :: ws) ↔ i ∈ ws := by simp [Ne.symm hw]
          simp only [this]
    refine List.ext_getElem? fun i => ?_
    rw [key, key, hl]
    by_cases hi : i ∈ vs
    · by_cases h2 : i < τ.length
      · simp [hi, h2]
      · have e1 : σ[i]? = none := List.getElem?_eq_none (by omega)
        have e2 : τ[i]? = none := List.getElem?_eq_none (by omega)
        simp [h2, e1, e2]
    · simp [hi, h i hi]
theorem wipe_idem {σ : L2.St} {vs : List Nat} : L2.wipe (L2.wipe σ vs) vs = L2.wipe σ vs := wipe_ext (fun i hi => by
  have : ∀ ws : List Nat, i ∉ ws → (L2.wipe σ ws)[i]? = σ[i]? := fun ws => by
    induction ws with
    | nil => intro _; rfl
    | cons w ws ih =>
      intro h
      unfold L2.wipe
      rw [List.getElem?_set_ne (by intro e; subst e; exact h List.mem_cons_self)]
      exact ih fun z => h (List.mem_cons_of_mem _ z)
  exact this vs hi) (wipe_length σ vs)
section
variable {K : PySem.W.Frag} {S H : Hp} {A : List Addr}
mutual
/-- a target takes a value -/
theorem bindT_ok {vs : List Nat} (ex : Ex S H) : ∀ (t : Tg) (d : Dt) (sl sl' : Sls) (σ : L2.St) (v : V) (Q : L2.St → Hp → Prop), bindT t d sl = some sl' → RelS S A sl σ → Rep S d v → (t.own vs = true ∨ True) →
    (∀ σ', RelS S A sl' σ' → (t.own vs = true → L2.wipe σ' vs = L2.wipe σ vs) → Q σ' H) → tgR K t v σ H Q
  | .one j, d, sl, sl', σ, v, Q, h, rs, q, _, k => by
    simp only [bindT] at h
    split at h
    · cases h
      refine k _ (rs.set q) fun ho => wipe_ext (fun i hi => ?_) (List.length_set ..)
      simp only [Tg.own] at ho
      rw [List.getElem?_set_ne]
      intro e
      subst e
      exact hi (List.contains_iff_mem.mp ho)
    · cases h
  | .many ts, .tup ds, sl, sl', σ, v, Q, h, rs, q, _, k => by
    simp only [bindT] at h
    split at h
    · rename_i hl
      obtain ⟨p, xs, rfl, h2, h3⟩ := rep_tup.mp q
      refine ⟨p, xs, rfl, SqT.of (ex.at h2 rfl), by rw [h3.length]; exact hl, ?_⟩
      exact bindTs_ok ex ts ds sl sl' σ xs Q h rs h3 fun σ' r1 r2 => k σ' r1 fun ho => r2 (by simpa only [Tg.own] using ho)
    · cases h
  | .many _, .non, _, _, _, _, _, h, _, _, _, _ => by simp [bindT] at h
  | .many _, .bl _, _, _, _, _, _, h, _, _, _, _ => by simp [bindT] at h
  | .many _, .int _, _, _, _, _, _, h, _, _, _, _ => by simp [bindT] at h
  | .many _, .str _, _, _, _, _, _, h, _, _, _, _ => by simp [bindT] at h
  | .many _, .lst _, _, _, _, _, _, h, _, _, _, _ => by simp [bindT] at h
  | .many _, .dct _, _, _, _, _, _, h, _, _, _, _ => by simp [bindT] at h
  | .many _, .dtt _, _, _, _, _, _, h, _, _, _, _ => by simp [bindT] at h
  | .many _, .ins _ _, _, _, _, _, _, h, _, _, _, _ => by simp [bindT] at h
  | .many _, .adr _, _, _, _, _, _, h, _, _, _, _ => by simp [bindT] at h
theorem bindTs_ok {vs : List Nat} (ex : Ex S H) : ∀ (ts : List Tg) (ds : List Dt) (sl sl' : Sls) (σ : L2.St) (xs : List V) (Q : L2.St → Hp → Prop), bindTs ts ds sl = some sl' → RelS S A sl σ → Reps S ds xs →
    (∀ σ', RelS S A sl' σ' → (Tg.owns vs ts = true → L2.wipe σ' vs = L2.wipe σ vs) → Q σ' H) → tgsR K ts xs σ H Q
  | [], [], sl, sl', σ, xs, Q, h, rs, q, k => by
    simp only [bindTs] at h
    cases h
    exact ⟨reps_nil.mp q, k σ rs fun _ => rfl⟩
  | t :: ts, d :: ds, sl, sl', σ, xs, Q, h, rs, q, k => by
    simp only [bindTs] at h
    obtain ⟨x, r, rfl, h2, h3⟩ := reps_cons.mp q
    cases e : bindT t d sl with
    | none => rw [e] at h; cases h
    | some sl1 =>
      rw [e] at h
      refine ⟨x, r, rfl, bindT_ok (vs := vs) ex t d sl sl1 σ x _ e rs h2 (.inr trivial) fun σ1 r1 w1 => ?_⟩
      refine bindTs_ok (vs := vs) ex ts ds sl1 sl' σ1 r Q h r1 h3 fun σ2 r2 w2 => k σ2 r2 fun ho => ?_
      simp only [Tg.owns, Bool.and_eq_true] at ho
      rw [w2 ho.2, w1 ho.1]
  | [], _ :: _, _, _, _, _, _, h, _, _, _ => by simp [bindTs] at h
  | _ :: _, [], _, _, _, _, _, h, _, _, _ => by simp [bindTs] at h
end
end

/-! ### comprehensions -/
def TtOk (K : PySem.W.Frag) (tt : TT) (ob : Obs) (sl : Sls) (P : Bool → Obs → Prop) : Prop := ∀ S A H σ Q, Good K S A H ob → RelS S A sl σ → EndT K S A H P Q → tt σ H Q
def TeOk (K : PySem.W.Frag) (te : TE) (ob : Obs) (sl : Sls) (P : Post) : Prop := ∀ S A H σ Q, Good K S A H ob → RelS S A sl σ → End K S A H P Q → te σ H Q
section
variable {X : Cx} {e a b c tg elt iter : Expr} {pos p1 p2 spos py : Pos} {ob : Obs} {sl : Sls} {P : Post} {K : PySem.W.Frag} {S S' H H' : Hp} {A A' : List Addr} {Q : VK} {k : Nat}
/-- one turn's promise, from J at i to J at i + 1 -/
def LcTurn (K : PySem.W.Frag) (t : Tg) (tt : TT) (te : TE) (vs : List Nat) (sl : Sls) (J : Nat → List Dt → Obs → Prop) (i : Nat) (d : Dt) : Prop := ∀ acc ob2, J i acc ob2 → ∃ slb, bindT t d (wipeSl sl vs) = some slb ∧
  TtOk K tt ob2 slb fun b ob3 => (b = true → TeOk K te ob3 slb (dataP fun r ob4 => ∃ x, r = .d x ∧ J (i + 1) (acc ++ [x]) ob4)) ∧ (b = false → J (i + 1) acc ob3)
theorem lc_sem {own : Bool} {t : Tg} {tt : TT} {te : TE} {vs : List Nat} (ho : t.own vs = true)
    (hi : Wi X tg iter ob sl fun ds ob1 => ds.length ≤ sizeLine ∧ ∃ J : Nat → List Dt → Obs → Prop, J 0 [] ob1 ∧ (∀ i d, ds[i]? = some d → LcTurn X.K t tt te vs sl J i d) ∧ ∀ acc ob2, J ds.length acc ob2 → Mk own acc ob2 P) :
    ∀ S A H σ Q, Good X.K S A H ob → RelS S A sl σ → End X.K S A H P Q → tLc (wpI X tg iter) (tgR X.K t) tt te vs σ H Q := fun S A H σ Q g rs en => by
  refine hi S A H σ _ g rs fun ds ob1 Jt S1 A1 H1 h1 g1 st1 ys L hL => ?_
  obtain ⟨hz, J, j0, turn, fin⟩ := h1
  refine ⟨fun i m H' => m = ds.length - i ∧ i ≤ ds.length ∧ ∃ acc ob2 S2 A2 xs H2, J i acc ob2 ∧ Good X.K S2 A2 H2 ob2 ∧ Step S1 A1 H1 S2 A2 H2 ∧ H2 L = none ∧ H' = upd H2 L (.lst xs) ∧ Reps S2 acc xs ∧ acc.length ≤ i, ⟨_, rfl, Nat.zero_le _, [], ob1, S1, A1, [], H1, j0, g1, Step.refl, hL, rfl, reps_nil.mpr rfl, Nat.le_refl _⟩, ?_⟩
  rintro i m H' ⟨rfl, hi, acc, ob2, S2, A2, xs, H2, j2, g2, st2, hL2, rfl, hx, hacc⟩
  have sL : S2 L = none := g2.ex.fresh hL2
  -- the state with the new list beside it
  have ex2 : Ex S2 (upd H2 L (.lst xs)) := fun a o q => by
    have na : a ≠ L := by
      rintro rfl
      rw [sL] at q
      cases q
    rw [upd_ne na]
    exact g2.ex a o q
  have g2' : Good X.K S2 A2 (upd H2 L (.lst xs)) ob2 := g2.ext ex2 (Le.refl _) (fun a o q => by rw [upd_ne (ne_of_none q hL2)]; exact q) fun a z => .inl z
  obtain ⟨yg, yst⟩ := ys S2 (upd H2 L (.lst xs)) st2.le ex2 i
  by_cases hlt : i < ds.length
  · obtain ⟨go, yn⟩ := yg hlt
    refine .inr ⟨go, fun H' => ∃ acc ob2 S2 A2 xs H2, J (i + 1) acc ob2 ∧ Good X.K S2 A2 H2 ob2 ∧ Step S1 A1 H1 S2 A2 H2 ∧ H2 L = none ∧ H' = upd H2 L (.lst xs) ∧ Reps S2 acc xs ∧ acc.length ≤ i + 1, fun H' q => ⟨ds.length - (i + 1), by omega, rfl, hlt, q⟩, fun x H3 hy => ?_⟩
    obtain ⟨d, S3, hd, ex3, le3, rx, kp3, nw3⟩ := yn x H3 hy
    have g3 : Good X.K S3 A2 H3 ob2 := g2'.ext ex3 le3 kp3 nw3
    have st3 : Step S2 A2 (upd H2 L (.lst xs)) S3 A2 H3 := Step.ext le3 kp3 nw3
    obtain ⟨slb, hb, ht⟩ := turn i d hd acc ob2 j2
    have rs3 : RelS S3 A2 (wipeSl sl vs) (L2.wipe σ vs) := (((rs.step st1).step st2).wipe vs).mono' le3
    refine bindT_ok (vs := vs) g3.ex t d _ slb _ x _ hb rs3 rx (.inr trivial) fun σ4 rs4 w4 => ⟨by rw [w4 ho, wipe_idem], ?_⟩
    have nL : L ∉ A2 ∧ S3 L = none := by
      refine ⟨fun z => g2.here L z hL2, ?_⟩
      cases q : S3 L with
      | none => rfl
      | some o =>
        rcases nw3 L (by rw [q]; exact fun w => by cases w) with z | z
        · exact (z sL).elim
        · rw [upd_same] at z; cases z
    have hL3 : H3 L = some (.lst xs) := kp3 L _ upd_same
    -- what a later state says, with the new list taken out
    have back : ∀ {S5 A5 H5 ob5}, Good X.K S5 A5 H5 ob5 → Step S3 A2 H3 S5 A5 H5 → ∃ H6, Good X.K S5 A5 H6 ob5 ∧ Step S1 A1 H1 S5 A5 H6 ∧ H6 L = none ∧ H5 L = some (.lst xs) ∧ ∀ o, upd H5 L o = upd H6 L o := fun {S5 A5 H5 ob5} g5 st5 => by
      have h5L : H5 L = some (.lst xs) := st5.keep L _ hL3 (.inl nL.1)
      have s5L : S5 L = none ∧ L ∉ A5 := by
        refine ⟨?_, fun z => ?_⟩
        · cases q : S5 L with
          | none => rfl
          | some o =>
            rcases st5.new L (.inl (by rw [q]; exact fun w => by cases w)) with z | z | z
            · exact (z nL.2).elim
            · exact (nL.1 z).elim
            · rw [hL3] at z; cases z
        · rcases st5.new L (.inr z) with z | z | z
          · exact z nL.2
          · exact nL.1 z
          · rw [hL3] at z; cases z
      refine ⟨fun b => if b = L then none else H5 b, ⟨fun a o q => ?_, g5.nd, g5.len, fun k a c e1 e2 => ?_, fun a ha => ?_⟩, ⟨(st2.le.trans le3).trans st5.le, (st2.pre).trans st5.pre, fun a o q c => ?_, fun a z => ?_⟩, if_pos rfl, h5L, fun o => ?_⟩
      · have na : a ≠ L := by
          rintro rfl
          rw [s5L.1] at q
          cases q
        show (if a = L then none else H5 a) = some o ∨ _
        rw [if_neg na]
        exact g5.ex a o q
      · have na : a ≠ L := by
          rintro rfl
          exact s5L.2 (List.mem_of_getElem? e1)
        refine (g5.own k a c e1 e2).mono (Le.refl _) (List.prefix_refl _) (fun z => z) fun _ o q => ?_
        show (if a = L then none else H5 a) = some o
        rw [if_neg na]
        exact q
      · have na : a ≠ L := by
          rintro rfl
          exact s5L.2 ha
        show (if a = L then none else H5 a) ≠ none
        rw [if_neg na]
        exact g5.here a ha
      · have na : a ≠ L := by
          rintro rfl
          rw [hL] at q
          cases q
        show (if a = L then none else H5 a) = some o
        rw [if_neg na]
        have all : Step S1 A1 H1 S2 A2 (upd H2 L (.lst xs)) := ⟨st2.le, st2.pre, fun a o q c => by
          rw [upd_ne (ne_of_none q hL)]
          exact st2.keep a o q c, st2.new⟩
        exact ((all.trans st3).trans st5).keep a o q c
      · have all : Step S1 A1 H1 S2 A2 (upd H2 L (.lst xs)) := ⟨st2.le, st2.pre, fun a o q c => by
          rw [upd_ne (ne_of_none q hL)]
          exact st2.keep a o q c, st2.new⟩
        exact ((all.trans st3).trans st5).new a z
      · funext b
        unfold upd
        by_cases hb : b = L
        · rw [if_pos hb, if_pos hb]
        · rw [if_neg hb, if_neg hb]
          show H5 b = if b = L then none else H5 b
          rw [if_neg hb]
    refine ht S3 A2 H3 σ4 _ g3 rs4 fun bb ob5 S5 A5 H5 h5 g5 st5 => ?_
    cases bb with
    | false =>
      rw [if_neg Bool.false_ne_true]
      obtain ⟨H6, g6, st6, n6, e6, u6⟩ := back g5 st5
      refine ⟨acc, ob5, S5, A5, xs, H6, h5.2 rfl, g6, st6, n6, ?_, (hx.mono le3).mono st5.le, Nat.le_succ_of_le hacc⟩
      rw [← u6]
      funext b
      unfold upd
      by_cases hb : b = L
      · rw [if_pos hb, hb, e6]
      · rw [if_neg hb]
    | true =>
      rw [if_pos rfl]
      refine h5.1 rfl S5 A5 H5 σ4 _ g5 (rs4.step st5) (data_end fun r ob7 y S7 A7 H7 h7 g7 q7 st7 => ?_)
      obtain ⟨z, rfl, h7⟩ := h7
      obtain ⟨H6, g6, st6, n6, e6, u6⟩ := back g7 (st5.trans st7)
      refine ⟨xs, e6, by rw [hx.length]; omega, acc ++ [z], ob7, S7, A7, xs ++ [y], H6, h7, g6, st6, n6, u6 _, ((hx.mono le3).mono (st5.trans st7).le).append (Reps.one q7), by rw [List.length_append, List.length_singleton]; omega⟩
  · have e : i = ds.length := by omega
    subst e
    refine .inl ⟨yst rfl, ?_⟩
    exact (fin acc ob2 j2).fin (en.step (st1.trans st2)) g2 hx hL2
end
end DL

/-! DL: comprehensions, statements. -/
namespace DL
open PySem L2

/-! ### statements -/
structure Out where
  nx : Obs → Sls → Prop
  rt : Post
  bk : Obs → Sls → Prop := fun _ _ => False
  ct : Obs → Sls → Prop := fun _ _ => False
def EndN (K : PySem.W.Frag) (S : Hp) (A : List Addr) (H : Hp) (P : Obs → Sls → Prop) (Q : L2.St → Hp → Prop) : Prop := ∀ ob sl σ S' A' H', P ob sl → Good K S' A' H' ob → RelS S' A' sl σ → Step S A H S' A' H' → Q σ H'
structure EndS (K : PySem.W.Frag) (S : Hp) (A : List Addr) (H : Hp) (D : Out) (D' : Ends) : Prop where
  nx : EndN K S A H D.nx D'.nx
  rt : End K S A H D.rt D'.rt
  bk : EndN K S A H D.bk D'.bk
  ct : EndN K S A H D.ct D'.ct
theorem EndN.step {K S A H S' A' H' P Q} (x : Step S A H S' A' H') (h : EndN K S A H P Q) : EndN K S' A' H' P Q := fun r ob v S2 A2 H2 p g q st => h r ob v S2 A2 H2 p g q (x.trans st)
theorem EndS.step {K S A H S' A' H' D D'} (x : Step S A H S' A' H') (h : EndS K S A H D D') : EndS K S' A' H' D D' := ⟨h.nx.step x, h.rt.step x, h.bk.step x, h.ct.step x⟩
structure wpSS (X : Cx) (st : Stmt) (D : Ends) (σ : L2.St) (H : Hp) : Prop where
  run : ∀ pins s, Inv X pins σ H s → wpAny (model X.prog X.w) X.A (exec st X.env) (SP X pins D) X.xe s
def wpS (X : Cx) (st : Stmt) : TS := fun D σ H => wpSS X st D σ H
structure wpSsS (X : Cx) (st : List Stmt) (D : Ends) (σ : L2.St) (H : Hp) : Prop where
  run : ∀ pins s, Inv X pins σ H s → wpAny (model X.prog X.w) X.A (execs st X.env) (SP X pins D) X.xe s
def wpSs (X : Cx) (st : List Stmt) : TS := fun D σ H => wpSsS X st D σ H
def Ws (X : Cx) (st : Stmt) (ob : Obs) (sl : Sls) (D : Out) : Prop := ∀ S A H σ D', Good X.K S A H ob → RelS S A sl σ → EndS X.K S A H D D' → wpS X st D' σ H
def Wss (X : Cx) (st : List Stmt) (ob : Obs) (sl : Sls) (D : Out) : Prop := ∀ S A H σ D', Good X.K S A H ob → RelS S A sl σ → EndS X.K S A H D D' → wpSs X st D' σ H
section
variable {X : Cx} {e a b c tg elt iter : Expr} {es : List Expr} {st : Stmt} {rest body : List Stmt} {pos p1 p2 spos py apos : Pos} {ob : Obs} {sl : Sls} {P : Post} {D : Out} {K : PySem.W.Frag} {S S' H H' : Hp} {A A' : List Addr} {Q : VK} {k i : Nat} {x : Str} {B : Bool → Obs → Prop} {σ : L2.St}
theorem ps_wp : PS X st (wpS X st) := ⟨fun pins s _ _ _ I h => h.run pins s I⟩
theorem pss_wp : PSs X rest (wpSs X rest) := ⟨fun pins s _ _ _ I h => h.run pins s I⟩
theorem wpS.of {t : TS} {D' : Ends} (h : PS X st t) (q : t D' σ H) : wpS X st D' σ H := ⟨fun pins s I => h.run pins s σ H D' I q⟩
theorem wpSs.of {t : TS} {D' : Ends} (h : PSs X rest t) (q : t D' σ H) : wpSs X rest D' σ H := ⟨fun pins s I => h.run pins s σ H D' I q⟩
theorem wss_nil (h : D.nx ob sl) : Wss X [] ob sl D := fun S A H σ D' g rs en => wpSs.of pss_nil (en.nx _ _ _ _ _ _ h g rs Step.refl)
theorem wss_cons (h : Ws X st ob sl { D with nx := fun ob1 sl1 => Wss X rest ob1 sl1 D }) : Wss X (st :: rest) ob sl D := fun S A H σ D' g rs en =>
  wpSs.of (pss_cons ps_wp pss_wp) (h S A H σ _ g rs ⟨fun ob1 sl1 σ1 S1 A1 H1 h1 g1 rs1 st1 => h1 S1 A1 H1 σ1 D' g1 rs1 (en.step st1), en.rt, en.bk, en.ct⟩)
theorem wss_one (h : Ws X st ob sl D) : Wss X [st] ob sl D := fun S A H σ D' g rs en => wpSs.of (pss_one ps_wp) (h S A H σ D' g rs en)
theorem ws_pass (h : D.nx ob sl) : Ws X (.Pass pos) ob sl D := fun S A H σ D' g rs en => wpS.of ps_pass (en.nx _ _ _ _ _ _ h g rs Step.refl)
theorem ws_break (h : D.bk ob sl) : Ws X (.Break pos) ob sl D := fun S A H σ D' g rs en => wpS.of ps_break (en.bk _ _ _ _ _ _ h g rs Step.refl)
theorem ws_cont (h : D.ct ob sl) : Ws X (.Continue pos) ob sl D := fun S A H σ D' g rs en => wpS.of ps_continue (en.ct _ _ _ _ _ _ h g rs Step.refl)
theorem ws_never (h : False) : Ws X st ob sl D := h.elim
theorem ws_expr (h : We X e ob sl fun _ ob1 => D.nx ob1 sl) (hs : swapsWith e none pos.line X.env = pure false := by rfl) : Ws X (.Expr e pos) ob sl D := fun S A H σ D' g rs en =>
  wpS.of (ps_expr pe_wp hs) (h S A H σ _ g rs fun r ob1 v S1 A1 H1 h1 g1 q1 st1 => en.nx _ _ _ _ _ _ h1 g1 (rs.step st1) st1)
theorem ws_ret (h : We X e ob sl D.rt) : Ws X (.Return (some e) pos) ob sl D := fun S A H σ D' g rs en => wpS.of (ps_ret pe_wp) (h S A H σ _ g rs en.rt)
theorem ws_retN (h : D.rt (.d .non) ob) : Ws X (.Return none pos) ob sl D := fun S A H σ D' g rs en => wpS.of ps_retN (en.rt.here h g rr_non)
theorem ws_if {p q : List Stmt} (h : Wt X c ob sl fun t ob1 => (t = true → Wss X p ob1 sl D) ∧ (t = false → Wss X q ob1 sl D)) : Ws X (.If c p q pos) ob sl D := fun S A H σ D' g rs en =>
  wpS.of (ps_if pt_wp pss_wp pss_wp) (h S A H σ _ g rs fun t ob1 S1 A1 H1 h1 g1 st1 => by
    cases t with
    | true => rw [if_pos rfl]; exact h1.1 rfl S1 A1 H1 σ D' g1 (rs.step st1) (en.step st1)
    | false => rw [if_neg Bool.false_ne_true]; exact h1.2 rfl S1 A1 H1 σ D' g1 (rs.step st1) (en.step st1))
/-- name = e -/
theorem ws_set (i : Nat) (h : We X e ob sl fun r ob1 => D.nx ob1 (sl.set i (some r))) (nd : X.N.Nodup) (hN : X.N[i]? = some x := by rfl) (hx : Loc X.env.scope x := by first | exact Or.inl rfl | exact Or.inr rfl)
    (hs : swapsWith e (some (.Name x p1)) pos.line X.env = pure false := by rfl) (hf : X.fn x = true ∨ X.env.scope.names.lookup x = some .local := by first | exact .inl rfl | exact .inr rfl) : Ws X (.Assign [.Name x p1] e pos) ob sl D := fun S A H σ D' g rs en =>
  wpS.of (ps_set (i := i) nd hN hx pe_wp hs hf) (h S A H σ _ g rs fun r ob1 v S1 A1 H1 h1 g1 q1 st1 => en.nx _ _ _ _ _ _ h1 g1 ((rs.step st1).set q1) st1)
/-- a tuple's items into names -/
theorem ws_bind {t : Tg} {TG' : TG} (hg : PG X tg (tgR X.K t)) (h : We X e ob sl (dataP fun r ob1 => ∃ d sl', r = .d d ∧ bindT t d sl = some sl' ∧ D.nx ob1 sl')) (hs : swapsWithSole [tg] e pos.line X.env = pure false := by rfl) (hw : swappedStores [tg] e X.env = pure none := by rfl)
    (h1 : (assignEach [tg] X.env).map (·.2) = [assign tg X.env] := by rfl) : Ws X (.Assign [tg] e pos) ob sl D := fun S A H σ D' g rs en =>
  wpS.of (ps_asg pe_wp hg hs hw h1) (h S A H σ _ g rs (data_end fun r ob1 v S1 A1 H1 h1 g1 q1 st1 => by
    obtain ⟨d, sl', rfl, hb, h1⟩ := h1
    exact bindT_ok (vs := []) g1.ex t d sl sl' σ v _ hb (rs.step st1) q1 (.inr trivial) fun σ' r1 _ => en.nx _ _ _ _ _ _ h1 g1 r1 st1))
/-- a, b = e1, e2 of local names -/
theorem ws_par {j : Nat} {y : Str} {px pt : Pos} {kt k2 pt2} (i : Nat) (hc : X.calm = true) (nd : X.N.Nodup) (h : Wa X [a, b] ob sl fun rs ob1 => ∃ r1 r2, rs = [r1, r2] ∧ D.nx ob1 ((sl.set i (some r1)).set j (some r2)))
    (hi : X.N[i]? = some x) (hj : X.N[j]? = some y) (hij : i ≠ j)
    (ps : PS X (.Assign [.Tuple [.Name x px, .Name y py] kt pt] (.Tuple [a, b] k2 pt2) pos) (tPar i j (wpA X [a, b]))) : Ws X (.Assign [.Tuple [.Name x px, .Name y py] kt pt] (.Tuple [a, b] k2 pt2) pos) ob sl D := fun S A H σ D' g rs en =>
  wpS.of ps (h S A H σ _ g rs fun l ob1 vs S1 A1 H1 h1 g1 q1 st1 => by
    obtain ⟨r1, r2, rfl, h1⟩ := h1
    obtain ⟨v, w, rfl, q1, q2⟩ := relRs2 q1
    exact ⟨v, w, rfl, en.nx _ _ _ _ _ _ h1 g1 (((rs.step st1).set q1).set q2) st1⟩)

/-! ### comprehensions -/
/-- what a comprehension's block asks: the walk, its target, its test and its element in the block's context -/
def LcP (X : Cx) (own : Bool) (tg elt iter : Expr) (ifs : List Expr) (scope : Scope) (t : Tg) (vs : List Nat) (ob : Obs) (sl : Sls) (P : Post) : Prop := t.own vs = true ∧ ∃ tt te,
  (∀ s H C cl fp, PG (X.blk s H scope (compEnvC scope cl C X.env) fp) tg (tgR X.K t)) ∧ (∀ s H C cl fp, PTs (X.blk s H scope (compEnvC scope cl C X.env) fp) ifs tt) ∧ (∀ s H C cl fp, PE (X.blk s H scope (compEnvC scope cl C X.env) fp) elt te) ∧
  Wi X tg iter ob sl fun ds ob1 => ds.length ≤ sizeLine ∧ ∃ J : Nat → List Dt → Obs → Prop, J 0 [] ob1 ∧ (∀ i d, ds[i]? = some d → LcTurn X.K t tt te vs sl J i d) ∧ ∀ acc ob2, J ds.length acc ob2 → Mk own acc ob2 P
theorem we_lcP {own : Bool} {ifs : List Expr} {scope : Scope} {t : Tg} {ow : List (Str × Nat)} (ct : Ct X k) (h : LcP X own tg elt iter ifs scope t (ow.map (·.2)) ob sl P) (ok : BlkOk X.N X.env.scope scope ow) (hs : ∀ x, foldedSetIterable iter X.env x = pure x := by intro _; rfl) :
    We X (.ListComp elt [⟨tg, iter, ifs, 0⟩] scope pos) ob sl P := fun S A H σ Q g rs en => by
  obtain ⟨ho, tt, te, hg, ht, he, hi⟩ := h
  exact wpE.of (pe_lc ct.calm ct.nd pi_wp ok hg ht he hs) (lc_sem ho hi S A H σ Q g rs en)
theorem ws_lcP {own : Bool} {ifs : List Expr} {scope : Scope} {t : Tg} {ow : List (Str × Nat)} {y : Str} (i : Nat) (ct : Ct X k) (h : LcP X own tg elt iter ifs scope t (ow.map (·.2)) ob sl fun r ob1 => D.nx ob1 (sl.set i (some r))) (ok : BlkOk X.N X.env.scope scope ow)
    (hy : X.N[i]? = some y := by rfl) (hyl : X.env.scope.names.lookup y = some .local := by rfl) (hsw : swapsWith (.ListComp elt [⟨tg, iter, ifs, 0⟩] scope pos) (some (.Name y py)) spos.line X.env = pure true := by exact sw_true rfl rfl rfl (by decide +kernel))
    (hs : ∀ x, foldedSetIterable iter X.env x = pure x := by intro _; rfl) : Ws X (.Assign [.Name y py] (.ListComp elt [⟨tg, iter, ifs, 0⟩] scope pos) spos) ob sl D := fun S A H σ D' g rs en => by
  obtain ⟨ho, tt, te, hg, ht, he, hi⟩ := h
  exact wpS.of (ps_setLc (i := i) ct.calm ct.nd hy hyl hsw pi_wp ok hg ht he hs) (lc_sem ho hi S A H σ (fun x H1 => gName i x σ H1 D'.nx) g rs fun r ob1 v S1 A1 H1 h1 g1 q1 st1 => en.nx _ _ _ _ _ _ h1 g1 ((rs.step st1).set q1) st1)
/-- the block's own readings -/
def bkE (X : Cx) (scope : Scope) (elt : Expr) : TE := fun σ H Q => ∀ s0 H0 C cl fp, wpE (X.blk s0 H0 scope (compEnvC scope cl C X.env) fp) elt σ H Q
def bkT (X : Cx) (scope : Scope) (c : Expr) : TT := fun σ H Q => ∀ s0 H0 C cl fp, wpT (X.blk s0 H0 scope (compEnvC scope cl C X.env) fp) c σ H Q
theorem pe_bk {scope : Scope} (s : Shared) (H : Hp) (C : Addr) (cl : List (Str × Addr)) (fp : List Addr) : PE (X.blk s H scope (compEnvC scope cl C X.env) fp) elt (bkE X scope elt) := ⟨fun pins s1 _ _ _ I h => (h s H C cl fp).run pins s1 I⟩
theorem pts_bk {scope : Scope} (s : Shared) (H : Hp) (C : Addr) (cl : List (Str × Addr)) (fp : List Addr) : PTs (X.blk s H scope (compEnvC scope cl C X.env) fp) [c] (bkT X scope c) := pts_one ⟨fun pins s1 _ _ _ I h => (h s H C cl fp).run pins s1 I⟩
theorem bkE_ok {scope : Scope} (h : ∀ s H C cl fp, We (X.blk s H scope (compEnvC scope cl C X.env) fp) elt ob sl P) : TeOk X.K (bkE X scope elt) ob sl P := fun S A H σ Q g rs en s0 H0 C cl fp => h s0 H0 C cl fp S A H σ Q g rs en
theorem bkT_ok {scope : Scope} (h : ∀ s H C cl fp, Wt (X.blk s H scope (compEnvC scope cl C X.env) fp) c ob sl B) : TtOk X.K (bkT X scope c) ob sl B := fun S A H σ Q g rs en s0 H0 C cl fp => h s0 H0 C cl fp S A H σ Q g rs en
theorem tYes_ok {ob : Obs} {B : Bool → Obs → Prop} (h : B true ob) : TtOk K tYes ob sl B := fun S A H σ Q g rs en => en _ _ _ _ _ h g Step.refl

/-- [elt for t in l if c], elt and c values: no test -/
theorem lcP_map {α : Type} {own : Bool} {scope : Scope} {t : Tg} {vs : List Nat} (enc : α → Dt) (ho : t.own vs = true) (hg : ∀ s H C cl fp, PG (X.blk s H scope (compEnvC scope cl C X.env) fp) tg (tgR X.K t))
    (hi : Wi X tg iter ob sl fun ds ob1 => ds.length ≤ sizeLine ∧ ∃ (l : List α) (g : α → Dt), ds = l.map enc ∧ (∀ a ∈ l, ∃ slb, bindT t (enc a) (wipeSl sl vs) = some slb ∧ ∀ s H C cl fp, We (X.blk s H scope (compEnvC scope cl C X.env) fp) elt ob1 slb (Pv (g a) ob1)) ∧ Mk own (l.map g) ob1 P) :
    LcP X own tg elt iter [] scope t vs ob sl P := by
  refine ⟨ho, tYes, bkE X scope elt, hg, fun _ _ _ _ _ => pts_nil, pe_bk, fun S A H σ R g rs en => hi S A H σ R g rs fun ds ob1 J S1 A1 H1 h1 => en ds ob1 J S1 A1 H1 ?_⟩
  obtain ⟨hz, l, g, rfl, hl, hk⟩ := h1
  refine ⟨hz, fun i acc ob2 => ob2 = ob1 ∧ acc = (l.take i).map g, ⟨rfl, rfl⟩, fun i d hd acc ob2 ⟨e1, e2⟩ => ?_, fun acc ob2 ⟨e1, e2⟩ => ?_⟩
  · subst e1 e2
    rw [List.getElem?_map] at hd
    cases e : l[i]? with
    | none => rw [e] at hd; cases hd
    | some a =>
      rw [e] at hd
      cases hd
      obtain ⟨slb, hb, he⟩ := hl a (List.mem_of_getElem? e)
      refine ⟨slb, hb, tYes_ok ⟨fun _ => bkE_ok fun s H C cl fp => (he s H C cl fp).mono fun r ob4 ⟨e1, e2⟩ => ?_, fun z => by cases z⟩⟩
      subst e1 e2
      refine ⟨_, rfl, rfl, ?_⟩
      rw [List.take_add_one, e, List.map_append]
      rfl
  · subst e1 e2
    rw [List.length_map, List.take_length]
    exact hk
/-- .. with a test -/
theorem lcP_filter {α : Type} {own : Bool} {scope : Scope} {t : Tg} {vs : List Nat} (enc : α → Dt) (ho : t.own vs = true) (hg : ∀ s H C cl fp, PG (X.blk s H scope (compEnvC scope cl C X.env) fp) tg (tgR X.K t))
    (hi : Wi X tg iter ob sl fun ds ob1 => ds.length ≤ sizeLine ∧ ∃ (l : List α) (f : α → Bool) (g : α → Dt), ds = l.map enc ∧ (∀ a ∈ l, ∃ slb, bindT t (enc a) (wipeSl sl vs) = some slb ∧ (∀ s H C cl fp, Wt (X.blk s H scope (compEnvC scope cl C X.env) fp) c ob1 slb (Bv (f a) ob1)) ∧
      (f a = true → ∀ s H C cl fp, We (X.blk s H scope (compEnvC scope cl C X.env) fp) elt ob1 slb (Pv (g a) ob1))) ∧ Mk own ((l.filter f).map g) ob1 P) :
    LcP X own tg elt iter [c] scope t vs ob sl P := by
  refine ⟨ho, bkT X scope c, bkE X scope elt, hg, pts_bk, pe_bk, fun S A H σ R g rs en => hi S A H σ R g rs fun ds ob1 J S1 A1 H1 h1 => en ds ob1 J S1 A1 H1 ?_⟩
  obtain ⟨hz, l, f, g, rfl, hl, hk⟩ := h1
  refine ⟨hz, fun i acc ob2 => ob2 = ob1 ∧ acc = ((l.take i).filter f).map g, ⟨rfl, rfl⟩, fun i d hd acc ob2 ⟨e1, e2⟩ => ?_, fun acc ob2 ⟨e1, e2⟩ => ?_⟩
  · subst e1 e2
    rw [List.getElem?_map] at hd
    cases e : l[i]? with
    | none => rw [e] at hd; cases hd
    | some a =>
      rw [e] at hd
      cases hd
      obtain ⟨slb, hb, ht, he⟩ := hl a (List.mem_of_getElem? e)
      refine ⟨slb, hb, bkT_ok fun s H C cl fp => (ht s H C cl fp).mono fun b ob3 ⟨e1, e2⟩ => ?_⟩
      subst e1 e2
      have step : (l.take (i + 1)).filter f = (l.take i).filter f ++ (if f a = true then [a] else []) := by
        rw [List.take_add_one, e, List.filter_append]
        congr 1
        simp [List.filter_cons]
      refine ⟨fun hf => bkE_ok fun s H C cl fp => (he hf s H C cl fp).mono fun r ob4 ⟨e1, e2⟩ => ?_, fun hf => ⟨rfl, ?_⟩⟩
      · subst e1 e2
        refine ⟨_, rfl, rfl, ?_⟩
        rw [step, if_pos hf, List.map_append]
        rfl
      · rw [step, if_neg (by rw [hf]; exact Bool.false_ne_true), List.append_nil]
  · subst e1 e2
    rw [List.length_map, List.take_length]
    exact hk

/-! ### loops -/
/-- at least as much is known -/
def SlLe (sl sl' : Sls) : Prop := sl.length = sl'.length ∧ ∀ (i : Nat) (r : R), sl'[i]? = some (some r) → sl[i]? = some (some r)
theorem SlLe.refl (sl : Sls) : SlLe sl sl := ⟨rfl, fun _ _ h => h⟩
theorem RelS.le {sl' : Sls} (h : SlLe sl sl') (rs : RelS S A sl σ) : RelS S A sl' σ := ⟨fun i r e => rs.get i r (h.2 i r e), by rw [← h.1]; exact rs.len⟩
theorem ws_weak {sl' : Sls} (h : SlLe sl sl') (q : Ws X st ob sl' D) : Ws X st ob sl D := fun S A H σ D' g rs en => q S A H σ D' g (rs.le h) en
theorem wss_weak {sl' : Sls} (h : SlLe sl sl') (q : Wss X rest ob sl' D) : Wss X rest ob sl D := fun S A H σ D' g rs en => q S A H σ D' g (rs.le h) en
theorem slLe_nil : SlLe [] [] := SlLe.refl []
theorem slLe_un {r : Option R} {l m : Sls} (h : SlLe l m) : SlLe (r :: l) (none :: m) := ⟨by simp [h.1], fun i q e => by
  cases i with
  | zero => simp at e
  | succ i => simpa using h.2 i q (by simpa using e)⟩
theorem slLe_cons {r : Option R} {l m : Sls} (h : SlLe l m) : SlLe (r :: l) (r :: m) := ⟨by simp [h.1], fun i q e => by
  cases i with
  | zero => exact e
  | succ i => simpa using h.2 i q (by simpa using e)⟩
theorem ws_for {t : Tg} (ct : Ct X k) (hg : PG X tg (tgR X.K t)) (hi : Wi X tg iter ob sl fun ds ob1 => ∃ J : Nat → Obs → Sls → Prop, J 0 ob1 sl ∧
      (∀ i d ob2 sl2, ds[i]? = some d → J i ob2 sl2 → ∃ sl3, bindT t d sl2 = some sl3 ∧ Wss X body ob2 sl3 { D with nx := J (i + 1), ct := J (i + 1), bk := D.nx }) ∧ ∀ ob2 sl2, J ds.length ob2 sl2 → D.nx ob2 sl2)
    (hs : ∀ x, foldedSetIterable iter X.env x = pure x := by intro _; rfl) : Ws X (.For tg iter body [] pos) ob sl D := fun S A H σ D' g rs en => by
  refine wpS.of (ps_for ct.po ct.calm pi_wp hg pss_wp hs) (hi S A H σ _ g rs fun ds ob1 Jt S1 A1 H1 h1 g1 st1 ys => ?_)
  obtain ⟨J, j0, turn, fin⟩ := h1
  refine ⟨fun i m σ' H' => m = ds.length - i ∧ i ≤ ds.length ∧ ∃ ob2 sl2 S2 A2, J i ob2 sl2 ∧ Good X.K S2 A2 H' ob2 ∧ RelS S2 A2 sl2 σ' ∧ Step S1 A1 H1 S2 A2 H', ⟨_, rfl, Nat.zero_le _, ob1, sl, S1, A1, j0, g1, rs.step st1, Step.refl⟩, ?_⟩
  rintro i m σ' H' ⟨rfl, hi, ob2, sl2, S2, A2, j2, g2, rs2, st2⟩
  obtain ⟨yg, yst⟩ := ys S2 H' st2.le g2.ex i
  by_cases hlt : i < ds.length
  · obtain ⟨go, yn⟩ := yg hlt
    refine .inr ⟨go, fun σ' H' => ∃ ob2 sl2 S2 A2, J (i + 1) ob2 sl2 ∧ Good X.K S2 A2 H' ob2 ∧ RelS S2 A2 sl2 σ' ∧ Step S1 A1 H1 S2 A2 H', fun σ' H' q => ⟨ds.length - (i + 1), by omega, rfl, hlt, q⟩, fun x H3 hy => ?_⟩
    obtain ⟨d, S3, hd, ex3, le3, rx, kp3, nw3⟩ := yn x H3 hy
    have g3 : Good X.K S3 A2 H3 ob2 := g2.ext ex3 le3 kp3 nw3
    have st3 : Step S2 A2 H' S3 A2 H3 := Step.ext le3 kp3 nw3
    obtain ⟨sl3, hb, hbody⟩ := turn i d ob2 sl2 hd j2
    refine bindT_ok (vs := []) g3.ex t d _ sl3 _ x _ hb (rs2.step st3) rx (.inr trivial) fun σ4 rs4 _ => ?_
    refine hbody S3 A2 H3 σ4 _ g3 rs4 ⟨?_, en.rt.step ((st1.trans st2).trans st3), en.nx.step ((st1.trans st2).trans st3), ?_⟩
    · exact fun ob5 sl5 σ5 S5 A5 H5 h5 g5 r5 st5 => ⟨ob5, sl5, S5, A5, h5, g5, r5, (st2.trans st3).trans st5⟩
    · exact fun ob5 sl5 σ5 S5 A5 H5 h5 g5 r5 st5 => ⟨ob5, sl5, S5, A5, h5, g5, r5, (st2.trans st3).trans st5⟩
  · have e : i = ds.length := by omega
    subst e
    exact .inl ⟨yst rfl, en.nx _ _ _ _ _ _ (fin ob2 sl2 j2) g2 rs2 (st1.trans st2)⟩
/-- while, by what holds with so many turns left at most -/
theorem ws_while (ct : Ct X k) (W : Nat → Obs → Sls → Prop) (m0 : Nat) (h0 : W m0 ob sl)
    (turn : ∀ m ob1 sl1, W m ob1 sl1 → Wt X c ob1 sl1 fun t ob2 => (t = true → ∃ m', m' < m ∧ Wss X body ob2 sl1 { D with nx := fun ob3 sl3 => W m' ob3 sl3, ct := fun ob3 sl3 => W m' ob3 sl3, bk := D.nx }) ∧ (t = false → D.nx ob2 sl1)) : Ws X (.While c body [] pos) ob sl D := fun S A H σ D' g rs en => by
  refine wpS.of (ps_while ct.po pt_wp pss_wp) ⟨fun m σ' H' => ∃ ob2 sl2 S2 A2, W m ob2 sl2 ∧ Good X.K S2 A2 H' ob2 ∧ RelS S2 A2 sl2 σ' ∧ Step S A H S2 A2 H', ⟨m0, ob, sl, S, A, h0, g, rs, Step.refl⟩, ?_⟩
  rintro m σ' H' ⟨ob2, sl2, S2, A2, w2, g2, rs2, st2⟩
  refine turn m ob2 sl2 w2 S2 A2 H' σ' _ g2 rs2 fun t ob3 S3 A3 H3 h3 g3 st3 => ?_
  cases t with
  | true =>
    rw [if_pos rfl]
    obtain ⟨m', hm, hb⟩ := h3.1 rfl
    have st := st2.trans st3
    refine ⟨fun σ' H' => ∃ ob2 sl2 S2 A2, W m' ob2 sl2 ∧ Good X.K S2 A2 H' ob2 ∧ RelS S2 A2 sl2 σ' ∧ Step S A H S2 A2 H', fun σ' H' q => ⟨m', hm, q⟩, hb S3 A3 H3 σ' _ g3 (rs2.step st3) ⟨?_, en.rt.step st, en.nx.step st, ?_⟩⟩
    · exact fun ob5 sl5 σ5 S5 A5 H5 h5 g5 r5 st5 => ⟨ob5, sl5, S5, A5, h5, g5, r5, st.trans st5⟩
    · exact fun ob5 sl5 σ5 S5 A5 H5 h5 g5 r5 st5 => ⟨ob5, sl5, S5, A5, h5, g5, r5, st.trans st5⟩
  | false =>
    rw [if_neg Bool.false_ne_true]
    exact en.nx _ _ _ _ _ _ (h3.2 rfl) g3 (rs2.step st3) (st2.trans st3)
end
end DL

/-! DL: defs, their promises and calls; methods of lists. -/
namespace DL
open PySem L2

/-! ### promises -/
/-- a def over data: its arguments, its own numbering of what is owned, what is wanted of its end -/
abbrev FS := List R → Obs → Post → Prop
def spOf (K : PySem.W.Frag) (f : FS) : Sp := fun vs H Q _ => ∃ S A rs ob P, Good K S A H ob ∧ RelRs S A rs vs ∧ f rs ob P ∧ End K S A H P Q
/-- a global name holds a def that keeps such a promise -/
structure Fn (P : Program) (w : World) (K : PySem.W.Frag) (mg : Str → Option Value) (base : Heap) (x : Str) (st : Stmt) (k : Nat) (ps : List Str) (f : FS) : Prop where
  ex : ∃ a fd, mg x = some (.ref a) ∧ Fun K x x st a fd ∧ Binds K fd ps [] ∧ FnOk P w K mg base CX0 k a fd ps (spOf K f)
theorem relRs_length {S A} : ∀ {rs : List R} {vs : List V}, RelRs S A rs vs → vs.length = rs.length
  | [], _, h => by rw [relRs_nil.mp h]; rfl
  | r :: rs, _, h => by
    obtain ⟨v, t, rfl, _, h2⟩ := relRs_cons.mp h
    rw [List.length_cons, List.length_cons, relRs_length h2]
theorem relS_start {S A} {N : List Str} {rs : List R} {vs : List V} (h : RelRs S A rs vs) : RelS S A (rs.map some ++ List.replicate (N.length - rs.length) none) (L2.start N vs) := by
  unfold L2.start
  rw [relRs_length h]
  have key : ∀ {rs : List R} {vs : List V} (n : Nat), RelRs S A rs vs → RelS S A (rs.map some ++ List.replicate n none) (vs.map some ++ List.replicate n none) := by
    intro rs
    induction rs with
    | nil =>
      intro vs n h
      rw [relRs_nil.mp h]
      refine ⟨fun i r e => ?_, by simp⟩
      simp only [List.map_nil, List.nil_append] at e
      rw [List.getElem?_replicate] at e
      split at e <;> cases e
    | cons r rs ih =>
      intro vs n h
      obtain ⟨v, t, rfl, h1, h2⟩ := relRs_cons.mp h
      have q := ih n h2
      refine ⟨fun i r' e => ?_, by simpa using q.len⟩
      cases i with
      | zero =>
        simp at e
        subst e
        exact ⟨v, rfl, h1⟩
      | succ i => simpa using q.get i r' (by simpa using e)
  exact key _ h
section
variable {P : Program} {w : World} {K : PySem.W.Frag} {mg : Str → Option Value} {base : Heap}
/-- THE RULE for a def: its body over data -/
theorem Fun.data {x qual : Str} {st : Stmt} {a : Addr} {fd : FuncData} {N ps : List Str} {k : Nat} {f : FS} (F : Fun K x qual st a fd) (sc : FnScope N ps (defScope st)) (len : ∀ rs ob P, f rs ob P → rs.length = ps.length)
    (body : ∀ (cdv : Value) (A : Around) (outer : List Env) (s : Shared) (H : Hp) (E : XK), Ct (cxOf CX0 P w K mg base N qual (defScope st) a cdv A outer s H E).nox k → ∀ rs ob Po, f rs ob Po →
      Wss (cxOf CX0 P w K mg base N qual (defScope st) a cdv A outer s H E).nox (defBody st) ob (rs.map some ++ List.replicate (N.length - rs.length) none) { nx := fun ob1 _ => Po (.d .non) ob1, rt := Po }) :
    FnOk P w K mg base CX0 (k + 1) a fd ps (spOf K f) := by
  refine F.ok sc (fun vs H Q E h => ?_) (fun cdv A outer s H vs Q E hr h => ?_)
  · obtain ⟨S, A, rs, ob, Po, g, q, hf, en⟩ := h
    rw [relRs_length q]
    exact len _ _ _ hf
  · obtain ⟨S, A', rs, ob, Po, g, q, hf, en⟩ := h
    have b := body cdv A outer s H E ⟨rfl, sc.nd, hr, PassesOwn.never⟩ rs ob Po hf
    refine ⟨_, pss_wp, b S A' H _ _ g (relS_start q) ⟨?_, en, ?_, ?_⟩⟩
    · exact fun ob1 sl1 σ1 S1 A1 H1 h1 g1 rs1 st1 => en _ _ _ _ _ _ h1 g1 rr_non st1
    · exact fun ob1 sl1 σ1 S1 A1 H1 h1 g1 rs1 st1 => h1.elim
    · exact fun ob1 sl1 σ1 S1 A1 H1 h1 g1 rs1 st1 => h1.elim
theorem Fn.imp {x : Str} {st : Stmt} {ps : List Str} {k j : Nat} {f f' : FS} (F : Fn P w K mg base x st k ps f) (hk : k ≤ j) (h : ∀ rs ob Po, f' rs ob Po → f rs ob Po) : Fn P w K mg base x st j ps f' := by
  obtain ⟨a, fd, h1, h2, h3, h4⟩ := F.ex
  exact ⟨a, fd, h1, h2, h3, (h4.mono hk).imp fun vs H Q E ⟨S, A, rs, ob, Po, g, q, hf, en⟩ => ⟨S, A, rs, ob, Po, g, q, h _ _ _ hf, en⟩⟩
end

section
variable {X : Cx} {e a b c : Expr} {es : List Expr} {pos p1 p2 apos : Pos} {ob : Obs} {sl : Sls} {P : Post} {D : Out} {K : PySem.W.Frag} {S S' H H' : Hp} {A A' : List Addr} {Q : VK} {k j : Nat} {x : Str} {ps : List Str} {f : FS}
/-- behind a call that was handed nothing that is owned -/
theorem Good.pass {A0 : List Addr} {ob0 : Obs} (g : Good K S A H ob) (st : Step S [] H S' A0 H') (g0 : Good K S' A0 H' ob0) : Good K S' A H' ob ∧ Step S A H S' A H' := by
  have kp : ∀ a o, H a = some o → H' a = some o := fun a o q => st.keep a o q (.inl List.not_mem_nil)
  have nw : ∀ a, S' a ≠ none → S a ≠ none ∨ H a = none := fun a z => by
    rcases st.new a (.inl z) with z | z | z
    · exact .inl z
    · exact absurd z List.not_mem_nil
    · exact .inr z
  exact ⟨g.ext g0.ex st.le kp nw, Step.ext st.le kp nw⟩
theorem good_none (ex : Ex S H) : Good K S [] H [] := ⟨ex, List.nodup_nil, rfl, fun k a c h => by simp at h, fun a h => absurd h List.not_mem_nil⟩
/-- f(..) of data: a value, or a new list, that is data or owned -/
def retP (own : Bool) (ob : Obs) (P : Post) : Post := fun r ob0 => match own with
  | false => dataP (fun r' _ => ∃ x, r' = .d x ∧ P (.d x) ob) r ob0
  | true => ∃ l, r = .p 0 ∧ ob0 = [.lst l] ∧ P (.p ob.length) (ob ++ [.lst l])
theorem retP_end {own : Bool} (g : Good K S A H ob) (en : End K S A H P Q) : End K S [] H (retP own ob P) Q := fun r ob0 v S1 A1 H1 h1 g1 q1 st1 => by
  unfold retP at h1
  cases own with
  | false =>
    refine data_end (P := fun r' _ => ∃ x, r' = .d x ∧ P (.d x) ob) (S := S) (A := []) (H := H) (fun r' ob' v' S2 A2 H2 h2 g2 q2 st2 => ?_) r ob0 v S1 A1 H1 h1 g1 q1 st1
    obtain ⟨x, rfl, h2⟩ := h2
    obtain ⟨g3, st3⟩ := g.pass st2 g2
    exact en _ _ _ _ _ _ h2 g3 q2 st3
  | true =>
    obtain ⟨l, rfl, rfl, h2⟩ := h1
    obtain ⟨g3, st3⟩ := g.pass st1 g1
    obtain ⟨p, hp, rfl⟩ := q1
    have o := g1.own 0 p (.lst l) hp rfl
    obtain ⟨h0, xs, h4, h5⟩ := o
    have hl : A1.length = 1 := g1.len
    have hn : H p = none := by
      rcases st1.new p (.inr (List.mem_of_getElem? hp)) with z | z | z
      · exact (z (st1.le.back h0)).elim
      · exact absurd z List.not_mem_nil
      · exact z
    have nA : p ∉ A := fun z => g.here p z hn
    have g4 : Good K S1 (A ++ [p]) H1 (ob ++ [.lst l]) := by
      refine ⟨g3.ex, ?_, by rw [List.length_append, List.length_append, g.len]; rfl, fun i a c e1 e2 => ?_, fun a ha => ?_⟩
      · rw [List.nodup_append]
        refine ⟨g.nd, by simp, fun a ha b hb => ?_⟩
        rw [List.mem_singleton] at hb
        subst hb
        rintro rfl
        exact nA ha
      · by_cases hi : i < A.length
        · rw [List.getElem?_append_left hi] at e1
          rw [List.getElem?_append_left (by rw [← g.len]; exact hi)] at e2
          exact (g3.own i a c e1 e2).mono (Le.refl _) (List.prefix_append A [p]) (fun z => z) fun _ _ z => z
        · rw [List.getElem?_append_right (by omega)] at e1
          rw [List.getElem?_append_right (by rw [← g.len]; omega)] at e2
          have e : i - A.length = 0 := by
            have := (List.getElem?_eq_some_iff.mp e1).1
            simp at this
            exact this
          have e' : i - ob.length = 0 := by rw [← g.len]; exact e
          rw [e] at e1
          rw [e'] at e2
          simp at e1 e2
          subst e1 e2
          exact ⟨h0, xs, h4, h5⟩
      · rcases List.mem_append.mp ha with z | z
        · exact g3.here a z
        · rw [List.mem_singleton] at z
          subst z
          rw [h4]
          exact fun w => by cases w
    have st4 : Step S A H S1 (A ++ [p]) H1 := ⟨st3.le, List.prefix_append A [p], st3.keep, fun a z => by
      rcases z with z | z
      · exact st3.new a (.inl z)
      · rcases List.mem_append.mp z with z | z
        · exact .inr (.inl z)
        · rw [List.mem_singleton] at z
          subst z
          exact .inr (.inr hn)⟩
    exact en _ _ _ _ _ _ h2 g4 ⟨p, by rw [← g.len, List.getElem?_append_right (Nat.le_refl _), Nat.sub_self]; rfl, rfl⟩ st4
theorem we_call (own : Bool) {st : Stmt} (F : Fn X.prog X.w X.K X.mg X.base x st j ps f) (ct : Ct X k) (hj : j ≤ k) (h : Wa X (e :: es) ob sl fun rs ob1 => ∃ ds : List Dt, rs = ds.map R.d ∧ f (ds.map R.d) [] (retP own ob1 P)) (hg : Gl X x := by rfl) (hd : (x == ("__debug__" : Str)) = false := by decide)
    (hs : starEach (e :: es) X.env = (false, eval e X.env) :: starEach es X.env := by rfl) (hp : (backTo pos (starEach es X.env)).any (·.1) = false := by rfl) : We X (.Call (.Name x p1) (e :: es) [] pos) ob sl P := fun S A H σ Q g rs en => by
  obtain ⟨ad, fd, h1, h2, h3, h4⟩ := F.ex
  refine wpE.of (pe_call h4 (ct.room.mono hj) hg h1 h2.kp h3 .nil pass0 pa_wp hd hs hp) (h S A H σ _ g rs fun l ob1 vs S1 A1 H1 hh g1 q1 st1 => ?_)
  obtain ⟨ds, rfl, hf⟩ := hh
  rw [List.append_nil]
  exact ⟨S1, [], ds.map R.d, [], _, good_none g1.ex, relRs_d.mpr (relRs_d.mp q1), hf, retP_end g1 (en.step st1)⟩

/-- f(k = .., ..) -/
theorem wk_pa {kws : List Keyword} : PK X kws (fun σ H Q => ∀ pos pins s, Inv X pins σ H s → wpAny (model X.prog X.w) X.A (evalAll ((backToKw pos (keywordEach kws X.env)).map (·.2))) (AP X pins σ Q) X.xe s) := ⟨fun pos pins s _ _ _ I h => h pos pins s I⟩
def Wk (X : Cx) (kws : List Keyword) (ob : Obs) (sl : Sls) (P : List R → Obs → Prop) : Prop := ∀ S A H σ Q, Good X.K S A H ob → RelS S A sl σ → EndA X.K S A H P Q → ∀ pos pins s, Inv X pins σ H s → wpAny (model X.prog X.w) X.A (evalAll ((backToKw pos (keywordEach kws X.env)).map (·.2))) (AP X pins σ Q) X.xe s
theorem wk_nil {P : List R → Obs → Prop} (h : P [] ob) : Wk X [] ob sl P := fun S A H σ Q g rs en pos pins s I => pk_nil.run pos pins s σ H Q I (en [] ob [] S A H h g (relRs_nil.mpr rfl) Step.refl)
theorem wk_cons {P : List R → Obs → Prop} {kws : List Keyword} {nm : Option Str} {kpos : Pos} (h : We X e ob sl fun r ob1 => Wk X kws ob1 sl fun rs ob2 => P (r :: rs) ob2) : Wk X (⟨nm, e, kpos⟩ :: kws) ob sl P := fun S A H σ Q g rs en pos pins s I => by
  refine (pk_cons pe_wp wk_pa).run pos pins s σ H Q I (h S A H σ _ g rs fun r ob1 v S1 A1 H1 h1 g1 q1 st1 => h1 S1 A1 H1 σ _ g1 (rs.step st1) fun l ob2 vs S2 A2 H2 h2 g2 q2 st2 => ?_)
  exact en _ _ _ _ _ _ h2 g2 (relRs_cons.mpr ⟨_, _, rfl, q1.step st2, q2⟩) (st1.trans st2)
theorem we_callK (own : Bool) {st : Stmt} {kws : List Keyword} {ks : List Str} (g : {α : Type} → List α → List α) (F : Fn X.prog X.w X.K X.mg X.base x st j ps f) (ct : Ct X k) (hj : j ≤ k)
    (hb : ∀ (kV doc pm : Value) (an : Option Addr) (cdv ct : Value) (us : List Value), us.length = ks.length → bindArgs (PySem.W.fnOf x x (defArgs st) (defBody st) (defScope st) .none kV doc pm an cdv ct) ⟨[], ks.zip us⟩ = pure (ps.zip (g us)))
    (hr : ∀ {vs : List V} {us : List Value}, vs.length = ks.length → Vals vs us → Vals (g vs) (g us)) (hd : ∀ {ds : List Dt} {vs : List V} {S : Hp}, ds.length = ks.length → Reps S ds vs → Reps S (g ds) (g vs))
    (h : Wk X kws ob sl fun rs ob1 => ∃ ds : List Dt, rs = ds.map R.d ∧ ds.length = ks.length ∧ f ((g ds).map R.d) [] (retP own ob1 P)) (hg : Gl X x := by rfl)
    (hall : (backToKw pos (keywordEach kws X.env)).all (·.1.isSome) = true := by rfl) (hks : (backToKw pos (keywordEach kws X.env)).filterMap (·.1) = ks := by rfl) (hdb : (x == ("__debug__" : Str)) = false := by decide)
    (hpl : ((backTo pos (starEach [] X.env)).any (·.1) || (backToKw pos (keywordEach kws X.env)).any (·.1.isNone)) = false := by rfl) : We X (.Call (.Name x p1) [] kws pos) ob sl P := fun S A H σ Q gd rs en => by
  refine ⟨fun pins s I => ?_⟩
  obtain ⟨ad, fd, h1, h2, h3, h4⟩ := F.ex
  refine wpAny_Call_Name_kw (ld_glob I hg h1 ?_ hdb)
  refine PySem.W.callWith_KW0 (h₀ := X.base) I.ok.mod.kin h2.kp hall ?_ hpl
  refine thn (h S A H σ (fun vs H1 => ∃ S1 A1 ds ob1, Good X.K S1 A1 H1 ob1 ∧ Step S A H S1 A1 H1 ∧ Reps S1 ds vs ∧ ds.length = ks.length ∧ f ((g ds).map R.d) [] (retP own ob1 P)) gd rs (fun l ob1 vs S1 A1 H1 hh g1 q1 st1 => ?_) pos pins s I) fun ws s2 ⟨zs, H2, I2, rz, S1, A1, ds, ob1, g1, st1, q1, hl, hf⟩ => ⟨I2.kIn, ?_⟩
  · obtain ⟨ds, rfl, hl, hf⟩ := hh
    exact ⟨S1, A1, ds, ob1, g1, st1, relRs_d.mp q1, hl, hf⟩
  · rw [hks]
    have lz : zs.length = ks.length := by rw [q1.length]; exact hl
    have lw : ws.length = ks.length := by rw [← rz.length]; exact lz
    have r2 := hr lz rz
    have hsp : spOf X.K f (g zs) H2 Q E0 := ⟨S1, [], (g ds).map R.d, [], _, good_none g1.ex, relRs_d.mpr (hd hl q1), hf, retP_end g1 (en.step st1)⟩
    obtain ⟨oc, od, kV, doc, pm, an, cdv, ct', osl, rfl, lk, hcd⟩ := h2.ex
    refine wpAny_call (codeAny_mono (h4.run X.A X.stack s2 H2 ⟨[], ks.zip ws⟩ (g ws) (g zs) Q E0 (ct.room.mono hj) I2.env0 (.of_eq (hb kV doc pm an cdv ct' ws lw)) r2 hsp) fun r s' hq => ?_)
    cases r with
    | error e => exact (pass0 pins σ H2 s2 e s' I2 hq)
    | ok fl =>
      cases fl with
      | ret u => exact I2.after hq
      | next => exact False.elim hq
      | brk => exact False.elim hq
      | cont => exact False.elim hq

/-! ### a def that is handed one owned thing -/
/-- the caller's numbering: 0 is the thing at i -/
def asO (i : Nat) : R → Option R
  | .d x => some (.d x)
  | .p m => if m = i then some (.p 0) else none
def asOs (i : Nat) : List R → Option (List R)
  | [] => some []
  | r :: rs => match asO i r, asOs i rs with
    | some r', some rs' => some (r' :: rs')
    | _, _ => none
/-- content without pointers -/
def flatO : Ob → Bool
  | .lsp _ => false
  | .tpl _ => false
  | .ins _ fs => fs.all fun p => match p.2 with | .d _ => true | .p _ => false
  | _ => true
def retO (i : Nat) (ob : Obs) (P : Post) : Post := fun r ob0 => ∃ x c more, r = .d x ∧ ob0 = c :: more ∧ flatO c = true ∧ P (.d x) (ob.set i c)
theorem relRs_asO {i : Nat} {p : Addr} (hp : A[i]? = some p) : ∀ {rs rs' : List R} {vs : List V}, asOs i rs = some rs' → RelRs S A rs vs → RelRs S [p] rs' vs
  | [], rs', vs, e, q => by
    cases e
    rw [relRs_nil.mp q]
    exact relRs_nil.mpr rfl
  | r :: rs, rs', vs, e, q => by
    obtain ⟨v, t, rfl, h1, h2⟩ := relRs_cons.mp q
    simp only [asOs] at e
    cases e1 : asO i r with
    | none => rw [e1] at e; cases e
    | some r' =>
      cases e2 : asOs i rs with
      | none => rw [e1, e2] at e; cases e
      | some rs2 =>
        rw [e1, e2] at e
        cases e
        refine relRs_cons.mpr ⟨v, t, rfl, ?_, relRs_asO hp e2 h2⟩
        cases r with
        | d x => cases e1; exact h1
        | p m =>
          simp only [asO] at e1
          split at e1
          · rename_i hm
            subst hm
            cases e1
            obtain ⟨a, h3, rfl⟩ := h1
            rw [hp] at h3
            cases h3
            exact ⟨p, rfl, rfl⟩
          · cases e1
theorem relF_flat {fs : List (Str × R)} (hf : fs.all (fun p => match p.2 with | .d _ => true | .p _ => false) = true) : ∀ {xs : List (Str × V)}, RelF S A fs xs → RelF S A' fs xs := by
  induction fs with
  | nil => intro xs h; simpa only [RelF] using h
  | cons p fs ih =>
    obtain ⟨n, r⟩ := p
    intro xs h
    rw [List.all_cons, Bool.and_eq_true] at hf
    simp only [RelF] at h ⊢
    obtain ⟨x, t, h1, h2, h3⟩ := h
    refine ⟨x, t, h1, ?_, ih hf.2 h3⟩
    cases r with
    | d y => exact h2
    | p m => exact absurd hf.1 (by simp)
theorem Own.flat {c : Ob} {p : Addr} (hc : flatO c = true) (h : Own K S A H c p) : Own K S A' H c p := by
  cases c with
  | lsp rs => cases hc
  | tpl rs => cases hc
  | ins C fs =>
    obtain ⟨h0, dx, xs, h1, h2⟩ := h
    exact ⟨h0, dx, xs, h1, relF_flat hc h2⟩
  | frz x => exact h
  | lst l => exact h
  | dct l => exact h
  | dtt l => exact h
  | rd l => exact h
  | raw q => exact h
theorem retO_pass {i : Nat} {p : Addr} {c0 c : Ob} {more : Obs} {S1 H1 : Hp} {A1 : List Addr} (g : Good K S A H ob) (hp : A[i]? = some p) (hc : ob[i]? = some c0) (hf : flatO c = true) (g1 : Good K S1 A1 H1 (c :: more)) (st1 : Step S [p] H S1 A1 H1) : Good K S1 A H1 (ob.set i c) ∧ Step S A H S1 A H1 := by
  have pm := List.mem_of_getElem? hp
  have hA1 : A1[0]? = some p := by
    obtain ⟨t, rfl⟩ := st1.pre
    rfl
  have kp : ∀ a o, H a = some o → a ≠ p → H1 a = some o := fun a o q n => st1.keep a o q (.inl (by simpa using n))
  have nw : ∀ a, S1 a ≠ none → S a ≠ none ∨ a = p ∨ H a = none := fun a z => by
    rcases st1.new a (.inl z) with z | z | z
    · exact .inl z
    · exact .inr (.inl (by simpa using z))
    · exact .inr (.inr z)
  have o1 := g1.own 0 p c hA1 rfl
  have g2 : Good K S1 A H1 (ob.set i c) := by
    refine ⟨g1.ex, g.nd, by rw [List.length_set]; exact g.len, fun m a d e1 e2 => ?_, fun a ha => ?_⟩
    · by_cases hm : m = i
      · subst hm
        rw [hp] at e1
        cases e1
        rw [List.getElem?_set_self (by rw [← g.len]; exact (List.getElem?_eq_some_iff.mp hp).1)] at e2
        cases e2
        exact o1.flat hf
      · rw [List.getElem?_set_ne (Ne.symm hm)] at e2
        have na : a ≠ p := by
          rintro rfl
          exact hm (nd_ix g.nd e1 hp)
        refine (g.own m a d e1 e2).mono st1.le (List.prefix_refl A) (fun z => ?_) fun _ o q => kp a o q na
        cases q : S1 a with
        | none => rfl
        | some o =>
          rcases nw a (by rw [q]; exact fun w => by cases w) with w | w | w
          · exact (w z).elim
          · exact (na w).elim
          · exact (g.here a (List.mem_of_getElem? e1) w).elim
    · by_cases na : a = p
      · subst na
        exact g1.here a (List.mem_of_getElem? hA1)
      · cases q : H a with
        | none => exact (g.here a ha q).elim
        | some o => rw [kp a o q na]; exact fun w => by cases w
  have st2 : Step S A H S1 A H1 := ⟨st1.le, List.prefix_refl A, fun a o q c => by
    refine st1.keep a o q ?_
    rcases c with c | c
    · exact .inl fun z => c (by simp at z; rw [z]; exact pm)
    · exact .inr c, fun a z => by
    rcases z with z | z
    · rcases nw a z with z | z | z
      · exact .inl z
      · exact .inr (.inl (by rw [z]; exact pm))
      · exact .inr (.inr z)
    · exact .inr (.inl z)⟩
  exact ⟨g2, st2⟩
theorem retO_end {i : Nat} {p : Addr} {c0 : Ob} (g : Good K S A H ob) (hp : A[i]? = some p) (hc : ob[i]? = some c0) (en : End K S A H P Q) : End K S [p] H (retO i ob P) Q := fun r ob0 v S1 A1 H1 h1 g1 q1 st1 => by
  obtain ⟨x, c, more, rfl, rfl, hf, h2⟩ := h1
  obtain ⟨g2, st2⟩ := retO_pass g hp hc hf g1 st1
  exact en _ _ _ _ _ _ h2 g2 (show Rep S1 x v from q1) st2
/-- .. and a new list comes back, owned -/
def retOL (i : Nat) (ob : Obs) (P : Post) : Post := fun r ob0 => ∃ l c more, r = .p 1 ∧ ob0 = c :: .lst l :: more ∧ flatO c = true ∧ P (.p ob.length) (ob.set i c ++ [.lst l])
theorem retOL_end {i : Nat} {p : Addr} {c0 : Ob} (g : Good K S A H ob) (hp : A[i]? = some p) (hc : ob[i]? = some c0) (en : End K S A H P Q) : End K S [p] H (retOL i ob P) Q := fun r ob0 v S1 A1 H1 h1 g1 q1 st1 => by
  obtain ⟨l, c, more, rfl, rfl, hf, h2⟩ := h1
  obtain ⟨g2, st2⟩ := retO_pass g hp hc hf g1 st1
  obtain ⟨p1, hp1, rfl⟩ := q1
  have o := g1.own 1 p1 (.lst l) hp1 rfl
  obtain ⟨h0, xs, h4, h5⟩ := o
  have hA0 : A1[0]? = some p := by
    obtain ⟨t, rfl⟩ := st1.pre
    rfl
  have hn : H p1 = none := by
    rcases st1.new p1 (.inr (List.mem_of_getElem? hp1)) with z | z | z
    · exact (z (st1.le.back h0)).elim
    · simp at z
      subst z
      exact absurd (nd_ix g1.nd hA0 hp1) (by decide)
    · exact z
  have nA : p1 ∉ A := fun z => g.here p1 z hn
  have g4 : Good K S1 (A ++ [p1]) H1 (ob.set i c ++ [.lst l]) := by
    refine ⟨g2.ex, ?_, by rw [List.length_append, List.length_append, g2.len]; rfl, fun m a d e1 e2 => ?_, fun a ha => ?_⟩
    · rw [List.nodup_append]
      refine ⟨g.nd, by simp, fun a ha b hb => ?_⟩
      rw [List.mem_singleton] at hb
      subst hb
      rintro rfl
      exact nA ha
    · by_cases hi : m < A.length
      · rw [List.getElem?_append_left hi] at e1
        rw [List.getElem?_append_left (by rw [← g2.len]; exact hi)] at e2
        exact (g2.own m a d e1 e2).mono (Le.refl _) (List.prefix_append A [p1]) (fun z => z) fun _ _ z => z
      · rw [List.getElem?_append_right (by omega)] at e1
        rw [List.getElem?_append_right (by rw [← g2.len]; omega)] at e2
        have e : m - A.length = 0 := by
          have := (List.getElem?_eq_some_iff.mp e1).1
          simp at this
          exact this
        have e' : m - (ob.set i c).length = 0 := by rw [← g2.len]; exact e
        rw [e] at e1
        rw [e'] at e2
        simp at e1 e2
        subst e1 e2
        exact ⟨h0, xs, h4, h5⟩
    · rcases List.mem_append.mp ha with z | z
      · exact g2.here a z
      · rw [List.mem_singleton] at z
        subst z
        rw [h4]
        exact fun w => by cases w
  have st4 : Step S A H S1 (A ++ [p1]) H1 := ⟨st2.le, List.prefix_append A [p1], st2.keep, fun a z => by
    rcases z with z | z
    · exact st2.new a (.inl z)
    · rcases List.mem_append.mp z with z | z
      · exact .inr (.inl z)
      · rw [List.mem_singleton] at z
        subst z
        exact .inr (.inr hn)⟩
  exact en _ _ _ _ _ _ h2 g4 ⟨p1, by rw [show ob.length = A.length from g.len.symm, List.getElem?_append_right (Nat.le_refl _), Nat.sub_self]; rfl, rfl⟩ st4
theorem good_one {i : Nat} {p : Addr} {c : Ob} (g : Good K S A H ob) (hp : A[i]? = some p) (hc : ob[i]? = some c) (hf : flatO c = true) : Good K S [p] H [c] := by
  refine ⟨g.ex, by simp, rfl, fun m a d e1 e2 => ?_, fun a ha => ?_⟩
  · cases m with
    | zero =>
      simp at e1 e2
      subst e1 e2
      exact (g.own i p c hp hc).flat hf
    | succ m => simp at e1
  · simp at ha
    subst ha
    exact g.here a (List.mem_of_getElem? hp)
/-- f(.., x, ..), x the owned thing i -/
theorem we_callO (i : Nat) {st : Stmt} (F : Fn X.prog X.w X.K X.mg X.base x st j ps f) (ct : Ct X k) (hj : j ≤ k) (h : Wa X (e :: es) ob sl fun rs ob1 => ∃ rs' c, asOs i rs = some rs' ∧ ob1[i]? = some c ∧ flatO c = true ∧ f rs' [c] (retO i ob1 P)) (hg : Gl X x := by rfl) (hd : (x == ("__debug__" : Str)) = false := by decide)
    (hs : starEach (e :: es) X.env = (false, eval e X.env) :: starEach es X.env := by rfl) (hpp : (backTo pos (starEach es X.env)).any (·.1) = false := by rfl) : We X (.Call (.Name x p1) (e :: es) [] pos) ob sl P := fun S A H σ Q g rs en => by
  obtain ⟨ad, fd, h1, h2, h3, h4⟩ := F.ex
  refine wpE.of (pe_call h4 (ct.room.mono hj) hg h1 h2.kp h3 .nil pass0 pa_wp hd hs hpp) (h S A H σ _ g rs fun l ob1 vs S1 A1 H1 hh g1 q1 st1 => ?_)
  obtain ⟨rs', c, e1, hc, hf, hff⟩ := hh
  have hl : i < A1.length := by rw [g1.len]; exact (List.getElem?_eq_some_iff.mp hc).1
  have hp : A1[i]? = some A1[i] := List.getElem?_eq_getElem hl
  rw [List.append_nil]
  exact ⟨S1, [A1[i]], rs', [c], _, good_one g1 hp hc hf, relRs_asO hp e1 q1, hff, retO_end g1 hp hc (en.step st1)⟩

theorem we_callOL (i : Nat) {st : Stmt} (F : Fn X.prog X.w X.K X.mg X.base x st j ps f) (ct : Ct X k) (hj : j ≤ k) (h : Wa X (e :: es) ob sl fun rs ob1 => ∃ rs' c, asOs i rs = some rs' ∧ ob1[i]? = some c ∧ flatO c = true ∧ f rs' [c] (retOL i ob1 P)) (hg : Gl X x := by rfl) (hd : (x == ("__debug__" : Str)) = false := by decide)
    (hs : starEach (e :: es) X.env = (false, eval e X.env) :: starEach es X.env := by rfl) (hpp : (backTo pos (starEach es X.env)).any (·.1) = false := by rfl) : We X (.Call (.Name x p1) (e :: es) [] pos) ob sl P := fun S A H σ Q g rs en => by
  obtain ⟨ad, fd, h1, h2, h3, h4⟩ := F.ex
  refine wpE.of (pe_call h4 (ct.room.mono hj) hg h1 h2.kp h3 .nil pass0 pa_wp hd hs hpp) (h S A H σ _ g rs fun l ob1 vs S1 A1 H1 hh g1 q1 st1 => ?_)
  obtain ⟨rs', c, e1, hc, hf, hff⟩ := hh
  have hl : i < A1.length := by rw [g1.len]; exact (List.getElem?_eq_some_iff.mp hc).1
  have hp : A1[i]? = some A1[i] := List.getElem?_eq_getElem hl
  rw [List.append_nil]
  exact ⟨S1, [A1[i]], rs', [c], _, good_one g1 hp hc hf, relRs_asO hp e1 q1, hff, retOL_end g1 hp hc (en.step st1)⟩

/-! ### methods of lists, items stored -/
/-- l.append(e), l owned -/
theorem we_append {o : Expr} (h : We X o ob sl fun r ob1 => ∃ i l0, r = .p i ∧ ob1[i]? = some (.lst l0) ∧ We X e ob1 sl (dataP fun r2 ob2 => ∃ y l, r2 = .d y ∧ ob2[i]? = some (.lst l) ∧ l.length < sizeLine ∧ P (.d .non) (ob2.set i (.lst (l ++ [y])))))
    (hb : attributeBase o "append" X.env (eval o X.env) = eval o X.env := by rfl)
    (hfew : ((backTo pos (starEach [e] X.env)).all (fun x => !x.1) && (backToKw pos (keywordEach [] X.env)).all (fun x => x.1.isSome) && decide ([e].length + ([] : List Keyword).length + (if ([] : List Keyword).isEmpty then 0 else 1) < 30)) = true := by rfl)
    (hline : (apos.endLine == pos.line) = true := by rfl) (hs : starEach [e] X.env = (false, eval e X.env) :: starEach [] X.env := by rfl) : We X (.Call (.Attribute o "append" apos) [e] [] pos) ob sl P := fun S A H σ Q g rs en => by
  refine wpE.of (pe_bm PySem.F.plainAttrs_list PySem.F.slot_list_append PySem.F.type_list_append mt_append pe_wp (pa_cons pe_wp pa_nil hs) hb hfew hline hs rfl) (h S A H σ _ g rs fun r ob1 v S1 A1 H1 h1 g1 q1 st1 => ?_)
  obtain ⟨i, l0, rfl, e0, h1⟩ := h1
  obtain ⟨p, hp, rfl⟩ := q1
  obtain ⟨h0, xs0, hx0, _⟩ := g1.own i p _ hp e0
  refine ⟨.inl ⟨rfl, xs0, SqL.of hx0⟩, h1 S1 A1 H1 σ _ g1 (rs.step st1) (data_end fun r2 ob2 y S2 A2 H2 h2 g2 q2 st2 => ?_)⟩
  obtain ⟨d, l, rfl, e2, hz, hk⟩ := h2
  have hp2 : A2[i]? = some p := by
    obtain ⟨t, ht⟩ := st2.pre
    rw [← ht, List.getElem?_append_left (List.getElem?_eq_some_iff.mp hp).1]
    exact hp
  obtain ⟨s0, xs, hx, hr⟩ := g2.own i p _ hp2 e2
  refine ⟨p, xs, y, rfl, rfl, hx, by rw [hr.length]; exact hz, ?_⟩
  exact en _ _ _ _ _ _ hk (g2.mut hp2 s0 ⟨s0, _, upd_same, hr.append (Reps.one q2)⟩) rr_non ((st1.trans st2).trans (Step.mut (List.mem_of_getElem? hp2) s0))
/-- l.pop() -/
theorem we_pop {o : Expr} (h : We X o ob sl fun r ob1 => ∃ i l y, r = .p i ∧ ob1[i]? = some (.lst (l ++ [y])) ∧ P (.d y) (ob1.set i (.lst l))) (hb : attributeBase o "pop" X.env (eval o X.env) = eval o X.env := by rfl) (hline : (apos.endLine == pos.line) = true := by rfl) :
    We X (.Call (.Attribute o "pop" apos) [] [] pos) ob sl P := fun S A H σ Q g rs en => by
  refine wpE.of (pe_bm0 PySem.F.plainAttrs_list PySem.F.slot_list_pop PySem.F.type_list_pop mt_pop pe_wp hb hline) (h S A H σ _ g rs fun r ob1 v S1 A1 H1 h1 g1 q1 st1 => ?_)
  obtain ⟨i, l, y, rfl, e0, hk⟩ := h1
  obtain ⟨p, hp, rfl⟩ := q1
  obtain ⟨s0, xs, hx, hr⟩ := g1.own i p _ hp e0
  obtain ⟨z, hz, rz⟩ := hr.get' (i := l.length) (d := y) (by simp)
  refine ⟨.inl ⟨rfl, xs, SqL.of hx⟩, p, xs, z, rfl, rfl, hx, by rw [hr.length]; simpa using hz, ?_⟩
  have hd := hr.dropLast
  rw [List.dropLast_concat] at hd
  exact en _ _ _ _ _ _ hk (g1.mut hp s0 ⟨s0, _, upd_same, hd⟩) rz (st1.trans (Step.mut (List.mem_of_getElem? hp) s0))
/-- l.pop(n) -/
theorem we_popAt {o : Expr} (h : We X o ob sl fun r ob1 => ∃ i l0, r = .p i ∧ ob1[i]? = some (.lst l0) ∧ We X e ob1 sl fun r2 ob2 => ∃ n m l y, r2 = .d (.int n) ∧ ob2[i]? = some (.lst l) ∧ (-(2 ^ 63) ≤ n ∧ n < 2 ^ 63) ∧ seqIndex? n l.length = some m ∧ l[m]? = some y ∧ P (.d y) (ob2.set i (.lst (l.eraseIdx m))))
    (hb : attributeBase o "pop" X.env (eval o X.env) = eval o X.env := by rfl)
    (hfew : ((backTo pos (starEach [e] X.env)).all (fun x => !x.1) && (backToKw pos (keywordEach [] X.env)).all (fun x => x.1.isSome) && decide ([e].length + ([] : List Keyword).length + (if ([] : List Keyword).isEmpty then 0 else 1) < 30)) = true := by rfl)
    (hline : (apos.endLine == pos.line) = true := by rfl) (hs : starEach [e] X.env = (false, eval e X.env) :: starEach [] X.env := by rfl) : We X (.Call (.Attribute o "pop" apos) [e] [] pos) ob sl P := fun S A H σ Q g rs en => by
  refine wpE.of (pe_bm PySem.F.plainAttrs_list PySem.F.slot_list_pop PySem.F.type_list_pop mt_popAt pe_wp (pa_cons pe_wp pa_nil hs) hb hfew hline hs rfl) (h S A H σ _ g rs fun r ob1 v S1 A1 H1 h1 g1 q1 st1 => ?_)
  obtain ⟨i, l0, rfl, e0, h1⟩ := h1
  obtain ⟨p, hp, rfl⟩ := q1
  obtain ⟨h0, xs0, hx0, _⟩ := g1.own i p _ hp e0
  refine ⟨.inl ⟨rfl, xs0, SqL.of hx0⟩, h1 S1 A1 H1 σ _ g1 (rs.step st1) fun r2 ob2 y S2 A2 H2 h2 g2 q2 st2 => ?_⟩
  obtain ⟨n, m, l, d, rfl, e2, ⟨n1, n2⟩, hm, hl, hk⟩ := h2
  have hp2 : A2[i]? = some p := by
    obtain ⟨t, ht⟩ := st2.pre
    rw [← ht, List.getElem?_append_left (List.getElem?_eq_some_iff.mp hp).1]
    exact hp
  obtain ⟨s0, xs, hx, hr⟩ := g2.own i p _ hp2 e2
  obtain ⟨z, hz, rz⟩ := hr.get' hl
  refine ⟨p, xs, n, m, z, rfl, by rw [q2.int], hx, n1, n2, by rw [hr.length]; exact hm, hz, ?_⟩
  exact en _ _ _ _ _ _ hk (g2.mut hp2 s0 ⟨s0, _, upd_same, hr.eraseIdx m⟩) rz ((st1.trans st2).trans (Step.mut (List.mem_of_getElem? hp2) s0))
/-- l[n] = e -/
theorem ws_setIx {o n : Expr} {tpos : Pos} (h : We X e ob sl (dataP fun r ob1 => ∃ y, r = .d y ∧ We X o ob1 sl fun r1 ob2 => ∃ i, r1 = .p i ∧ We X n ob2 sl fun r2 ob3 => ∃ m q l, r2 = .d (.int m) ∧ ob3[i]? = some (.lst l) ∧ ixN l.length m = some q ∧ D.nx (ob3.set i (.lst (l.set q y))) sl))
    (ha : ∀ v, assign (.Subscript o n tpos) X.env v = (do
      let ov ← holding [v] (eval o X.env)
      let iv ← holding [v, ov] (eval n X.env)
      standAt tpos
      holding [v, ov, iv] (setItem ov iv v)
      release [v, ov, iv] []) := by intro _; rfl) (hs : swapsWithSole [.Subscript o n tpos] e pos.line X.env = pure false := by rfl) (hw : swappedStores [.Subscript o n tpos] e X.env = pure none := by rfl)
    (h1 : (assignEach [.Subscript o n tpos] X.env).map (·.2) = [assign (.Subscript o n tpos) X.env] := by rfl) : Ws X (.Assign [.Subscript o n tpos] e pos) ob sl D := fun S A H σ D' g rs en => by
  refine wpS.of (ps_asg pe_wp (pg_sub pe_wp pe_wp set_list ha) hs hw h1) (h S A H σ _ g rs (data_end fun r ob1 v S1 A1 H1 h1 g1 q1 st1 => ?_))
  obtain ⟨y, rfl, h1⟩ := h1
  refine h1 S1 A1 H1 σ _ g1 (rs.step st1) fun r1 ob2 u S2 A2 H2 h2 g2 q2 st2 => ?_
  obtain ⟨i, rfl, h2⟩ := h2
  refine h2 S2 A2 H2 σ _ g2 (rs.step (st1.trans st2)) fun r2 ob3 z S3 A3 H3 h3 g3 q3 st3 => ?_
  obtain ⟨m, q, l, rfl, e3, hq, hk⟩ := h3
  obtain ⟨p, hp, rfl⟩ := q2.step st3
  obtain ⟨s0, xs, hx, hr⟩ := g3.own i p _ hp e3
  have st := (st1.trans st2).trans st3
  refine ⟨p, xs, m, q, rfl, q3.int, hx, by rw [hr.length]; exact hq, ?_⟩
  have q1' : Rep S3 y v := (Rep.mono st2.le q1).mono st3.le
  exact en.nx _ _ _ _ _ _ hk (g3.mut hp s0 ⟨s0, _, upd_same, hr.set q1' q⟩) ((rs.step st).mono' (Le.refl _)) (st.trans (Step.mut (List.mem_of_getElem? hp) s0))
/-- name += e, ints -/
theorem ws_augI {op : Operator} {fi : Int → Int → Int} (i : Nat) (hop : PIp X op (ipI fi)) {u : Int} (nd : X.N.Nodup) (hsl : sl[i]? = some (some (.d (.int u)))) (h : We X e ob sl fun r ob1 => ∃ m, r = .d (.int m) ∧ D.nx ob1 (sl.set i (some (.d (.int (fi u m)))))) (hN : X.N[i]? = some x := by rfl) (hx : Loc X.env.scope x := by first | exact Or.inl rfl | exact Or.inr rfl)
    (hf : X.fn x = true ∨ X.env.scope.names.lookup x = some .local := by first | exact .inl rfl | exact .inr rfl) : Ws X (.AugAssign (.Name x p1) op e pos) ob sl D := fun S A H σ D' g rs en => by
  obtain ⟨v, e1, e2⟩ := rs.get i _ hsl
  refine wpS.of (ps_aug nd hN hx pe_wp hop hf) ⟨v, e1, h S A H σ _ g rs fun r ob1 y S1 A1 H1 h1 g1 q1 st1 => ?_⟩
  obtain ⟨m, rfl, h1⟩ := h1
  exact ⟨u, m, e2.int, q1.int, en.nx _ _ _ _ _ _ h1 g1 ((rs.step st1).set rr_int) st1⟩
end
end DL

namespace DL
open PySem L2
section
variable {P : Program} {w : World} {K : PySem.W.Frag} {mg : Str → Option Value} {base : Heap}
/-- a def of the text stands at a global name -/
structure Def (K : PySem.W.Frag) (mg : Str → Option Value) (x : Str) (st : Stmt) : Prop where
  ex : ∃ a fd, mg x = some (.ref a) ∧ Fun K x x st a fd
/-- how its arguments bind, no defaults -/
def BindsBy (x : Str) (st : Stmt) (ps : List Str) : Prop := ∀ (kV doc pm : Value) (an : Option Addr) (cdv ct : Value) (us : List Value), us.length = ps.length → bindArgs (PySem.W.fnOf x x (defArgs st) (defBody st) (defScope st) .none kV doc pm an cdv ct) ⟨us, []⟩ = pure (ps.zip us)
theorem Def.fn {x : Str} {st : Stmt} {N ps : List Str} {k : Nat} {f : FS} (d : Def K mg x st) (sc : FnScope N ps (defScope st)) (hb : BindsBy x st ps) (len : ∀ rs ob P, f rs ob P → rs.length = ps.length)
    (body : ∀ (a : Addr) (cdv : Value) (A : Around) (outer : List Env) (s : Shared) (H : Hp) (E : XK), Ct (cxOf CX0 P w K mg base N x (defScope st) a cdv A outer s H E).nox k → ∀ rs ob Po, f rs ob Po →
      Wss (cxOf CX0 P w K mg base N x (defScope st) a cdv A outer s H E).nox (defBody st) ob (rs.map some ++ List.replicate (N.length - rs.length) none) { nx := fun ob1 _ => Po (.d .non) ob1, rt := Po }) : Fn P w K mg base x st (k + 1) ps f := by
  obtain ⟨a, fd, hm, F⟩ := d.ex
  exact ⟨a, fd, hm, F, F.binds fun kV doc pm an cdv ct us hl => hb kV doc pm an cdv ct us hl, Fun.data F sc len fun cdv A outer s H E ct => body a cdv A outer s H E ct⟩
end
end DL

/-! DL: instances of own classes: fields, methods, making, in. -/
namespace DL
open PySem L2
section
variable {X : Cx} {e a b c o : Expr} {es : List Expr} {pos p1 p2 apos : Pos} {ob : Obs} {sl : Sls} {P : Post} {D : Out} {K : PySem.W.Frag} {S S' H H' : Hp} {A A' : List Addr} {Q : VK} {k j : Nat} {x : Str} {ps : List Str} {f : FS} {r : R} {v : V}
/-- an instance: its class, its fields -/
def insOf (ob : Obs) : R → Option (Addr × List (Str × R))
  | .d (.ins C fs) => some (C, fs.map fun p => (p.1, .d p.2))
  | .d _ => none
  | .p k => match ob[k]? with
    | some (.ins C fs) => some (C, fs)
    | some (.frz (.ins C fs)) => some (C, fs.map fun p => (p.1, .d p.2))
    | _ => none
theorem relF_d : ∀ {fs : List (Str × Dt)} {xs : List (Str × V)}, RepF S fs xs → RelF S A (fs.map fun p => (p.1, R.d p.2)) xs
  | [], _, h => by simp only [RepF] at h; simp only [List.map_nil, RelF]; exact h
  | (n, d) :: fs, _, h => by
    simp only [RepF] at h
    obtain ⟨y, t, h1, h2, h3⟩ := h
    simp only [List.map_cons, RelF]
    exact ⟨y, t, h1, h2, relF_d h3⟩
theorem insOf_rel {C : Addr} {fs : List (Str × R)} (h : insOf ob r = some (C, fs)) (g : Good K S A H ob) (q : RelR S A r v) : ∃ p dx xs, v = .ref p ∧ H p = some (.ins C dx xs) ∧ RelF S A fs xs := by
  have key : ∀ x v, Rep S x v → insOf ob (.d x) = some (C, fs) → ∃ p dx xs, v = .ref p ∧ H p = some (.ins C dx xs) ∧ RelF S A fs xs := fun x v q h => by
    cases x with
    | ins C' fs' =>
      have e : (C', fs'.map fun p => (p.1, R.d p.2)) = (C, fs) := Option.some.inj h
      cases e
      obtain ⟨p, dx, xs, rfl, h2, h3⟩ := rep_ins.mp q
      exact ⟨p, dx, xs, rfl, g.ex.at h2 rfl, relF_d h3⟩
    | _ => cases h
  cases r with
  | d x => exact key x v q h
  | p i =>
    obtain ⟨p, h1, rfl⟩ := q
    unfold insOf at h
    cases e : ob[i]? with
    | none => simp only [e] at h; cases h
    | some c =>
      simp only [e] at h
      have o := g.own i p c h1 e
      cases c with
      | ins C' fs' =>
        cases h
        obtain ⟨_, dx, xs, h2, h3⟩ := o
        exact ⟨p, dx, xs, rfl, h2, h3⟩
      | frz x =>
        refine key x (.ref p) o ?_
        cases x <;> first | exact h | cases h
      | _ => cases h
theorem relF_lookup {n : Str} {r : R} : ∀ {fs : List (Str × R)} {xs : List (Str × V)}, RelF S A fs xs → fs.lookup n = some r → ∃ y, xs.lookup n = some y ∧ RelR S A r y
  | [], _, _, e => by cases e
  | (m, d) :: fs, _, h, e => by
    simp only [RelF] at h
    obtain ⟨y, t, rfl, h2, h3⟩ := h
    rw [List.lookup_cons] at e ⊢
    cases q : n == m with
    | true => rw [q] at e; cases e; exact ⟨y, rfl, h2⟩
    | false => rw [q] at e; exact relF_lookup h3 e
theorem relF_lookup_none {n : Str} : ∀ {fs : List (Str × R)} {xs : List (Str × V)}, RelF S A fs xs → fs.lookup n = none → xs.lookup n = none
  | [], _, h, e => by simp only [RelF] at h; rw [h]; rfl
  | (m, d) :: fs, _, h, e => by
    simp only [RelF] at h
    obtain ⟨y, t, rfl, h2, h3⟩ := h
    rw [List.lookup_cons] at e ⊢
    cases q : n == m with
    | true => rw [q] at e; cases e
    | false => rw [q] at e; exact relF_lookup_none h3 e
theorem relF_length : ∀ {fs : List (Str × R)} {xs : List (Str × V)}, RelF S A fs xs → xs.length = fs.length
  | [], _, h => by simp only [RelF] at h; rw [h]; rfl
  | (m, d) :: fs, _, h => by
    simp only [RelF] at h
    obtain ⟨y, t, rfl, h2, h3⟩ := h
    rw [List.length_cons, List.length_cons, relF_length h3]
def putR (n : Str) (r : R) : List (Str × R) → List (Str × R)
  | [] => [(n, r)]
  | (g, u) :: fs => if g = n then (n, r) :: fs else (g, u) :: putR n r fs
theorem relF_put {n : Str} {r : R} {y : V} (q : RelR S A r y) : ∀ {fs : List (Str × R)} {xs : List (Str × V)}, RelF S A fs xs → RelF S A (putR n r fs) (putF n y xs)
  | [], _, h => by
    simp only [RelF] at h
    subst h
    simp only [putR, putF, RelF]
    exact ⟨y, [], rfl, q, rfl⟩
  | (m, d) :: fs, _, h => by
    simp only [RelF] at h
    obtain ⟨z, t, rfl, h2, h3⟩ := h
    by_cases e : m = n
    · subst e
      simp only [putR, putF, if_pos, RelF]
      exact ⟨y, t, rfl, q, h3⟩
    · simp only [putR, putF, if_neg e, RelF]
      exact ⟨z, _, rfl, h2, relF_put q h3⟩
/-- o.n -/
theorem we_fld {n : Str} {C : Addr} (cl : Cls X.K C) (na : NoAttr X.K C n) (h : We X o ob sl fun r ob1 => ∃ fs r', insOf ob1 r = some (C, fs) ∧ fs.lookup n = some r' ∧ P r' ob1) (hb : attributeBase o n X.env (eval o X.env) = eval o X.env := by rfl) : We X (.Attribute o n pos) ob sl P := fun S A H σ Q g rs en => by
  refine wpE.of (pe_fld pe_wp hb) (h S A H σ _ g rs fun r ob1 v S1 A1 H1 h1 g1 q1 st1 => ?_)
  obtain ⟨fs, r', hi, hl, hk⟩ := h1
  obtain ⟨p, dx, xs, rfl, h2, h3⟩ := insOf_rel hi g1 q1
  obtain ⟨y, e, q⟩ := relF_lookup h3 hl
  exact ⟨p, C, dx, xs, y, rfl, h2, cl, na, e, en _ _ _ _ _ _ hk g1 q st1⟩
/-- o.n = e, o owned -/
theorem fld_set {n : Str} {C p dx : Addr} {i : Nat} {fs : List (Str × R)} {xs : List (Str × V)} {r : R} {y : V} (g : Good K S A H ob) (hp : A[i]? = some p) (e : ob[i]? = some (.ins C fs)) (s0 : S p = none) (h3 : RelF S A fs xs) (q : RelR S A r y) :
    Good K S A (upd H p (.ins C dx (putF n y xs))) (ob.set i (.ins C (putR n r fs))) := g.mut hp s0 ⟨s0, dx, _, upd_same, relF_put q h3⟩
theorem ws_fld {n : Str} {C : Addr} (cl : Cls X.K C) (na : NoAttr X.K C n) (h : We X e ob sl fun r ob1 => We X o ob1 sl fun r1 ob2 => ∃ i fs, r1 = .p i ∧ ob2[i]? = some (.ins C fs) ∧ fs.length < 1000 ∧ D.nx (ob2.set i (.ins C (putR n r fs))) sl)
    (hs : swapsWith e (some (.Attribute o n p1)) pos.line X.env = pure false := by rfl) : Ws X (.Assign [.Attribute o n p1] e pos) ob sl D := fun S A H σ D' g rs en => by
  refine wpS.of (ps_fld pe_wp pe_wp hs) (h S A H σ _ g rs fun r ob1 v S1 A1 H1 h1 g1 q1 st1 => h1 S1 A1 H1 σ _ g1 (rs.step st1) fun r1 ob2 u S2 A2 H2 h2 g2 q2 st2 => ?_)
  obtain ⟨i, fs, rfl, e2, hz, hk⟩ := h2
  obtain ⟨p, hp, rfl⟩ := q2
  obtain ⟨s0, dx, xs, hx, hr⟩ := g2.own i p _ hp e2
  refine ⟨p, C, dx, xs, rfl, hx, cl, na, by rw [relF_length hr]; exact hz, ?_⟩
  have sm := Step.mut (H := H2) (o := .ins C dx (putF n v xs)) (List.mem_of_getElem? hp) s0
  exact en.nx _ _ _ _ _ _ hk (fld_set g2 hp e2 s0 hr (q1.step st2)) (rs.step ((st1.trans st2).trans sm)) ((st1.trans st2).trans sm)

/-! ### methods -/
/-- a method of the class at C keeps such a promise (the instance first) -/
structure Mt (P : Program) (w : World) (K : PySem.W.Frag) (mg : Str → Option Value) (base : Heap) (C : Addr) (m : Str) (k : Nat) (ps : List Str) (f : FS) : Prop where
  ex : ∃ a fd, Meth K C m a ∧ Binds K fd ps [] ∧ FnOk P w K mg base CX0 k a fd ps (spOf K f)
theorem relF_rep : ∀ {fs : List (Str × Dt)} {xs : List (Str × V)}, RelF S A (fs.map fun p => (p.1, R.d p.2)) xs → RepF S fs xs
  | [], _, h => by simp only [List.map_nil, RelF] at h; simp only [RepF]; exact h
  | (n, d) :: fs, _, h => by
    simp only [List.map_cons, RelF] at h
    obtain ⟨y, t, h1, h2, h3⟩ := h
    simp only [RepF]
    exact ⟨y, t, h1, h2, relF_rep h3⟩
/-- o.m() of an instance that is data -/
theorem we_meth0 (own : Bool) {m : Str} {C : Addr} {pl : Sem Bool} (cl : Cls X.K C) (F : Mt X.prog X.w X.K X.mg X.base C m j ps f) (ct : Ct X k) (hj : j ≤ k) (h : We X o ob sl fun r ob1 => ∃ fs : List (Str × Dt), r = .d (.ins C fs) ∧ (fs.map fun p => (p.1, R.d p.2)).lookup m = none ∧ f [.d (.ins C fs)] [] (retP own ob1 P))
    (ht : eval (.Call (.Attribute o m apos) [] [] pos) X.env = (do
      let ov ← eval o X.env
      standAt apos.atName
      let (f, first) ← holding [ov] (getMethod ov m pl)
      callWith pos f first (backTo pos (starEach [] X.env)) (backToKw pos (keywordEach [] X.env))) := by rfl) : We X (.Call (.Attribute o m apos) [] [] pos) ob sl P := fun S A H σ Q g rs en => by
  obtain ⟨ad, fd, h1, h2, h3⟩ := F.ex
  refine wpE.of (pe_meth0 (pl := pl) pe_wp cl h1 h3 (ct.room.mono hj) h2 .nil pass0 ht) (h S A H σ _ g rs fun r ob1 v S1 A1 H1 hh g1 q1 st1 => ?_)
  obtain ⟨fs, rfl, hn, hf⟩ := hh
  obtain ⟨p, dx, xs, rfl, e1, e2⟩ := rep_ins.mp q1
  refine ⟨p, dx, xs, rfl, g1.ex.at e1 rfl, relF_lookup_none (relF_d (A := []) e2) hn, ?_⟩
  exact ⟨S1, [], [.d (.ins C fs)], [], _, good_none g1.ex, relRs_cons.mpr ⟨_, _, rfl, q1, relRs_nil.mpr rfl⟩, hf, retP_end g1 (en.step st1)⟩
/-- o.m(..) of an instance that is data -/
theorem we_meth (own : Bool) {m : Str} {C : Addr} {pl : Sem Bool} (cl : Cls X.K C) (F : Mt X.prog X.w X.K X.mg X.base C m j ps f) (ct : Ct X k) (hj : j ≤ k) (h : We X o ob sl fun r ob1 => ∃ fs : List (Str × Dt), r = .d (.ins C fs) ∧ (fs.map fun p => (p.1, R.d p.2)).lookup m = none ∧ Wa X (e :: es) ob1 sl fun rs ob2 => ∃ ds : List Dt, rs = ds.map R.d ∧ f (.d (.ins C fs) :: ds.map R.d) [] (retP own ob2 P))
    (hst : starEach (e :: es) X.env = (false, eval e X.env) :: starEach es X.env := by rfl) (hpl : (backTo pos (starEach es X.env)).any (·.1) = false := by rfl)
    (ht : eval (.Call (.Attribute o m apos) (e :: es) [] pos) X.env = (do
      let ov ← eval o X.env
      standAt apos.atName
      let (f, first) ← holding [ov] (getMethod ov m pl)
      callWith pos f first (backTo pos (starEach (e :: es) X.env)) (backToKw pos (keywordEach [] X.env))) := by rfl) : We X (.Call (.Attribute o m apos) (e :: es) [] pos) ob sl P := fun S A H σ Q g rs en => by
  obtain ⟨ad, fd, h1, h2, h3⟩ := F.ex
  refine wpE.of (pe_meth (pl := pl) pe_wp cl h1 h3 (ct.room.mono hj) h2 .nil pass0 pa_wp hst hpl ht) (h S A H σ _ g rs fun r ob1 v S1 A1 H1 hh g1 q1 st1 => ?_)
  obtain ⟨fs, rfl, hn, hw⟩ := hh
  obtain ⟨p, dx, xs, rfl, e1, e2⟩ := rep_ins.mp q1
  refine ⟨p, dx, xs, rfl, g1.ex.at e1 rfl, relF_lookup_none (relF_d (A := []) e2) hn, hw S1 A1 H1 σ _ g1 (rs.step st1) fun l ob2 vs S2 A2 H2 hh g2 q2 st2 => ?_⟩
  obtain ⟨ds, rfl, hf⟩ := hh
  rw [List.append_nil]
  exact ⟨S2, [], .d (.ins C fs) :: ds.map R.d, [], _, good_none g2.ex, relRs_cons.mpr ⟨_, _, rfl, (show Rep S2 _ _ from Rep.mono st2.le q1), relRs_d.mpr (relRs_d.mp q2)⟩, hf, retP_end g2 (en.step (st1.trans st2))⟩

/-! ### making -/
/-- a class at a global name, its __init__'s promise (the new instance first), the defaults that fill up -/
structure Maker (P : Program) (w : World) (K : PySem.W.Frag) (mg : Str → Option Value) (base : Heap) (x : Str) (C : Addr) (k : Nat) (ps : List Str) (dd : List Dt) (f : FS) : Prop where
  ex : ∃ a fd ds dvs, mg x = some (.ref C) ∧ L2.Mk K C a ∧ Binds K fd ps ds ∧ Vals dvs ds ∧ (∀ S, Reps S dd dvs) ∧ FnOk P w K mg base CX0 k a fd ps (spOf K f)
def mkP (own : Bool) (C : Addr) (ob : Obs) (P : Post) : Post := fun r ob0 => r = .d .non ∧ match own with
  | true => ∃ fs more, ob0 = .ins C fs :: more ∧ flatO (.ins C fs) = true ∧ P (.p ob.length) (ob ++ [.ins C fs])
  | false => ∃ (fs : List (Str × Dt)) (more : Obs), ob0 = .ins C (fs.map fun p => (p.1, R.d p.2)) :: more ∧ P (.d (.ins C fs)) ob
theorem we_make (own : Bool) {C : Addr} {dd : List Dt} (F : Maker X.prog X.w X.K X.mg X.base x C j ps dd f) (ct : Ct X k) (hj : j + 1 ≤ k) (h : Wa X (e :: es) ob sl fun rs ob1 => ∃ ds : List Dt, rs = ds.map R.d ∧ f (.p 0 :: (ds ++ dd).map R.d) [.ins C []] (mkP own C ob1 P)) (hg : Gl X x := by rfl) (hd : (x == ("__debug__" : Str)) = false := by decide)
    (hs : starEach (e :: es) X.env = (false, eval e X.env) :: starEach es X.env := by rfl) (hp : (backTo pos (starEach es X.env)).any (·.1) = false := by rfl) : We X (.Call (.Name x p1) (e :: es) [] pos) ob sl P := fun S A H σ Q g rs en => by
  obtain ⟨ad, fd, dsv, dvs, h1, h2, h3, h4, h5, h6⟩ := F.ex
  refine wpE.of (pe_make h2 h6 (ct.room.mono hj) hg h1 h3 h4 pass0 pa_wp hd hs hp) (h S A H σ _ g rs fun l ob1 vs S1 A1 H1 hh g1 q1 st1 y dx hy hdx hne => ?_)
  obtain ⟨ds, rfl, hf⟩ := hh
  have sy : S1 y = none := g1.ex.fresh hy
  have at2 : ∀ a o, H1 a = some o → upd (upd H1 dx (.own y)) y (.ins C dx []) a = some o := fun a o q => by
    rw [upd_ne (ne_of_none q hy), upd_ne (ne_of_none q hdx)]
    exact q
  have none2 : ∀ a, upd (upd H1 dx (.own y)) y (.ins C dx []) a = none → H1 a = none := fun a q => by
    cases z : H1 a with
    | none => rfl
    | some o => rw [at2 a o z] at q; cases q
  have g2 : Good X.K S1 [y] (upd (upd H1 dx (.own y)) y (.ins C dx [])) [.ins C []] := by
    refine ⟨fun a o q => ?_, by simp, rfl, fun m a c e1 e2 => ?_, fun a ha => ?_⟩
    · rcases g1.ex a o q with z | ⟨z, u, w⟩
      · exact .inl (at2 a o z)
      · exact .inr ⟨z, u, at2 a _ w⟩
    · cases m with
      | zero =>
        simp at e1 e2
        subst e1 e2
        exact ⟨sy, dx, [], upd_same, by simp only [RelF]⟩
      | succ m => simp at e1
    · simp at ha
      subst ha
      rw [upd_same]
      exact fun w => by cases w
  have q2 : RelRs S1 [y] (.p 0 :: (ds ++ dd).map R.d) (.ref y :: (vs ++ dvs)) := by
    refine relRs_cons.mpr ⟨_, _, rfl, ⟨y, rfl, rfl⟩, relRs_d.mpr ((relRs_d.mp q1).append (h5 S1))⟩
  refine ⟨S1, [y], _, _, _, g2, q2, hf, fun r ob3 v S3 A3 H3 h3 g3 q3 st3 => ?_⟩
  obtain ⟨rfl, h3⟩ := h3
  refine ⟨q3.non, ?_⟩
  have kp : ∀ a o, H1 a = some o → H3 a = some o := fun a o q => st3.keep a o (at2 a o q) (.inl (by simp; exact ne_of_none q hy))
  have nw : ∀ a, S3 a ≠ none → S1 a ≠ none ∨ H1 a = none := fun a z => by
    rcases st3.new a (.inl z) with w | w | w
    · exact .inl w
    · simp at w; subst w; exact .inr hy
    · exact .inr (none2 a w)
  have hA : A3[0]? = some y := by
    obtain ⟨t, ht⟩ := st3.pre
    rw [← ht]
    rfl
  cases own with
  | false =>
    obtain ⟨fs, more, rfl, hk⟩ := h3
    obtain ⟨s3, dx3, xs, e3, r3⟩ := g3.own 0 y _ hA rfl
    have ry : Rep (upd S3 y (.ins C dx3 xs)) (.ins C fs) (.ref y) := rep_ins.mpr ⟨y, dx3, xs, rfl, upd_same, RepF.mono (Le.new s3) (relF_rep r3)⟩
    have ex4 : Ex (upd S3 y (.ins C dx3 xs)) H3 := fun a o q => by
      by_cases na : a = y
      · subst na
        rw [upd_same] at q
        cases q
        exact .inl e3
      · rw [upd_ne na] at q
        exact g3.ex a o q
    have le4 : Le S1 (upd S3 y (.ins C dx3 xs)) := st3.le.trans (Le.new s3)
    have nw4 : ∀ a, upd S3 y (.ins C dx3 xs) a ≠ none → S1 a ≠ none ∨ H1 a = none := fun a z => by
      by_cases na : a = y
      · subst na
        exact .inr hy
      · rw [upd_ne na] at z
        exact nw a z
    exact en _ _ _ _ _ _ hk (g1.ext ex4 le4 kp nw4) ry (st1.trans (Step.ext le4 kp nw4))
  | true =>
    obtain ⟨fs, more, rfl, hfl, hk⟩ := h3
    have o3 := g3.own 0 y _ hA rfl
    obtain ⟨s3, dx3, xs, e3, r3⟩ := id o3
    have g4 : Good X.K S3 A1 H3 ob1 := g1.ext g3.ex st3.le kp nw
    have nA : y ∉ A1 := fun z => g1.here y z hy
    have g5 : Good X.K S3 (A1 ++ [y]) H3 (ob1 ++ [.ins C fs]) := by
      refine ⟨g3.ex, ?_, by rw [List.length_append, List.length_append, g1.len]; rfl, fun i a c e1 e2 => ?_, fun a ha => ?_⟩
      · rw [List.nodup_append]
        refine ⟨g1.nd, by simp, fun a ha b hb => ?_⟩
        rw [List.mem_singleton] at hb
        subst hb
        rintro rfl
        exact nA ha
      · by_cases hi : i < A1.length
        · rw [List.getElem?_append_left hi] at e1
          rw [List.getElem?_append_left (by rw [← g1.len]; exact hi)] at e2
          exact (g4.own i a c e1 e2).mono (Le.refl _) (List.prefix_append A1 [y]) (fun z => z) fun _ _ z => z
        · rw [List.getElem?_append_right (by omega)] at e1
          rw [List.getElem?_append_right (by rw [← g1.len]; omega)] at e2
          have e : i - A1.length = 0 := by
            have := (List.getElem?_eq_some_iff.mp e1).1
            simp at this
            exact this
          have e' : i - ob1.length = 0 := by rw [← g1.len]; exact e
          rw [e] at e1
          rw [e'] at e2
          simp at e1 e2
          subst e1 e2
          exact o3.flat hfl
      · rcases List.mem_append.mp ha with z | z
        · exact g4.here a z
        · rw [List.mem_singleton] at z
          subst z
          rw [e3]
          exact fun w => by cases w
    have st5 : Step S1 A1 H1 S3 (A1 ++ [y]) H3 := ⟨st3.le, List.prefix_append A1 [y], fun a o q _ => kp a o q, fun a z => by
      rcases z with z | z
      · rcases nw a z with w | w
        · exact .inl w
        · exact .inr (.inr w)
      · rcases List.mem_append.mp z with z | z
        · exact .inr (.inl z)
        · rw [List.mem_singleton] at z
          subst z
          exact .inr (.inr hy)⟩
    exact en _ _ _ _ _ _ hk g5 ⟨y, g1.at_len, rfl⟩ (st1.trans st5)

/-! ### in, of an own __contains__ -/
theorem contains_own {M : Model} {A : Around} {E : Value → Shared → Prop} {s : Shared} {K : PySem.W.Frag} {x C f : Addr} {ox : Obj} {od : Option Obj} {y : Value} {Q : Bool → Shared → Prop} (X : K.In s.heap) (I : PySem.W.InstAt s.heap x ox C od)
    (hs : PySem.W.findIn K (.ref C) "__contains__" = some (some (.ref f))) (hf : PySem.W.isFn K (.ref f) = true) (h : wpAny M A (call (.ref f) [.ref x, y]) (fun v s' => wpAny M A (truthy v) Q E s') E s) : wpAny M A (contains (.ref x) y) Q E s := by
  unfold contains
  refine wpAny_holding ?_
  show wpAny M A (do
    if (← specialOf (.ref x) "__contains__") == some .none then
      rule "in.none"; raiseError "TypeError" s!"'{← typeNameOf (.ref x)}' object is not a container"
    _) Q E s
  refine wpAny_bind (wpAny_bind (I.type.here ((PySem.W.looks_findIn X hs).here ?_)))
  show wpAny M A (if (some (Value.ref f) == some Value.none) = true then _ else _) Q E s
  rw [if_neg (by simp)]
  refine wpAny_bind ?_
  unfold callSpecialUnlessNone?
  refine wpAny_bind (wpAny_bind (I.type.here ((PySem.W.looks_findIn X hs).here ?_)))
  refine wpAny_holding (wpAny_bind ((PySem.W.bind_fn X _ (beq_iff_eq.mp hf)).here ?_))
  show wpAny M A (if (Value.ref f == Value.none) = true then _ else _) _ E s
  rw [if_neg (by simp)]
  exact wpAny_bind (wpAny_mono h (fun v s' h' => wpAny_pure h') fun _ _ z => z)
def rInO (C : Addr) (sp : Sp) : R2 := fun x y H Q => ∃ a dx fs, y = .ref a ∧ H a = some (.ins C dx fs) ∧ sp [.ref a, x] H (fun v H' => ∃ b, v = .bl b ∧ Q (.bl b) H') E0
theorem op_inO {C fa : Addr} {fd : FuncData} {sp : Sp} (F : FnOk X.prog X.w X.K X.mg X.base CX0 j fa fd ps sp) (hs : PySem.W.findIn X.K (.ref C) "__contains__" = some (some (.ref fa))) (hf : PySem.W.isFn X.K (.ref fa) = true) (hb : Binds X.K fd ps []) (hr : Room j X.A) : OpR X (compareOp .In) (rInO C sp) := by
  intro pins s σ H x y v u Q I rx ry h
  obtain ⟨a, dx, fs, rfl, ha, h⟩ := h
  cases ry
  obtain ⟨mA, O, _⟩ := ins_get I.hok ha
  obtain ⟨od, J, _⟩ := O.look
  show wpAny (model X.prog X.w) X.A (do return Value.bool (← contains (Value.ref a) v)) (EP X pins σ Q) X.xe s
  refine wpAny_bind (contains_own I.kIn J hs hf (thn (run_fn (us := [.ref a, v]) (vs := [.ref a, x]) F hr hb .nil pass0 I (.cons rfl (.cons rx .nil)) h) fun z s' ⟨w', H', I', rz, b, e, q⟩ => ?_))
  subst e
  cases rz
  exact wpAny_truthy_bool (wpAny_pure ⟨.bl b, H', I', rfl, q⟩)
/-- a in b, b an instance that is data -/
theorem we_inO {C : Addr} (F : Mt X.prog X.w X.K X.mg X.base C "__contains__" j ps f) (ct : Ct X k) (hj : j ≤ k) (h : We X a ob sl fun r1 ob1 => We X b ob1 sl fun r2 ob2 => ∃ (x : Dt) (fs : List (Str × Dt)), r1 = .d x ∧ r2 = .d (.ins C fs) ∧ f [.d (.ins C fs), .d x] [] (fun r _ => ∃ c, r = .d (.bl c) ∧ P (.d (.bl c)) ob2))
    (hm : behindInMarks .In b = false := by rfl) : We X (.Compare a [.In] [b] pos) ob sl P := by
  obtain ⟨ad, fd, h1, h2, h3⟩ := F.ex
  refine we_cmp (op_inO h3 h1.at_ h1.fn h2 (ct.room.mono hj)) hm (h.mono fun r1 ob1 hh => hh.mono fun r2 ob2 hh S A H x y Q g q1 q2 en => ?_)
  obtain ⟨d, fs, rfl, rfl, hf⟩ := hh
  obtain ⟨p, dx, xs, rfl, e1, e2⟩ := rep_ins.mp q2
  refine ⟨p, dx, xs, rfl, g.ex.at e1 rfl, S, [], [.d (.ins C fs), .d d], [], _, good_none g.ex, relRs_cons.mpr ⟨_, _, rfl, (show Rep S _ _ from q2), relRs_cons.mpr ⟨_, _, rfl, (show Rep S _ _ from q1), relRs_nil.mpr rfl⟩⟩, hf, fun r ob0 v S1 A1 H1 hc g1 qv st1 => ?_⟩
  obtain ⟨c, rfl, hk⟩ := hc
  obtain ⟨g3, st3⟩ := g.pass st1 g1
  exact ⟨c, qv.bl, en _ _ _ _ _ _ hk g3 rr_bl st3⟩
theorem wt_inO {C : Addr} {B : Bool → Obs → Prop} (F : Mt X.prog X.w X.K X.mg X.base C "__contains__" j ps f) (ct : Ct X k) (hj : j ≤ k) (h : We X a ob sl fun r1 ob1 => We X b ob1 sl fun r2 ob2 => ∃ (x : Dt) (fs : List (Str × Dt)), r1 = .d x ∧ r2 = .d (.ins C fs) ∧ f [.d (.ins C fs), .d x] [] (fun r _ => ∃ c, r = .d (.bl c) ∧ B c ob2))
    (hm : behindInMarks .In b = false := by rfl) : Wt X (.Compare a [.In] [b] pos) ob sl B := by
  obtain ⟨ad, fd, h1, h2, h3⟩ := F.ex
  refine wt_cmp (op_inO h3 h1.at_ h1.fn h2 (ct.room.mono hj)) hm (h.mono fun r1 ob1 hh => hh.mono fun r2 ob2 hh S A H x y Q g q1 q2 en => ?_)
  obtain ⟨d, fs, rfl, rfl, hf⟩ := hh
  obtain ⟨p, dx, xs, rfl, e1, e2⟩ := rep_ins.mp q2
  refine ⟨p, dx, xs, rfl, g.ex.at e1 rfl, S, [], [.d (.ins C fs), .d d], [], _, good_none g.ex, relRs_cons.mpr ⟨_, _, rfl, (show Rep S _ _ from q2), relRs_cons.mpr ⟨_, _, rfl, (show Rep S _ _ from q1), relRs_nil.mpr rfl⟩⟩, hf, fun r ob0 v S1 A1 H1 hc g1 qv st1 => ?_⟩
  obtain ⟨c, rfl, hk⟩ := hc
  obtain ⟨g3, st3⟩ := g.pass st1 g1
  exact ⟨c, qv.bl, en _ _ _ _ _ _ ⟨c, rfl, hk⟩ g3 rr_bl st3⟩
end
end DL

/-! DL: dicts whose keys are ints and texts; several targets at once. -/
namespace DL
open PySem L2
def valD (l : List (Key × Dt)) (k : Key) : Option Dt := (l.find? fun kv => decide (kv.1 = k)).map (·.2)
def dropD (l : List (Key × Dt)) (k : Key) : List (Key × Dt) := l.filter fun kv => decide (kv.1 ≠ k)
def putD (l : List (Key × Dt)) (k : Key) (d : Dt) : List (Key × Dt) :=
  if (l.any fun kv => decide (kv.1 = k)) = true then l.map (fun kv => if kv.1 = k then (kv.1, d) else kv) else l ++ [(k, d)]
def keyD : Key → Dt
  | .inl i => .int i
  | .inr s => .str s
theorem keyD_rep {S : Hp} {k : Key} {v : V} : Rep S (keyD k) v ↔ v = kV k := by
  cases k with
  | inl i => exact rep_int
  | inr s => exact rep_str
section
variable {S S' : Hp}
theorem repK_nil {xs : List (Key × V)} : RepK S [] xs ↔ xs = [] := by simp only [RepK]
theorem repK_cons {k : Key} {d : Dt} {l : List (Key × Dt)} {xs : List (Key × V)} : RepK S ((k, d) :: l) xs ↔ ∃ x r, xs = (k, x) :: r ∧ Rep S d x ∧ RepK S l r := by simp only [RepK]
theorem RepK.val {k : Key} : ∀ {l : List (Key × Dt)} {xs : List (Key × V)}, RepK S l xs → (valD l k = none → valV xs k = none) ∧ ∀ d, valD l k = some d → ∃ x, valV xs k = some x ∧ Rep S d x
  | [], _, h => by
    rw [repK_nil.mp h]
    exact ⟨fun _ => rfl, fun d e => by cases e⟩
  | (j, e) :: l, _, h => by
    obtain ⟨x, r, rfl, h1, h2⟩ := repK_cons.mp h
    unfold valD valV
    rw [List.find?_cons, List.find?_cons]
    by_cases q : j = k
    · subst q
      simp only [decide_true]
      exact ⟨fun z => (by cases z), fun d z => (by cases z; exact ⟨x, rfl, h1⟩)⟩
    · simp only [q, decide_false]
      exact RepK.val (k := k) h2
theorem RepK.isSome {k : Key} {l : List (Key × Dt)} {xs : List (Key × V)} (h : RepK S l xs) : (valV xs k).isSome = (valD l k).isSome := by
  have q := h.val (k := k)
  cases e : valD l k with
  | none => rw [q.1 e]; rfl
  | some d =>
    obtain ⟨x, e2, _⟩ := q.2 d e
    rw [e2]
    rfl
theorem RepK.drop {k : Key} : ∀ {l : List (Key × Dt)} {xs : List (Key × V)}, RepK S l xs → RepK S (dropD l k) (dropK xs k)
  | [], _, h => by
    rw [repK_nil.mp h]
    exact repK_nil.mpr rfl
  | (j, e) :: l, _, h => by
    obtain ⟨x, r, rfl, h1, h2⟩ := repK_cons.mp h
    unfold dropD dropK
    rw [List.filter_cons, List.filter_cons]
    by_cases q : j = k
    · simp only [q, ne_eq, not_true_eq_false, decide_false, Bool.false_eq_true, if_false]
      exact RepK.drop h2
    · simp only [ne_eq, q, not_false_eq_true, decide_true, if_true]
      exact repK_cons.mpr ⟨x, _, rfl, h1, RepK.drop h2⟩
theorem RepK.keys : ∀ {l : List (Key × Dt)} {xs : List (Key × V)}, RepK S l xs → Reps S (l.map fun p => keyD p.1) (xs.map fun p => kV p.1)
  | [], _, h => by
    rw [repK_nil.mp h]
    exact reps_nil.mpr rfl
  | (j, e) :: l, _, h => by
    obtain ⟨x, r, rfl, h1, h2⟩ := repK_cons.mp h
    exact reps_cons.mpr ⟨kV j, _, rfl, keyD_rep.mpr rfl, RepK.keys h2⟩
theorem RepK.anyEq {k : Key} : ∀ {l : List (Key × Dt)} {xs : List (Key × V)}, RepK S l xs → (xs.any fun kv => decide (kv.1 = k)) = l.any fun kv => decide (kv.1 = k)
  | [], _, h => by rw [repK_nil.mp h]; rfl
  | (j, e) :: l, _, h => by
    obtain ⟨x, r, rfl, h1, h2⟩ := repK_cons.mp h
    rw [List.any_cons, List.any_cons, RepK.anyEq h2]
theorem RepK.app : ∀ {l m : List (Key × Dt)} {xs ys : List (Key × V)}, RepK S l xs → RepK S m ys → RepK S (l ++ m) (xs ++ ys)
  | [], _, _, _, h, q => by
    rw [repK_nil.mp h]
    exact q
  | (j, e) :: l, m, _, ys, h, q => by
    obtain ⟨x, r, rfl, h1, h2⟩ := repK_cons.mp h
    exact repK_cons.mpr ⟨x, _, rfl, h1, h2.app q⟩
theorem RepK.mapPut {k : Key} {d : Dt} {v : V} (q : Rep S d v) : ∀ {l : List (Key × Dt)} {xs : List (Key × V)}, RepK S l xs → RepK S (l.map fun kv => if kv.1 = k then (kv.1, d) else kv) (xs.map fun kv => if kv.1 = k then (kv.1, v) else kv)
  | [], _, h => by
    rw [repK_nil.mp h]
    exact repK_nil.mpr rfl
  | (j, e) :: l, _, h => by
    obtain ⟨x, r, rfl, h1, h2⟩ := repK_cons.mp h
    rw [List.map_cons, List.map_cons]
    by_cases z : j = k
    · simp only [z, if_pos]
      exact repK_cons.mpr ⟨v, _, rfl, q, h2.mapPut q⟩
    · simp only [z, if_false]
      exact repK_cons.mpr ⟨x, _, rfl, h1, h2.mapPut q⟩
theorem RepK.put {k : Key} {d : Dt} {v : V} {l : List (Key × Dt)} {xs : List (Key × V)} (h : RepK S l xs) (q : Rep S d v) : RepK S (putD l k d) (putK xs k v) := by
  unfold putD putK
  rw [h.anyEq]
  split
  · exact h.mapPut q
  · exact h.app (repK_cons.mpr ⟨v, [], rfl, q, repK_nil.mpr rfl⟩)
theorem putD_length (l : List (Key × Dt)) (k : Key) (d : Dt) : (putD l k d).length ≤ l.length + 1 := by
  unfold putD
  split
  · rw [List.length_map]; omega
  · rw [List.length_append]; exact Nat.le_refl _
theorem RepK.lenEq : ∀ {l : List (Key × Dt)} {xs : List (Key × V)}, RepK S l xs → xs.length = l.length
  | [], _, h => by rw [repK_nil.mp h]; rfl
  | (j, e) :: l, _, h => by
    obtain ⟨x, r, rfl, h1, h2⟩ := repK_cons.mp h
    rw [List.length_cons, List.length_cons, RepK.lenEq h2]
end
/-- a dict, as data -/
def dictOf (ob : Obs) : R → Option (List (Key × Dt))
  | .d (.dct l) => some l
  | .d _ => none
  | .p k => match ob[k]? with
    | some (.dct l) => some l
    | some (.frz (.dct l)) => some l
    | _ => none
section
variable {X : Cx} {e a b c o : Expr} {es : List Expr} {pos p1 p2 apos : Pos} {ob : Obs} {sl : Sls} {P : Post} {B : Bool → Obs → Prop} {D : Out} {K : PySem.W.Frag} {S S' H H' : Hp} {A A' : List Addr} {Q : VK} {k j : Nat} {x : Str} {r : R} {v : V} {l : List (Key × Dt)}
theorem dictOf_rel (h : dictOf ob r = some l) (g : Good K S A H ob) (q : RelR S A r v) : ∃ p xs, v = .ref p ∧ Rd H p (.dK xs) ∧ RepK S l xs := by
  have key : ∀ x v, Rep S x v → dictOf ob (.d x) = some l → ∃ p xs, v = .ref p ∧ Rd H p (.dK xs) ∧ RepK S l xs := fun x v q h => by
    cases x with
    | dct l' =>
      have e : l' = l := Option.some.inj h
      subst e
      obtain ⟨p, xs, rfl, h2, h3⟩ := rep_dct.mp q
      refine ⟨p, xs, rfl, ?_, h3⟩
      rcases g.ex _ _ h2 with z | ⟨_, u, z⟩
      · exact .inl z
      · exact .inr ⟨u, z⟩
    | _ => cases h
  cases r with
  | d x => exact key x v q h
  | p i =>
    obtain ⟨p, h1, rfl⟩ := q
    unfold dictOf at h
    cases e : ob[i]? with
    | none => simp only [e] at h; cases h
    | some c =>
      simp only [e] at h
      have o := g.own i p c h1 e
      cases c with
      | dct l' =>
        cases h
        obtain ⟨_, xs, h2, h3⟩ := o
        exact ⟨p, xs, rfl, .inl h2, h3⟩
      | frz x =>
        refine key x (.ref p) o ?_
        cases x <;> first | exact h | cases h
      | _ => cases h
/-- k in d -/
def inDP (neg : Bool) (ob : Obs) (P : Post) (r1 r2 : R) : Prop := ∃ kk l, r1 = .d (keyD kk) ∧ dictOf ob r2 = some l ∧ P (.d (.bl (bif neg then !(valD l kk).isSome else (valD l kk).isSome))) ob
theorem we_inD (ct : Ct X k) (h : We X a ob sl fun r1 ob1 => We X b ob1 sl fun r2 ob2 => inDP false ob2 P r1 r2) (hm : behindInMarks .In b = false := by rfl) : We X (.Compare a [.In] [b] pos) ob sl P := fun S A H σ Q g rs en => by
  refine wpE.of (pe_cmp (pc_din (hu_of ct.room) pe_wp pe_wp) hm) (h S A H σ _ g rs fun r1 ob1 x S1 A1 H1 h1 g1 q1 st1 => h1 S1 A1 H1 σ _ g1 (rs.step st1) fun r2 ob2 y S2 A2 H2 h2 g2 q2 st2 => ?_)
  obtain ⟨kk, l, rfl, hl, hk⟩ := h2
  obtain ⟨p, xs, rfl, e1, e2⟩ := dictOf_rel hl g2 q2
  have ex := keyD_rep.mp (show Rep S1 (keyD kk) x from q1)
  subst ex
  refine ⟨p, _, rfl, .inl ⟨xs, kk, e1, rfl, rfl⟩, ?_⟩
  rw [e2.isSome]
  exact en _ _ _ _ _ _ hk g2 rr_bl (st1.trans st2)
theorem wt_inD (ct : Ct X k) (h : We X a ob sl fun r1 ob1 => We X b ob1 sl fun r2 ob2 => inDP false ob2 (asT B) r1 r2) (hm : behindInMarks .In b = false := by rfl) : Wt X (.Compare a [.In] [b] pos) ob sl B := fun S A H σ Q g rs en => by
  refine wpT.of (pt_cmp (pc_din (hu_of ct.room) pe_wp pe_wp) hm) (h S A H σ _ g rs fun r1 ob1 x S1 A1 H1 h1 g1 q1 st1 => h1 S1 A1 H1 σ _ g1 (rs.step st1) fun r2 ob2 y S2 A2 H2 h2 g2 q2 st2 => ?_)
  obtain ⟨kk, l, rfl, hl, c, hc, hk⟩ := h2
  obtain ⟨p, xs, rfl, e1, e2⟩ := dictOf_rel hl g2 q2
  have ex := keyD_rep.mp (show Rep S1 (keyD kk) x from q1)
  subst ex
  refine ⟨p, _, rfl, .inl ⟨xs, kk, e1, rfl, rfl⟩, _, rfl, ?_⟩
  rw [e2.isSome]
  cases hc
  exact en _ _ _ _ _ hk g2 (st1.trans st2)
/-- del d[k], d owned -/
theorem ws_delD {o i : Expr} {tpos : Pos} (h : We X o ob sl fun r ob1 => We X i ob1 sl fun r2 ob2 => ∃ n kk l, r = .p n ∧ ob2[n]? = some (.dct l) ∧ r2 = .d (keyD kk) ∧ (valD l kk).isSome = true ∧ D.nx (ob2.set n (.dct (dropD l kk))) sl) : Ws X (.Delete [.Subscript o i tpos] pos) ob sl D := fun S A H σ D' g rs en => by
  refine wpS.of (ps_ddel pe_wp pe_wp) (h S A H σ _ g rs fun r1 ob1 x S1 A1 H1 h1 g1 q1 st1 => h1 S1 A1 H1 σ _ g1 (rs.step st1) fun r2 ob2 y S2 A2 H2 h2 g2 q2 st2 => ?_)
  obtain ⟨n, kk, l, rfl, hl, rfl, hs, hk⟩ := h2
  obtain ⟨p, hp, rfl⟩ := q1.step st2
  obtain ⟨s0, xs, hx, hr⟩ := g2.own n p _ hp hl
  have sm := Step.mut (H := H2) (o := .dK (dropK xs kk)) (List.mem_of_getElem? hp) s0
  refine ⟨p, xs, kk, rfl, hx, keyD_rep.mp (show Rep S2 (keyD kk) y from q2), by rw [hr.isSome]; exact hs, ?_⟩
  exact en.nx _ _ _ _ _ _ hk (g2.mut hp s0 ⟨s0, _, upd_same, hr.drop⟩) (rs.step ((st1.trans st2).trans sm)) ((st1.trans st2).trans sm)
/-- list(d) -/
theorem we_listD (own : Bool) (ct : Ct X k) (hm : X.mg "list" = none) (h : We X a ob sl fun r ob1 => ∃ l, dictOf ob1 r = some l ∧ Mk own (l.map fun p => keyD p.1) ob1 P) (hg : Gl X "list" := by rfl) (hs : starEach [a] X.env = (false, eval a X.env) :: starEach [] X.env := by rfl) : We X (.Call (.Name "list" p1) [a] [] pos) ob sl P :=
  we_ct (call_listD ct.calm) hm (wa_cons (h.mono fun r ob1 h1 => wa_nil fun S A H vs Q g q en => by
    obtain ⟨v, rfl, qz⟩ := relRs1 q
    obtain ⟨l, e1, h1⟩ := h1
    obtain ⟨p, xs, rfl, h2, h3⟩ := dictOf_rel e1 g qz
    exact ⟨p, xs, rfl, h2, fun z hz => h1.fin en g h3.keys hz⟩) hs) (by decide +kernel) hg (by decide) (by decide) hs rfl

/-! ### dict comprehensions -/
abbrev MkD (own : Bool) (l : List (Key × Dt)) (ob : Obs) (P : Post) : Prop := match own with
  | true => P (.p ob.length) (ob ++ [.dct l])
  | false => P (.d (.dct l)) ob
theorem MkD.fin {own : Bool} {p : Addr} {xs : List (Key × V)} (h : MkD own l ob P) (en : End K S A H P Q) (g : Good K S A H ob) (hx : RepK S l xs) (hp : H p = none) : Q (.ref p) (upd H p (.dK xs)) := by
  cases own with
  | true =>
    have hs := g.ex.fresh hp
    exact en (.p ob.length) _ _ S (A ++ [p]) _ h (g.newO hp ⟨hs, xs, upd_same, hx⟩) ⟨p, g.at_len, rfl⟩ (Step.newO hp)
  | false =>
    have hs := g.ex.fresh hp
    exact en _ _ _ (upd S p (.dK xs)) A _ h (g.newD hp) (rep_dct.mpr ⟨p, xs, rfl, upd_same, hx.mono (Le.new hs)⟩) (Step.newD hp hs)
end
section
variable {X : Cx} {e a b c tg kx vx iter : Expr} {pos p1 p2 spos py : Pos} {ob : Obs} {sl : Sls} {P : Post} {K : PySem.W.Frag} {S S' H H' : Hp} {A A' : List Addr} {Q : VK} {k : Nat}
/-- one turn's promise, from J at i to J at i + 1 -/
def DcTurn (K : PySem.W.Frag) (t : Tg) (tt : TT) (tk tv : TE) (vs : List Nat) (sl : Sls) (J : Nat → List (Key × Dt) → Obs → Prop) (i : Nat) (d : Dt) : Prop := ∀ acc ob2, J i acc ob2 → ∃ slb, bindT t d (wipeSl sl vs) = some slb ∧
  TtOk K tt ob2 slb fun b ob3 => (b = true → TeOk K tk ob3 slb fun r ob4 => ∃ kk, r = .d (keyD kk) ∧ TeOk K tv ob4 slb (dataP fun r2 ob5 => ∃ x, r2 = .d x ∧ J (i + 1) (putD acc kk x) ob5)) ∧ (b = false → J (i + 1) acc ob3)
theorem dc_sem {own : Bool} {t : Tg} {tt : TT} {tk tv : TE} {vs : List Nat} (ho : t.own vs = true)
    (hi : Wi X tg iter ob sl fun ds ob1 => ds.length ≤ sizeLine ∧ ∃ J : Nat → List (Key × Dt) → Obs → Prop, J 0 [] ob1 ∧ (∀ i d, ds[i]? = some d → DcTurn X.K t tt tk tv vs sl J i d) ∧ ∀ acc ob2, J ds.length acc ob2 → MkD own acc ob2 P) :
    ∀ S A H σ Q, Good X.K S A H ob → RelS S A sl σ → End X.K S A H P Q → tDc (wpI X tg iter) (tgR X.K t) tt tk tv vs σ H Q := fun S A H σ Q g rs en => by
  refine hi S A H σ _ g rs fun ds ob1 Jt S1 A1 H1 h1 g1 st1 ys L hL => ?_
  obtain ⟨hz, J, j0, turn, fin⟩ := h1
  refine ⟨fun i m H' => m = ds.length - i ∧ i ≤ ds.length ∧ ∃ acc ob2 S2 A2 xs H2, J i acc ob2 ∧ Good X.K S2 A2 H2 ob2 ∧ Step S1 A1 H1 S2 A2 H2 ∧ H2 L = none ∧ H' = upd H2 L (.dK xs) ∧ RepK S2 acc xs ∧ acc.length ≤ i, ⟨_, rfl, Nat.zero_le _, [], ob1, S1, A1, [], H1, j0, g1, Step.refl, hL, rfl, repK_nil.mpr rfl, Nat.le_refl _⟩, ?_⟩
  rintro i m H' ⟨rfl, hi, acc, ob2, S2, A2, xs, H2, j2, g2, st2, hL2, rfl, hx, hacc⟩
  have sL : S2 L = none := g2.ex.fresh hL2
  -- the state with the new list beside it
  have ex2 : Ex S2 (upd H2 L (.dK xs)) := fun a o q => by
    have na : a ≠ L := by
      rintro rfl
      rw [sL] at q
      cases q
    rw [upd_ne na]
    exact g2.ex a o q
  have g2' : Good X.K S2 A2 (upd H2 L (.dK xs)) ob2 := g2.ext ex2 (Le.refl _) (fun a o q => by rw [upd_ne (ne_of_none q hL2)]; exact q) fun a z => .inl z
  obtain ⟨yg, yst⟩ := ys S2 (upd H2 L (.dK xs)) st2.le ex2 i
  by_cases hlt : i < ds.length
  · obtain ⟨go, yn⟩ := yg hlt
    refine .inr ⟨go, fun H' => ∃ acc ob2 S2 A2 xs H2, J (i + 1) acc ob2 ∧ Good X.K S2 A2 H2 ob2 ∧ Step S1 A1 H1 S2 A2 H2 ∧ H2 L = none ∧ H' = upd H2 L (.dK xs) ∧ RepK S2 acc xs ∧ acc.length ≤ i + 1, fun H' q => ⟨ds.length - (i + 1), by omega, rfl, hlt, q⟩, fun x H3 hy => ?_⟩
    obtain ⟨d, S3, hd, ex3, le3, rx, kp3, nw3⟩ := yn x H3 hy
    have g3 : Good X.K S3 A2 H3 ob2 := g2'.ext ex3 le3 kp3 nw3
    have st3 : Step S2 A2 (upd H2 L (.dK xs)) S3 A2 H3 := Step.ext le3 kp3 nw3
    obtain ⟨slb, hb, ht⟩ := turn i d hd acc ob2 j2
    have rs3 : RelS S3 A2 (wipeSl sl vs) (L2.wipe σ vs) := (((rs.step st1).step st2).wipe vs).mono' le3
    refine bindT_ok (vs := vs) g3.ex t d _ slb _ x _ hb rs3 rx (.inr trivial) fun σ4 rs4 w4 => ⟨by rw [w4 ho, wipe_idem], ?_⟩
    have nL : L ∉ A2 ∧ S3 L = none := by
      refine ⟨fun z => g2.here L z hL2, ?_⟩
      cases q : S3 L with
      | none => rfl
      | some o =>
        rcases nw3 L (by rw [q]; exact fun w => by cases w) with z | z
        · exact (z sL).elim
        · rw [upd_same] at z; cases z
    have hL3 : H3 L = some (.dK xs) := kp3 L _ upd_same
    -- what a later state says, with the new list taken out
    have back : ∀ {S5 A5 H5 ob5}, Good X.K S5 A5 H5 ob5 → Step S3 A2 H3 S5 A5 H5 → ∃ H6, Good X.K S5 A5 H6 ob5 ∧ Step S1 A1 H1 S5 A5 H6 ∧ H6 L = none ∧ H5 L = some (.dK xs) ∧ ∀ o, upd H5 L o = upd H6 L o := fun {S5 A5 H5 ob5} g5 st5 => by
      have h5L : H5 L = some (.dK xs) := st5.keep L _ hL3 (.inl nL.1)
      have s5L : S5 L = none ∧ L ∉ A5 := by
        refine ⟨?_, fun z => ?_⟩
        · cases q : S5 L with
          | none => rfl
          | some o =>
            rcases st5.new L (.inl (by rw [q]; exact fun w => by cases w)) with z | z | z
            · exact (z nL.2).elim
            · exact (nL.1 z).elim
            · rw [hL3] at z; cases z
        · rcases st5.new L (.inr z) with z | z | z
          · exact z nL.2
          · exact nL.1 z
          · rw [hL3] at z; cases z
      refine ⟨fun b => if b = L then none else H5 b, ⟨fun a o q => ?_, g5.nd, g5.len, fun k a c e1 e2 => ?_, fun a ha => ?_⟩, ⟨(st2.le.trans le3).trans st5.le, (st2.pre).trans st5.pre, fun a o q c => ?_, fun a z => ?_⟩, if_pos rfl, h5L, fun o => ?_⟩
      · have na : a ≠ L := by
          rintro rfl
          rw [s5L.1] at q
          cases q
        show (if a = L then none else H5 a) = some o ∨ _
        rw [if_neg na]
        exact g5.ex a o q
      · have na : a ≠ L := by
          rintro rfl
          exact s5L.2 (List.mem_of_getElem? e1)
        refine (g5.own k a c e1 e2).mono (Le.refl _) (List.prefix_refl _) (fun z => z) fun _ o q => ?_
        show (if a = L then none else H5 a) = some o
        rw [if_neg na]
        exact q
      · have na : a ≠ L := by
          rintro rfl
          exact s5L.2 ha
        show (if a = L then none else H5 a) ≠ none
        rw [if_neg na]
        exact g5.here a ha
      · have na : a ≠ L := by
          rintro rfl
          rw [hL] at q
          cases q
        show (if a = L then none else H5 a) = some o
        rw [if_neg na]
        have all : Step S1 A1 H1 S2 A2 (upd H2 L (.dK xs)) := ⟨st2.le, st2.pre, fun a o q c => by
          rw [upd_ne (ne_of_none q hL)]
          exact st2.keep a o q c, st2.new⟩
        exact ((all.trans st3).trans st5).keep a o q c
      · have all : Step S1 A1 H1 S2 A2 (upd H2 L (.dK xs)) := ⟨st2.le, st2.pre, fun a o q c => by
          rw [upd_ne (ne_of_none q hL)]
          exact st2.keep a o q c, st2.new⟩
        exact ((all.trans st3).trans st5).new a z
      · funext b
        unfold upd
        by_cases hb : b = L
        · rw [if_pos hb, if_pos hb]
        · rw [if_neg hb, if_neg hb]
          show H5 b = if b = L then none else H5 b
          rw [if_neg hb]
    refine ht S3 A2 H3 σ4 _ g3 rs4 fun bb ob5 S5 A5 H5 h5 g5 st5 => ?_
    cases bb with
    | false =>
      rw [if_neg Bool.false_ne_true]
      obtain ⟨H6, g6, st6, n6, e6, u6⟩ := back g5 st5
      refine ⟨acc, ob5, S5, A5, xs, H6, h5.2 rfl, g6, st6, n6, ?_, (hx.mono le3).mono st5.le, Nat.le_succ_of_le hacc⟩
      rw [← u6]
      funext b
      unfold upd
      by_cases hb : b = L
      · rw [if_pos hb, hb, e6]
      · rw [if_neg hb]
    | true =>
      rw [if_pos rfl]
      refine h5.1 rfl S5 A5 H5 σ4 _ g5 (rs4.step st5) fun r ob6 y S6 A6 H6 h6 g6 q6 st6 => ?_
      obtain ⟨kk, rfl, h6⟩ := h6
      refine h6 S6 A6 H6 σ4 _ g6 (rs4.step (st5.trans st6)) (data_end fun r ob7 z S7 A7 H7 h7 g7 q7 st7 => ?_)
      obtain ⟨d', rfl, h7⟩ := h7
      obtain ⟨H8, g8, st8, n8, e8, u8⟩ := back g7 ((st5.trans st6).trans st7)
      refine ⟨xs, kk, keyD_rep.mp (show Rep S6 (keyD kk) y from q6), e8, by rw [hx.lenEq]; omega, putD acc kk d', ob7, S7, A7, putK xs kk z, H8, h7, g8, st8, n8, u8 _, ((hx.mono le3).mono ((st5.trans st6).trans st7).le).put q7, by have := putD_length acc kk d'; omega⟩
  · have e : i = ds.length := by omega
    subst e
    refine .inl ⟨yst rfl, ?_⟩
    exact (fin acc ob2 j2).fin (en.step (st1.trans st2)) g2 hx hL2

/-- {k: v for t in l if c}, all values, c pure -/
theorem sw_trueD {kx vx : Expr} {gs : List Comprehension} {scope : Scope} {pos py : Pos} {y : Str} {l : Nat} {env : Env} (hk : env.scope.kind = .function) (hy : env.scope.names.lookup y = some .local) (hl : (py.line == pos.line) = true)
    (ha : (scope.names.any fun (n, k) => n == y && (k == .local || k == .cell)) = false) : swapsWith (.DictComp kx vx gs scope pos) (some (.Name y py)) l env = pure true := by
  have ky : env.kindOf y = some .local := hy
  have hb : env.blockKind = .function := by unfold Env.blockKind; rw [hk]; rfl
  unfold swapsWith
  simp only [hb, ky, ha, Expr.pos, hl]
  rfl
theorem ps_setDc {i : Nat} {y : Str} {py : Pos} {kx vx tg iter : Expr} {ifs : List Expr} {scope : Scope} {own : List (Str × Nat)} {pos spos : Pos} {wi : TI} {g : TG} {tt : TT} {tk tv : TE} (hc : X.calm = true) (hN : X.N.Nodup) (hy : X.N[i]? = some y) (hyl : X.env.scope.names.lookup y = some .local)
    (hsw : swapsWith (.DictComp kx vx [⟨tg, iter, ifs, 0⟩] scope pos) (some (.Name y py)) spos.line X.env = pure true) (hi : PI X tg iter wi) (ok : BlkOk X.N X.env.scope scope own)
    (hg : ∀ (s : Shared) (H : Hp) (C : Addr) (cl : List (Str × Addr)) (fp : List Addr), PG (X.blk s H scope (compEnvC scope cl C X.env) fp) tg g) (ht : ∀ (s : Shared) (H : Hp) (C : Addr) (cl : List (Str × Addr)) (fp : List Addr), PTs (X.blk s H scope (compEnvC scope cl C X.env) fp) ifs tt)
    (hk : ∀ (s : Shared) (H : Hp) (C : Addr) (cl : List (Str × Addr)) (fp : List Addr), PE (X.blk s H scope (compEnvC scope cl C X.env) fp) kx tk)
    (he : ∀ (s : Shared) (H : Hp) (C : Addr) (cl : List (Str × Addr)) (fp : List Addr), PE (X.blk s H scope (compEnvC scope cl C X.env) fp) vx tv) (hs : ∀ x, foldedSetIterable iter X.env x = pure x := by intro _; rfl) :
    PS X (.Assign [.Name y py] (.DictComp kx vx [⟨tg, iter, ifs, 0⟩] scope pos) spos) (tAsg (tDc wi g tt tk tv (own.map (·.2))) (gName i)) := by
  refine ⟨fun pins s σ H D I h => ?_⟩
  rw [exec_Assign_Name_used _ _ _ _ hsw]
  refine wpAny_bind (wpAny_standAt (wpAny_bind ?_))
  show wpAny _ X.A (do let _ ← comprehension (.DictComp kx vx [⟨tg, iter, ifs, 0⟩] scope pos) scope X.env (firstIterPos [⟨tg, iter, ifs, 0⟩] pos) newDict false (eval iter X.env) (some (assign (.Name y py) X.env))) _ _ s
  have h : tDc wi g tt tk tv (own.map (·.2)) σ H (fun x H1 => gName i x σ H1 D.nx) := h
  refine wpAny_bind (thn (dc_core (Qf := fun _ s' => SP X pins D .next s') hc hN I hi ok hg ht hk he hs h fun L C s' m H' I' q hn f => ?_) fun _ s' hq => wpAny_pure (wpAny_pure hq))
  show wpAny _ _ (assign (.Name y py) X.env (.ref L)) _ _ _
  refine wpAny_assign_Name (store_ok2 (v := V.ref L) I' hN hy (.inl hyl) rfl (fun s2 I2 ⟨a, sb, ha⟩ => ?_) (.inr hyl))
  obtain ⟨f0, f1, f2, f3, f4, f5⟩ := f
  have haC : C ≠ a := by
    rcases ha with z | z
    · rw [z]; exact f1
    · exact fun e => f4 y a z e.symm
  refine ⟨m, hn.sameBut sb haC, fun h3 sb3 => ?_⟩
  exact ⟨_, H', I2.turned (t' := s2.toks) (fun b o hb e => (sb3.2 b hb).trans e) f0 f1 f3 f4 f5, q⟩
/-- what a dict comprehension's block asks -/
def DcP (X : Cx) (own : Bool) (tg kx vx iter c : Expr) (scope : Scope) (t : Tg) (vs : List Nat) (ob : Obs) (sl : Sls) (P : Post) : Prop := t.own vs = true ∧ (∀ s H C cl fp, PG (X.blk s H scope (compEnvC scope cl C X.env) fp) tg (tgR X.K t)) ∧
  Wi X tg iter ob sl fun ds ob1 => ds.length ≤ sizeLine ∧ ∃ J : Nat → List (Key × Dt) → Obs → Prop, J 0 [] ob1 ∧ (∀ i d, ds[i]? = some d → DcTurn X.K t (bkT X scope c) (bkE X scope kx) (bkE X scope vx) vs sl J i d) ∧ ∀ acc ob2, J ds.length acc ob2 → MkD own acc ob2 P
theorem dcP_of {α : Type} {own : Bool} {scope : Scope} {t : Tg} {vs : List Nat} (enc : α → Dt) (ho : t.own vs = true) (hg : ∀ s H C cl fp, PG (X.blk s H scope (compEnvC scope cl C X.env) fp) tg (tgR X.K t))
    (hi : Wi X tg iter ob sl fun ds ob1 => ds.length ≤ sizeLine ∧ ∃ (l : List α) (f : α → Bool) (kf : α → Key) (g : α → Dt), ds = l.map enc ∧ (∀ a ∈ l, ∃ slb, bindT t (enc a) (wipeSl sl vs) = some slb ∧ (∀ s H C cl fp, Wt (X.blk s H scope (compEnvC scope cl C X.env) fp) c ob1 slb (Bv (f a) ob1)) ∧
      (f a = true → (∀ s H C cl fp, We (X.blk s H scope (compEnvC scope cl C X.env) fp) kx ob1 slb (Pv (keyD (kf a)) ob1)) ∧ ∀ s H C cl fp, We (X.blk s H scope (compEnvC scope cl C X.env) fp) vx ob1 slb (Pv (g a) ob1))) ∧ MkD own ((l.filter f).foldl (fun acc a => putD acc (kf a) (g a)) []) ob1 P) : DcP X own tg kx vx iter c scope t vs ob sl P := by
  refine ⟨ho, hg, fun S A H σ R g rs en => hi S A H σ R g rs fun ds ob1 J S1 A1 H1 h1 => en ds ob1 J S1 A1 H1 ?_⟩
  obtain ⟨hz, l, f, kf, g, rfl, hl, hk⟩ := h1
  refine ⟨hz, fun i acc ob2 => ob2 = ob1 ∧ acc = ((l.take i).filter f).foldl (fun acc a => putD acc (kf a) (g a)) [], ⟨rfl, rfl⟩, fun i d hd acc ob2 ⟨e1, e2⟩ => ?_, fun acc ob2 ⟨e1, e2⟩ => ?_⟩
  · subst e1 e2
    rw [List.getElem?_map] at hd
    cases e : l[i]? with
    | none => rw [e] at hd; cases hd
    | some a =>
      rw [e] at hd
      cases hd
      obtain ⟨slb, hb, ht, he⟩ := hl a (List.mem_of_getElem? e)
      refine ⟨slb, hb, bkT_ok fun s H C cl fp => (ht s H C cl fp).mono fun b ob3 ⟨e1, e2⟩ => ?_⟩
      subst e1 e2
      have step : (l.take (i + 1)).filter f = (l.take i).filter f ++ (if f a = true then [a] else []) := by
        rw [List.take_add_one, e, List.filter_append]
        congr 1
        simp [List.filter_cons]
      refine ⟨fun hf => bkE_ok fun s H C cl fp => ((he hf).1 s H C cl fp).mono fun r ob4 ⟨e1, e2⟩ => ?_, fun hf => ⟨rfl, ?_⟩⟩
      · subst e1 e2
        refine ⟨kf a, rfl, bkE_ok fun s H C cl fp => ((he hf).2 s H C cl fp).mono fun r ob5 ⟨e1, e2⟩ => ?_⟩
        subst e1 e2
        refine ⟨_, rfl, rfl, ?_⟩
        rw [step, if_pos hf, List.foldl_append]
        rfl
      · rw [step, if_neg (by rw [hf]; exact Bool.false_ne_true), List.append_nil]
  · subst e1 e2
    rw [List.length_map, List.take_length]
    exact hk
theorem we_dcP {own : Bool} {scope : Scope} {t : Tg} {ow : List (Str × Nat)} (ct : Ct X k) (h : DcP X own tg kx vx iter c scope t (ow.map (·.2)) ob sl P) (ok : BlkOk X.N X.env.scope scope ow)
    (hs : ∀ x, foldedSetIterable iter X.env x = pure x := by intro _; rfl) : We X (.DictComp kx vx [⟨tg, iter, [c], 0⟩] scope pos) ob sl P := fun S A H σ Q g rs en => by
  obtain ⟨ho, hg, hi⟩ := h
  exact wpE.of (pe_dc (wi := wpI X tg iter) (tt := bkT X scope c) (tk := bkE X scope kx) (tv := bkE X scope vx) ct.calm ct.nd pi_wp ok hg pts_bk pe_bk pe_bk hs) (dc_sem (own := own) ho hi S A H σ Q g rs en)
theorem ws_dcP {own : Bool} {scope : Scope} {t : Tg} {ow : List (Str × Nat)} {y : Str} {py spos : Pos} {D : Out} (i : Nat) (ct : Ct X k) (h : DcP X own tg kx vx iter c scope t (ow.map (·.2)) ob sl fun r ob1 => D.nx ob1 (sl.set i (some r))) (ok : BlkOk X.N X.env.scope scope ow)
    (hy : X.N[i]? = some y := by rfl) (hyl : X.env.scope.names.lookup y = some .local := by rfl) (hsw : swapsWith (.DictComp kx vx [⟨tg, iter, [c], 0⟩] scope pos) (some (.Name y py)) spos.line X.env = pure true := by exact sw_trueD rfl rfl rfl (by decide +kernel))
    (hs : ∀ x, foldedSetIterable iter X.env x = pure x := by intro _; rfl) : Ws X (.Assign [.Name y py] (.DictComp kx vx [⟨tg, iter, [c], 0⟩] scope pos) spos) ob sl D := fun S A H σ D' g rs en => by
  obtain ⟨ho, hg, hi⟩ := h
  exact wpS.of (ps_setDc (i := i) (wi := wpI X tg iter) (tt := bkT X scope c) (tk := bkE X scope kx) (tv := bkE X scope vx) ct.calm ct.nd hy hyl hsw pi_wp ok hg pts_bk pe_bk pe_bk hs) (dc_sem (own := own) ho hi S A H σ (fun x H1 => gName i x σ H1 D'.nx) g rs fun r ob1 v S1 A1 H1 h1 g1 q1 st1 => en.nx _ _ _ _ _ _ h1 g1 ((rs.step st1).set q1) st1)
end
end DL

/-! DL: bits, powers, several targets at once. -/
namespace DL
open PySem L2
section
variable {X : Cx} {e a b c o tg : Expr} {es : List Expr} {pos p1 p2 p3 p4 apos : Pos} {ob : Obs} {sl : Sls} {P : Post} {B : Bool → Obs → Prop} {D : Out} {K : PySem.W.Frag} {S S' H H' : Hp} {A A' : List Addr} {Q : VK} {k j : Nat} {x : Str} {r : R} {v : V}
def CPowW (i j : Int) : Prop := 0 ≤ j ∧ (Builtin.Int.intBits i : Int) * j ≤ 2 ^ 27
theorem op_powW : OpR X (binaryOp .Pow) (rI CPowW fun i j => .int (i ^ j.toNat)) := opI fun _ _ _ _ _ _ _ hc q => PyProof.Rows.pow_int hc.1 hc.2 q
theorem we_powW (h : We X a ob sl fun r1 ob1 => We X b ob1 sl fun r2 ob2 => ∃ i j, r1 = .d (.int i) ∧ r2 = .d (.int j) ∧ CPowW i j ∧ P (.d (.int (i ^ j.toNat))) ob2) : We X (.BinOp a .Pow b pos) ob sl P :=
  we_op op_powW (h.mono fun r1 ob1 h1 => h1.mono fun r2 ob2 ⟨i, j, e1, e2, c, h2⟩ => by subst e1 e2; exact op2_I (f := fun i j => i ^ j.toNat) c h2)
theorem we_shl (h : We X a ob sl fun r1 ob1 => We X b ob1 sl fun r2 ob2 => ∃ i j, r1 = .d (.int i) ∧ r2 = .d (.int j) ∧ CShl i j ∧ P (.d (.int (i * 2 ^ j.toNat))) ob2) : We X (.BinOp a .LShift b pos) ob sl P :=
  we_op op_shlW (h.mono fun r1 ob1 h1 => h1.mono fun r2 ob2 ⟨i, j, e1, e2, c, h2⟩ => by subst e1 e2; exact op2_I (f := fun i j => i * 2 ^ j.toNat) c h2)
theorem we_shr (h : We X a ob sl fun r1 ob1 => We X b ob1 sl fun r2 ob2 => ∃ i j, r1 = .d (.int i) ∧ r2 = .d (.int j) ∧ 0 ≤ j ∧ P (.d (.int (i / 2 ^ j.toNat))) ob2) : We X (.BinOp a .RShift b pos) ob sl P :=
  we_op op_shr (h.mono fun r1 ob1 h1 => h1.mono fun r2 ob2 ⟨i, j, e1, e2, c, h2⟩ => by subst e1 e2; exact op2_I (C := fun _ j => 0 ≤ j) (f := fun i j => i / 2 ^ j.toNat) c h2)
theorem we_band (h : We X a ob sl fun r1 ob1 => We X b ob1 sl fun r2 ob2 => ∃ i j, r1 = .d (.int i) ∧ r2 = .d (.int j) ∧ P (.d (.int (Builtin.bitAnd i j))) ob2) : We X (.BinOp a .BitAnd b pos) ob sl P :=
  we_op op_and (h.mono fun r1 ob1 h1 => h1.mono fun r2 ob2 ⟨i, j, e1, e2, h2⟩ => by subst e1 e2; exact op2_I0 (f := fun i j => Builtin.bitAnd i j) h2)
theorem we_bor (h : We X a ob sl fun r1 ob1 => We X b ob1 sl fun r2 ob2 => ∃ i j, r1 = .d (.int i) ∧ r2 = .d (.int j) ∧ P (.d (.int (Builtin.bitOr i j))) ob2) : We X (.BinOp a .BitOr b pos) ob sl P :=
  we_op op_or (h.mono fun r1 ob1 h1 => h1.mono fun r2 ob2 ⟨i, j, e1, e2, h2⟩ => by subst e1 e2; exact op2_I0 (f := fun i j => Builtin.bitOr i j) h2)
theorem we_bxor (h : We X a ob sl fun r1 ob1 => We X b ob1 sl fun r2 ob2 => ∃ i j, r1 = .d (.int i) ∧ r2 = .d (.int j) ∧ P (.d (.int (Builtin.bitXor i j))) ob2) : We X (.BinOp a .BitXor b pos) ob sl P :=
  we_op op_xor (h.mono fun r1 ob1 h1 => h1.mono fun r2 ob2 ⟨i, j, e1, e2, h2⟩ => by subst e1 e2; exact op2_I0 (f := fun i j => Builtin.bitXor i j) h2)
theorem we_bits (h : We X o ob sl fun r ob1 => ∃ i, r = .d (.int i) ∧ P (.d (.int (Builtin.Int.intBits i : Nat))) ob1) (hbase : attributeBase o "bit_length" X.env (eval o X.env) = eval o X.env := by rfl) (hline : (apos.endLine == pos.line) = true := by rfl) :
    We X (.Call (.Attribute o "bit_length" apos) [] [] pos) ob sl P := fun S A H σ Q g rs en => by
  refine wpE.of (pe_bits pe_wp hbase hline) (h S A H σ _ g rs fun r ob1 v S1 A1 H1 h1 g1 q1 st1 => ?_)
  obtain ⟨i, rfl, hk⟩ := h1
  exact ⟨i, q1.int, en _ _ _ _ _ _ hk g1 rr_int st1⟩
/-! ### several names, several values (a tuple is made on the way) -/
def setAll (sl : Sls) : List Nat → List R → Sls
  | j :: js, r :: rs => setAll (sl.set j (some r)) js rs
  | _, _ => sl
def setV (σ : L2.St) : List Nat → List V → L2.St
  | j :: js, r :: rs => setV (σ.set j (some r)) js rs
  | _, _ => σ
theorem RelS.setAll : ∀ {js : List Nat} {rs : List R} {vs : List V} {sl : Sls} {σ : L2.St}, RelS S A sl σ → RelRs S A rs vs → RelS S A (setAll sl js rs) (setV σ js vs)
  | [], _, vs, sl, σ, h, q => by cases vs <;> exact h
  | j :: js, [], vs, sl, σ, h, q => by rw [relRs_nil.mp q]; exact h
  | j :: js, r :: rs, _, sl, σ, h, q => by
    obtain ⟨v, t, rfl, h1, h2⟩ := relRs_cons.mp q
    exact (h.set h1).setAll h2
theorem tgs_names {Q : L2.St → Hp → Prop} : ∀ {js : List Nat} {vs : List V} {σ : L2.St}, vs.length = js.length → Q (setV σ js vs) H → tgsR K (js.map .one) vs σ H Q
  | [], vs, σ, hl, q => by
    cases vs with
    | nil => exact ⟨rfl, q⟩
    | cons v vs => cases hl
  | j :: js, vs, σ, hl, q => by
    cases vs with
    | nil => cases hl
    | cons v vs => exact ⟨v, vs, rfl, tgs_names (σ := σ.set j (some v)) (Nat.succ.inj hl) q⟩
theorem ws_names (js : List Nat) {kt : Nat} (hg : PG X tg (tgR X.K (.many (js.map .one)))) (h : Wa X es ob sl fun rs ob1 => rs.length = js.length ∧ rs.length ≤ sizeLine ∧ D.nx ob1 (setAll sl js rs)) (hs : swapsWithSole [tg] (.Tuple es kt p1) pos.line X.env = pure false := by rfl) (hw : swappedStores [tg] (.Tuple es kt p1) X.env = pure none := by rfl)
    (h1 : (assignEach [tg] X.env).map (·.2) = [assign tg X.env] := by rfl) : Ws X (.Assign [tg] (.Tuple es kt p1) pos) ob sl D := fun S A H σ D' g rs en => by
  refine wpS.of (ps_asg (pe_tup pa_wp) hg hs hw h1) (h S A H σ _ g rs fun l ob1 vs S1 A1 H1 hh g1 q1 st1 => ?_)
  obtain ⟨hl, hz, hk⟩ := hh
  have lv := relRs_length q1
  refine ⟨by rw [lv]; exact hz, fun p hp => ?_⟩
  have kp : ∀ a o, H1 a = some o → upd H1 p (.tup vs) a = some o := fun a o q => by rw [upd_ne (ne_of_none q hp)]; exact q
  have ex : Ex S1 (upd H1 p (.tup vs)) := fun a o q => by
    rcases g1.ex a o q with z | ⟨z, u, w⟩
    · exact .inl (kp a o z)
    · exact .inr ⟨z, u, kp a _ w⟩
  have g2 := g1.ext ex (Le.refl _) kp fun a z => .inl z
  have st2 : Step S1 A1 H1 S1 A1 (upd H1 p (.tup vs)) := Step.ext (Le.refl _) kp fun a z => .inl z
  refine ⟨p, vs, rfl, SqT.of upd_same, by rw [lv, hl, List.length_map], tgs_names (by rw [lv]; exact hl) ?_⟩
  exact en.nx _ _ _ _ _ _ hk g2 (((rs.step st1).step st2).setAll (js := js) (by exact q1)) (st1.trans st2)
/-! ### a, b = .. of fields -/
def gFld (K : PySem.W.Frag) (to : TE) (f : Str) : TG := fun v σ H Q => to σ H fun x H2 => ∃ a C dx fs, x = .ref a ∧ H2 a = some (.ins C dx fs) ∧ Cls K C ∧ NoAttr K C f ∧ fs.length < 1000 ∧ Q σ (upd H2 a (.ins C dx (putF f v fs)))
theorem pg_fld {to : TE} {f : Str} (ho : PE X o to) : PG X (.Attribute o f pos) (gFld X.K to f) := by
  refine ⟨fun pins s σ H v u Q I r h => ?_⟩
  rw [assign_Attribute]
  refine wpAny_bind (wpAny_holding (thn (ho.run pins s σ H _ I h) fun ov s1 ⟨x, H1, I1, rx, a, C, dx, fs, ex, ea, c, n, l, q⟩ => ?_))
  subst ex
  obtain rfl : ov = Value.ref a := rx
  refine wpAny_bind (wpAny_standAt (wpAny_bind (wpAny_holding (setattr_ok I1 ea c n l r fun s2 I2 => ?_))))
  exact wpAny_release ⟨σ, _, I2, q⟩
/-- self.m, self.n = e1, e2; self in slot i holds the owned thing j -/
theorem ws_fld2 {m n y : Str} {C : Addr} {kt kt2 : Nat} {q1 q2 q3 q4 q5 q6 : Pos} (i j : Nat) (cl : Cls X.K C) (n1 : NoAttr X.K C m) (n2 : NoAttr X.K C n) (hsl : sl[i]? = some (some (.p j)))
    (h : Wa X [a, b] ob sl fun rs ob1 => ∃ r1 r2 fs, rs = [r1, r2] ∧ ob1[j]? = some (.ins C fs) ∧ fs.length < 998 ∧ D.nx (ob1.set j (.ins C (putR n r2 (putR m r1 fs)))) sl)
    (hN : X.N[i]? = some y := by rfl) (hv : Vis X.env.scope y := by first | exact Or.inl rfl | exact Or.inr (Or.inl rfl)) (hd : (y == ("__debug__" : Str)) = false := by decide) (hcd : (y == ("__classdict__" : Str)) = false := by decide)
    (hc : X.calm = true := by rfl) (hs : swapsWithSole [.Tuple [.Attribute (.Name y q1) m q2, .Attribute (.Name y q3) n q4] kt q5] (.Tuple [a, b] kt2 q6) pos.line X.env = pure false := by rfl)
    (hw : swappedStores [.Tuple [.Attribute (.Name y q1) m q2, .Attribute (.Name y q3) n q4] kt q5] (.Tuple [a, b] kt2 q6) X.env = pure none := by rfl)
    (h1 : (assignEach [.Tuple [.Attribute (.Name y q1) m q2, .Attribute (.Name y q3) n q4] kt q5] X.env).map (·.2) = [assign (.Tuple [.Attribute (.Name y q1) m q2, .Attribute (.Name y q3) n q4] kt q5) X.env] := by rfl) :
    Ws X (.Assign [.Tuple [.Attribute (.Name y q1) m q2, .Attribute (.Name y q3) n q4] kt q5] (.Tuple [a, b] kt2 q6) pos) ob sl D := fun S A H σ D' g rs en => by
  refine wpS.of (ps_asg (pe_tup pa_wp) (pg_tup hc (pgs_cons (pg_fld (pe_var hN hv hd hcd)) (pgs_cons (pg_fld (pe_var hN hv hd hcd)) pgs_nil))) hs hw h1) (h S A H σ _ g rs fun l ob1 vs S1 A1 H1 hh g1 q1 st1 => ?_)
  obtain ⟨r1, r2, fs, rfl, hj, hz, hk⟩ := hh
  obtain ⟨v1, v2, rfl, e1, e2⟩ := relRs2 q1
  obtain ⟨w, hw1, hw2⟩ := rs.get i _ hsl
  obtain ⟨p, hp, rfl⟩ := hw2
  have hp1 : A1[j]? = some p := by
    obtain ⟨t, ht⟩ := st1.pre
    rw [← ht, List.getElem?_append_left (List.getElem?_eq_some_iff.mp hp).1]
    exact hp
  obtain ⟨s0, dx, xs, hx, hr⟩ := g1.own j p _ hp1 hj
  refine ⟨by show 2 ≤ sizeLine; decide, fun t ht => ?_⟩
  have npt : p ≠ t := ne_of_none hx ht
  have kp : ∀ a o, H1 a = some o → upd H1 t (.tup [v1, v2]) a = some o := fun a o q => by rw [upd_ne (ne_of_none q ht)]; exact q
  have ex : Ex S1 (upd H1 t (.tup [v1, v2])) := fun a o q => by
    rcases g1.ex a o q with z | ⟨z, u, w⟩
    · exact .inl (kp a o z)
    · exact .inr ⟨z, u, kp a _ w⟩
  have g2 := g1.ext ex (Le.refl _) kp fun a z => .inl z
  have st2 : Step S1 A1 H1 S1 A1 (upd H1 t (.tup [v1, v2])) := Step.ext (Le.refl _) kp fun a z => .inl z
  have pm := List.mem_of_getElem? hp1
  have lx := relF_length hr
  have g3 := fld_set (n := m) (dx := dx) g2 hp1 hj s0 hr e1
  have hj2 : (ob1.set j (.ins C (putR m r1 fs)))[j]? = some (.ins C (putR m r1 fs)) := List.getElem?_set_self (List.getElem?_eq_some_iff.mp hj).1
  have g4 := fld_set (n := n) (dx := dx) g3 hp1 hj2 s0 (relF_put e1 hr) e2
  rw [List.set_set] at g4
  have st3 : Step S1 A1 (upd H1 t (.tup [v1, v2])) S1 A1 (upd (upd H1 t (.tup [v1, v2])) p (.ins C dx (putF m v1 xs))) := Step.mut pm s0
  have st4 : Step S1 A1 (upd (upd H1 t (.tup [v1, v2])) p (.ins C dx (putF m v1 xs))) S1 A1 (upd (upd (upd H1 t (.tup [v1, v2])) p (.ins C dx (putF m v1 xs))) p (.ins C dx (putF n v2 (putF m v1 xs)))) := Step.mut pm s0
  refine ⟨t, [v1, v2], rfl, SqT.of upd_same, rfl, v1, [v2], rfl, _, hw1, p, C, dx, xs, rfl, by rw [upd_ne npt]; exact hx, cl, n1, by omega, v2, [], rfl, _, hw1, p, C, dx, _, rfl, upd_same, cl, n2, ?_, rfl, ?_⟩
  · have := length_putF m v1 xs
    omega
  · exact en.nx _ _ _ _ _ _ hk g4 (((((rs.step st1).step st2).step st3).step st4)) (((st1.trans st2).trans st3).trans st4)
end
end DL

/-! DL: defs by the head's facts, blocks, the end of a law. -/
namespace DL
open PySem L2
theorem Ct.blk {X : Cx} {k : Nat} {scope : Scope} {cl : List (Str × Addr)} {s : Shared} {H : Hp} {C : Addr} {fp : List Addr} (ct : Ct X k) : Ct (X.blk s H scope (compEnvC scope cl C X.env) fp) k := ⟨ct.calm, ct.nd, ct.room, PassesOwn.never⟩
section
variable {P : Program} {w : World} {K : PySem.W.Frag} {mg : Str → Option Value} {base : Heap} {x qual : Str} {st : Stmt} {a : Addr} {fd : FuncData} {N ps : List Str} {k : Nat} {f : FS} {dvs : List V}
theorem toFun (F : FunD K x qual (defArgs st) (defBody st) (defScope st) [] [] a fd) : Fun K x qual st a fd := by
  obtain ⟨oc, od, dV, kV, doc, pm, an, cdv, ct, osl, e, lk, hcd, hD, hK⟩ := F.ex
  rcases hD with ⟨_, rfl⟩ | ⟨z, _⟩
  · exact ⟨⟨oc, od, kV, doc, pm, an, cdv, ct, osl, e, lk, hcd⟩, F.kp⟩
  · exact absurd rfl z
theorem FunD.data (F : FunD K x qual (defArgs st) (defBody st) (defScope st) dvs [] a fd) (sc : FnScope N ps (defScope st)) (len : ∀ rs ob P, f rs ob P → rs.length = ps.length)
    (body : ∀ (cdv : Value) (A : Around) (outer : List Env) (s : Shared) (H : Hp) (E : XK), Ct (cxOf CX0 P w K mg base N qual (defScope st) a cdv A outer s H E).nox k → ∀ rs ob Po, f rs ob Po →
      Wss (cxOf CX0 P w K mg base N qual (defScope st) a cdv A outer s H E).nox (defBody st) ob (rs.map some ++ List.replicate (N.length - rs.length) none) { nx := fun ob1 _ => Po (.d .non) ob1, rt := Po }) :
    FnOk P w K mg base CX0 (k + 1) a fd ps (spOf K f) := by
  refine F.ok sc (fun vs H Q E h => ?_) (fun cdv A outer s H vs Q E hr h => ?_)
  · obtain ⟨S, A, rs, ob, Po, g, q, hf, en⟩ := h
    rw [relRs_length q]
    exact len _ _ _ hf
  · obtain ⟨S, A', rs, ob, Po, g, q, hf, en⟩ := h
    have b := body cdv A outer s H E ⟨rfl, sc.nd, hr, PassesOwn.never⟩ rs ob Po hf
    refine ⟨_, PSs.nox pss_wp, b S A' H _ _ g (relS_start q) ⟨?_, en, ?_, ?_⟩⟩
    · exact fun ob1 sl1 σ1 S1 A1 H1 h1 g1 rs1 st1 => en _ _ _ _ _ _ h1 g1 rr_non st1
    · exact fun ob1 sl1 σ1 S1 A1 H1 h1 g1 rs1 st1 => h1.elim
    · exact fun ob1 sl1 σ1 S1 A1 H1 h1 g1 rs1 st1 => h1.elim
/-- the body of a def, as wanted by the rules -/
abbrev Body (P : Program) (w : World) (K : PySem.W.Frag) (mg : Str → Option Value) (base : Heap) (N : List Str) (qual : Str) (st : Stmt) (k : Nat) (f : FS) : Prop :=
  ∀ (a : Addr) (cdv : Value) (A : Around) (outer : List Env) (s : Shared) (H : Hp) (E : XK), Ct (cxOf CX0 P w K mg base N qual (defScope st) a cdv A outer s H E).nox k → ∀ rs ob Po, f rs ob Po →
      Wss (cxOf CX0 P w K mg base N qual (defScope st) a cdv A outer s H E).nox (defBody st) ob (rs.map some ++ List.replicate (N.length - rs.length) none) { nx := fun ob1 _ => Po (.d .non) ob1, rt := Po }
/-- a method's def stands at the class (no defaults) -/
structure DefM (K : PySem.W.Frag) (C : Addr) (m qual : Str) (st : Stmt) : Prop where
  ex : ∃ a fd, Meth K C m a ∧ FunD K m qual (defArgs st) (defBody st) (defScope st) [] [] a fd
theorem DefM.mt {C : Addr} {m : Str} (d : DefM K C m qual st) (sc : FnScope N ps (defScope st))
    (hb : ∀ (kV doc pm : Value) (an : Option Addr) (cdv ct : Value) (us : List Value), us.length = ps.length → bindArgs (PySem.W.fnOf m qual (defArgs st) (defBody st) (defScope st) .none kV doc pm an cdv ct) ⟨us, []⟩ = pure (ps.zip us))
    (len : ∀ rs ob P, f rs ob P → rs.length = ps.length) (body : Body P w K mg base N qual st k f) : Mt P w K mg base C m (k + 1) ps f := by
  obtain ⟨a, fd, hm, F⟩ := d.ex
  exact ⟨a, fd, hm, FunD.bindsN F hb, FunD.data F sc len fun cdv A outer s H E ct => body a cdv A outer s H E ct⟩
/-- a class's __init__, its last parameter None by default -/
structure DefI (K : PySem.W.Frag) (mg : Str → Option Value) (x : Str) (C : Addr) (qual : Str) (st : Stmt) (dvs : List V) : Prop where
  ex : ∃ a fd, mg x = some (.ref C) ∧ L2.Mk K C a ∧ FunD K "__init__" qual (defArgs st) (defBody st) (defScope st) dvs [] a fd
/-- called with all but the defaults behind the first j -/
theorem DefI.maker {C : Addr} {cn : Str} (d : DefI K mg cn C qual st dvs) (n j : Nat) (dd : List Dt) (hdd : ∀ S, Reps S dd (dvs.drop j)) (sc : FnScope N ps (defScope st)) (hd : dvs ≠ []) (hn : n + (dvs.length - j) = ps.length)
    (hb : ∀ (T : Addr) (kV doc pm : Value) (an : Option Addr) (cdv ct : Value) (us its : List Value), us.length = n → its.length = dvs.length →
      ∃ k, bindArgs (PySem.W.fnOf "__init__" qual (defArgs st) (defBody st) (defScope st) (.ref T) kV doc pm an cdv ct) ⟨us, []⟩ = seqItems? (.ref T) >>= k ∧ k (some its.toArray) = pure (ps.zip (us ++ its.drop j)))
    (len : ∀ rs ob P, f rs ob P → rs.length = ps.length) (body : Body P w K mg base N qual st k f) : Maker P w K mg base cn C (k + 1) ps dd f := by
  obtain ⟨a, fd, hm, hk, F⟩ := d.ex
  obtain ⟨ds, hv, hB⟩ := FunD.binds1 F n j hd hn hb
  exact ⟨a, fd, ds, dvs.drop j, hm, hk, hB, hv, hdd, FunD.data F sc len fun cdv A outer s H E ct => body a cdv A outer s H E ct⟩
end

/-! ### the head's hook: no lists among what is kept -/
def isL (o : Obj) : Bool := match o.cls with
  | .type c => decide (c = "list")
  | _ => false
def frL (g : Addr → Option Obj) (as : List Addr) : PySem.W.Frag := as.filterMap fun a => match g a with
  | some o => if isL o = true then none else some (a, o)
  | none => none
theorem frL_at {g : Addr → Option Obj} {a : Addr} {o : Obj} : ∀ as : List Addr, (frL g as).lookup a = some o → g a = some o ∧ isL o = false
  | [], e => nomatch (show (none : Option Obj) = some o from e)
  | b :: r, e => by
    unfold frL at e
    rw [List.filterMap_cons] at e
    cases hb : g b with
    | none =>
      rw [hb] at e
      exact frL_at r e
    | some u =>
      rw [hb] at e
      cases hl : isL u with
      | true =>
        simp only [hl, if_true] at e
        exact frL_at r e
      | false =>
        simp only [hl, Bool.false_eq_true, if_false, List.lookup_cons] at e
        by_cases q : a = b
        · subst q
          simp only [beq_self_eq_true] at e
          cases e
          exact ⟨hb, hl⟩
        · have n : (a == b) = false := by rw [beq_eq_false_iff_ne]; exact q
          simp only [n] at e
          exact frL_at r e
def NoL (K : PySem.W.Frag) : Prop := ∀ a o, K.lookup a = some o → isL o = false
abbrev AlX : Type := He.AlD × Bool
def obsL (n : Nat) (fa : List He.Fa) (fx : List (PySem.W.Frag → Bool)) (fn : List He.DefD) (g : Addr → Option Obj) : AlX := (He.obsD fa fn (frL g (He.asD g n)), fx.all fun f => f (frL g (He.asD g n)))
def hookL (n : Nat) (fa : List He.Fa) (fx : List (PySem.W.Frag → Bool)) (fn : List He.DefD) : PySem.W.Hook where
  α := AlX
  obs := fun s => obsL n fa fx fn s.heap.get?
  val := fun _ => (He.valD fn, true)
  says := fun _ h => ∃ K : PySem.W.Frag, K.In h ∧ NoL K ∧ He.SaysD fa fn K ∧ (fx.all fun f => f K) = true
  of := fun _ s e => ⟨frL s.heap.get? (He.asD s.heap.get? n), fun _ _ e => (frL_at _ e).1, fun _ _ e => (frL_at _ e).2, congrArg (fun z : AlX => z.1) e, congrArg (fun z : AlX => z.2) e⟩
  keeps := fun _ _ _ ⟨K, hK, nl, c⟩ k => ⟨K, PySem.W.Frag.In.keeps hK k, nl, c⟩
theorem obsL_eq {n : Nat} {fa : List He.Fa} {fx : List (PySem.W.Frag → Bool)} {fn : List He.DefD} {g : Addr → Option Obj} {s : Shared} (h : ∀ a, g a = s.heap.get? a) : obsL n fa fx fn g = (hookL n fa fx fn).obs s := by
  have e : g = s.heap.get? := funext h
  rw [e] <;> rfl
theorem fx_at {fx : List (PySem.W.Frag → Bool)} {K : PySem.W.Frag} (c : (fx.all fun f => f K) = true) (i : Nat) {f : PySem.W.Frag → Bool} (h : fx[i]? = some f := by rfl) : f K = true := List.all_eq_true.mp c f (List.mem_of_getElem? h)
/-- isinstance's facts of an own class -/
def insB (x : Str) (K : PySem.W.Frag) : Bool := (He.Fa.cls x).ok K && (decide (PySem.W.findIn K (.ref (He.ga K x)) "__class__" = some (some (.builtin "object.__class__"))) && (decide (PySem.W.specialIn K (.builtin "object.__class__") "__get__" = some (some (.builtin "getset_descriptor.__get__"))) &&
  (decide (PySem.W.takesIn K (.builtin "object.__class__") = some true) && (decide (PySem.W.mroIn K (He.ga K x) (.type "object") = some true) && decide (PySem.W.kitOne K (.ref (He.ga K x)) (.ref (He.ga K x)) = some true)))))
theorem insB_ok {x : Str} {K : PySem.W.Frag} (h : insB x K = true) : C8.InsC K (He.ga K x) := by
  unfold insB at h
  simp only [Bool.and_eq_true, decide_eq_true_eq] at h
  obtain ⟨h1, h2, h3, h4, h5, h6⟩ := h
  exact ⟨He.cls_ok h1, h2, h3, h4, h5, h6⟩

/-! ### the end of a law -/
/-- what a law's def is asked -/
def lawF : FS := fun rs ob P => ∃ ns : List Int, rs = [.p 0] ∧ ob = [.rd (ns.map .int)] ∧ ns.length ≤ 63 ∧ (∀ z ∈ ns, Builtin.Int.intBits z ≤ 1048576) ∧ ∀ ob', P (.d (.bl true)) ob'
theorem law_sp {K : PySem.W.Frag} {H : Hp} {a : Addr} {ns : List Int} (nl : NoL K) (hl : ns.length ≤ 63) (hb : ∀ z ∈ ns, Builtin.Int.intBits z ≤ 1048576) (hS : SqL K H a (ns.map V.int)) {E : XK} : spOf K lawF [.ref a] H (fun v _ => v = .bl true) E := by
  have hn : H a ≠ none := by
    rcases hS with z | ⟨o, its, n, lk, c1, _⟩
    · rcases z with z | ⟨o, z⟩ <;> (rw [z]; exact fun w => by cases w)
    · have := nl a o lk
      unfold isL at this
      rw [c1] at this
      simp at this
  refine ⟨fun _ => none, [a], [.p 0], [.rd (ns.map .int)], fun r _ => r = .d (.bl true), ⟨fun b o e => (by cases e), by simp, rfl, fun i b c e1 e2 => ?_, fun b hb' => ?_⟩, relRs_cons.mpr ⟨_, _, rfl, ⟨a, rfl, rfl⟩, relRs_nil.mpr rfl⟩, ⟨ns, rfl, rfl, hl, hb, fun _ => rfl⟩, ?_⟩
  · cases i with
    | zero =>
      simp at e1 e2
      subst e1 e2
      exact ⟨rfl, _, hS, reps_ints.mpr rfl⟩
    | succ i => simp at e1
  · simp at hb'
    subst hb'
    exact hn
  · intro r ob v S1 A1 H1 h1 g1 q1 st1
    subst h1
    exact q1.bl
open PySem.Spec PyProof.Rows in
theorem walk_ofL {l : PySem.W.OpenLaw} {k : Nat} {q : Program} {loose : List Str} {XP : (Str → Option Value) → Heap → Prop} {d : DefRec} {x : Str} {n : Nat} {fa : List He.Fa} {fx : List (PySem.W.Frag → Bool)} {fn : List He.DefD}
    (hn : l.most = some 63) (hdf : d.params.defaults = []) (hr : Room k callerA)
    (F : ∀ (w : World) (mg : Str → Option Value) (fo : Addr) (h : Heap) (K : PySem.W.Frag), K.In h → He.SaysD fa fn K → (fx.all fun f => f K) = true → h.Ns mainGlobals mg → mg d.name = some (.ref fo) →
      ∃ (fd : FuncData), (∀ (s : Shared) (u : Value), BindsTo s fd ⟨[u], []⟩ [(x, u)]) ∧
        ∀ base : Heap, K.In base → base.Ns mainGlobals mg → FnOk l.prog w K mg base CX0 k fo fd [x] (spOf K lawF)) :
    PySem.W.WalkO q loose XP (hookL n fa fx fn).says l.row.toRowW d [] (fun f vs => PySem.call f vs) := by
  refine Att.attach_callB hn hdf fun w s₀ s₁ mg mb fo o pm cd doc a vs ns G Y ho hd hcd hmg hobj hints hlen hbits hg => ?_
  obtain ⟨K, KX, nl, c, cx⟩ := Y
  obtain ⟨fd, hb, hF⟩ := F w mg fo _ K KX c cx G.T.g hmg
  exact law_call KX G.T.g G.T.b G.T.builtins G.T.nolimit hg hobj hints (Nat.le_trans hlen (by decide)) hr hF hb (fun H hO hS => law_sp nl hlen hbits hS) fun H e s' z => z
end DL

/-! DL: typed data: whole numbers, lists of them, lists of such lists; sorting, comparing, membership. -/
namespace DL
open PySem L2
abbrev encI (l : List Int) : Dt := .lst (l.map .int)
abbrev encR (l : List (List Int)) : Dt := .lst (l.map encI)
abbrev encB (l : List Bool) : Dt := .lst (l.map .bl)
def optD : Option Int → Dt
  | none => .non
  | some i => .int i
theorem get_map {α β : Type} {f : α → β} {l : List α} {i : Nat} {d : β} (h : (l.map f)[i]? = some d) : ∃ a, l[i]? = some a ∧ d = f a := by
  rw [List.getElem?_map] at h
  cases e : l[i]? with
  | none => rw [e] at h; cases h
  | some a => rw [e] at h; cases h; exact ⟨a, rfl, rfl⟩
theorem okDs_ints : ∀ (n : Nat) (l : List Int), okDs n (l.map .int) = true := fun n l => by
  rw [okDs_eq, List.all_map, List.all_eq_true]
  intro x _
  cases n <;> rfl
theorem okD_int (n : Nat) (i : Int) : okD n (.int i) = true := by cases n <;> rfl
theorem okD_non (n : Nat) : okD n .non = true := by cases n <;> rfl
theorem okD_bl (n : Nat) (i : Bool) : okD n (.bl i) = true := by cases n <;> rfl
theorem okD_encI (n : Nat) (l : List Int) : okD (n + 1) (encI l) = true := by
  show okDs n (l.map .int) = true
  exact okDs_ints n l
theorem okDs_rows (n : Nat) (l : List (List Int)) : okDs (n + 1) (l.map encI) = true := by
  rw [okDs_eq, List.all_map, List.all_eq_true]
  intro x _
  exact okD_encI n x
theorem okD_encR (n : Nat) (l : List (List Int)) : okD (n + 2) (encR l) = true := by
  show okDs (n + 1) (l.map encI) = true
  exact okDs_rows n l
theorem toPys_ints (l : List Int) : toPys (l.map .int) = l.map .int := by
  rw [toPys_eq, List.map_map]
  rfl
theorem toPy_encI (l : List Int) : toPy (encI l) = .list (l.map .int) := by
  show PyData.list (toPys (l.map .int)) = _
  rw [toPys_ints]
theorem eqvAll_map {α : Type} [DecidableEq α] {f : α → PyData} (h : ∀ a b, PyData.eqv (f a) (f b) = decide (a = b)) : ∀ l m : List α, PyData.eqvAll (l.map f) (m.map f) = decide (l = m)
  | [], [] => by rw [List.map_nil, PyData.eqvAll]; rfl
  | [], _ :: _ => by rw [List.map_nil, List.map_cons, PyData.eqvAll]; simp
  | _ :: _, [] => by rw [List.map_nil, List.map_cons, PyData.eqvAll]; simp
  | a :: l, b :: m => by
    rw [List.map_cons, List.map_cons, PyData.eqvAll, h, eqvAll_map h l m]
    by_cases e : a = b <;> by_cases e2 : l = m <;> simp [e, e2]
theorem eqv_int (a b : Int) : PyData.eqv (.int a) (.int b) = decide (a = b) := by
  rw [PyData.eqv]
  exact Bool.beq_eq_decide_eq a b
theorem eqD_int (a b : Int) : eqD (.int a) (.int b) = decide (a = b) := eqv_int a b
theorem eqv_list (xs ys : List PyData) : PyData.eqv (.list xs) (.list ys) = PyData.eqvAll xs ys := by rw [PyData.eqv]
theorem eqD_encI (a b : List Int) : eqD (encI a) (encI b) = decide (a = b) := by
  unfold eqD
  rw [toPy_encI, toPy_encI, eqv_list, eqvAll_map eqv_int]
theorem toPy_encR (l : List (List Int)) : toPy (encR l) = .list (l.map fun x => .list (x.map .int)) := by
  show PyData.list (toPys (l.map encI)) = _
  rw [toPys_eq, List.map_map]
  congr 1
  exact List.map_congr_left fun x _ => toPy_encI x
theorem eqD_encR (a b : List (List Int)) : eqD (encR a) (encR b) = decide (a = b) := by
  unfold eqD
  rw [toPy_encR, toPy_encR, eqv_list, eqvAll_map fun x y => by rw [eqv_list, eqvAll_map eqv_int]]
theorem any_int (l : List Int) (x : Int) : ((l.map Dt.int).any fun z => eqD z (.int x)) = decide (x ∈ l) := by
  rw [List.any_map]
  have e : ((fun z => eqD z (.int x)) ∘ Dt.int) = fun z => decide (z = x) := funext fun z => eqD_int z x
  rw [e]
  apply Bool.eq_iff_iff.mpr
  simp [List.any_eq_true]
theorem any_row (l : List (List Int)) (x : List Int) : ((l.map encI).any fun z => eqD z (encI x)) = decide (x ∈ l) := by
  rw [List.any_map]
  have e : ((fun z => eqD z (encI x)) ∘ encI) = fun z => decide (z = x) := funext fun z => eqD_encI z x
  rw [e]
  apply Bool.eq_iff_iff.mpr
  simp [List.any_eq_true]
/-- sorted -/
def leI (a b : Int) : Bool := decide (a ≤ b)
def leR (a b : List Int) : Bool := decide (a ≤ b)
theorem sortD_ints (ns : List Int) : sortD (ns.map .int) = (ns.mergeSort leI).map .int := by
  unfold sortD
  symm
  refine List.map_mergeSort fun a _ b _ => ?_
  have e := congrFun (congrFun (PySem.W.dataLe_int (fun b : Int => b)) a) b
  exact e.symm
theorem sortOk_ints (ns : List Int) : SortOk (ns.map .int) := by
  refine ⟨okDs_ints 60 ns, ?_, ?_⟩
  · rw [List.map_map]
    exact PySem.W.AllAlike.of fun b b' => by show PySem.W.alike (.int b) (.int b') = true; simp [PySem.W.alike]
  · rw [List.map_map]
    exact PySem.W.Sortable.others fun b => ⟨(fun h => by cases h), fun xs h => by cases h⟩
theorem sortOk_rows (ns : List (List Int)) : SortOk (ns.map encI) := by
  refine ⟨okDs_rows 59 ns, ?_, ?_⟩
  · rw [List.map_map]
    refine PySem.W.AllAlike.of fun b b' => ?_
    show PySem.W.alike (toPy (encI b)) (toPy (encI b')) = true
    rw [toPy_encI, toPy_encI, PySem.W.alike, PySem.W.alike_ints]
  · rw [List.map_map]
    refine PySem.W.Sortable.others fun b => ?_
    show toPy (encI b) ≠ _ ∧ ∀ xs, toPy (encI b) ≠ _
    rw [toPy_encI]
    exact ⟨(fun h => by cases h), fun xs h => by cases h⟩
theorem sortD_rows (ns : List (List Int)) : sortD (ns.map encI) = (ns.mergeSort leR).map encI := by
  unfold sortD
  symm
  refine List.map_mergeSort fun a _ b _ => ?_
  have e := congrFun (congrFun (PySem.W.dataLe_rows (fun b : List Int => b)) a) b
  show leR a b = PySem.W.dataLe false toPy (encI a) (encI b)
  rw [show PySem.W.dataLe false toPy (encI a) (encI b) = PySem.W.dataLe false (fun b : List Int => PyData.list (b.map .int)) a b from ?_]
  · exact e.symm
  · rw [PySem.W.dataLe_eq, PySem.W.dataLe_eq]
    simp only [toPy_encI]
theorem leR_trans (a b c : List Int) (h1 : leR a b = true) (h2 : leR b c = true) : leR a c = true := decide_eq_true (List.le_trans (of_decide_eq_true h1) (of_decide_eq_true h2))
theorem leR_total (a b : List Int) : (leR a b || leR b a) = true := by
  rcases List.le_total a b with z | z
  · rw [show leR a b = true from decide_eq_true z]; rfl
  · rw [show leR b a = true from decide_eq_true z, Bool.or_true]
/-- the same things sort alike -/
theorem sortR_perm {l m : List (List Int)} (h : l.Perm m) : l.mergeSort leR = m.mergeSort leR := by
  refine List.Perm.eq_of_pairwise (le := fun a b => leR a b = true) (fun a b _ _ h1 h2 => ?_) ?_ ?_ ((List.mergeSort_perm _ _).trans (h.trans (List.mergeSort_perm _ _).symm))
  · exact List.le_antisymm (of_decide_eq_true h1) (of_decide_eq_true h2)
  · exact List.pairwise_mergeSort leR_trans leR_total _
  · exact List.pairwise_mergeSort leR_trans leR_total _
section
variable {X : Cx} {e o : Expr} {es : List Expr} {pos apos : Pos} {ob : Obs} {sl : Sls} {P : Post} {k j : Nat} {ps : List Str} {f : FS}
/-- o.m(..), o an instance that is owned -/
theorem we_methO (own : Nat → Nat) {m : Str} {C : Addr} {pl : Sem Bool} (cl : Cls X.K C) (F : Mt X.prog X.w X.K X.mg X.base C m j ps f) (ct : Ct X k) (hj : j ≤ k) (h : We X o ob sl fun r ob1 => ∃ i fs, r = .p i ∧ ob1[i]? = some (.ins C fs) ∧ fs.lookup m = none ∧ Wa X (e :: es) ob1 sl fun rs ob2 => ∃ (ds : List Dt) (fs2 : List (Str × R)), rs = ds.map R.d ∧ ob2[i]? = some (.ins C fs2) ∧ flatO (.ins C fs2) = true ∧ f (.p 0 :: ds.map R.d) [.ins C fs2] (retO i ob2 P))
    (hst : starEach (e :: es) X.env = (false, eval e X.env) :: starEach es X.env := by rfl) (hpl : (backTo pos (starEach es X.env)).any (·.1) = false := by rfl)
    (ht : eval (.Call (.Attribute o m apos) (e :: es) [] pos) X.env = (do
      let ov ← eval o X.env
      standAt apos.atName
      let (f, first) ← holding [ov] (getMethod ov m pl)
      callWith pos f first (backTo pos (starEach (e :: es) X.env)) (backToKw pos (keywordEach [] X.env))) := by rfl) : We X (.Call (.Attribute o m apos) (e :: es) [] pos) ob sl P := fun S A H σ Q g rs en => by
  obtain ⟨ad, fd, h1, h2, h3⟩ := F.ex
  refine wpE.of (pe_meth (pl := pl) pe_wp cl h1 h3 (ct.room.mono hj) h2 .nil pass0 pa_wp hst hpl ht) (h S A H σ _ g rs fun r ob1 v S1 A1 H1 hh g1 q1 st1 => ?_)
  obtain ⟨i, fs, rfl, hi, hn, hw⟩ := hh
  obtain ⟨p, hp, rfl⟩ := q1
  obtain ⟨s0, dx, xs, hx, hr⟩ := g1.own i p _ hp hi
  refine ⟨p, dx, xs, rfl, hx, relF_lookup_none hr hn, hw S1 A1 H1 σ _ g1 (rs.step st1) fun l ob2 vs S2 A2 H2 hh g2 q2 st2 => ?_⟩
  obtain ⟨ds, fs2, rfl, h2i, hfl, hf⟩ := hh
  rw [List.append_nil]
  have hp2 : A2[i]? = some p := by
    obtain ⟨t, rfl⟩ := st2.pre
    rw [List.getElem?_append_left (List.getElem?_eq_some_iff.mp hp).1]
    exact hp
  have g3 := good_one g2 hp2 h2i hfl
  exact ⟨S2, [p], .p 0 :: ds.map R.d, [.ins C fs2], _, g3, relRs_cons.mpr ⟨_, _, rfl, ⟨p, rfl, rfl⟩, relRs_d.mpr (relRs_d.mp q2)⟩, hf, retO_end g2 hp2 h2i (en.step (st1.trans st2))⟩
end
end DL

/-! DL: typed rules; comprehensions whose test draws. -/
namespace DL
open PySem L2
section
variable {X : Cx} {e o a b c tg elt iter : Expr} {es : List Expr} {pos apos : Pos} {ob : Obs} {sl : Sls} {P : Post} {PT : Bool → Obs → Prop} {k j : Nat}
/-- lists of numbers | of rows, compared -/
def eqTP {α : Type} [DecidableEq α] (enc : α → Dt) (neg : Bool) (ob : Obs) (P : Post) (r1 r2 : R) : Prop := ∃ x y : α, dtOf ob r1 = some (enc x) ∧ dtOf ob r2 = some (enc y) ∧ P (.d (.bl (bif neg then !decide (x = y) else decide (x = y)))) ob
theorem eqP_of {neg : Bool} {r1 r2 : R} {x y : Dt} (h1 : dtOf ob r1 = some x) (h2 : dtOf ob r2 = some y) (o1 : okD 64 x = true) (o2 : okD 64 y = true) (ne : ∀ i, x ≠ .int i) (h : P (.d (.bl (bif neg then !eqD x y else eqD x y))) ob) : eqP neg ob P r1 r2 := by
  unfold eqP
  split
  · exact absurd (Option.some.inj h1).symm (ne _)
  · rw [h1, h2]
    exact ⟨⟨o1, o2⟩, h⟩
theorem eqTP_I {neg : Bool} {r1 r2 : R} (h : eqTP encI neg ob P r1 r2) : eqP neg ob P r1 r2 := by
  obtain ⟨x, y, h1, h2, h⟩ := h
  exact eqP_of h1 h2 (okD_encI 63 x) (okD_encI 63 y) (fun _ z => by cases z) (by rw [eqD_encI]; exact h)
theorem eqTP_R {neg : Bool} {r1 r2 : R} (h : eqTP encR neg ob P r1 r2) : eqP neg ob P r1 r2 := by
  obtain ⟨x, y, h1, h2, h⟩ := h
  exact eqP_of h1 h2 (okD_encR 62 x) (okD_encR 62 y) (fun _ z => by cases z) (by rw [eqD_encR]; exact h)
theorem we_eqI (ct : Ct X k) (h : We X a ob sl fun r1 ob1 => We X b ob1 sl fun r2 ob2 => eqTP encI false ob2 P r1 r2) : We X (.Compare a [.Eq] [b] pos) ob sl P := we_eq ct (h.mono fun _ _ h => h.mono fun _ _ h => eqTP_I h)
theorem we_neI (ct : Ct X k) (h : We X a ob sl fun r1 ob1 => We X b ob1 sl fun r2 ob2 => eqTP encI true ob2 P r1 r2) : We X (.Compare a [.NotEq] [b] pos) ob sl P := we_ne ct (h.mono fun _ _ h => h.mono fun _ _ h => eqTP_I h)
theorem wt_eqI (ct : Ct X k) (h : We X a ob sl fun r1 ob1 => We X b ob1 sl fun r2 ob2 => eqTP encI false ob2 (asT PT) r1 r2) : Wt X (.Compare a [.Eq] [b] pos) ob sl PT := wt_eq ct (h.mono fun _ _ h => h.mono fun _ _ h => eqTP_I h)
theorem wt_neI (ct : Ct X k) (h : We X a ob sl fun r1 ob1 => We X b ob1 sl fun r2 ob2 => eqTP encI true ob2 (asT PT) r1 r2) : Wt X (.Compare a [.NotEq] [b] pos) ob sl PT := wt_ne ct (h.mono fun _ _ h => h.mono fun _ _ h => eqTP_I h)
theorem we_eqR (ct : Ct X k) (h : We X a ob sl fun r1 ob1 => We X b ob1 sl fun r2 ob2 => eqTP encR false ob2 P r1 r2) : We X (.Compare a [.Eq] [b] pos) ob sl P := we_eq ct (h.mono fun _ _ h => h.mono fun _ _ h => eqTP_R h)
theorem we_neR (ct : Ct X k) (h : We X a ob sl fun r1 ob1 => We X b ob1 sl fun r2 ob2 => eqTP encR true ob2 P r1 r2) : We X (.Compare a [.NotEq] [b] pos) ob sl P := we_ne ct (h.mono fun _ _ h => h.mono fun _ _ h => eqTP_R h)
theorem wt_eqR (ct : Ct X k) (h : We X a ob sl fun r1 ob1 => We X b ob1 sl fun r2 ob2 => eqTP encR false ob2 (asT PT) r1 r2) : Wt X (.Compare a [.Eq] [b] pos) ob sl PT := wt_eq ct (h.mono fun _ _ h => h.mono fun _ _ h => eqTP_R h)
theorem wt_neR (ct : Ct X k) (h : We X a ob sl fun r1 ob1 => We X b ob1 sl fun r2 ob2 => eqTP encR true ob2 (asT PT) r1 r2) : Wt X (.Compare a [.NotEq] [b] pos) ob sl PT := wt_ne ct (h.mono fun _ _ h => h.mono fun _ _ h => eqTP_R h)
/-- tests of bools: b == c of tests -/
theorem op2_eqB {x y : Bool} (h : P (.d (.bl (x == y))) ob) (neg : Bool) (hn : neg = false) : eqP neg ob P (.d (.bl x)) (.d (.bl y)) := by
  subst hn
  refine eqP_of rfl rfl rfl rfl (fun _ z => by cases z) ?_
  rw [show eqD (.bl x) (.bl y) = (x == y) from by show PyData.eqv (.bool x) (.bool y) = _; rw [PyData.eqv]]
  exact h
theorem we_eqB (ct : Ct X k) (h : We X a ob sl fun r1 ob1 => We X b ob1 sl fun r2 ob2 => ∃ x y, r1 = .d (.bl x) ∧ r2 = .d (.bl y) ∧ P (.d (.bl (x == y))) ob2) : We X (.Compare a [.Eq] [b] pos) ob sl P := we_eq ct (h.mono fun _ _ h => h.mono fun _ _ ⟨x, y, e1, e2, h2⟩ => by subst e1 e2; exact op2_eqB h2 false rfl)
theorem wt_eqB (ct : Ct X k) (h : We X a ob sl fun r1 ob1 => We X b ob1 sl fun r2 ob2 => ∃ x y, r1 = .d (.bl x) ∧ r2 = .d (.bl y) ∧ PT (x == y) ob2) : Wt X (.Compare a [.Eq] [b] pos) ob sl PT := wt_eq ct (h.mono fun _ _ h => h.mono fun _ _ ⟨x, y, e1, e2, h2⟩ => by subst e1 e2; exact op2_eqB ⟨_, rfl, h2⟩ false rfl)
theorem op2_neB {x y : Bool} (h : P (.d (.bl (x != y))) ob) : eqP true ob P (.d (.bl x)) (.d (.bl y)) := by
  refine eqP_of rfl rfl rfl rfl (fun _ z => by cases z) ?_
  rw [show eqD (.bl x) (.bl y) = (x == y) from by show PyData.eqv (.bool x) (.bool y) = _; rw [PyData.eqv]]
  exact h
theorem we_neB (ct : Ct X k) (h : We X a ob sl fun r1 ob1 => We X b ob1 sl fun r2 ob2 => ∃ x y, r1 = .d (.bl x) ∧ r2 = .d (.bl y) ∧ P (.d (.bl (x != y))) ob2) : We X (.Compare a [.NotEq] [b] pos) ob sl P := we_ne ct (h.mono fun _ _ h => h.mono fun _ _ ⟨x, y, e1, e2, h2⟩ => by subst e1 e2; exact op2_neB h2)
theorem wt_neB (ct : Ct X k) (h : We X a ob sl fun r1 ob1 => We X b ob1 sl fun r2 ob2 => ∃ x y, r1 = .d (.bl x) ∧ r2 = .d (.bl y) ∧ PT (x != y) ob2) : Wt X (.Compare a [.NotEq] [b] pos) ob sl PT := wt_ne ct (h.mono fun _ _ h => h.mono fun _ _ ⟨x, y, e1, e2, h2⟩ => by subst e1 e2; exact op2_neB ⟨_, rfl, h2⟩)

theorem any_enc {α : Type} [DecidableEq α] {enc : α → Dt} (he : ∀ a b, eqD (enc a) (enc b) = decide (a = b)) (l : List α) (x : α) : ((l.map enc).any fun z => eqD z (enc x)) = decide (x ∈ l) := by
  rw [List.any_map]
  have e : ((fun z => eqD z (enc x)) ∘ enc) = fun z => decide (z = x) := funext fun z => he z x
  rw [e]
  apply Bool.eq_iff_iff.mpr
  simp [List.any_eq_true]
/-- x in ns -/
def inTP {α : Type} [DecidableEq α] (enc : α → Dt) (neg : Bool) (ob : Obs) (P : Post) (r1 r2 : R) : Prop := ∃ (x : α) (l : List α), dtOf ob r1 = some (enc x) ∧ dtOf ob r2 = some (.lst (l.map enc)) ∧ P (.d (.bl (bif neg then !decide (x ∈ l) else decide (x ∈ l)))) ob
theorem inTP_I {neg : Bool} {r1 r2 : R} (h : inTP Dt.int neg ob P r1 r2) : inP neg ob P r1 r2 := by
  obtain ⟨x, y, h1, h2, h⟩ := h
  unfold inP
  rw [h1, h2]
  refine ⟨⟨rfl, okD_encI 63 y⟩, ?_⟩
  rw [any_int]
  exact h
theorem inTP_R {neg : Bool} {r1 r2 : R} (h : inTP encI neg ob P r1 r2) : inP neg ob P r1 r2 := by
  obtain ⟨x, y, h1, h2, h⟩ := h
  unfold inP
  rw [h1, h2]
  refine ⟨⟨okD_encI 62 x, okD_encR 62 y⟩, ?_⟩
  rw [any_enc eqD_encI]
  exact h
theorem we_inI (ct : Ct X k) (h : We X a ob sl fun r1 ob1 => We X b ob1 sl fun r2 ob2 => inTP Dt.int false ob2 P r1 r2) (hm : behindInMarks .In b = false := by rfl) : We X (.Compare a [.In] [b] pos) ob sl P := we_in ct (h.mono fun _ _ h => h.mono fun _ _ h => inTP_I h) hm
theorem wt_inI (ct : Ct X k) (h : We X a ob sl fun r1 ob1 => We X b ob1 sl fun r2 ob2 => inTP Dt.int false ob2 (asT PT) r1 r2) (hm : behindInMarks .In b = false := by rfl) : Wt X (.Compare a [.In] [b] pos) ob sl PT := wt_in ct (h.mono fun _ _ h => h.mono fun _ _ h => inTP_I h) hm
theorem we_inR (ct : Ct X k) (h : We X a ob sl fun r1 ob1 => We X b ob1 sl fun r2 ob2 => inTP encI false ob2 P r1 r2) (hm : behindInMarks .In b = false := by rfl) : We X (.Compare a [.In] [b] pos) ob sl P := we_in ct (h.mono fun _ _ h => h.mono fun _ _ h => inTP_R h) hm
theorem wt_inR (ct : Ct X k) (h : We X a ob sl fun r1 ob1 => We X b ob1 sl fun r2 ob2 => inTP encI false ob2 (asT PT) r1 r2) (hm : behindInMarks .In b = false := by rfl) : Wt X (.Compare a [.In] [b] pos) ob sl PT := wt_in ct (h.mono fun _ _ h => h.mono fun _ _ h => inTP_R h) hm
theorem we_notInI (ct : Ct X k) (h : We X a ob sl fun r1 ob1 => We X b ob1 sl fun r2 ob2 => inTP Dt.int true ob2 P r1 r2) (hm : behindInMarks .NotIn b = false := by rfl) : We X (.Compare a [.NotIn] [b] pos) ob sl P := we_notIn ct (h.mono fun _ _ h => h.mono fun _ _ h => inTP_I h) hm
theorem wt_notInI (ct : Ct X k) (h : We X a ob sl fun r1 ob1 => We X b ob1 sl fun r2 ob2 => inTP Dt.int true ob2 (asT PT) r1 r2) (hm : behindInMarks .NotIn b = false := by rfl) : Wt X (.Compare a [.NotIn] [b] pos) ob sl PT := wt_notIn ct (h.mono fun _ _ h => h.mono fun _ _ h => inTP_I h) hm
theorem we_notInR (ct : Ct X k) (h : We X a ob sl fun r1 ob1 => We X b ob1 sl fun r2 ob2 => inTP encI true ob2 P r1 r2) (hm : behindInMarks .NotIn b = false := by rfl) : We X (.Compare a [.NotIn] [b] pos) ob sl P := we_notIn ct (h.mono fun _ _ h => h.mono fun _ _ h => inTP_R h) hm
theorem wt_notInR (ct : Ct X k) (h : We X a ob sl fun r1 ob1 => We X b ob1 sl fun r2 ob2 => inTP encI true ob2 (asT PT) r1 r2) (hm : behindInMarks .NotIn b = false := by rfl) : Wt X (.Compare a [.NotIn] [b] pos) ob sl PT := wt_notIn ct (h.mono fun _ _ h => h.mono fun _ _ h => inTP_R h) hm

/-- the rest, its value left open -/
theorem we_modA (h : We X a ob sl fun r1 ob1 => We X b ob1 sl fun r2 ob2 => ∃ i j, r1 = .d (.int i) ∧ r2 = .d (.int j) ∧ 0 < j ∧ ∀ m, 0 ≤ m → m < j → P (.d (.int m)) ob2) : We X (.BinOp a .Mod b pos) ob sl P :=
  we_mod (h.mono fun _ _ h1 => h1.mono fun _ _ ⟨i, j, e1, e2, hj, hk⟩ => ⟨i, j, e1, e2, hj, hk _ (Int.emod_nonneg _ (Int.ne_of_gt hj)) (Int.emod_lt_of_pos _ hj)⟩)
theorem dtOf_at {i : Nat} {l : List Dt} (h : ob[i]? = some (.lst l)) : dtOf ob (.p i) = some (.lst l) := by simp only [dtOf, h]
theorem set_at {i : Nat} {c d : Ob} (h : ob[i]? = some c) : (ob.set i d)[i]? = some d := List.getElem?_set_self (List.getElem?_eq_some_iff.mp h).1
/-- isinstance(e, C), C an own class -/
theorem we_isC {C : Addr} {nT : Str} {p1 p2 : Pos} (hm : X.mg "isinstance" = none) (c : C8.InsC X.K C) (hmT : X.mg nT = some (.ref C)) (h : We X a ob sl fun r ob1 => ∃ fs, insOf ob1 r = some (C, fs) ∧ P (.d (.bl true)) ob1) (hg : Gl X "isinstance" := by rfl) (hgT : Gl X nT := by rfl)
    (hs : starEach [a, .Name nT p2] X.env = (false, eval a X.env) :: starEach [.Name nT p2] X.env := by rfl) (hs2 : starEach [Expr.Name nT p2] X.env = (false, eval (.Name nT p2) X.env) :: starEach [] X.env := by rfl)
    (hp : (backTo pos (starEach [Expr.Name nT p2] X.env)).any (·.1) = false := by rfl) (hd : (nT == ("__debug__" : Str)) = false := by decide) : We X (.Call (.Name "isinstance" p1) [a, .Name nT p2] [] pos) ob sl P := fun S A H σ Q g rs en => by
  refine wpE.of (pe_callB (C8.call_isC c) hg hm (by decide +kernel) (pa_cons pe_wp (pa_cons (C8.pe_gc (v := .ref C) hgT ⟨_, hmT, rfl⟩ hd) pa_nil hs2) hs) (by decide) (by decide) hs hp) (h S A H σ _ g rs fun r1 ob1 x S1 A1 H1 h1 g1 q1 st1 => ?_)
  obtain ⟨fs, h1, hk⟩ := h1
  obtain ⟨p, dx, xs, rfl, hx, _⟩ := insOf_rel h1 g1 q1
  exact ⟨p, dx, xs, rfl, hx, en _ _ _ _ _ _ hk g1 rr_bl st1⟩
/-- a comprehension whose test changes what is owned, within Gn (by the turn): a part of the list stays -/
theorem lcP_filterG {α : Type} {own : Bool} {scope : Scope} {t : Tg} {vs : List Nat} (enc : α → Dt) (Gn : Nat → Obs → Prop) (ho : t.own vs = true) (hg : ∀ s H C cl fp, PG (X.blk s H scope (compEnvC scope cl C X.env) fp) tg (tgR X.K t))
    (hi : Wi X tg iter ob sl fun ds ob1 => ds.length ≤ sizeLine ∧ Gn 0 ob1 ∧ ∃ (l : List α) (g : α → Dt), ds = l.map enc ∧ (∀ (i : Nat) a, l[i]? = some a → ∃ slb, bindT t (enc a) (wipeSl sl vs) = some slb ∧ (∀ ob2, Gn i ob2 → ∀ s H C cl fp, Wt (X.blk s H scope (compEnvC scope cl C X.env) fp) c ob2 slb (fun _ ob3 => Gn (i + 1) ob3)) ∧
      ∀ ob2, Gn (i + 1) ob2 → ∀ s H C cl fp, We (X.blk s H scope (compEnvC scope cl C X.env) fp) elt ob2 slb (Pv (g a) ob2)) ∧ ∀ (l' : List α) ob2, l'.Sublist l → Gn l.length ob2 → Mk own (l'.map g) ob2 P) :
    LcP X own tg elt iter [c] scope t vs ob sl P := by
  refine ⟨ho, bkT X scope c, bkE X scope elt, hg, pts_bk, pe_bk, fun S A H σ R g rs en => hi S A H σ R g rs fun ds ob1 J S1 A1 H1 h1 => en ds ob1 J S1 A1 H1 ?_⟩
  obtain ⟨hz, g1, l, g, rfl, hl, hk⟩ := h1
  refine ⟨hz, fun i acc ob2 => Gn i ob2 ∧ ∃ l' : List α, l'.Sublist (l.take i) ∧ acc = l'.map g, ⟨g1, [], List.Sublist.refl _, rfl⟩, fun i d hd acc ob2 ⟨e1, e2⟩ => ?_, fun acc ob2 ⟨e1, e2⟩ => ?_⟩
  · obtain ⟨l', hs, rfl⟩ := e2
    obtain ⟨a, ha, rfl⟩ := get_map hd
    obtain ⟨slb, hb, hq, he⟩ := hl i a ha
    have step : l.take (i + 1) = l.take i ++ [a] := by rw [List.take_add_one, ha]; rfl
    refine ⟨slb, hb, bkT_ok fun s H C cl fp => (hq ob2 e1 s H C cl fp).mono fun b ob3 g3 => ⟨fun _ => bkE_ok fun s H C cl fp => (he ob3 g3 s H C cl fp).mono fun r ob4 ⟨e3, e4⟩ => ?_, fun _ => ⟨g3, l', ?_, rfl⟩⟩⟩
    · subst e3 e4
      refine ⟨_, rfl, g3, l' ++ [a], ?_, by rw [List.map_append]; rfl⟩
      rw [step]
      exact hs.append (List.Sublist.refl _)
    · rw [step]
      exact hs.trans (List.sublist_append_left _ _)
  · obtain ⟨l', hs, rfl⟩ := e2
    rw [List.length_map, List.take_length] at hs
    rw [List.length_map] at e1
    exact hk l' ob2 hs e1
theorem fold_take {α β : Type} {f : β → α → β} {b : β} {l : List α} {i : Nat} {a : α} (h : l[i]? = some a) : (l.take (i + 1)).foldl f b = f ((l.take i).foldl f b) a := by
  rw [List.take_add_one, h, List.foldl_append]
  rfl
/-- bits -/
theorem bits_le {i : Int} {n : Nat} (h : i.natAbs < 2 ^ n) : Builtin.Int.intBits i ≤ n := by
  unfold Builtin.Int.intBits
  by_cases e : i = 0
  · rw [if_pos (by simp [e])]
    exact Nat.zero_le _
  · rw [if_neg (by simp [e])]
    exact (Nat.log2_lt (by omega)).mpr h
theorem mulOk {i j : Int} (h : i.natAbs < 2 ^ 64) : IntMulOk i j := IntMulOk.of_left (bits_le h)
end
end DL

/-! DL: a new list of new lists, all of it owned. -/
namespace DL
open PySem L2
def nstD (inner : List (List Int)) : List (List Int) → List Nat → Prop
  | [], [] => True
  | l :: ls, j :: js => inner[j]? = some l ∧ nstD inner ls js
  | _, _ => False
def Nst (D : List Addr) (inner : List (List Int)) : List (List Int) → List V → List Nat → Prop
  | [], [], [] => True
  | l :: ls, x :: xs, j :: js => (∃ q, x = .ref q ∧ D[j]? = some q ∧ inner[j]? = some l) ∧ Nst D inner ls xs js
  | _, _, _ => False
theorem Nst.nstD {D inner} : ∀ {ls xs js}, Nst D inner ls xs js → DL.nstD inner ls js
  | [], [], [], _ => trivial
  | l :: ls, x :: xs, j :: js, h => ⟨h.1.choose_spec.2.2, Nst.nstD h.2⟩
  | [], _ :: _, _, h => h.elim
  | [], [], _ :: _, h => h.elim
  | _ :: _, [], _, h => h.elim
  | _ :: _, _ :: _, [], h => h.elim
theorem Nst.snoc {D inner} {q : Addr} {l0 : List Int} (hl : D.length = inner.length) : ∀ {ls xs js}, Nst D inner ls xs js → Nst (D ++ [q]) (inner ++ [l0]) ls xs js
  | [], [], [], _ => trivial
  | l :: ls, x :: xs, j :: js, h => by
    obtain ⟨⟨q', e1, e2, e3⟩, h2⟩ := h
    refine ⟨⟨q', e1, ?_, ?_⟩, Nst.snoc hl h2⟩
    · rw [List.getElem?_append_left (List.getElem?_eq_some_iff.mp e2).1]; exact e2
    · rw [List.getElem?_append_left (List.getElem?_eq_some_iff.mp e3).1]; exact e3
  | [], _ :: _, _, h => h.elim
  | [], [], _ :: _, h => h.elim
  | _ :: _, [], _, h => h.elim
  | _ :: _, _ :: _, [], h => h.elim
theorem ints_inj {l m : List Int} (h : l.map V.int = m.map V.int) : l = m := by
  induction l generalizing m with
  | nil => cases m with
    | nil => rfl
    | cons b m => cases h
  | cons a l ih => cases m with
    | nil => cases h
    | cons b m =>
      rw [List.map_cons, List.map_cons] at h
      injection h with h1 h2
      cases h1
      rw [ih h2]
theorem nst_of {S : Hp} : ∀ {ls : List (List Int)} {xs : List V}, Reps S (ls.map encI) xs → ∃ (D : List Addr) (inner : List (List Int)) (js : List Nat), D.Nodup ∧ D.length = inner.length ∧ (∀ (j : Nat) (q : Addr), D[j]? = some q → ∃ l : List Int, inner[j]? = some l ∧ S q = some (.lst (l.map V.int))) ∧ Nst D inner ls xs js
  | [], xs, h => by
    rw [List.map_nil] at h
    rw [reps_nil.mp h]
    exact ⟨[], [], [], List.nodup_nil, rfl, fun j q z => by simp at z, trivial⟩
  | l :: ls, xs, h => by
    rw [List.map_cons] at h
    obtain ⟨x, t, rfl, h1, h2⟩ := reps_cons.mp h
    obtain ⟨D, inner, js, n1, n2, n3, n4⟩ := nst_of h2
    obtain ⟨q, ys, rfl, s1, s2⟩ := rep_lst.mp h1
    rw [reps_ints.mp s2] at s1
    by_cases hq : q ∈ D
    · obtain ⟨j, hj⟩ := List.getElem?_of_mem hq
      obtain ⟨l', e1, e2⟩ := n3 j q hj
      rw [s1] at e2
      have e3 : l = l' := ints_inj (HO.lst.inj (Option.some.inj e2))
      subst e3
      exact ⟨D, inner, j :: js, n1, n2, n3, ⟨q, rfl, hj, e1⟩, n4⟩
    · refine ⟨D ++ [q], inner ++ [l], D.length :: js, ?_, by simp [n2], fun j q' z => ?_, ⟨q, rfl, by simp, by rw [n2]; simp⟩, n4.snoc n2⟩
      · rw [List.nodup_append]
        refine ⟨n1, by simp, fun a ha b hb => ?_⟩
        rw [List.mem_singleton] at hb
        subst hb
        rintro rfl
        exact hq ha
      · by_cases hj : j < D.length
        · rw [List.getElem?_append_left hj] at z
          obtain ⟨l', e1, e2⟩ := n3 j q' z
          exact ⟨l', by rw [List.getElem?_append_left (List.getElem?_eq_some_iff.mp e1).1]; exact e1, e2⟩
        · rw [List.getElem?_append_right (by omega)] at z
          have e : j - D.length = 0 := by
            have := (List.getElem?_eq_some_iff.mp z).1
            simp at this
            exact this
          rw [e] at z
          simp at z
          subst z
          exact ⟨l, by rw [List.getElem?_append_right (by omega), ← n2, e]; rfl, s1⟩
theorem nstD_len {inner : List (List Int)} : ∀ {ls : List (List Int)} {js : List Nat}, nstD inner ls js → js.length = ls.length
  | [], [], _ => rfl
  | l :: ls, j :: js, h => by rw [List.length_cons, List.length_cons, nstD_len h.2]
  | [], _ :: _, h => h.elim
  | _ :: _, [], h => h.elim
theorem reps_sc {S S' : Hp} : ∀ {ds : List Dt} {xs : List V}, ds.all Dt.sc = true → Reps S ds xs → Reps S' ds xs
  | [], xs, _, h => by rw [reps_nil.mp h]; exact reps_nil.mpr rfl
  | d :: ds, xs, hs, h => by
    rw [List.all_cons, Bool.and_eq_true] at hs
    obtain ⟨x, t, rfl, h1, h2⟩ := reps_cons.mp h
    exact reps_cons.mpr ⟨x, t, rfl, h1.sc hs.1 S', reps_sc hs.2 h2⟩
theorem nst_rel {S : Hp} {A D : List Addr} {p : Addr} {inner} : ∀ {ls xs js}, Nst D inner ls xs js → RelRs S (A ++ p :: D) (js.map fun j => R.p (A.length + 1 + j)) xs
  | [], [], [], _ => relRs_nil.mpr rfl
  | l :: ls, x :: xs, j :: js, h => by
    obtain ⟨⟨q, rfl, e2, _⟩, h2⟩ := h
    refine relRs_cons.mpr ⟨_, _, rfl, ⟨q, ?_, rfl⟩, nst_rel h2⟩
    rw [List.getElem?_append_right (by omega), show A.length + 1 + j - A.length = j + 1 from by omega, List.getElem?_cons_succ]
    exact e2
  | [], _ :: _, _, h => h.elim
  | [], [], _ :: _, h => h.elim
  | _ :: _, [], _, h => h.elim
  | _ :: _, _ :: _, [], h => h.elim
theorem RelRs.append {S : Hp} {A : List Addr} : ∀ {l m : List R} {xs ys : List V}, RelRs S A l xs → RelRs S A m ys → RelRs S A (l ++ m) (xs ++ ys)
  | [], _, _, _, h, k => by rw [relRs_nil.mp h]; exact k
  | r :: l, m, _, ys, h, k => by
    obtain ⟨x, t, rfl, h2, h3⟩ := relRs_cons.mp h
    exact relRs_cons.mpr ⟨x, t ++ ys, rfl, h2, RelRs.append h3 k⟩
section
variable {X : Cx} {e a b c : Expr} {es : List Expr} {pos p1 p2 apos : Pos} {ob : Obs} {sl : Sls} {P : Post} {PT : Bool → Obs → Prop} {K : PySem.W.Frag} {S S' H H' : Hp} {A A' : List Addr} {Q : VK} {k j : Nat} {x : Str} {ps : List Str} {f : FS} {v : V}
def innerO (inner : List (List Int)) : Obs := inner.map fun l => .lst (l.map .int)
/-- f(..) of scalars, a new list of new lists of whole numbers comes back -/
theorem we_callN {st : Stmt} (F : Fn X.prog X.w X.K X.mg X.base x st j ps f) (ct : Ct X k) (hj : j ≤ k) (h : Wa X (e :: es) ob sl fun rs ob1 => ∃ ds : List Dt, rs = ds.map R.d ∧ ds.all Dt.sc = true ∧ f (ds.map R.d) [] (fun r ob0 => ∃ ls : List (List Int), r = .p 0 ∧ ob0 = [.lst (ls.map encI)] ∧ ∀ js inner, nstD inner ls js → P (.p ob1.length) (ob1 ++ .lsp (js.map fun j => .p (ob1.length + 1 + j)) :: innerO inner))) (hg : Gl X x := by rfl) (hd : (x == ("__debug__" : Str)) = false := by decide)
    (hs : starEach (e :: es) X.env = (false, eval e X.env) :: starEach es X.env := by rfl) (hpp : (backTo pos (starEach es X.env)).any (·.1) = false := by rfl) : We X (.Call (.Name x p1) (e :: es) [] pos) ob sl P := fun S A H σ Q g rs en => by
  obtain ⟨ad, fd, h1, h2, h3, h4⟩ := F.ex
  refine wpE.of (pe_call h4 (ct.room.mono hj) hg h1 h2.kp h3 .nil pass0 pa_wp hd hs hpp) (h S A H σ _ g rs fun l ob1 vs S2 A2 H2 hh g2 q2 st2 => ?_)
  obtain ⟨ds, rfl, hsc, hf⟩ := hh
  rw [List.append_nil]
  have ex0 : Ex (fun _ => none) H2 := fun a o z => by cases z
  refine ⟨fun _ => none, [], ds.map R.d, [], _, good_none ex0, relRs_d.mpr (reps_sc hsc (relRs_d.mp q2)), hf, fun r ob0 v S1 A1 H1 hr g1 q1 st1 => ?_⟩
  obtain ⟨ls, rfl, rfl, hP⟩ := hr
  obtain ⟨p, hp, rfl⟩ := q1
  obtain ⟨sp, xs, hx, hxs⟩ := g1.own 0 p _ hp rfl
  obtain ⟨D, inner, js, n1, n2, n3, n4⟩ := nst_of hxs
  have new : ∀ b, (S1 b ≠ none ∨ b ∈ A1) → H2 b = none := fun b z => by
    rcases st1.new b z with w | w | w
    · exact (w rfl).elim
    · exact absurd w List.not_mem_nil
    · exact w
  have hnp : H2 p = none := new p (.inr (List.mem_of_getElem? hp))
  have hnD : ∀ q ∈ D, H2 q = none ∧ S1 q ≠ none := fun q hq => by
    obtain ⟨i, hi⟩ := List.getElem?_of_mem hq
    obtain ⟨l', _, e2⟩ := n3 i q hi
    have z : S1 q ≠ none := by rw [e2]; exact fun w => by cases w
    exact ⟨new q (.inl z), z⟩
  have kp : ∀ a o, H2 a = some o → H1 a = some o := fun a o q => st1.keep a o q (.inl List.not_mem_nil)
  have ex3 : Ex S2 H1 := fun a o q => by
    rcases g2.ex a o q with z | ⟨z, u, w⟩
    · exact .inl (kp a o z)
    · exact .inr ⟨z, u, kp a _ w⟩
  have g3 : Good X.K S2 A2 H1 ob1 := g2.ext ex3 (Le.refl _) kp fun a z => .inl z
  have fr : ∀ b, H2 b = none → S2 b = none := fun b z => g2.ex.fresh z
  have nA : ∀ b, H2 b = none → b ∉ A2 := fun b z w => g2.here b w z
  have hA : ob1.length = A2.length := g2.len.symm
  have g4 : Good X.K S2 (A2 ++ p :: D) H1 (ob1 ++ .lsp (js.map fun j => .p (ob1.length + 1 + j)) :: innerO inner) := by
    refine ⟨ex3, ?_, by simp [innerO, g2.len, n2], fun i a c e1 e2 => ?_, fun a ha => ?_⟩
    · rw [List.nodup_append]
      refine ⟨g2.nd, List.nodup_cons.mpr ⟨fun z => (hnD p z).2 sp, n1⟩, fun a ha b hb => ?_⟩
      rintro rfl
      rcases List.mem_cons.mp hb with z | z
      · subst z; exact nA a hnp ha
      · exact nA a (hnD a z).1 ha
    · by_cases hi : i < A2.length
      · rw [List.getElem?_append_left hi] at e1
        rw [List.getElem?_append_left (by rw [hA]; exact hi)] at e2
        exact (g3.own i a c e1 e2).mono (Le.refl _) (List.prefix_append _ _) (fun z => z) fun _ _ z => z
      · rw [List.getElem?_append_right (by omega)] at e1
        rw [List.getElem?_append_right (by rw [hA]; omega), hA] at e2
        cases hm : i - A2.length with
        | zero =>
          rw [hm] at e1 e2
          simp at e1 e2
          subst e1 e2
          exact ⟨fr _ hnp, xs, hx, nst_rel n4⟩
        | succ m =>
          rw [hm, List.getElem?_cons_succ] at e1 e2
          obtain ⟨l', e3, e4⟩ := n3 m a e1
          unfold innerO at e2
          rw [List.getElem?_map, e3] at e2
          cases e2
          refine ⟨fr _ (hnD a (List.mem_of_getElem? e1)).1, _, g1.ex.at e4 rfl, reps_ints.mpr rfl⟩
    · rcases List.mem_append.mp ha with z | z
      · exact g3.here a z
      · rcases List.mem_cons.mp z with z | z
        · subst z; rw [hx]; exact fun w => by cases w
        · obtain ⟨i, hi⟩ := List.getElem?_of_mem z
          obtain ⟨l', _, e4⟩ := n3 i a hi
          rw [g1.ex.at e4 rfl]
          exact fun w => by cases w
  have st4 : Step S2 A2 H2 S2 (A2 ++ p :: D) H1 := ⟨Le.refl _, List.prefix_append _ _, fun a o q _ => kp a o q, fun a z => by
    rcases z with z | z
    · exact .inl z
    · rcases List.mem_append.mp z with z | z
      · exact .inr (.inl z)
      · rcases List.mem_cons.mp z with z | z
        · subst z; exact .inr (.inr hnp)
        · exact .inr (.inr (hnD a z).1)⟩
  exact en _ _ _ _ _ _ (hP js inner n4.nstD) g4 ⟨p, by rw [hA, List.getElem?_append_right (Nat.le_refl _), Nat.sub_self]; rfl, rfl⟩ (st2.trans st4)

/-- what stands at such a list -/
structure NestAt (ob : Obs) (k : Nat) (ls : List (List Int)) : Prop where
  ex : ∃ (js : List Nat) (inner : List (List Int)) (n : Nat), k < n ∧ ob[k]? = some (.lsp (js.map fun j => .p (n + j))) ∧ (∀ j l, inner[j]? = some l → ob[n + j]? = some (.lst (l.map .int))) ∧ nstD inner ls js
theorem nestAt_call {g : Ob} {ls : List (List Int)} {js : List Nat} {inner : List (List Int)} (h : nstD inner ls js) : NestAt (g :: .lsp (js.map fun j => .p (2 + j)) :: innerO inner) 1 ls :=
  ⟨js, inner, 2, by decide, rfl, fun j l e => by
    rw [show 2 + j = j + 1 + 1 from by omega, List.getElem?_cons_succ, List.getElem?_cons_succ]
    unfold innerO
    rw [List.getElem?_map, e]
    rfl, h⟩
theorem NestAt.dp {ls : List (List Int)} (h : NestAt ob k ls) (g : Good K S A H ob) (q : RelR S A (.p k) v) : Dp K H v (toPy (encR ls)) := by
  obtain ⟨js, inner, n, _, h1, h2, h3⟩ := h.ex
  obtain ⟨p, hp, rfl⟩ := q
  obtain ⟨s0, xs, hx, hr⟩ := g.own k p _ hp h1
  show Dp K H (.ref p) (.list (toPys (ls.map encI)))
  refine .lst (SqL.of hx) ?_
  have key : ∀ (ls : List (List Int)) (js : List Nat) (xs : List V), nstD inner ls js → RelRs S A (js.map fun j => R.p (n + j)) xs → DpAll K H xs (toPys (ls.map encI)) := fun ls => by
    induction ls with
    | nil =>
      intro js xs h hr
      cases js with
      | nil => rw [relRs_nil.mp hr]; exact .nil
      | cons j js => exact h.elim
    | cons l ls ih =>
      intro js xs h hr
      cases js with
      | nil => exact h.elim
      | cons j js =>
        obtain ⟨y, t, rfl, r1, r2⟩ := relRs_cons.mp hr
        obtain ⟨q, hq, rfl⟩ := r1
        have o := g.own (n + j) q _ hq (h2 j l h.1)
        obtain ⟨_, ys, hy, hys⟩ := o
        refine .cons ?_ (ih js t h.2 r2)
        show Dp K H (.ref q) (.list (toPys (l.map .int)))
        exact .lst (SqL.of hy) (Reps.dp g.ex 60 _ _ (okDs_ints 60 l) hys)
  exact key ls js xs h3 hr
theorem wt_neRN (ct : Ct X k) (h : We X a ob sl fun r1 ob1 => We X b ob1 sl fun r2 ob2 => ∃ (i : Nat) (x y : List (List Int)), r1 = .p i ∧ NestAt ob2 i x ∧ dtOf ob2 r2 = some (encR y) ∧ PT (!decide (x = y)) ob2) : Wt X (.Compare a [.NotEq] [b] pos) ob sl PT := by
  refine wt_cmp (op_neD (Nat.lt_of_succ_lt (Room.units65 ct.room))) (nomark _) (h.mono fun r1 ob1 h1 => h1.mono fun r2 ob2 h2 => fun S A H v w Q g q1 q2 en => ?_)
  obtain ⟨i, x, y, rfl, n, e, hp⟩ := h2
  exact ⟨_, _, n.dp g q1, dtOf_dp e (okD_encR 62 y) g q2, okD_shaped (okD_encR 62 x) (Nat.le_refl _), okD_shaped (okD_encR 62 y) (Nat.le_refl _), (by
    have e2 : eqD (encR x) (encR y) = decide (x = y) := eqD_encR x y
    unfold eqD at e2
    rw [e2]
    exact en.here ⟨_, rfl, hp⟩ g rr_bl)⟩
def inNP (neg : Bool) (ob : Obs) (P : Post) (r1 r2 : R) : Prop := ∃ (i : Nat) (x : List Int) (l : List (List Int)), dtOf ob r1 = some (encI x) ∧ r2 = .p i ∧ NestAt ob i l ∧ P (.d (.bl (bif neg then !decide (x ∈ l) else decide (x ∈ l)))) ob
theorem inNP_op {r1 r2 : R} (h : inNP false ob P r1 r2) : Op2 X (rInD X.K) r1 r2 ob P := fun S A H v w Q g q1 q2 en => by
  obtain ⟨i, x, l, e, rfl, n, hp⟩ := h
  refine ⟨toPy (encI x), toPys (l.map encI), dtOf_dp e (okD_encI 62 x) g q1, n.dp g q2, okD_shaped (okD_encI 62 x) (by decide), okD_shaped (okD_encR 62 l) (Nat.le_refl _), ?_⟩
  rw [any_toPys]
  have e2 := any_row l x
  unfold eqD at e2
  rw [e2]
  exact en.here (r := .d (.bl (decide (x ∈ l)))) hp g rr_bl
theorem notInNP_op {r1 r2 : R} (h : inNP true ob P r1 r2) : Op2 X (rNotInD X.K) r1 r2 ob P := fun S A H v w Q g q1 q2 en => by
  obtain ⟨i, x, l, e, rfl, n, hp⟩ := h
  refine ⟨toPy (encI x), toPys (l.map encI), dtOf_dp e (okD_encI 62 x) g q1, n.dp g q2, okD_shaped (okD_encI 62 x) (by decide), okD_shaped (okD_encR 62 l) (Nat.le_refl _), ?_⟩
  rw [any_toPys]
  have e2 := any_row l x
  unfold eqD at e2
  rw [e2]
  exact en.here (r := .d (.bl (!decide (x ∈ l)))) hp g rr_bl
theorem we_inRN (ct : Ct X k) (h : We X a ob sl fun r1 ob1 => We X b ob1 sl fun r2 ob2 => inNP false ob2 P r1 r2) (hm : behindInMarks .In b = false := by rfl) : We X (.Compare a [.In] [b] pos) ob sl P := we_cmp (op_inD (Room.units65 ct.room)) hm (h.mono fun _ _ h => h.mono fun _ _ h => inNP_op h)
theorem wt_notInRN (ct : Ct X k) (h : We X a ob sl fun r1 ob1 => We X b ob1 sl fun r2 ob2 => inNP true ob2 (asT PT) r1 r2) (hm : behindInMarks .NotIn b = false := by rfl) : Wt X (.Compare a [.NotIn] [b] pos) ob sl PT := wt_cmp (op_notInD (Room.units65 ct.room)) hm (h.mono fun _ _ h => h.mono fun _ _ h => notInNP_op h)
theorem at0 (y : V) (t : List V) : L2.atI (y :: t) 0 = some y := by
  unfold L2.atI L2.ixN
  rw [if_pos (Int.le_refl 0), if_pos (by rw [List.length_cons]; omega)]
  rfl
/-- told[0] of such a list: the item itself -/
theorem we_ixN {l0 : List Int} {ls : List (List Int)} {j0 : Nat} {p0 : Pos} (h : We X a ob sl fun r1 ob1 => ∃ i, r1 = .p i ∧ NestAt ob1 i (l0 :: ls) ∧ ∀ m, i < m → ob1[m]? = some (.lst (l0.map .int)) → P (.p m) ob1) : We X (.Subscript a (.Constant (.int 0) j0 p0) pos) ob sl P := fun S A H σ Q g rs en => by
  refine wpE.of (pe_ix ix_seq pe_wp pe_wp (fun _ _ => rfl)) (h S A H σ _ g rs fun r1 ob1 x S1 A1 H1 h1 g1 q1 st1 => we_int (P := fun r2 ob2 => r2 = .d (.int 0) ∧ ob2 = ob1) ⟨rfl, rfl⟩ S1 A1 H1 σ _ g1 (rs.step st1) fun r2 ob2 y S2 A2 H2 h2 g2 q2 st2 => ?_)
  obtain ⟨i, rfl, n, hk⟩ := h1
  obtain ⟨rfl, rfl⟩ := h2
  obtain ⟨js, inner, c, e0, e1, e2, e3⟩ := n.ex
  cases js with
  | nil => exact e3.elim
  | cons j js =>
    have q1' := q1.step st2
    obtain ⟨p, hp, rfl⟩ := q1'
    obtain ⟨s0, xs, hx, hr⟩ := g2.own i p _ hp e1
    obtain ⟨y0, t, rfl, r1, r2⟩ := relRs_cons.mp hr
    rw [q2.int]
    exact .inl ⟨p, y0 :: t, _, y0, rfl, rfl, SqL.of hx, at0 y0 t, en _ _ _ _ _ _ (hk _ (Nat.lt_of_lt_of_le e0 (Nat.le_add_right _ _)) (e2 j l0 e3.1)) g2 r1 (st1.trans st2)⟩
/-- l.append(e), l a list of owned things -/
theorem we_appendP {o : Expr} (h : We X o ob sl fun r ob1 => ∃ i l0, r = .p i ∧ ob1[i]? = some (.lsp l0) ∧ We X e ob1 sl fun r2 ob2 => ∃ l, ob2[i]? = some (.lsp l) ∧ l.length < sizeLine ∧ P (.d .non) (ob2.set i (.lsp (l ++ [r2]))))
    (hb : attributeBase o "append" X.env (eval o X.env) = eval o X.env := by rfl)
    (hfew : ((backTo pos (starEach [e] X.env)).all (fun x => !x.1) && (backToKw pos (keywordEach [] X.env)).all (fun x => x.1.isSome) && decide ([e].length + ([] : List Keyword).length + (if ([] : List Keyword).isEmpty then 0 else 1) < 30)) = true := by rfl)
    (hline : (apos.endLine == pos.line) = true := by rfl) (hs : starEach [e] X.env = (false, eval e X.env) :: starEach [] X.env := by rfl) : We X (.Call (.Attribute o "append" apos) [e] [] pos) ob sl P := fun S A H σ Q g rs en => by
  refine wpE.of (pe_bm PySem.F.plainAttrs_list PySem.F.slot_list_append PySem.F.type_list_append mt_append pe_wp (pa_cons pe_wp pa_nil hs) hb hfew hline hs rfl) (h S A H σ _ g rs fun r ob1 v S1 A1 H1 h1 g1 q1 st1 => ?_)
  obtain ⟨i, l0, rfl, e0, h1⟩ := h1
  obtain ⟨p, hp, rfl⟩ := q1
  obtain ⟨h0, xs0, hx0, _⟩ := g1.own i p _ hp e0
  refine ⟨.inl ⟨rfl, xs0, SqL.of hx0⟩, h1 S1 A1 H1 σ _ g1 (rs.step st1) fun r2 ob2 y S2 A2 H2 h2 g2 q2 st2 => ?_⟩
  obtain ⟨l, e2, hz, hk⟩ := h2
  have hp2 : A2[i]? = some p := by
    obtain ⟨t, ht⟩ := st2.pre
    rw [← ht, List.getElem?_append_left (List.getElem?_eq_some_iff.mp hp).1]
    exact hp
  obtain ⟨s0, xs, hx, hr⟩ := g2.own i p _ hp2 e2
  refine ⟨p, xs, y, rfl, rfl, hx, by rw [relRs_length hr]; exact hz, ?_⟩
  exact en _ _ _ _ _ _ hk (g2.mut hp2 s0 ⟨s0, _, upd_same, hr.append (relRs_cons.mpr ⟨_, _, rfl, q2, relRs_nil.mpr rfl⟩)⟩) rr_non ((st1.trans st2).trans (Step.mut (List.mem_of_getElem? hp2) s0))
end
end DL

/-! DL: the law's own def, for every base. -/
namespace DL
open PySem L2
theorem fun_uniq {K : PySem.W.Frag} {x q : Str} {st : Stmt} {a : Addr} {fd fd2 : FuncData} (h : Fun K x q st a fd) (h2 : Fun K x q st a fd2) : fd = fd2 := by
  obtain ⟨oc, od, kV, doc, pm, an, cdv, ct, osl, e, lk, _⟩ := h.ex
  obtain ⟨oc2, od2, kV2, doc2, pm2, an2, cdv2, ct2, osl2, e2, lk2, _⟩ := h2.ex
  rw [lk] at lk2
  injection lk2 with lk2
  injection lk2 with l1 l2 l3 l4
  injection l3
theorem law_fn {P : Program} {w : World} {K : PySem.W.Frag} {mg : Str → Option Value} {st : Stmt} {k : Nat} {x : Str} {fo : Addr} (d : Def K mg "law" st) (hb : BindsBy "law" st [x]) (F : ∀ base : Heap, Fn P w K mg base "law" st k [x] lawF) (hm : mg "law" = some (.ref fo)) :
    ∃ fd, (∀ (s : Shared) (u : Value), BindsTo s fd ⟨[u], []⟩ [(x, u)]) ∧ ∀ base : Heap, FnOk P w K mg base CX0 k fo fd [x] (spOf K lawF) := by
  obtain ⟨a, fd, h1, F0⟩ := d.ex
  rw [hm] at h1
  cases h1
  refine ⟨fd, fun s u => ?_, fun base => ?_⟩
  · obtain ⟨oc, od, kV, doc, pm, an, cdv, ct, osl, rfl, lk, _⟩ := F0.ex
    exact .of_eq (hb kV doc pm an cdv ct [u] rfl)
  · obtain ⟨a2, fd2, h2, F2, _, ok⟩ := (F base).ex
    rw [hm] at h2
    cases h2
    rw [fun_uniq F0 F2]
    exact ok
end DL


/-! DL: dicts whose keys are tuples of ints. -/
namespace DL
open PySem L2
def valT (l : List (List Key × Dt)) (k : List Key) : Option Dt := (l.find? fun kv => decide (kv.1 = k)).map (·.2)
def putT (l : List (List Key × Dt)) (k : List Key) (d : Dt) : List (List Key × Dt) :=
  if (l.any fun kv => decide (kv.1 = k)) = true then l.map (fun kv => if kv.1 = k then (kv.1, d) else kv) else l ++ [(k, d)]
section
variable {S S' : Hp}
theorem repT_nil {xs : List (List Key × V)} : RepT S [] xs ↔ xs = [] := by simp only [RepT]
theorem repT_cons {k : List Key} {d : Dt} {l : List (List Key × Dt)} {xs : List (List Key × V)} : RepT S ((k, d) :: l) xs ↔ ∃ x r, xs = (k, x) :: r ∧ Rep S d x ∧ RepT S l r := by simp only [RepT]
theorem RepT.val {k : List Key} : ∀ {l : List (List Key × Dt)} {xs : List (List Key × V)}, RepT S l xs → (valT l k = none → valV xs k = none) ∧ ∀ d, valT l k = some d → ∃ x, valV xs k = some x ∧ Rep S d x
  | [], _, h => by
    rw [repT_nil.mp h]
    exact ⟨fun _ => rfl, fun d e => by cases e⟩
  | (j, e) :: l, _, h => by
    obtain ⟨x, r, rfl, h1, h2⟩ := repT_cons.mp h
    unfold valT valV
    rw [List.find?_cons, List.find?_cons]
    by_cases q : j = k
    · subst q
      simp only [decide_true]
      exact ⟨fun z => (by cases z), fun d z => (by cases z; exact ⟨x, rfl, h1⟩)⟩
    · simp only [q, decide_false]
      exact RepT.val (k := k) h2
theorem RepT.isSome {k : List Key} {l : List (List Key × Dt)} {xs : List (List Key × V)} (h : RepT S l xs) : (valV xs k).isSome = (valT l k).isSome := by
  have q := h.val (k := k)
  cases e : valT l k with
  | none => rw [q.1 e]; rfl
  | some d =>
    obtain ⟨x, e2, _⟩ := q.2 d e
    rw [e2]
    rfl
theorem RepT.anyEq {k : List Key} : ∀ {l : List (List Key × Dt)} {xs : List (List Key × V)}, RepT S l xs → (xs.any fun kv => decide (kv.1 = k)) = l.any fun kv => decide (kv.1 = k)
  | [], _, h => by rw [repT_nil.mp h]; rfl
  | (j, e) :: l, _, h => by
    obtain ⟨x, r, rfl, h1, h2⟩ := repT_cons.mp h
    rw [List.any_cons, List.any_cons, RepT.anyEq h2]
theorem RepT.app : ∀ {l m : List (List Key × Dt)} {xs ys : List (List Key × V)}, RepT S l xs → RepT S m ys → RepT S (l ++ m) (xs ++ ys)
  | [], _, _, _, h, q => by
    rw [repT_nil.mp h]
    exact q
  | (j, e) :: l, m, _, ys, h, q => by
    obtain ⟨x, r, rfl, h1, h2⟩ := repT_cons.mp h
    exact repT_cons.mpr ⟨x, _, rfl, h1, h2.app q⟩
theorem RepT.mapPut {k : List Key} {d : Dt} {v : V} (q : Rep S d v) : ∀ {l : List (List Key × Dt)} {xs : List (List Key × V)}, RepT S l xs → RepT S (l.map fun kv => if kv.1 = k then (kv.1, d) else kv) (xs.map fun kv => if kv.1 = k then (kv.1, v) else kv)
  | [], _, h => by
    rw [repT_nil.mp h]
    exact repT_nil.mpr rfl
  | (j, e) :: l, _, h => by
    obtain ⟨x, r, rfl, h1, h2⟩ := repT_cons.mp h
    rw [List.map_cons, List.map_cons]
    by_cases z : j = k
    · simp only [z, if_pos]
      exact repT_cons.mpr ⟨v, _, rfl, q, h2.mapPut q⟩
    · simp only [z, if_false]
      exact repT_cons.mpr ⟨x, _, rfl, h1, h2.mapPut q⟩
theorem RepT.put {k : List Key} {d : Dt} {v : V} {l : List (List Key × Dt)} {xs : List (List Key × V)} (h : RepT S l xs) (q : Rep S d v) : RepT S (putT l k d) (putK xs k v) := by
  unfold putT putK
  rw [h.anyEq]
  split
  · exact h.mapPut q
  · exact h.app (repT_cons.mpr ⟨v, [], rfl, q, repT_nil.mpr rfl⟩)
theorem putT_length (l : List (List Key × Dt)) (k : List Key) (d : Dt) : (putT l k d).length ≤ l.length + 1 := by
  unfold putT
  split
  · rw [List.length_map]; omega
  · rw [List.length_append]; exact Nat.le_refl _
theorem RepT.lenEq : ∀ {l : List (List Key × Dt)} {xs : List (List Key × V)}, RepT S l xs → xs.length = l.length
  | [], _, h => by rw [repT_nil.mp h]; rfl
  | (j, e) :: l, _, h => by
    obtain ⟨x, r, rfl, h1, h2⟩ := repT_cons.mp h
    rw [List.length_cons, List.length_cons, RepT.lenEq h2]
end
/-- a dict, as data -/def dttOf (ob : Obs) : R → Option (List (List Key × Dt))
  | .d (.dtt l) => some l
  | .d _ => none
  | .p k => match ob[k]? with
    | some (.dtt l) => some l
    | some (.frz (.dtt l)) => some l
    | _ => none
theorem rep_dtt {S : Hp} {l : List (List Key × Dt)} {v : V} : Rep S (.dtt l) v ↔ ∃ a xs, v = .ref a ∧ S a = some (.dT xs) ∧ RepT S l xs := by simp only [Rep]
/-! ### typed: keys are lists of ints -/
abbrev encT (l : List Int) : Dt := .tup (l.map .int)
def kT (l : List Int) : List Key := l.map .inl
theorem kT_inj {a b : List Int} : kT a = kT b ↔ a = b := by
  constructor
  · intro h
    induction a generalizing b with
    | nil => cases b with
      | nil => rfl
      | cons y b => cases h
    | cons x a ih =>
      cases b with
      | nil => cases h
      | cons y b =>
        unfold kT at h ih
        rw [List.map_cons, List.map_cons] at h
        obtain ⟨h1, h2⟩ := List.cons.inj h
        rw [Sum.inl.inj h1, ih h2]
  · rintro rfl; rfl
theorem kT_V (l : List Int) : (kT l).map kV = l.map V.int := by
  unfold kT
  rw [List.map_map]
  rfl
abbrev dttE {α : Type} (enc : α → Dt) (m : List (List Int × α)) : List (List Key × Dt) := m.map fun p => (kT p.1, enc p.2)
def valM {α : Type} (m : List (List Int × α)) (k : List Int) : Option α := (m.find? fun p => decide (p.1 = k)).map (·.2)
def putM {α : Type} (m : List (List Int × α)) (k : List Int) (v : α) : List (List Int × α) :=
  if (m.any fun p => decide (p.1 = k)) = true then m.map (fun p => if p.1 = k then (p.1, v) else p) else m ++ [(k, v)]
theorem valT_E {α : Type} (enc : α → Dt) (k : List Int) : ∀ m : List (List Int × α), valT (dttE enc m) (kT k) = (valM m k).map enc
  | [] => rfl
  | (j, v) :: m => by
    have ih := valT_E enc k m
    unfold valT valM at ih ⊢
    rw [dttE, List.map_cons, List.find?_cons, List.find?_cons]
    by_cases e : j = k
    · subst e
      simp
    · simp only [e, decide_false, mt kT_inj.mp e]
      exact ih
theorem anyT_E {α : Type} (enc : α → Dt) (k : List Int) : ∀ m : List (List Int × α), ((dttE enc m).any fun kv => decide (kv.1 = kT k)) = m.any fun p => decide (p.1 = k)
  | [] => rfl
  | (j, v) :: m => by
    have ih := anyT_E enc k m
    rw [dttE, List.map_cons, List.any_cons, List.any_cons, ih]
    congr 1
    exact decide_eq_decide.mpr kT_inj
theorem putT_E {α : Type} (enc : α → Dt) (m : List (List Int × α)) (k : List Int) (v : α) : putT (dttE enc m) (kT k) (enc v) = dttE enc (putM m k v) := by
  unfold putT putM
  rw [anyT_E]
  split
  · rw [dttE, List.map_map, dttE, List.map_map]
    refine List.map_congr_left fun p _ => ?_
    show (if kT p.1 = kT k then (kT p.1, enc v) else (kT p.1, enc p.2)) = _
    by_cases e : p.1 = k
    · rw [if_pos (by rw [e])]
      simp [e]
    · rw [if_neg (mt kT_inj.mp e)]
      simp [e]
  · show _ = List.map (fun p : List Int × α => (kT p.1, enc p.2)) (m ++ [(k, v)])
    rw [List.map_append]
    rfl
theorem putM_length {α : Type} (m : List (List Int × α)) (k : List Int) (v : α) : (putM m k v).length ≤ m.length + 1 := by
  unfold putM
  split
  · rw [List.length_map]; omega
  · rw [List.length_append]; exact Nat.le_refl _
section
variable {X : Cx} {e a b c o : Expr} {es : List Expr} {pos p1 p2 apos tpos : Pos} {ob : Obs} {sl : Sls} {P : Post} {B : Bool → Obs → Prop} {D : Out} {K : PySem.W.Frag} {S S' H H' : Hp} {A A' : List Addr} {Q : VK} {k j : Nat} {x : Str} {r : R} {v : V} {l : List (List Key × Dt)} {α : Type} {enc : α → Dt}
theorem dttOf_rel (h : dttOf ob r = some l) (g : Good K S A H ob) (q : RelR S A r v) : ∃ p xs, v = .ref p ∧ Rd H p (.dT xs) ∧ RepT S l xs := by
  have key : ∀ x v, Rep S x v → dttOf ob (.d x) = some l → ∃ p xs, v = .ref p ∧ Rd H p (.dT xs) ∧ RepT S l xs := fun x v q h => by
    cases x with
    | dtt l' =>
      have e : l' = l := Option.some.inj h
      subst e
      obtain ⟨p, xs, rfl, h2, h3⟩ := rep_dtt.mp q
      refine ⟨p, xs, rfl, ?_, h3⟩
      rcases g.ex _ _ h2 with z | ⟨_, u, z⟩
      · exact .inl z
      · exact .inr ⟨u, z⟩
    | _ => cases h
  cases r with
  | d x => exact key x v q h
  | p i =>
    obtain ⟨p, h1, rfl⟩ := q
    unfold dttOf at h
    cases e : ob[i]? with
    | none => simp only [e] at h; cases h
    | some c =>
      simp only [e] at h
      have o := g.own i p c h1 e
      cases c with
      | dtt l' =>
        cases h
        obtain ⟨_, xs, h2, h3⟩ := o
        exact ⟨p, xs, rfl, .inl h2, h3⟩
      | frz x =>
        refine key x (.ref p) o ?_
        cases x <;> first | exact h | cases h
      | _ => cases h
/-- a tuple of ints, as a key -/
theorem encT_rel {ks : List Int} (g : Good K S A H ob) (q : RelR S A (.d (encT ks)) v) : ∃ b, v = .ref b ∧ H b = some (.tup ((kT ks).map kV)) := by
  obtain ⟨b, xs, rfl, h2, h3⟩ := rep_tup.mp q
  rw [reps_ints.mp h3] at h2
  exact ⟨b, rfl, by rw [kT_V]; exact g.ex.at h2 rfl⟩
theorem dget_of {m : List (List Int × α)} {ks : List Int} {y : V} {r r2 : R} {ob : Obs} (e1 : dttOf ob r = some (dttE enc m)) (g : Good K S A H ob) (q1 : RelR S A r v) (q2 : RelR S A (.d (encT ks)) y) : ∃ a o, v = .ref a ∧ DGet H a y o ∧ o.isSome = (valM m ks).isSome ∧ ∀ u, valM m ks = some u → ∃ w, o = some w ∧ Rep S (enc u) w := by
  obtain ⟨p, xs, rfl, h1, h2⟩ := dttOf_rel e1 g q1
  obtain ⟨b, rfl, hb⟩ := encT_rel g q2
  refine ⟨p, _, rfl, .inr ⟨xs, kT ks, b, h1, rfl, hb, rfl⟩, ?_, fun u hu => ?_⟩
  · rw [h2.isSome, valT_E, Option.isSome_map]
  · obtain ⟨w, hw, rw1⟩ := (h2.val (k := kT ks)).2 (enc u) (by rw [valT_E, hu]; rfl)
    exact ⟨w, hw, rw1⟩
def inTP2 {α : Type} (enc : α → Dt) (neg : Bool) (ob : Obs) (P : Post) (r1 r2 : R) : Prop := ∃ (ks : List Int) (m : List (List Int × α)), r1 = .d (encT ks) ∧ dttOf ob r2 = some (dttE enc m) ∧ P (.d (.bl (bif neg then !(valM m ks).isSome else (valM m ks).isSome))) ob
theorem we_inT (enc : α → Dt) (ct : Ct X k) (h : We X a ob sl fun r1 ob1 => We X b ob1 sl fun r2 ob2 => inTP2 enc false ob2 P r1 r2) (hm : behindInMarks .In b = false := by rfl) : We X (.Compare a [.In] [b] pos) ob sl P := fun S A H σ Q g rs en => by
  refine wpE.of (pe_cmp (pc_din (hu_of ct.room) pe_wp pe_wp) hm) (h S A H σ _ g rs fun r1 ob1 x S1 A1 H1 h1 g1 q1 st1 => h1 S1 A1 H1 σ _ g1 (rs.step st1) fun r2 ob2 y S2 A2 H2 h2 g2 q2 st2 => ?_)
  obtain ⟨ks, m, rfl, hl, hk⟩ := h2
  obtain ⟨p, o, rfl, e1, e2, _⟩ := dget_of (r2 := r2) hl g2 q2 (q1.step st2)
  refine ⟨p, o, rfl, e1, ?_⟩
  rw [e2]
  exact en _ _ _ _ _ _ hk g2 rr_bl (st1.trans st2)
theorem wt_notInT (enc : α → Dt) (ct : Ct X k) (h : We X a ob sl fun r1 ob1 => We X b ob1 sl fun r2 ob2 => inTP2 enc true ob2 (asT B) r1 r2) (hm : behindInMarks .NotIn b = false := by rfl) : Wt X (.Compare a [.NotIn] [b] pos) ob sl B := fun S A H σ Q g rs en => by
  refine wpT.of (pt_cmp (pc_dnotin (hu_of ct.room) pe_wp pe_wp) hm) (h S A H σ _ g rs fun r1 ob1 x S1 A1 H1 h1 g1 q1 st1 => h1 S1 A1 H1 σ _ g1 (rs.step st1) fun r2 ob2 y S2 A2 H2 h2 g2 q2 st2 => ?_)
  obtain ⟨ks, m, rfl, hl, c, hc, hk⟩ := h2
  obtain ⟨p, o, rfl, e1, e2, _⟩ := dget_of (r2 := r2) hl g2 q2 (q1.step st2)
  refine ⟨p, o, rfl, e1, _, rfl, ?_⟩
  rw [e2]
  cases hc
  exact en _ _ _ _ _ hk g2 (st1.trans st2)
/-- d[k] -/
theorem we_getT (enc : α → Dt) (ct : Ct X k) (h : We X a ob sl fun r1 ob1 => We X b ob1 sl fun r2 ob2 => ∃ (ks : List Int) (m : List (List Int × α)) (u : α), r2 = .d (encT ks) ∧ dttOf ob2 r1 = some (dttE enc m) ∧ valM m ks = some u ∧ P (.d (enc u)) ob2) (hs : NoSl b := by intro _ _; rfl) : We X (.Subscript a b pos) ob sl P := fun S A H σ Q g rs en => by
  refine wpE.of (pe_dget (hu_of ct.room) pe_wp pe_wp hs) (h S A H σ _ g rs fun r1 ob1 x S1 A1 H1 h1 g1 q1 st1 => h1 S1 A1 H1 σ _ g1 (rs.step st1) fun r2 ob2 y S2 A2 H2 h2 g2 q2 st2 => ?_)
  obtain ⟨ks, m, u, rfl, hl, hu, hk⟩ := h2
  obtain ⟨p, o, rfl, e1, _, e3⟩ := dget_of (r2 := r1) hl g2 (q1.step st2) q2
  obtain ⟨w, rfl, hw⟩ := e3 u hu
  exact ⟨p, w, rfl, e1, en _ _ _ _ _ _ hk g2 hw (st1.trans st2)⟩
theorem valD_dget {kk : Key} {m : List (Key × Dt)} {u : Dt} {r r2 : R} {y : V} (e1 : dictOf ob r = some m) (g : Good K S A H ob) (q1 : RelR S A r v) (q2 : RelR S A (.d (keyD kk)) y) (hu : valD m kk = some u) : ∃ a w, v = .ref a ∧ DGet H a y (some w) ∧ Rep S u w := by
  obtain ⟨p, xs, rfl, h1, h2⟩ := dictOf_rel e1 g q1
  obtain ⟨w, hw, rw1⟩ := (h2.val (k := kk)).2 u hu
  exact ⟨p, w, rfl, .inl ⟨xs, kk, h1, keyD_rep.mp (show Rep S (keyD kk) y from q2), hw.symm⟩, rw1⟩
/-- d[k] of ints -/
theorem we_getD (ct : Ct X k) (h : We X a ob sl fun r1 ob1 => We X b ob1 sl fun r2 ob2 => ∃ (kk : Key) (m : List (Key × Dt)) (u : Dt), r2 = .d (keyD kk) ∧ dictOf ob2 r1 = some m ∧ valD m kk = some u ∧ P (.d u) ob2) (hs : NoSl b := by intro _ _; rfl) : We X (.Subscript a b pos) ob sl P := fun S A H σ Q g rs en => by
  refine wpE.of (pe_dget (hu_of ct.room) pe_wp pe_wp hs) (h S A H σ _ g rs fun r1 ob1 x S1 A1 H1 h1 g1 q1 st1 => h1 S1 A1 H1 σ _ g1 (rs.step st1) fun r2 ob2 y S2 A2 H2 h2 g2 q2 st2 => ?_)
  obtain ⟨kk, m, u, rfl, hl, hu, hk⟩ := h2
  obtain ⟨p, w, rfl, e1, hw⟩ := valD_dget (r2 := r1) hl g2 (q1.step st2) q2 hu
  exact ⟨p, w, rfl, e1, en _ _ _ _ _ _ hk g2 hw (st1.trans st2)⟩
/-- d.get(k, e) -/
theorem we_get2T {f : Expr} {cpos : Pos} (enc : α → Dt) (ct : Ct X k) (h : We X o ob sl fun r1 ob1 => (∃ l, dttOf ob1 r1 = some l) ∧ We X e ob1 sl fun r2 ob2 => We X f ob2 sl fun r3 ob3 => ∃ (ks : List Int) (m : List (List Int × α)) (u : α), r2 = .d (encT ks) ∧ dttOf ob3 r1 = some (dttE enc m) ∧ r3 = .d (enc u) ∧ P (.d (enc ((valM m ks).getD u))) ob3)
    (m2 : M2 X o "get" apos e f cpos := by exact ⟨rfl, rfl, rfl, rfl⟩) : We X (.Call (.Attribute o "get" apos) [e, f] [] cpos) ob sl P := fun S A H σ Q g rs en => by
  refine wpE.of (pe_dget2 (hu_of ct.room) pe_wp pe_wp pe_wp m2) (h S A H σ _ g rs fun r1 ob1 x S1 A1 H1 h1 g1 q1 st1 => ?_)
  obtain ⟨⟨l, hl0⟩, h1⟩ := h1
  obtain ⟨p0, xs0, rfl, d1, d2⟩ := dttOf_rel hl0 g1 q1
  refine ⟨p0, rfl, .inr ⟨xs0, d1⟩, h1 S1 A1 H1 σ _ g1 (rs.step st1) fun r2 ob2 y S2 A2 H2 h2 g2 q2 st2 => h2 S2 A2 H2 σ _ g2 (rs.step (st1.trans st2)) fun r3 ob3 z S3 A3 H3 h3 g3 q3 st3 => ?_⟩
  obtain ⟨ks, m, u, rfl, hl, rfl, hk⟩ := h3
  obtain ⟨p, ov, e0, e1, e2, e3⟩ := dget_of (r2 := r1) hl g3 (q1.step (st2.trans st3)) (q2.step st3)
  cases e0
  refine ⟨ov, e1, ?_⟩
  cases hv : valM m ks with
  | none =>
    rw [hv] at e2 hk
    cases ov with
    | none => exact en _ _ _ _ _ _ hk g3 q3 ((st1.trans st2).trans st3)
    | some w => cases e2
  | some u2 =>
    rw [hv] at hk
    obtain ⟨w, rfl, hw⟩ := e3 u2 hv
    exact en _ _ _ _ _ _ hk g3 hw ((st1.trans st2).trans st3)
/-- {} -/
theorem we_newT (h : P (.p ob.length) (ob ++ [.dtt []])) : We X (.Dict [] [] pos) ob sl P := fun S A H σ Q g rs en =>
  wpE.of pe_dnewT fun p hp => en _ _ _ _ _ _ h (g.newO hp ⟨g.ex.fresh hp, [], upd_same, repT_nil.mpr rfl⟩) ⟨p, g.at_len, rfl⟩ (Step.newO hp)
/-- d[k] = e, d owned -/
theorem ws_putT (enc : α → Dt) (ct : Ct X k) (h : We X e ob sl (dataP fun r ob1 => ∃ u : α, r = .d (enc u) ∧ We X o ob1 sl fun r1 ob2 => We X b ob2 sl fun r2 ob3 => ∃ (n : Nat) (ks : List Int) (m : List (List Int × α)), r1 = .p n ∧ r2 = .d (encT ks) ∧ ob3[n]? = some (.dtt (dttE enc m)) ∧ m.length < sizeLine ∧ D.nx (ob3.set n (.dtt (dttE enc (putM m ks u)))) sl))
    (hs : swapsWith e (some (.Subscript o b tpos)) pos.line X.env = pure false := by rfl) : Ws X (.Assign [.Subscript o b tpos] e pos) ob sl D := fun S A H σ D' g rs en => by
  refine wpS.of (ps_dput (hu_of ct.room) pe_wp pe_wp pe_wp hs) (h S A H σ _ g rs (data_end fun r ob1 v S1 A1 H1 h1 g1 q1 st1 => ?_))
  obtain ⟨u, rfl, h1⟩ := h1
  refine h1 S1 A1 H1 σ _ g1 (rs.step st1) fun r1 ob2 w S2 A2 H2 h2 g2 q2 st2 => h2 S2 A2 H2 σ _ g2 (rs.step (st1.trans st2)) fun r2 ob3 y S3 A3 H3 h3 g3 q3 st3 => ?_
  obtain ⟨n, ks, m, rfl, rfl, hl, hz, hk⟩ := h3
  obtain ⟨p, hp, rfl⟩ := q2.step st3
  obtain ⟨s0, xs, hx, hr⟩ := g3.own n p _ hp hl
  obtain ⟨bb, rfl, hb⟩ := encT_rel g3 q3
  have q1' : Rep S3 (enc u) v := (Rep.mono st2.le q1).mono st3.le
  have sm := Step.mut (H := H3) (o := .dT (putK xs (kT ks) v)) (List.mem_of_getElem? hp) s0
  have st := (st1.trans st2).trans st3
  refine ⟨p, _, rfl, DPut.t hx hb (by rw [hr.lenEq, List.length_map]; exact hz), ?_⟩
  exact en.nx _ _ _ _ _ _ hk (g3.mut hp s0 ⟨s0, _, upd_same, by rw [← putT_E]; exact hr.put q1'⟩) (rs.step (st.trans sm)) (st.trans sm)
/-! ### tuple(list), repr(bool) -/
theorem we_tuple (hm : X.mg "tuple" = none) (h : We X a ob sl fun r ob1 => ∃ l, listRd ob1 r = some l ∧ P (.d (.tup l)) ob1) (hg : Gl X "tuple" := by rfl) (hs : starEach [a] X.env = (false, eval a X.env) :: starEach [] X.env := by rfl) : We X (.Call (.Name "tuple" p1) [a] [] pos) ob sl P :=
  we_ct call_tuple_of hm (wa_cons (h.mono fun r ob1 h1 => wa_nil fun S A H vs Q g q en => by
    obtain ⟨v, rfl, qz⟩ := relRs1 q
    obtain ⟨l, e1, h1⟩ := h1
    obtain ⟨p, xs, rfl, h2, h3⟩ := listRd_rel e1 g qz
    exact ⟨p, xs, rfl, .inl ⟨h2, fun z hz => en _ _ _ _ _ _ h1 (g.newD hz) (rep_tup.mpr ⟨z, xs, rfl, upd_same, h3.mono (Le.new (g.ex.fresh hz))⟩) (Step.newD hz (g.ex.fresh hz))⟩⟩) hs) (by decide +kernel) hg (by decide) (by decide) hs rfl
theorem call_repr_bl : CallR X (.builtin "repr") (fun xs H Q => ∃ i, xs = [.bl i] ∧ Q (.str (if i then "True" else "False")) H) := by
  intro pins s σ H xs us Q I r h
  obtain ⟨i, rfl, q⟩ := h
  obtain ⟨u, rfl, ru⟩ := vals1 r
  cases (show u = Value.bool i from ru)
  exact PySem.P.repr_of_bool ⟨.str _, H, I.tok _, ⟨_, rfl⟩, q⟩
theorem we_reprB (hm : X.mg "repr" = none) (h : We X a ob sl fun r ob1 => ∃ c, r = .d (.bl c) ∧ P (.d (.str (if c then "True" else "False"))) ob1) (hg : Gl X "repr" := by rfl) (hs : starEach [a] X.env = (false, eval a X.env) :: starEach [] X.env := by rfl) : We X (.Call (.Name "repr" p1) [a] [] pos) ob sl P :=
  we_cb call_repr_bl hm (wa_cons (h.mono fun r ob1 h1 => wa_nil fun S A H vs Q g q en => by
    obtain ⟨v, rfl, qz⟩ := relRs1 q
    obtain ⟨c, rfl, h1⟩ := h1
    exact ⟨c, by rw [qz.bl], en.here h1 g rr_str⟩) hs) (by decide +kernel) hg (by decide) (by decide) hs rfl
end
end DL

/-! DL: dicts by tuples: displays, walks over keys; enumerate, dict(pairs). -/
namespace DL
open PySem L2
/-! ### {k: v}, one pair, the key a tuple -/
def tDispT1 (tk tv : TE) : TE := fun σ H Q => ∀ p, H p = none → tPairs [(tk, tv)] σ (upd H p (.dT [])) fun ps H2 => H2 p = some (.dT []) ∧ ∃ (k : List Key) (b : Addr) (y : V), ps = [(.ref b, y)] ∧ H2 b = some (.tup (k.map kV)) ∧ Q (.ref p) (upd H2 p (.dT [(k, y)]))
theorem pe_dispT1 {X : Cx} {ke ve : Expr} {pos : Pos} {tk tv : TE} (hu : X.A.units + 1 < cLine) (hk : PE X ke tk) (hv : PE X ve tv) : PE X (.Dict [some ke] [ve] pos) (tDispT1 tk tv) := by
  refine ⟨fun pins s σ H Q I q => ?_⟩
  have hn := I.hok.fresh (Nat.le_refl s.heap.objs.size)
  have I1 := I.laid (a := s.heap.objs.size) (o := .dT []) (h' := s.heap.push { cls := .type "dict", data := .dict #[] }) (t' := s.toks) (fun _ _ q => Heap.get?_push_of_some _ q) (Nat.le_refl _) (dt_empty s.heap I.big)
  refine PySem.wpAny_Dict_any rfl rfl (by simp) (by simp) ?_
  refine thn ((pps_cons hk hv pps_nil).run pins _ σ _ _ I1 (q _ hn)) fun vs s2 ⟨ps, H2, I2, rel, e, k, b, y, ep, eb, q2⟩ => ?_
  subst ep
  have hr : ∃ kv vv, vs = [(kv, vv)] ∧ RelV (.ref b) kv ∧ RelV y vv := by
    cases rel with
    | cons r rr =>
      cases rr
      exact ⟨_, _, rfl, r.1, r.2⟩
  clear rel
  obtain ⟨kv, vv, rfl, r1, r2⟩ := hr
  · cases (show kv = Value.ref b from r1)
    unfold PySem.storeAll
    rw [List.forIn_cons]
    obtain ⟨z, hd, xs, rel, dd⟩ := dt_of I2.hok e
    cases rel
    refine wpAny_bind (wpAny_bind (wpAny_dictSet_heap (hsz := by decide) (show (tupleKind (mixKind X.prog X.w)).room X.A from (by show X.A.units < cLine; omega)) (key_of I2.hok eb) dd fun h' dd' hs => ?_))
    refine wpAny_pure ?_
    dsimp only
    rw [List.forIn_nil]
    refine wpAny_pure ⟨.ref s.heap.objs.size, _, ?_, rfl, q2⟩
    obtain ⟨qq, es, ep, hq, h2, h3, h4, _, h5⟩ := dd'
    have hk0 : KT (upd H2 s.heap.objs.size (.dT [(k, y)])) [(k, y)] (storedH [] k b vv) := (KT.put (H := H2) (kvs := []) (xs := []) Paired.nil k eb r2).keeps fun c ys ec => by
      rw [upd_ne (ne_of ec e (fun z => nomatch z))]
      exact ec
    refine d_write I2 (by rw [e]; exact True.intro) hs ⟨qq, hq⟩ ⟨by show ([(k, y)] : List (List Key × V)).length ≤ sizeLine; simp [sizeLine_eq], hd, _, hk0, qq, es, ep, hq, h2, h3, h4, h5⟩
section
variable {X : Cx} {e a b c o ke ve tg iter : Expr} {es : List Expr} {pos p1 p2 apos tpos : Pos} {ob : Obs} {sl : Sls} {P : Post} {PI : List Dt → Obs → Prop} {B : Bool → Obs → Prop} {D : Out} {K : PySem.W.Frag} {S S' H H' : Hp} {A A' : List Addr} {Q : VK} {k j : Nat} {x : Str} {r : R} {v : V} {l : List (List Key × Dt)} {α : Type} {enc : α → Dt}
theorem we_dispT1 (enc : α → Dt) (ct : Ct X k) (h : We X ke (ob ++ [.dtt []]) sl fun r1 ob1 => We X ve ob1 sl (dataP fun r2 ob2 => ∃ (ks : List Int) (u : α), r1 = .d (encT ks) ∧ r2 = .d (enc u) ∧ ob2[ob.length]? = some (.dtt []) ∧ P (.p ob.length) (ob2.set ob.length (.dtt (dttE enc [(ks, u)]))))) : We X (.Dict [some ke] [ve] pos) ob sl P := fun S A H σ Q g rs en => by
  refine wpE.of (pe_dispT1 (hu_of ct.room) pe_wp pe_wp) fun p hp => ?_
  have g0 := g.newO (o := .dT []) (c := .dtt []) hp ⟨g.ex.fresh hp, [], upd_same, repT_nil.mpr rfl⟩
  have s0 := Step.newO (S := S) (A := A) (o := .dT []) hp
  refine h S _ _ σ _ g0 (rs.step s0) fun r1 ob1 v1 S1 A1 H1 h1 g1 q1 st1 => h1 S1 A1 H1 σ _ g1 (rs.step (s0.trans st1)) (data_end fun r2 ob2 v2 S2 A2 H2 h2 g2 q2 st2 => ?_)
  obtain ⟨ks, u, rfl, rfl, hl, hk⟩ := h2
  have hpA : A2[ob.length]? = some p := by
    have e1 : (A ++ [p])[ob.length]? = some p := g.at_len
    obtain ⟨t, ht⟩ := (st1.trans st2).pre
    rw [← ht, List.getElem?_append_left (List.getElem?_eq_some_iff.mp e1).1]
    exact e1
  obtain ⟨z0, xs, hx, hr⟩ := g2.own ob.length p _ hpA hl
  obtain rfl := repT_nil.mp hr
  obtain ⟨b, rfl, hb⟩ := encT_rel g2 (q1.step st2)
  refine ⟨hx, kT ks, b, v2, rfl, hb, ?_⟩
  exact en _ _ _ _ _ _ hk (g2.mut hpA z0 ⟨z0, _, upd_same, repT_cons.mpr ⟨v2, [], rfl, q2, repT_nil.mpr rfl⟩⟩) ⟨p, hpA, rfl⟩ ((s0.trans (st1.trans st2)).trans (Step.mut (List.mem_of_getElem? hpA) z0))
/-! ### enumerate(list) -/
def enumD (l : List Dt) : List Dt := l.zipIdx.map fun p => .tup [.int (p.2 : Nat), p.1]
theorem yields_enum {p : Addr} {xs : List V} {l : List Dt} (h : S p = some (.lst xs)) (q : Reps S l xs) : Yields S (Ite K p) (enumD l) := fun S1 H1 le ex i => by
  have hp : SqL K H1 p xs := SqL.of (ex.at (le _ _ h) rfl)
  have hlen : (enumD l).length = l.length := by unfold enumD; rw [List.length_map, List.length_zipIdx]
  rw [hlen]
  refine ⟨fun hi => ⟨⟨xs, xs[i]'(by rw [q.length]; exact hi), hp, by simp [q.length, hi]⟩, fun x H2 hy => ?_⟩, fun hi => ⟨xs, hp, by rw [q.length]; omega⟩⟩
  obtain ⟨T, y, rfl, hT, rfl, hy⟩ := hy
  obtain ⟨d, e1, e2⟩ := q.get (hy xs hp)
  have sT : S1 T = none := ex.fresh hT
  refine ⟨.tup [.int (i : Nat), d], upd S1 T (.tup [.int (i : Nat), y]), ?_, fun a u z => ?_, Le.new sT, rep_tup.mpr ⟨T, _, rfl, upd_same, reps_cons.mpr ⟨_, _, rfl, rep_int.mpr rfl, Reps.one (Rep.mono (Le.trans le (Le.new sT)) e2)⟩⟩, fun a u z => ?_, fun a z => ?_⟩
  · unfold enumD
    rw [List.getElem?_map, List.getElem?_zipIdx, e1]
    simp
  · by_cases c : a = T
    · subst c
      rw [upd_same] at z
      exact .inl (by rw [upd_same]; exact z)
    · rw [upd_ne c] at z ⊢
      exact ex a u z
  · rw [upd_ne (ne_of_none z hT)]
    exact z
  · by_cases c : a = T
    · subst c
      exact .inr hT
    · rw [upd_ne c] at z
      exact .inl z
theorem wi_enum {elts : List Expr} {kk : Nat} (hm : X.mg "enumerate" = none) (h : We X e ob sl fun r ob1 => ∃ l, r = .d (.lst l) ∧ (l.length ≤ sizeLine → PI (enumD l) ob1)) (hg : Gl X "enumerate" := by rfl) (hs : starEach [e] X.env = [(false, eval e X.env)] := by rfl) : Wi X (.Tuple elts kk tpos) (.Call (.Name "enumerate" p1) [e] [] pos) ob sl PI := fun S A H σ R g rs en => by
  refine wpI.of (pi_enum hg hm (pa_cons pe_wp pa_nil hs) hs) (wpE.sz (h S A H σ _ g rs fun r ob1 v S1 A1 H1 h1 g1 q1 st1 sz => ?_))
  obtain ⟨l, rfl, h1⟩ := h1
  obtain ⟨p, xs, rfl, h2, h3⟩ := rep_lst.mp q1
  exact ⟨p, xs, rfl, SqL.of (g1.ex.at h2 rfl), en _ ob1 _ _ _ _ (h1 (by rw [← h3.length]; exact sz.1 p xs (g1.ex.at h2 rfl))) g1 st1 (yields_enum h2 h3)⟩
/-! ### dict(pairs) -/
def mergeD (l m : List (Key × Dt)) : List (Key × Dt) := m.foldl (fun acc p => putD acc p.1 p.2) l
def pairD (p : Key × Dt) : Dt := .tup [keyD p.1, p.2]
theorem RepK.merge : ∀ {m : List (Key × Dt)} {ys : List (Key × V)} {l : List (Key × Dt)} {xs : List (Key × V)}, RepK S m ys → RepK S l xs → RepK S (mergeD l m) (mergeK xs ys)
  | [], _, _, _, h, q => by
    rw [repK_nil.mp h]
    exact q
  | (k, d) :: m, _, l, xs, h, q => by
    obtain ⟨x, r, rfl, h1, h2⟩ := repK_cons.mp h
    show RepK S (mergeD (putD l k d) m) (mergeK (putK xs k x) r)
    exact RepK.merge h2 (q.put h1)
theorem pairs_rel (ex : Ex S H) : ∀ {m : List (Key × Dt)} {xs : List V}, Reps S (m.map pairD) xs → ∃ (ps : List Addr) (kvs : List (Key × V)), xs = ps.map V.ref ∧ Paired (fun p kv => SqT K H p [kV kv.1, kv.2]) ps kvs ∧ RepK S m kvs
  | [], _, h => by
    rw [reps_nil.mp h]
    exact ⟨[], [], rfl, .nil, repK_nil.mpr rfl⟩
  | (k, d) :: m, _, h => by
    obtain ⟨x, r, rfl, h1, h2⟩ := reps_cons.mp h
    obtain ⟨ps, kvs, rfl, e2, e3⟩ := pairs_rel ex h2
    obtain ⟨p, ys, rfl, e4, e5⟩ := rep_tup.mp (show Rep S (.tup [keyD k, d]) x from h1)
    obtain ⟨y1, r1, rfl, f1, f2⟩ := reps_cons.mp e5
    obtain ⟨y2, r2, rfl, f3, f4⟩ := reps_cons.mp f2
    obtain rfl := reps_nil.mp f4
    obtain rfl := keyD_rep.mp f1
    exact ⟨p :: ps, (k, y2) :: kvs, rfl, .cons (SqT.of (ex.at e4 rfl)) e2, repK_cons.mpr ⟨y2, kvs, rfl, f3, e3⟩⟩
theorem we_dictP (own : Bool) (ct : Ct X k) (hm : X.mg "dict" = none) (h : We X a ob sl fun r ob1 => ∃ m : List (Key × Dt), r = .d (.lst (m.map pairD)) ∧ MkD own (mergeD [] m) ob1 P) (hg : Gl X "dict" := by rfl) (hs : starEach [a] X.env = (false, eval a X.env) :: starEach [] X.env := by rfl) : We X (.Call (.Name "dict" p1) [a] [] pos) ob sl P :=
  we_ct (call_dictP ct.calm) hm (wa_cons (h.mono fun r ob1 h1 => wa_nil fun S A H vs Q g q en => by
    obtain ⟨v, rfl, qz⟩ := relRs1 q
    obtain ⟨m, rfl, h1⟩ := h1
    obtain ⟨p, xs, rfl, h2, h3⟩ := rep_lst.mp qz
    obtain ⟨ps, kvs, rfl, e2, e3⟩ := pairs_rel (K := X.K) g.ex h3
    exact ⟨p, ps, kvs, rfl, SqL.of (g.ex.at h2 rfl), e2, fun z hz => h1.fin en g (e3.merge (repK_nil.mpr rfl)) hz⟩) hs) (by decide +kernel) hg (by decide) (by decide) hs rfl
/-! ### three names at once; a conditional expression whose test draws -/
theorem ws_par3 {y z : Str} {px py pz pt : Pos} {kt k2 pt2} (i j l : Nat) (h : Wa X [a, b, c] ob sl fun rs ob1 => ∃ r1 r2 r3, rs = [r1, r2, r3] ∧ D.nx ob1 (((sl.set i (some r1)).set j (some r2)).set l (some r3)))
    (ps : PS X (.Assign [.Tuple [.Name x px, .Name y py, .Name z pz] kt pt] (.Tuple [a, b, c] k2 pt2) pos) (tPar3 i j l (wpA X [a, b, c]))) : Ws X (.Assign [.Tuple [.Name x px, .Name y py, .Name z pz] kt pt] (.Tuple [a, b, c] k2 pt2) pos) ob sl D := fun S A H σ D' g rs en =>
  wpS.of ps (h S A H σ _ g rs fun l ob1 vs S1 A1 H1 h1 g1 q1 st1 => by
    obtain ⟨r1, r2, r3, rfl, h1⟩ := h1
    obtain ⟨v, t, rfl, q2, q3⟩ := relRs_cons.mp q1
    obtain ⟨w, u, rfl, q4, q5⟩ := relRs2 q3
    exact ⟨v, w, u, rfl, en.nx _ _ _ _ _ _ h1 g1 ((((rs.step st1).set q2).set q4).set q5) st1⟩)
theorem we_ifD {Φ : Dt → Obs → Prop} (h : Wt X c ob sl fun t ob1 => (t = true → We X a ob1 sl fun r ob2 => ∃ x, r = .d x ∧ Φ x ob2) ∧ (t = false → We X b ob1 sl fun r ob2 => ∃ x, r = .d x ∧ Φ x ob2)) (hp : ∀ x ob2, Φ x ob2 → P (.d x) ob2) : We X (.IfExp c a b pos) ob sl P :=
  we_ifE (h.mono fun t ob1 h1 => ⟨fun e => (h1.1 e).mono fun r ob2 ⟨x, e2, h2⟩ => by subst e2; exact hp x ob2 h2, fun e => (h1.2 e).mono fun r ob2 ⟨x, e2, h2⟩ => by subst e2; exact hp x ob2 h2⟩)
end
end DL

/-! DL: for k in d (keys that are tuples): e[k] = tuple(xs). -/
namespace DL
open PySem L2
def unlN {X : Cx} (P : L2.St → Hp → Prop) : L2.St → Hp → Prop := fun σ H => P σ H ∨ ∃ d od u, H d = some (.frz od u) ∧ (∀ o' u', X.H_0 d ≠ some (.frz o' u')) ∧ P σ (upd H d u)
def unlV {X : Cx} (P : VK) : VK := fun v H => P v H ∨ ∃ d od u, H d = some (.frz od u) ∧ (∀ o' u', X.H_0 d ≠ some (.frz o' u')) ∧ P v (upd H d u)
/-- at every end a locked dict may be unlocked -/
def unlD (X : Cx) (D : Ends) : Ends := ⟨unlN (X := X) D.nx, unlV (X := X) D.rt, unlN (X := X) D.bk, unlN (X := X) D.ct⟩
theorem ps_unl {X : Cx} {st : Stmt} {t : TS} (h : PS X st t) : PS X st (fun D σ H => t (unlD X D) σ H) := by
  refine ⟨fun pins s σ H D I hw => ?_⟩
  refine thn (h.run pins s σ _ _ I hw) fun f s1 q => ?_
  cases f with
  | next =>
    obtain ⟨σ', H', I2, q⟩ := q
    rcases q with q | ⟨d, od, u, e, hn, q⟩
    · exact ⟨σ', _, I2, q⟩
    · exact ⟨σ', _, I2.unlock e hn, q⟩
  | brk =>
    obtain ⟨σ', H', I2, q⟩ := q
    rcases q with q | ⟨d, od, u, e, hn, q⟩
    · exact ⟨σ', _, I2, q⟩
    · exact ⟨σ', _, I2.unlock e hn, q⟩
  | cont =>
    obtain ⟨σ', H', I2, q⟩ := q
    rcases q with q | ⟨d, od, u, e, hn, q⟩
    · exact ⟨σ', _, I2, q⟩
    · exact ⟨σ', _, I2.unlock e hn, q⟩
  | ret v =>
    obtain ⟨x, σ', H', I2, r, q⟩ := q
    rcases q with q | ⟨d, od, u, e, hn, q⟩
    · exact ⟨x, σ', _, I2, r, q⟩
    · exact ⟨x, σ', _, I2.unlock e hn, r, q⟩
def iKeysL (X : Cx) (td : TE) : TI := fun σ H R => td σ H fun x H1 => ∃ d kvs, x = .ref d ∧ ((H1 d = some (.dT kvs) ∧ ∀ od, (∀ o' u', X.H_0 d ≠ some (.frz o' u')) → R (Itkt d od kvs) (upd H1 d (.frz od (.dT kvs)))) ∨ ∃ od, H1 d = some (.frz od (.dT kvs)) ∧ R (Itkt d od kvs) H1)
theorem pi_keysL {X : Cx} {tg e : Expr} {td : TE} (he : PE X e td) : PI X tg e (iKeysL X td) := by
  refine ⟨fun pins s σ H R I h => ?_⟩
  refine thn (he.run pins s σ H _ I h) fun u s1 ⟨x, H1, I1, rx, d, kvs, ex, q⟩ => ?_
  subst ex
  obtain rfl : u = Value.ref d := rx
  rcases q with ⟨hd, q⟩ | ⟨od, hd, q⟩
  · have hn := I1.nofrz hd True.intro
    obtain ⟨od, I2⟩ := I1.lock hd True.intro
    obtain ⟨hs, hgd, hx, es, ep, hdt, hsz, ent⟩ := I2.frzT upd_same
    refine iter_keys hs hgd hx hdt (pi_one (tk := s1.toks) I2 _ (turn_keysT _ hdt) ⟨_, Heap.get?_push_size _ rfl, rfl, ?_⟩ (q od hn))
    rw [hsz] <;> rfl
  · obtain ⟨hs, hgd, hx, es, ep, hdt, hsz, ent⟩ := I1.frzT hd
    refine iter_keys hs hgd hx hdt (pi_one (tk := s1.toks) I1 _ (turn_keysT _ hdt) ⟨_, Heap.get?_push_size _ rfl, rfl, ?_⟩ q)
    rw [hsz] <;> rfl
/-- the heap with the dict locked, and without -/
def LockR (X : Cx) (d : Addr) (kvs : List (List Key × V)) (od : Obj) (Hv HL : Hp) : Prop :=
  (HL = upd Hv d (.frz od (.dT kvs)) ∧ Hv d = some (.dT kvs) ∧ ∀ o' u', X.H_0 d ≠ some (.frz o' u')) ∨ (HL = Hv ∧ Hv d = some (.frz od (.dT kvs)))
section
variable {X : Cx} {d : Addr} {kvs : List (List Key × V)} {od : Obj} {Hv HL : Hp}
theorem LockR.at (h : LockR X d kvs od Hv HL) : HL d = some (.frz od (.dT kvs)) := by
  rcases h with ⟨rfl, _⟩ | ⟨rfl, z⟩
  · exact upd_same
  · exact z
theorem LockR.ne (h : LockR X d kvs od Hv HL) {a : Addr} (n : a ≠ d) : HL a = Hv a := by
  rcases h with ⟨rfl, _⟩ | ⟨rfl, z⟩
  · exact upd_ne n
  · rfl
theorem LockR.some (h : LockR X d kvs od Hv HL) : Hv d ≠ none := by
  rcases h with ⟨_, z, _⟩ | ⟨_, z⟩ <;> (rw [z]; exact fun w => by cases w)
theorem LockR.upd (h : LockR X d kvs od Hv HL) {a : Addr} {o : HO} (n : a ≠ d) : LockR X d kvs od (upd Hv a o) (upd HL a o) := by
  rcases h with ⟨rfl, z1, z2⟩ | ⟨rfl, z⟩
  · refine .inl ⟨?_, by rw [upd_ne n.symm]; exact z1, z2⟩
    funext b
    unfold L2.upd
    by_cases h1 : b = a
    · subst h1
      simp [n]
    · simp [h1]
  · exact .inr ⟨rfl, by rw [upd_ne n.symm]; exact z⟩
theorem LockR.unl (h : LockR X d kvs od Hv HL) {P : L2.St → Hp → Prop} {σ : L2.St} (p : P σ Hv) : unlN (X := X) P σ HL := by
  rcases h with ⟨rfl, z1, z2⟩ | ⟨rfl, z⟩
  · refine .inr ⟨d, od, .dT kvs, upd_same, z2, ?_⟩
    have e : L2.upd (L2.upd Hv d (.frz od (.dT kvs))) d (.dT kvs) = Hv := by
      funext b
      unfold L2.upd
      by_cases h1 : b = d
      · subst h1
        simp [z1]
      · simp [h1]
    rw [e]
    exact p
  · exact .inl p
end
theorem RelS.setN {S : Hp} {A : List Addr} {sl : Sls} {σ : L2.St} {j : Nat} {o : Option V} (h : RelS S A (sl.set j none) σ) : RelS S A (sl.set j none) (σ.set j o) where
  get := fun i r e => by
    by_cases c : j = i
    · subst c
      rw [List.getElem?_set, if_pos rfl] at e
      split at e <;> cases e
    · obtain ⟨v, h1, h2⟩ := h.get i r e
      exact ⟨v, by rw [List.getElem?_set_ne c]; exact h1, h2⟩
  len := by rw [h.len, List.length_set]
theorem slLe_set (sl : Sls) (j : Nat) : SlLe sl (sl.set j none) := ⟨by simp, fun i r e => by
  by_cases c : j = i
  · subst c
    rw [List.getElem?_set, if_pos rfl] at e
    split at e <;> cases e
  · rw [List.getElem?_set_ne c] at e
    exact e⟩
theorem RepT.getKey {S : Hp} : ∀ {l : List (List Key × Dt)} {xs : List (List Key × V)} {i : Nat} {k : List Key} {v : V}, RepT S l xs → xs[i]? = some (k, v) → ∃ d, l[i]? = some (k, d)
  | [], _, i, k, v, h, e => by
    rw [repT_nil.mp h] at e
    simp at e
  | (j, d) :: l, _, 0, k, v, h, e => by
    obtain ⟨x, r, rfl, h1, h2⟩ := repT_cons.mp h
    simp at e
    obtain ⟨rfl, rfl⟩ := e
    exact ⟨d, rfl⟩
  | (j, d) :: l, _, i + 1, k, v, h, e => by
    obtain ⟨x, r, rfl, h1, h2⟩ := repT_cons.mp h
    obtain ⟨d', q⟩ := RepT.getKey (i := i) h2 (by simpa using e)
    exact ⟨d', by simpa using q⟩
def putAll (x : Dt) (m l : List (List Key × Dt)) : List (List Key × Dt) := l.foldl (fun m p => putT m p.1 x) m
theorem putAll_length (x : Dt) : ∀ (l m : List (List Key × Dt)), (putAll x m l).length ≤ m.length + l.length
  | [], m => Nat.le_refl _
  | p :: l, m => by
    have h1 := putAll_length x l (putT m p.1 x)
    have h2 := putT_length m p.1 x
    show (putAll x (putT m p.1 x) l).length ≤ _
    rw [List.length_cons]
    omega
section
variable {X : Cx} {e a b c o iter : Expr} {pos q1 q2 q3 q4 q5 q6 q7 q8 : Pos} {ob : Obs} {sl : Sls} {D : Out} {k : Nat} {kx fx ox : Str}
theorem ws_forPut (jk jf jo : Nat) (ct : Ct X k) (hm : X.mg "tuple" = none) (hjl : jk < sl.length) (hkf : jk ≠ jf) (hko : jk ≠ jo)
    (hi : We X iter ob sl fun r ob1 => ∃ (l m : List (List Key × Dt)) (n : Nat) (os : List Dt), r = .d (.dtt l) ∧ sl[jf]? = some (some (.p n)) ∧ ob1[n]? = some (.dtt m) ∧ sl[jo]? = some (some (.d (.lst os))) ∧ m.length + l.length ≤ sizeLine ∧ D.nx (ob1.set n (.dtt (putAll (.tup os) m l))) (sl.set jk none))
    (hkN : X.N[jk]? = some kx) (hfN : X.N[jf]? = some fx) (hoN : X.N[jo]? = some ox) (hkL : Loc X.env.scope kx) (hkV : Vis X.env.scope kx) (hfV : Vis X.env.scope fx) (hoV : Vis X.env.scope ox)
    (dk : (kx == ("__debug__" : Str)) = false ∧ (kx == ("__classdict__" : Str)) = false) (df : (fx == ("__debug__" : Str)) = false ∧ (fx == ("__classdict__" : Str)) = false) (dO : (ox == ("__debug__" : Str)) = false ∧ (ox == ("__classdict__" : Str)) = false)
    (hkf2 : X.fn kx = true ∨ X.env.scope.names.lookup kx = some .local) (hg : Gl X "tuple")
    (hsw : swapsWith (.Call (.Name "tuple" q5) [.Name ox q6] [] q7) (some (.Subscript (.Name fx q2) (.Name kx q3) q4)) q8.line X.env = pure false)
    (hst : starEach [.Name ox q6] X.env = (false, eval (.Name ox q6) X.env) :: starEach [] X.env)
    (hs : ∀ x, foldedSetIterable iter X.env x = pure x) :
    Ws X (.For (.Name kx q1) iter [.Assign [.Subscript (.Name fx q2) (.Name kx q3) q4] (.Call (.Name "tuple" q5) [.Name ox q6] [] q7) q8] [] pos) ob sl D := fun S A H σ D' g rs en => by
  refine wpS.of (ps_unl (ps_for ct.po ct.calm (pi_keysL pe_wp) (pg_name ct.nd hkN hkL hkf2) (pss_one (ps_dput (hu_of ct.room) (pe_var hfN hfV df.1 df.2) (pe_var hkN hkV dk.1 dk.2) (pe_callTy call_tuple_of hg hm (by decide +kernel) (pa_cons (pe_var hoN hoV dO.1 dO.2) pa_nil hst) (by decide) (by decide) hst rfl) hsw)) hs)) (hi S A H σ _ g rs fun r ob1 v S1 A1 H1 h1 g1 r1 st1 => ?_)
  obtain ⟨l, m, n, os, rfl, hsf, hobn, hso, hlen, hk⟩ := h1
  obtain ⟨d, kvs, rfl, hS1, hkvs⟩ := rep_dtt.mp r1
  have e10 : ob1.set n (.dtt m) = ob1 := by
    refine List.ext_getElem? fun i => ?_
    by_cases c : n = i
    · subst c
      rw [List.getElem?_set_self (List.getElem?_eq_some_iff.mp hobn).1, hobn]
    · rw [List.getElem?_set_ne c]
  have g10 : Good X.K S1 A1 H1 (ob1.set n (.dtt (putAll (.tup os) m (l.take 0)))) := by
    rw [List.take_zero]
    show Good X.K S1 A1 H1 (ob1.set n (.dtt m))
    rw [e10]
    exact g1
  have core : ∀ od HL, LockR X d kvs od H1 HL → ∃ W : Nat → Nat → L2.St → Hp → Prop, (∃ m, W 0 m σ HL) ∧ ∀ i m σ H, W i m σ H →
      ((Itkt d od kvs).stop i H ∧ (unlD X D').nx σ H) ∨ ((Itkt d od kvs).go i H ∧ ∃ N : L2.St → Hp → Prop, (∀ σ' H', N σ' H' → ∃ m', m' < m ∧ W (i + 1) m' σ' H') ∧ ∀ x H', (Itkt d od kvs).yld i H x H' → gName jk x σ H' fun σ2 H2 => sDPut (tVar jf) (tVar jk) (tCB (fun xs H Q => ∃ p ys, xs = [.ref p] ∧ ((SqL X.K H p ys ∧ ∀ l, H l = none → Q (.ref l) (upd H l (.tup ys))) ∨ (SqT X.K H p ys ∧ Q (.ref p) H))) (tCons (tVar jo) tNil)) { unlD X D' with nx := N, ct := N, bk := (unlD X D').nx } σ2 H2) := fun od HL hL => by
    refine ⟨fun i mm σ' H' => mm = kvs.length - i ∧ i ≤ kvs.length ∧ ∃ Hv S2 A2, LockR X d kvs od Hv H' ∧ Good X.K S2 A2 Hv (ob1.set n (.dtt (putAll (.tup os) m (l.take i)))) ∧ RelS S2 A2 (sl.set jk none) σ' ∧ Step S1 A1 H1 S2 A2 Hv,
      ⟨_, rfl, Nat.zero_le _, H1, S1, A1, hL, g10, (rs.step st1).le (slLe_set sl jk), Step.refl⟩, ?_⟩
    rintro i mm σ' H' ⟨rfl, hile, Hv, S2, A2, hR, g2, rs2, st2⟩
    by_cases hlt : i < kvs.length
    · refine .inr ⟨⟨hR.at, hlt⟩, fun σ3 H3 => i + 1 ≤ kvs.length ∧ ∃ Hv S2 A2, LockR X d kvs od Hv H3 ∧ Good X.K S2 A2 Hv (ob1.set n (.dtt (putAll (.tup os) m (l.take (i + 1))))) ∧ RelS S2 A2 (sl.set jk none) σ3 ∧ Step S1 A1 H1 S2 A2 Hv, fun σ3 H3 q => ⟨kvs.length - (i + 1), by omega, rfl, q⟩, ?_⟩
      rintro x H3 ⟨rfl, kk, vv, q, hkv, rfl, hq⟩
      have hS2d : S2 d = some (.dT kvs) := st2.le d _ hS1
      -- the list of the value
      obtain ⟨vo, hvo, rvo⟩ := rs2.get jo (.d (.lst os)) (by rw [List.getElem?_set_ne hko]; exact hso)
      obtain ⟨po, ys, rfl, hpo, hys⟩ := rep_lst.mp rvo
      have hpoV : Hv po = some (.lst ys) := g2.ex.at hpo rfl
      have npo : po ≠ d := by
        rintro rfl
        rw [hS2d] at hpo
        cases hpo
      have hpoL : H3 po = some (.lst ys) := by rw [hR.ne npo]; exact hpoV
      -- the dict that is written
      obtain ⟨vf, hvf, rvf⟩ := rs2.get jf (.p n) (by rw [List.getElem?_set_ne hkf]; exact hsf)
      obtain ⟨a, ha, rfl⟩ := rvf
      have hob2 : (ob1.set n (.dtt (putAll (.tup os) m (l.take i))))[n]? = some (.dtt (putAll (.tup os) m (l.take i))) := List.getElem?_set_self (List.getElem?_eq_some_iff.mp hobn).1
      obtain ⟨s0, xs, hx, hr⟩ := g2.own n a _ ha hob2
      have nad : a ≠ d := by
        rintro rfl
        rw [hS2d] at s0
        cases s0
      have hlk : jk < σ'.length := by
        rw [← rs2.len, List.length_set]
        exact hjl
      refine ⟨.ref po, by rw [List.getElem?_set_ne hko]; exact hvo, po, ys, rfl, .inl ⟨SqL.of hpoL, fun t ht => ?_⟩⟩
      have htV : Hv t = none := by
        by_cases c : t = d
        · subst c
          rw [hR.at] at ht
          cases ht
        · rw [← hR.ne c]
          exact ht
      have ntd : t ≠ d := fun c => hR.some (by rw [← c]; exact htV)
      have nat : a ≠ t := fun c => by
        rw [c, htV] at hx
        cases hx
      have nqt : q ≠ t := fun c => by
        rw [c, ht] at hq
        cases hq
      refine ⟨.ref a, by rw [List.getElem?_set_ne hkf]; exact hvf, .ref q, List.getElem?_set_self hlk, a, _, rfl, DPut.t (kvs := xs) (k := kk) (by rw [upd_ne nat, hR.ne nad]; exact hx) (by rw [upd_ne nqt]; exact hq) ?_, hlt, upd (upd Hv t (.tup ys)) a (.dT (putK xs kk (.ref t))), upd S2 t (.tup ys), A2, (hR.upd ntd).upd nad, ?_, ?_, ?_⟩
      · rw [hr.lenEq]
        have h1 := putAll_length (.tup os) (l.take i) m
        have h2 : (l.take i).length = i := by
          rw [List.length_take, ← hkvs.lenEq]
          omega
        have h3 := hkvs.lenEq
        omega
      · obtain ⟨dd, hdd⟩ := hkvs.getKey hkv
        have st : putAll (.tup os) m (l.take (i + 1)) = putT (putAll (.tup os) m (l.take i)) kk (.tup os) := by
          unfold putAll
          rw [List.take_add_one, hdd, List.foldl_append]
          rfl
        rw [st]
        have g3 := g2.newD (o := .tup ys) htV
        have s3 : (upd S2 t (.tup ys)) a = none := by rw [upd_ne nat]; exact s0
        have g4 := g3.mut (c := .dtt (putT (putAll (.tup os) m (l.take i)) kk (.tup os))) (o := .dT (putK xs kk (.ref t))) ha s3 ⟨s3, _, upd_same, (hr.mono (Le.new (g2.ex.fresh htV))).put (rep_tup.mpr ⟨t, ys, rfl, upd_same, hys.mono (Le.new (g2.ex.fresh htV))⟩)⟩
        rw [List.set_set] at g4
        exact g4
      · exact (rs2.mono' (Le.new (g2.ex.fresh htV))).setN
      · exact st2.trans ((Step.newD htV (g2.ex.fresh htV)).trans (Step.mut (List.mem_of_getElem? ha) (by rw [upd_ne nat]; exact s0)))
    · have ei : i = kvs.length := by omega
      subst ei
      refine .inl ⟨⟨hR.at, Nat.le_refl _⟩, hR.unl ?_⟩
      rw [show l.take kvs.length = l from by rw [hkvs.lenEq, List.take_length]] at g2
      exact en.nx _ _ _ _ _ _ hk g2 rs2 (st1.trans st2)
  rcases g1.ex _ _ hS1 with z | ⟨_, od, z⟩
  · exact ⟨d, kvs, rfl, .inl ⟨z, fun od hn => core od _ (.inl ⟨rfl, z, hn⟩)⟩⟩
  · exact ⟨d, kvs, rfl, .inr ⟨od, z, core od _ (.inr ⟨rfl, z⟩)⟩⟩
/-- an if whose two ends are told alike -/
theorem ws_ifJ {p q : List Stmt} {J : Obs → Sls → Prop} (h : Wt X c ob sl fun t ob1 => (t = true → Wss X p ob1 sl { D with nx := J }) ∧ (t = false → Wss X q ob1 sl { D with nx := J })) (hJ : ∀ ob2 sl2, J ob2 sl2 → D.nx ob2 sl2) : Ws X (.If c p q pos) ob sl D := fun S A H σ D' g rs en =>
  ws_if (D := { D with nx := J }) h S A H σ D' g rs ⟨fun ob2 sl2 σ2 S2 A2 H2 h2 => en.nx ob2 sl2 σ2 S2 A2 H2 (hJ ob2 sl2 h2), en.rt, en.bk, en.ct⟩
theorem chain_sem {op op' : CmpOp} {f f' : Int → Int → Bool} {P : Post} (h : We X a ob sl fun r1 ob1 => We X b ob1 sl fun r2 ob2 => ∃ i j l, r1 = .d (.int i) ∧ r2 = .d (.int j) ∧ We X c ob2 sl (Pv (.int l) ob2) ∧ P (.d (.bl (f i j && f' j l))) ob2)
    {S : Hp} {A : List Addr} {H : Hp} {σ : L2.St} {Q : VK} (g : Good X.K S A H ob) (rs : RelS S A sl σ) (en : End X.K S A H P Q) : tChain (rI0 fun i j => .bl (f i j)) (rI0 fun i j => .bl (f' i j)) (wpE X a) (wpE X b) (wpE X c) σ H Q := by
  refine h S A H σ _ g rs fun r1 ob1 x S1 A1 H1 h1 g1 q1 st1 => h1 S1 A1 H1 σ _ g1 (rs.step st1) fun r2 ob2 y S2 A2 H2 h2 g2 q2 st2 => ?_
  obtain ⟨i, j, l, rfl, rfl, hc, hp⟩ := h2
  refine ⟨i, j, (q1.step st2).int, q2.int, f i j, rfl, ?_⟩
  have st := st1.trans st2
  cases e : f i j with
  | false =>
    rw [if_neg Bool.false_ne_true]
    rw [e, Bool.false_and] at hp
    exact (en.step st).here hp g2 rr_bl
  | true =>
    rw [if_pos rfl]
    rw [e, Bool.true_and] at hp
    refine hc S2 A2 H2 σ _ g2 (rs.step st) fun r4 ob4 w S4 A4 H4 h4 g4 q4 st4 => ?_
    obtain ⟨e1, e2⟩ := h4
    subst e1 e2
    exact ⟨j, l, (q2.step st4).int, q4.int, (en.step (st.trans st4)).here hp g4 rr_bl⟩
theorem wt_chainI {op op' : CmpOp} {f f' : Int → Int → Bool} {B : Bool → Obs → Prop} (ho : OpR X (compareOp op) (rI0 fun i j => .bl (f i j))) (ho' : OpR X (compareOp op') (rI0 fun i j => .bl (f' i j)))
    (h : We X a ob sl fun r1 ob1 => We X b ob1 sl fun r2 ob2 => ∃ i j l, r1 = .d (.int i) ∧ r2 = .d (.int j) ∧ We X c ob2 sl (Pv (.int l) ob2) ∧ B (f i j && f' j l) ob2)
    (hm : lastMarks [op, op'] [b, c] = false := by with_unfolding_all rfl) : Wt X (.Compare a [op, op'] [b, c] pos) ob sl B := fun S A H σ Q g rs en => by
  refine wpT.of (pt_chain ho ho' pe_wp pe_wp pe_wp hm) (chain_sem (op := op) (op' := op') (P := asT B) (h.mono fun _ _ h1 => h1.mono fun _ _ ⟨i, j, l, e1, e2, e3, e4⟩ => ⟨i, j, l, e1, e2, e3, _, rfl, e4⟩) g rs fun r ob1 v S1 A1 H1 h1 g1 q1 st1 => ?_)
  obtain ⟨k, rfl, hk⟩ := h1
  exact ⟨k, q1.bl, en _ _ _ _ _ hk g1 st1⟩
end
end DL

/-! DL: keys that are tuples of tuples. -/
namespace DL
open PySem L2
section
variable {prog : Program} {w : World} {K : Type} [DecidableEq K] (knd : KeyKind prog w K)
inductive ItemsT (h : Heap) : List (List K) → List Value → Prop
  | nil : ItemsT h [] []
  | cons {k : List K} {b : Addr} {ks : List (List K)} {vs : List Value} : IsTupleKey knd h k b → ItemsT h ks vs → ItemsT h (k :: ks) (.ref b :: vs)
def IsNestKey (h : Heap) (ks : List (List K)) (a : Addr) : Prop := ∃ o items n, h.get? a = some o ∧ o.cls = .type "tuple" ∧ o.data = .seq items n ∧ ItemsT knd h ks items.toList
variable {knd}
theorem ItemsT.inj {h : Heap} {x y : List (List K)} {vs : List Value} (hx : ItemsT knd h x vs) (hy : ItemsT knd h y vs) : x = y := by
  induction hx generalizing y with
  | nil => cases hy; rfl
  | cons h1 _ ih =>
    cases hy with
    | cons h2 t2 => rw [h1.inj h2, ih t2]
theorem ItemsT.length {h : Heap} {x : List (List K)} {vs : List Value} (hx : ItemsT knd h x vs) : x.length = vs.length := by
  induction hx with
  | nil => rfl
  | cons _ _ ih => simp [ih]
theorem ItemsT.keeps {h h' : Heap} {d : Addr} {o : Obj} {es ep} (ho : h.get? d = some o) (hd : o.data = .dict es ep) (hs : Heap.SameBut d h h') {x : List (List K)} {vs : List Value} (hx : ItemsT knd h x vs) : ItemsT knd h' x vs := by
  induction hx with
  | nil => exact .nil
  | cons h1 _ ih => exact .cons (h1.keeps ho hd hs) ih
theorem IsNestKey.typeIs {s : Shared} {ks : List (List K)} {a : Addr} (x : IsNestKey knd s.heap ks a) : s.TypeIs (.ref a) "tuple" := let ⟨o, _, _, ho, hc, _⟩ := x; ⟨o, ho, hc⟩
theorem IsNestKey.inj {h : Heap} {a : Addr} {x y : List (List K)} (hx : IsNestKey knd h x a) (hy : IsNestKey knd h y a) : x = y := by
  obtain ⟨o, items, n, ho, _, hd, hi⟩ := hx
  obtain ⟨o', items', n', ho', _, hd', hi'⟩ := hy
  obtain rfl : o = o' := Option.some.inj (ho.symm.trans ho')
  rw [hd] at hd'
  injection hd' with h1 _
  subst h1
  exact hi.inj hi'
theorem IsNestKey.keeps {h h' : Heap} {ks : List (List K)} {a d : Addr} {o : Obj} {es ep} (x : IsNestKey knd h ks a) (ho : h.get? d = some o) (hd : o.data = .dict es ep) (hs : Heap.SameBut d h h') : IsNestKey knd h' ks a := by
  obtain ⟨o', items, n, ho', hc, hd', hi⟩ := x
  have hne : a ≠ d := by
    rintro rfl
    obtain rfl : o' = o := Option.some.inj (ho'.symm.trans ho)
    rw [hd] at hd'; exact nomatch hd'
  exact ⟨o', items, n, (hs.2 a hne).trans ho', hc, hd', hi.keeps ho hd hs⟩
def nestHash (knd : KeyKind prog w K) (ks : List (List K)) : Int := reduceHash (Builtin.Tuple.tupleHashOf (ks.map (tupleKeyHash knd)))
def nestDraws : List (List K) → Nat
  | [] => 0
  | k :: r => (k.length + 1) + nestDraws r
theorem nestDraws_append : ∀ (a b : List (List K)), nestDraws (a ++ b) = nestDraws a + nestDraws b
  | [], b => by simp [nestDraws]
  | k :: a, b => by
    show (k.length + 1) + nestDraws (a ++ b) = (k.length + 1) + nestDraws a + nestDraws b
    rw [nestDraws_append a b]
    omega
variable {A : Around} {E : Value → Shared → Prop} {s : Shared}
theorem wpAny_pyHash_nest {ks : List (List K)} {a : Addr} {Q : Int → Shared → Prop} (hu : A.units + 1 < cLine) (hk : IsNestKey knd s.heap ks a) (h : Q (nestHash knd ks) { s with toks := s.toks + (nestDraws ks + 1) }) :
    wpAny (model prog w) A (pyHash (.ref a)) Q E s := by
  have hT := hk.typeIs
  obtain ⟨o, items, n, ho, _, hd, hi⟩ := hk
  unfold pyHash
  first | unfold pyHashByItsType | skip
  first | refine wpAny_bind (wpAny_cRoomFor_or (.inr (by omega)) ?_) | skip
  refine wpAny_bind (wpAny_specialOf hT F.slot_tuple_hash.lookup ?_)
  show wpAny _ _ (if (some (Value.builtin "tuple.__hash__") == some Value.none) = true then _ else _) Q E s
  rw [if_neg (by rw [beq_builtin_none]; exact Bool.false_ne_true)]
  refine wpAny_bind (wpAny_specialOf hT F.slot_tuple_hash.lookup ?_)
  show wpAny _ _ (callSpecialIfBoundUnlessNone? (.ref a) "__hash__" _ >>= _) Q E s
  refine wpAny_bind (wpAny_callSpecialIfBoundUnlessNone?_slot hT F.slot_tuple_hash (wpAny_call_entry F.slot_tuple_hash hT F.entry_tuple_hash ?_ (F.args_tuple_hash_1 _)))
  show wpAny _ _ (Builtin.Tuple.tupleItemsOf (.ref a) >>= _) _ _ s
  refine wpAny_bind (wpAny_tupleItemsOf ho hd ?_)
  refine wpAny_bind ?_
  rw [← Array.forIn_toList]
  refine wpAny_forIn_list _
    (fun rest (b : Array Int) s' => ∃ done left, ks = done ++ left ∧ ItemsT knd s.heap left rest ∧ b.toList = done.map (tupleKeyHash knd) ∧ s' = { s with toks := s.toks + nestDraws done })
    _ ?_ ?_ _ _ ⟨[], ks, rfl, hi, rfl, rfl⟩
  · rintro x rest b s' ⟨done, left, rfl, hl, hb, rfl⟩
    cases hl with
    | @cons k _ ks' _ h1 hl' =>
      refine wpAny_bind (wpAny_pyHash_tuple (A := A.in1) hu h1 ?_)
      first
        | exact wpAny_pure ⟨done ++ [k], ks', by simp, hl', by simp [hb], by simp [nestDraws_append, nestDraws, Nat.add_assoc]⟩
        | exact wpAny_bind (wpAny_pure (wpAny_pure ⟨done ++ [k], ks', by simp, hl', by simp [hb], by simp [nestDraws_append, nestDraws, Nat.add_assoc]⟩))
  · rintro b s' ⟨done, left, rfl, hl, hb, rfl⟩
    cases hl
    rw [List.append_nil] at h
    show wpAny _ _ (retInt (Builtin.Tuple.tupleHashOf b.toList)) _ _ _
    rw [hb]
    refine wpAny_ret_mkInt ?_
    show wpAny _ _ (if (decide (-(2 : Int) ^ 63 ≤ Builtin.Tuple.tupleHashOf (done.map (tupleKeyHash knd))) && decide (Builtin.Tuple.tupleHashOf (done.map (tupleKeyHash knd)) < 2 ^ 63)) = true then _ else _) Q E _
    unfold nestHash reduceHash at h
    by_cases hr : (decide (-(2 : Int) ^ 63 ≤ Builtin.Tuple.tupleHashOf (done.map (tupleKeyHash knd))) && decide (Builtin.Tuple.tupleHashOf (done.map (tupleKeyHash knd)) < 2 ^ 63)) = true
    · rw [if_pos hr]
      rw [if_pos hr] at h
      exact wpAny_pure (by simpa [Nat.add_assoc] using h)
    · rw [if_neg hr]
      rw [if_neg hr] at h
      exact wpAny_bind (wpAny_rule (wpAny_pure (by simpa [Nat.add_assoc] using h)))
theorem nest_eq_tree {x y : List (List K)} {a b : Addr} {P : Fin → Shared → Prop} (hu : A.units < cLine) (hx : IsNestKey knd s.heap x a) (hy : IsNestKey knd s.heap y b) (h : P (.done (.ret (.bool (decide (x = y))))) s) :
    wpAny (model prog w) A (Builtin.«tuple.__eq__» ⟨[.ref a, .ref b], []⟩) P E s := by
  have hTb := hy.typeIs
  obtain ⟨oa, xs, na, hoa, _, hda, hia⟩ := hx
  obtain ⟨ob, ys, nb, hob, _, hdb, hib⟩ := hy
  show wpAny _ _ (isInstance (.ref b) (.type "tuple") >>= _) _ _ s
  refine wpAny_bind (wpAny_isInstance hTb isSubtype_tuple_tuple ?_)
  simp only [Bool.not_true, Bool.false_eq_true, if_false]
  refine wpAny_bind (wpAny_tupleItemsOf hoa hda ?_)
  refine wpAny_bind (wpAny_tupleItemsOf hob hdb ?_)
  refine wpAny_bind ?_
  refine wpAny_forIn_list _
    (fun rest r s' => r.1 = none ∧ s' = s ∧ ∃ x' y' xs' ys', rest = List.zip xs' ys' ∧ ItemsT knd s.heap x' xs' ∧ ItemsT knd s.heap y' ys' ∧ decide (x' = y') = decide (x = y) ∧ (xs'.length == ys'.length) = (xs.size == ys.size))
    _ ?_ ?_ _ _ ⟨rfl, rfl, x, y, xs.toList, ys.toList, rfl, hia, hib, rfl, by simp⟩
  · rintro ⟨u, v⟩ rest r s' ⟨hr, rfl, x', y', xs', ys', hz, hx', hy', hdec, hlen⟩
    cases hx' with
    | nil => simp at hz
    | @cons k1 u' x'' xs'' h1 hx'' =>
      cases hy' with
      | nil => simp at hz
      | @cons k2 v' y'' ys'' h2 hy'' =>
        simp only [List.zip_cons_cons, List.cons.injEq, Prod.mk.injEq] at hz
        obtain ⟨⟨rfl, rfl⟩, rfl⟩ := hz
        refine wpAny_bind (wpAny_eqBool_tuple (x := k1) (y := k2) hu h1 h2 ?_)
        by_cases hk : k1 = k2
        · subst hk
          rw [decide_eq_true rfl]
          simp only [Bool.not_true, Bool.false_eq_true, if_false]
          refine wpAny_pure ⟨rfl, rfl, x'', y'', xs'', ys'', rfl, hx'', hy'', ?_, by simpa using hlen⟩
          rw [← hdec]
          by_cases hxy : x'' = y''
          · simp [hxy]
          · simp [hxy]
        · rw [decide_eq_false hk]
          simp only [Bool.not_false, if_true]
          have hf : decide (x = y) = false := by rw [← hdec]; simp [hk]
          rw [hf] at h
          exact wpAny_bind (wpAny_pure (wpAny_pure (wpAny_pure h)))
  · rintro ⟨r1, r2⟩ s' ⟨hr, rfl, x', y', xs', ys', hz, hx', hy', hdec, hlen⟩
    simp only at hr
    subst hr
    refine wpAny_pure ?_
    have hfin : (xs.size == ys.size) = decide (x = y) := by
      rw [← hdec, ← hlen]
      cases hx' with
      | nil =>
        cases hy' with
        | nil => simp
        | cons _ _ => simp
      | cons _ _ =>
        cases hy' with
        | nil => simp
        | cons _ _ => simp at hz
    show P (.done (.ret (.bool (xs.size == ys.size)))) s'
    rw [hfin]; exact h
theorem wpAny_eqBool_nest {x y : List (List K)} {a b : Addr} {Q : Bool → Shared → Prop} (hu : A.units + 1 < cLine) (hx : IsNestKey knd s.heap x a) (hy : IsNestKey knd s.heap y b) (h : Q (decide (x = y)) s) :
    wpAny (model prog w) A (eqBool (.ref a) (.ref b)) Q E s := by
  unfold eqBool
  try with_reducible refine wpAny_holding ?_
  show wpAny _ _ (if (Value.ref a == Value.ref b) = true then _ else _) Q E s
  by_cases hab : (Value.ref a == Value.ref b) = true
  · rw [if_pos hab]
    have e : a = b := by have := eq_of_beq hab; injection this
    subst e
    obtain rfl := hx.inj hy
    exact wpAny_bind (wpAny_rule (wpAny_pure (by simpa using h)))
  · rw [if_neg hab]
    exact wpAny_bind (wpAny_richCompare_same_room (op := .Eq) hx.typeIs hy.typeIs F.slot_tuple_eq
      (wpAny_call_entry F.slot_tuple_eq hx.typeIs F.entry_tuple_eq (nest_eq_tree (A := A.in1) hu hx hy ⟨_, rfl, (fun e => nomatch e), wpAny_truthy_bool h⟩) (F.args_tuple_eq_2 _ _)) (by omega))
theorem wpAny_eqIsQuiet_tupleN {n : Nat} {ks : List K} {a : Addr} {Q : Bool → Shared → Prop} (hk : IsTupleKey knd s.heap ks a) (h : Q true s) : wpAny (model prog w) A (eqIsQuiet (n + 1) (.ref a)) Q E s := by
  have hT := hk.typeIs
  obtain ⟨o, items, m, ho, _, hd, hi⟩ := hk
  unfold eqIsQuiet
  refine wpAny_bind (wpAny_specialOf hT F.slot_tuple_eq.lookup ?_)
  show wpAny _ _ (isInstance (.ref a) (.type "tuple") >>= _) _ _ s
  refine wpAny_bind (wpAny_isInstance hT isSubtype_tuple_tuple ?_)
  simp only [Bool.not_true, Bool.false_eq_true, if_false]
  refine wpAny_bind (wpAny_seqItems ho hd ?_)
  refine wpAny_bind ?_
  show wpAny _ _ (forIn items _ _) _ _ s
  rw [← Array.forIn_toList]
  refine wpAny_forIn_list _ (fun rest r s' => r.1 = none ∧ s' = s ∧ ∀ v ∈ rest, carriedByValue v = true) _ ?_ ?_ _ _ ⟨rfl, rfl, hi.byValue⟩
  · rintro v rest r s' ⟨hr, rfl, hall⟩
    rw [eqIsQuiet_byValue _ (hall v List.mem_cons_self)]
    refine wpAny_bind (wpAny_pure ?_)
    simp only [Bool.not_true, Bool.false_eq_true, if_false]
    exact wpAny_pure ⟨rfl, rfl, fun u hu' => hall u (List.mem_cons_of_mem _ hu')⟩
  · rintro ⟨r1, r2⟩ s' ⟨hr, rfl, _⟩
    simp only at hr
    subst hr
    exact wpAny_pure h
theorem wpAny_eqIsQuiet_nest {ks : List (List K)} {a : Addr} {Q : Bool → Shared → Prop} (hk : IsNestKey knd s.heap ks a) (h : Q true s) : wpAny (model prog w) A (eqIsQuiet 8 (.ref a)) Q E s := by
  have hT := hk.typeIs
  obtain ⟨o, items, m, ho, _, hd, hi⟩ := hk
  unfold eqIsQuiet
  refine wpAny_bind (wpAny_specialOf hT F.slot_tuple_eq.lookup ?_)
  show wpAny _ _ (isInstance (.ref a) (.type "tuple") >>= _) _ _ s
  refine wpAny_bind (wpAny_isInstance hT isSubtype_tuple_tuple ?_)
  simp only [Bool.not_true, Bool.false_eq_true, if_false]
  refine wpAny_bind (wpAny_seqItems ho hd ?_)
  refine wpAny_bind ?_
  show wpAny _ _ (forIn items _ _) _ _ s
  rw [← Array.forIn_toList]
  refine wpAny_forIn_list _ (fun rest r s' => r.1 = none ∧ s' = s ∧ ∃ left, ItemsT knd s.heap left rest) _ ?_ ?_ _ _ ⟨rfl, rfl, ks, hi⟩
  · rintro v rest r s' ⟨hr, rfl, left, hl⟩
    cases hl with
    | cons h1 hl' =>
      refine wpAny_bind (wpAny_eqIsQuiet_tupleN (n := 6) h1 ?_)
      simp only [Bool.not_true, Bool.false_eq_true, if_false]
      exact wpAny_pure ⟨rfl, rfl, _, hl'⟩
  · rintro ⟨r1, r2⟩ s' ⟨hr, rfl, _⟩
    simp only at hr
    subst hr
    exact wpAny_pure h
/-- keys that are tuples of tuples -/
def nestKind (knd : KeyKind prog w K) : HeapKind prog w (List (List K)) where
  is := IsNestKey knd
  hash := nestHash knd
  draws := fun ks => nestDraws ks + 1
  room := fun A => A.units + 1 < cLine
  inj := fun hx hy => hx.inj hy
  keeps := fun x ho hd hs => x.keeps ho hd hs
  pyHash := fun hu hk h => wpAny_pyHash_nest hu hk h
  eqBool := fun hu hx hy h => wpAny_eqBool_nest hu hx hy h
  quiet := fun hk h => wpAny_eqIsQuiet_nest hk h
end
end DL

/-! DL: dicts keyed by tuples of tuples of ints, whose values are ints. -/
namespace DL
open PySem L2
abbrev encT2 (k : List (List Int)) : Dt := .tup (k.map encT)
def kT2 (k : List (List Int)) : List (List Key) := k.map kT
theorem kT2_inj {a b : List (List Int)} : kT2 a = kT2 b ↔ a = b := by
  constructor
  · intro h
    induction a generalizing b with
    | nil => cases b with
      | nil => rfl
      | cons y b => cases h
    | cons x a ih =>
      cases b with
      | nil => cases h
      | cons y b =>
        unfold kT2 at h ih
        rw [List.map_cons, List.map_cons] at h
        obtain ⟨h1, h2⟩ := List.cons.inj h
        rw [kT_inj.mp h1, ih h2]
  · rintro rfl; rfl
abbrev Xs := List (List (List Key) × Addr × Value)
def dObj (d : Addr) (es : Array DictEntry) (ep : Nat) : Heap → Prop := fun h => ∃ o, h.get? d = some o ∧ o.ExactDict ∧ o.data = .dict es ep
/-- the tuple at b holds tuples of ints -/
def NKey (H : Hp) (k : List (List Int)) (b : Addr) : Prop := ∃ qs : List Addr, H b = some (.tup (qs.map V.ref)) ∧ Paired (fun q i => H q = some (.tup (i.map V.int))) qs k
theorem nkey_is {P : Program} {w : World} {H : Hp} {h : Heap} {k : List (List Int)} {b : Addr} (ok : HOk P w H h) (x : NKey H k b) : IsNestKey (mixKind P w) h (kT2 k) b := by
  obtain ⟨qs, e, pr⟩ := x
  obtain ⟨z, its, r, o, h1, h2, n, h3⟩ := (show ObjOk P w H h b (.tup (qs.map V.ref)) from ok b _ e)
  refine ⟨o, its.toArray, n, h1, h2, h3, ?_⟩
  show ItemsT (mixKind P w) h (kT2 k) its
  clear e h1 h2 h3 z
  induction pr generalizing its with
  | nil => cases r; exact .nil
  | @cons q i qs k hq t ih =>
    cases r with
    | cons r1 rr =>
      rename_i u us
      cases (show u = Value.ref q from r1)
      have e1 : H q = some (.tup ((kT i).map kV)) := by rw [kT_V]; exact hq
      exact .cons (key_of ok e1) (ih us rr)
theorem nkey_of {K : PySem.W.Frag} {S H : Hp} {A : List Addr} {ob : Obs} {k : List (List Int)} {v : V} (ex : Ex S H) (q : Rep S (encT2 k) v) : ∃ b, v = .ref b ∧ NKey H k b := by
  obtain ⟨b, xs, rfl, h2, h3⟩ := rep_tup.mp q
  have key : ∀ (k : List (List Int)) (xs : List V), Reps S (k.map encT) xs → ∃ qs : List Addr, xs = qs.map V.ref ∧ Paired (fun q i => H q = some (.tup (i.map V.int))) qs k := fun k => by
    induction k with
    | nil =>
      intro xs h
      rw [reps_nil.mp h]
      exact ⟨[], rfl, .nil⟩
    | cons i k ih =>
      intro xs h
      obtain ⟨x, r, rfl, h1, h2⟩ := reps_cons.mp h
      obtain ⟨qs, rfl, pr⟩ := ih r h2
      obtain ⟨q, ys, rfl, e1, e2⟩ := rep_tup.mp h1
      rw [reps_ints.mp e2] at e1
      exact ⟨q :: qs, rfl, .cons (ex.at e1 rfl) pr⟩
  obtain ⟨qs, rfl, pr⟩ := key k xs h3
  exact ⟨b, rfl, qs, ex.at h2 rfl, pr⟩
structure NFacts (P : Program) (w : World) (H : Hp) (d : Addr) (es : Array DictEntry) (xs : Xs) : Prop where
  sys : (d == sysModules) = false
  size : xs.length ≤ sizeLine
  ents : es.toList = xs.map (entryOfKey (nestKind (mixKind P w)))
  nd : (xs.map (·.1)).Nodup
  keys : ∀ x ∈ xs, ∃ k, x.1 = kT2 k ∧ NKey H k x.2.1
section
variable {X : Cx} {pins : List (Addr × Obj)} {σ : L2.St} {H : Hp} {s : Shared} {d : Addr} {es : Array DictEntry} {ep : Nat} {xs : Xs}
theorem ext_obj (ok : HOk X.prog X.w H s.heap) (h : Rd H d (.ext (dObj d es ep))) : ∃ o, s.heap.get? d = some o ∧ o.ExactDict ∧ o.data = .dict es ep := by
  obtain ⟨p, _⟩ := (show ObjOk X.prog X.w H s.heap d (.ext (dObj d es ep)) from rd_of ok h)
  exact p
theorem dd_of (ok : HOk X.prog X.w H s.heap) (h : Rd H d (.ext (dObj d es ep))) (f : NFacts X.prog X.w H d es xs) : s.heap.DictOfH (nestKind (mixKind X.prog X.w)) d xs := by
  obtain ⟨o, h1, h2, h3⟩ := ext_obj ok h
  refine ⟨o, es, ep, h1, h2, h3, f.ents, fun x hx => ?_, f.nd⟩
  obtain ⟨k, e, nk⟩ := f.keys x hx
  rw [e]
  exact nkey_is ok nk
end
/-! ### model rules -/
section
variable {X : Cx} {o i e value : Expr} {pos pos' tpos : Pos} {td ty tv : TE}
theorem ext_ok {P : Program} {w : World} {H : Hp} {h : Heap} {d : Addr} {es : Array DictEntry} {ep : Nat} {o : Obj} (h1 : h.get? d = some o) (h2 : o.ExactDict) (h3 : o.data = .dict es ep) : ObjOk P w H h d (.ext (dObj d es ep)) :=
  ⟨⟨o, h1, h2, h3⟩, ⟨o, h1⟩, fun _ _ ⟨o, e1, e2, e3⟩ k => ⟨o, k o e1, e2, e3⟩⟩
theorem pe_dnewN : PE X (.Dict [] [] pos) (fun _ H Q => ∀ p, H p = none → (p == sysModules) = false → Q (.ref p) (upd H p (.ext (dObj p #[] 0)))) := ⟨fun pins s σ H Q I h =>
  wpAny_Dict_empty ⟨.ref s.heap.objs.size, _, I.laid (a := s.heap.objs.size) (o := .ext (dObj s.heap.objs.size #[] 0)) (t' := s.toks) (fun _ _ q => Heap.get?_push_of_some _ q) (Nat.le_refl _) (ext_ok (Heap.get?_push_size _ rfl) ⟨rfl, rfl, rfl⟩ rfl), rfl, h _ (I.hok.fresh (Nat.le_refl _)) (beq_eq_false_iff_ne.mpr (Ne.symm (Nat.ne_of_lt I.big)))⟩⟩
def tNGet (P : Program) (w : World) (td ty : TE) : TE := fun σ H Q => td σ H fun x H1 => ty σ H1 fun y H2 => ∃ (d b : Addr) (es : Array DictEntry) (ep : Nat) (xs : Xs) (k : List (List Int)) (p : Addr × Value) (n : Int) (t : Tok), x = .ref d ∧ y = .ref b ∧ Rd H2 d (.ext (dObj d es ep)) ∧ NFacts P w H2 d es xs ∧ NKey H2 k b ∧ atKey xs (kT2 k) = some p ∧ p.2 = .int n t ∧ Q (.int n) H2
theorem pe_nget (hu : X.A.units + 2 < cLine) (ho : PE X o td) (hi : PE X i ty) (hs : NoSl i) : PE X (.Subscript o i pos) (tNGet X.prog X.w td ty) := by
  refine ⟨fun pins s σ H Q I h => ?_⟩
  refine subD_of PySem.F.slot_dict_getitem.lookup hs (thn (ho.run pins s σ H _ I h) fun u s1 ⟨x, H1, I1, rx, q1⟩ => thn (hi.run pins s1 σ H1 _ I1 q1) fun iv s2 ⟨y, H2, I2, ry, d, b, es, ep, xs, k, p, n, t, ex, ey, hd, f, nk, hp, hpn, q2⟩ => ?_)
  subst ex ey
  obtain rfl : u = Value.ref d := rx
  obtain rfl : iv = Value.ref b := ry
  have dd := dd_of I2.hok hd f
  refine ⟨dd.typeIs, wpAny_getItem_heap (knd := nestKind (mixKind X.prog X.w)) (show X.A.in1.units + 1 < cLine from hu) (nkey_is I2.hok nk) dd hp ?_⟩
  rw [hpn]
  exact ⟨.int n, H2, I2.tok _, ⟨t, rfl⟩, q2⟩
def sNPut (P : Program) (w : World) (td ty tv : TE) : TS := fun D σ H => tv σ H fun v H1 => td σ H1 fun x H2 => ty σ H2 fun y H3 => ∃ (d b : Addr) (es : Array DictEntry) (ep : Nat) (xs : Xs) (k : List (List Int)) (n : Int), x = .ref d ∧ y = .ref b ∧ v = .int n ∧ H3 d = some (.ext (dObj d es ep)) ∧ NFacts P w H3 d es xs ∧ NKey H3 k b ∧
  ∀ es' ep' t, es'.toList = (storedH xs (kT2 k) b (.int n t)).map (entryOfKey (nestKind (mixKind P w))) → ((storedH xs (kT2 k) b (.int n t)).map (·.1)).Nodup → D.nx σ (upd H3 d (.ext (dObj d es' ep')))
theorem ps_nput (hu : X.A.units + 2 < cLine) (ho : PE X o td) (hi : PE X i ty) (hv : PE X value tv) (hs : swapsWith value (some (.Subscript o i pos')) pos.line X.env = pure false) :
    PS X (.Assign [.Subscript o i pos'] value pos) (sNPut X.prog X.w td ty tv) := by
  refine ⟨fun pins s σ H D I h => ?_⟩
  refine wpAny_Assign_Subscript (thn (hv.run pins s σ H _ I h) fun r s1 ⟨v, H1, I1, rv, q1⟩ => thn (ho.run pins s1 σ H1 _ I1 q1) fun u s2 ⟨x, H2, I2, rx, q2⟩ => thn (hi.run pins s2 σ H2 _ I2 q2) fun iv s3 ⟨y, H3, I3, ry, d, b, es, ep, xs, k, n, ex, ey, ev, hd, f, nk, q3⟩ => ?_) hs
  subst ex ey ev
  obtain rfl : u = Value.ref d := rx
  obtain rfl : iv = Value.ref b := ry
  obtain ⟨t, rfl⟩ : ∃ t, r = Value.int n t := rv
  have dd := dd_of I3.hok (.inl hd) f
  refine wpAny_setItem_heap (hsz := f.size) (knd := nestKind (mixKind X.prog X.w)) (show X.A.in1.units + 1 < cLine from hu) (nkey_is I3.hok nk) dd fun h' dd' hs => ?_
  obtain ⟨q, es', ep', hq, h2, h3, h4, _, h5⟩ := dd'
  exact ⟨σ, _, d_write I3 (by rw [hd]; exact True.intro) hs ⟨q, hq⟩ (ext_ok hq h2 h3), q3 es' ep' t h4 h5⟩
/-- the keys of the locked dict -/
def Itn (d : Addr) (o : Obj) (u : HO) (qs : List Addr) : It :=
  ⟨fun i H => H d = some (.frz o u) ∧ i < qs.length, fun i H x H' => H' = H ∧ ∃ q, qs[i]? = some q ∧ x = .ref q, fun i H => H d = some (.frz o u) ∧ qs.length ≤ i⟩
theorem turn_keysN {P : Program} {w : World} {K : PySem.W.Frag} {tg : Expr} {d : Addr} {o : Obj} {u : HO} {es : Array DictEntry} {ep : Nat} {qs : List Addr} (it : Addr) (hod : o.data = .dict es ep) (hsz : es.size = qs.length) (hen : ∀ (i : Nat) (q : Addr), qs[i]? = some q → ∃ en, es[i]? = some en ∧ en.key = .ref q) :
    Turn P w K tg (Itn d o u qs) [it] it (fun i h => h.IsKeyIter it d i qs.length ep) where
  mem := by simp
  obj := fun i h st b hb => by
    have e : b = it := by simpa using hb
    subst e
    obtain ⟨oi, e, c, dd⟩ := st
    exact ⟨oi, e, fun v z => by rw [dd] at z; cases z⟩
  keep := fun i h h' st k => st.at fun oi e => k it (by simp) oi e
  item := by
    intro X hP hw hK hc i pins s σ H E I hf st hg
    subst hP hw hK
    obtain ⟨hd, hi⟩ := hg
    obtain ⟨f0, f1, f2, f3, f4, f5⟩ := hf it (by simp)
    obtain ⟨hgd, _⟩ := I.hok d _ hd
    obtain ⟨q, hq⟩ : ∃ p, qs[i]? = some p := ⟨qs[i], List.getElem?_eq_getElem hi⟩
    obtain ⟨en, hen1, hkey⟩ := hen i q hq
    refine next_key_item st hgd hod hsz hen1 fun h' st' sb => ?_
    have I1 : Inv X pins σ H { s with heap := h' } := I.turned (t' := s.toks) (fun b ob hb e => (sb.2 b hb).trans e) f0 f1 f3 f4 f5
    obtain ⟨oi, e, c, dd⟩ := id st'
    exact ⟨en.key, rfl, go_of (s := { s with heap := h' }) e c dd (by decide) ⟨.ref q, H, I1, hkey, ⟨rfl, q, hq, rfl⟩, st', fun b hb => (hf b hb).1⟩⟩
  done := by
    intro X hP hw hK hc i pins s σ H E I hf st hg
    subst hP hw hK
    obtain ⟨hd, hi⟩ := hg
    obtain ⟨f0, f1, f2, f3, f4, f5⟩ := hf it (by simp)
    obtain ⟨hgd, _⟩ := I.hok d _ hd
    exact next_key_end (I.ok.hd hc) st hgd hod hsz hi fun h' eb => ⟨rfl, I.turned (t' := s.toks) (fun b ob hb e => eb b ob hb e) f0 f1 f3 f4 f5⟩
  self := fun A i s Q E st h => by
    refine wpAny_pyIter_slot st.typeIs F.slot_dict_keyiterator_iter (wpAny_call_entry F.slot_dict_keyiterator_iter st.typeIs F.entry_dict_keyiterator_iter ?_ (F.args_dict_keyiterator_iter_1 _))
    show wpAny _ _ (ret (.ref it)) _ _ s
    exact wpAny_pure ⟨_, rfl, "dict_keyiterator", _, st.typeIs, F.slot_dict_keyiterator_next.lookup, h⟩
def iKeysN (P : Program) (w : World) (td : TE) : TI := fun σ H R => td σ H fun x H1 => ∃ (d : Addr) (es : Array DictEntry) (ep : Nat) (xs : Xs), x = .ref d ∧ NFacts P w H1 d es xs ∧
  ((H1 d = some (.ext (dObj d es ep)) ∧ ∀ od, R (Itn d od (.ext (dObj d es ep)) (xs.map (·.2.1))) (upd H1 d (.frz od (.ext (dObj d es ep))))) ∨ ∃ od, H1 d = some (.frz od (.ext (dObj d es ep))) ∧ R (Itn d od (.ext (dObj d es ep)) (xs.map (·.2.1))) H1)
theorem pi_keysN {tg e : Expr} {td : TE} (he : PE X e td) : PI X tg e (iKeysN X.prog X.w td) := by
  refine ⟨fun pins s σ H R I h => ?_⟩
  refine thn (he.run pins s σ H _ I h) fun u s1 ⟨x, H1, I1, rx, d, es, ep, xs, ex, f, q⟩ => ?_
  subst ex
  obtain rfl : u = Value.ref d := rx
  have hen : ∀ (i : Nat) (q : Addr), (xs.map (·.2.1))[i]? = some q → ∃ en, es[i]? = some en ∧ en.key = .ref q := fun i q hq => by
    rw [List.getElem?_map] at hq
    cases e : xs[i]? with
    | none => rw [e] at hq; cases hq
    | some x =>
      rw [e] at hq
      cases hq
      exact ⟨entryOfKey (nestKind (mixKind X.prog X.w)) x, by rw [entry_at f.ents i, e]; rfl, rfl⟩
  have hsz : es.size = (xs.map (·.2.1)).length := by rw [List.length_map]; exact size_of_entries f.ents
  rcases q with ⟨hd, q⟩ | ⟨od, hd, q⟩
  · obtain ⟨od, I2⟩ := I1.lock hd True.intro
    obtain ⟨hgd, ⟨o2, e1, e2, e3⟩, _⟩ := I2.hok d _ upd_same
    rw [hgd] at e1
    cases e1
    refine iter_keys f.sys hgd e2 e3 (pi_one (tk := s1.toks) I2 _ (turn_keysN _ e3 hsz hen) ⟨_, Heap.get?_push_size _ rfl, rfl, ?_⟩ (q od))
    rw [hsz] <;> rfl
  · obtain ⟨hgd, ⟨o2, e1, e2, e3⟩, _⟩ := I1.hok d _ hd
    rw [hgd] at e1
    cases e1
    refine iter_keys f.sys hgd e2 e3 (pi_one (tk := s1.toks) I1 _ (turn_keysN _ e3 hsz hen) ⟨_, Heap.get?_push_size _ rfl, rfl, ?_⟩ q)
    rw [hsz] <;> rfl
end

/-! ### over data -/
def valN (m : List (List (List Int) × Int)) (k : List (List Int)) : Option Int := (m.find? fun p => decide (p.1 = k)).map (·.2)
def putN (m : List (List (List Int) × Int)) (k : List (List Int)) (v : Int) : List (List (List Int) × Int) :=
  if (m.any fun p => decide (p.1 = k)) = true then m.map (fun p => if p.1 = k then (p.1, v) else p) else m ++ [(k, v)]
theorem putN_length (m : List (List (List Int) × Int)) (k : List (List Int)) (v : Int) : (putN m k v).length ≤ m.length + 1 := by
  unfold putN
  split
  · rw [List.length_map]; omega
  · rw [List.length_append]; exact Nat.le_refl _
abbrev NRel (S : Hp) : Xs → List (List (List Int) × Int) → Prop := Paired fun x p => x.1 = kT2 p.1 ∧ Rep S (encT2 p.1) (.ref x.2.1) ∧ ∃ t, x.2.2 = Value.int p.2 t
theorem NRel.mono {S S' : Hp} (e : Le S S') {xs : Xs} {m : List (List (List Int) × Int)} (h : NRel S xs m) : NRel S' xs m := L2.Paired.mapP h fun _ _ z => ⟨z.1, z.2.1.mono e, z.2.2⟩
theorem NRel.length {S : Hp} {xs : Xs} {m : List (List (List Int) × Int)} (h : NRel S xs m) : xs.length = m.length := Paired.length h
theorem NRel.atKey {S : Hp} {k : List (List Int)} : ∀ {xs : Xs} {m : List (List (List Int) × Int)}, NRel S xs m → (PySem.atKey xs (kT2 k)).isSome = (m.any fun p => decide (p.1 = k)) ∧ ∀ n, valN m k = some n → ∃ p t, PySem.atKey xs (kT2 k) = some p ∧ p.2 = .int n t
  | _, _, .nil => ⟨rfl, fun n e => by cases e⟩
  | _, _, .cons (a := x) (b := p) h t => by
    obtain ⟨i1, i2⟩ := NRel.atKey (k := k) t
    obtain ⟨h1, h2, tk, h3⟩ := h
    by_cases c : p.1 = k
    · have e : x.1 = kT2 k := by rw [h1, c]
      refine ⟨?_, fun n hn => ⟨x.2, tk, ?_, ?_⟩⟩
      · unfold PySem.atKey
        rw [List.find?_cons]
        simp [e, c]
      · unfold PySem.atKey
        rw [List.find?_cons]
        simp [e]
      · unfold valN at hn
        rw [List.find?_cons] at hn
        simp [c] at hn
        rw [h3, hn]
    · have e : ¬ x.1 = kT2 k := fun z => c (kT2_inj.mp (h1.symm.trans z))
      refine ⟨?_, fun n hn => ?_⟩
      · unfold PySem.atKey at i1 ⊢
        rw [List.find?_cons]
        simp only [e, decide_false]
        rw [i1, List.any_cons, decide_eq_false c, Bool.false_or]
      · unfold valN at hn
        rw [List.find?_cons] at hn
        simp only [c, decide_false] at hn
        obtain ⟨q, t2, e1, e2⟩ := i2 n hn
        refine ⟨q, t2, ?_, e2⟩
        unfold PySem.atKey at e1 ⊢
        rw [List.find?_cons]
        simp only [e, decide_false]
        exact e1
theorem NRel.put {S : Hp} {k : List (List Int)} {b : Addr} {n : Int} {t : Tok} (hb : Rep S (encT2 k) (.ref b)) {xs : Xs} {m : List (List (List Int) × Int)} (h : NRel S xs m) : NRel S (storedH xs (kT2 k) b (.int n t)) (putN m k n) := by
  unfold storedH putN
  rw [(NRel.atKey (k := k) h).1]
  split
  · have key : ∀ {xs : Xs} {m : List (List (List Int) × Int)}, NRel S xs m → NRel S (xs.map (putAt (kT2 k) (.int n t))) (m.map fun p => if p.1 = k then (p.1, n) else p) := fun {xs m} h => by
      induction h with
      | nil => exact .nil
      | @cons x p xs m h t ih =>
        refine .cons ?_ ih
        obtain ⟨h1, h2, h3⟩ := h
        unfold putAt
        dsimp only
        by_cases c : p.1 = k
        · rw [if_pos c, if_pos (by rw [h1, c])]
          exact ⟨h1, h2, _, rfl⟩
        · rw [if_neg c, if_neg fun z => c (kT2_inj.mp (h1.symm.trans z))]
          exact ⟨h1, h2, h3⟩
    exact key h
  · have key : ∀ {xs : Xs} {m : List (List (List Int) × Int)}, NRel S xs m → NRel S (xs ++ [(kT2 k, b, .int n t)]) (m ++ [(k, n)]) := fun {xs m} h => by
      induction h with
      | nil => exact .cons ⟨rfl, hb, t, rfl⟩ .nil
      | @cons x p xs m h t ih => exact .cons h ih
    exact key h
/-- the dict as an owned thing: unlocked, or locked for good -/
def NOk (P : Program) (w : World) (m : List (List (List Int) × Int)) (d : Addr) (S : Hp) (u : HO) : Prop := ∃ es ep xs, u = .ext (dObj d es ep) ∧ (d == sysModules) = false ∧ xs.length ≤ sizeLine ∧
  es.toList = xs.map (entryOfKey (nestKind (mixKind P w))) ∧ (xs.map (·.1)).Nodup ∧ NRel S xs m
theorem NOk.mono {P : Program} {w : World} {m : List (List (List Int) × Int)} {d : Addr} {S S' : Hp} {u : HO} (e : Le S S') (h : NOk P w m d S u) : NOk P w m d S' u := by
  obtain ⟨es, ep, xs, h1, h2, h3, h4, h5, h6⟩ := h
  exact ⟨es, ep, xs, h1, h2, h3, h4, h5, h6.mono e⟩
def nestO (P : Program) (w : World) (lk : Bool) (m : List (List (List Int) × Int)) : RawO := ⟨fun d S o => NOk P w m d S o, fun d S o => lk = true ∧ ∃ od u, o = .frz od u ∧ NOk P w m d S u, fun e h => h.mono e, fun e ⟨h0, od, u, h1, h2⟩ => ⟨h0, od, u, h1, h2.mono e⟩⟩
section
variable {X : Cx} {e a b c o tg iter : Expr} {pos p1 p2 apos tpos : Pos} {ob : Obs} {sl : Sls} {P : Post} {PI : List Dt → Obs → Prop} {D : Out} {K : PySem.W.Frag} {S H : Hp} {A : List Addr} {Q : VK} {k : Nat} {rest : List Stmt}
theorem nfacts_of {d : Addr} {es : Array DictEntry} {xs : Xs} {m : List (List (List Int) × Int)} (ex : Ex S H) (h2 : (d == sysModules) = false) (h3 : xs.length ≤ sizeLine) (h4 : es.toList = xs.map (entryOfKey (nestKind (mixKind X.prog X.w)))) (h5 : (xs.map (·.1)).Nodup) (h6 : NRel S xs m) : NFacts X.prog X.w H d es xs := by
  refine ⟨h2, h3, h4, h5, fun x hx => ?_⟩
  clear h3 h4 h5
  induction h6 with
  | nil => cases hx
  | @cons y p ys m h t ih =>
    rcases List.mem_cons.mp hx with z | z
    · subst z
      obtain ⟨b, e, nk⟩ := nkey_of (K := X.K) (A := []) (ob := []) ex h.2.1
      cases e
      exact ⟨p.1, h.1, nk⟩
    · exact ih z
theorem we_newN (h : P (.p ob.length) (ob ++ [.raw (nestO X.prog X.w false [])])) : We X (.Dict [] [] pos) ob sl P := fun S A H σ Q g rs en =>
  wpE.of pe_dnewN fun p hp hs => en _ _ _ _ _ _ h (g.newO hp (.inl ⟨g.ex.fresh hp, _, upd_same, #[], 0, [], rfl, hs, Nat.zero_le _, rfl, List.nodup_nil, .nil⟩)) ⟨p, g.at_len, rfl⟩ (Step.newO hp)
theorem room2 {k : Nat} (ct : Ct X k) : X.A.units + 2 < cLine := by
  have := Room.units65 ct.room
  omega
theorem ws_putN (ct : Ct X k) (h : We X e ob sl (dataP fun r ob1 => ∃ u : Int, r = .d (.int u) ∧ We X o ob1 sl fun r1 ob2 => We X b ob2 sl fun r2 ob3 => ∃ (n : Nat) (ks : List (List Int)) (m : List (List (List Int) × Int)), r1 = .p n ∧ r2 = .d (encT2 ks) ∧ ob3[n]? = some (.raw (nestO X.prog X.w false m)) ∧ m.length < sizeLine ∧ D.nx (ob3.set n (.raw (nestO X.prog X.w false (putN m ks u)))) sl))
    (hs : swapsWith e (some (.Subscript o b tpos)) pos.line X.env = pure false := by rfl) : Ws X (.Assign [.Subscript o b tpos] e pos) ob sl D := fun S A H σ D' g rs en => by
  refine wpS.of (ps_nput (room2 ct) pe_wp pe_wp pe_wp hs) (h S A H σ _ g rs (data_end fun r ob1 v S1 A1 H1 h1 g1 q1 st1 => ?_))
  obtain ⟨u, rfl, h1⟩ := h1
  refine h1 S1 A1 H1 σ _ g1 (rs.step st1) fun r1 ob2 w S2 A2 H2 h2 g2 q2 st2 => h2 S2 A2 H2 σ _ g2 (rs.step (st1.trans st2)) fun r2 ob3 y S3 A3 H3 h3 g3 q3 st3 => ?_
  obtain ⟨n, ks, m, rfl, rfl, hl, hz, hk⟩ := h3
  obtain ⟨p, hp, rfl⟩ := q2.step st3
  obtain ⟨s0, oo, hx, es, ep, xs, rfl, h2', h3', h4, h5, h6⟩ : S3 p = none ∧ ∃ oo, H3 p = some oo ∧ NOk X.prog X.w m p S3 oo := by
    rcases g3.own n p _ hp hl with z | ⟨_, _, z, _⟩
    · exact z
    · cases z
  obtain ⟨bb, rfl, nk⟩ := nkey_of (K := X.K) (A := []) (ob := []) g3.ex (show Rep S3 (encT2 ks) y from q3)
  have st := (st1.trans st2).trans st3
  refine ⟨p, bb, es, ep, xs, ks, u, rfl, rfl, q1.int, hx, nfacts_of g3.ex h2' h3' h4 h5 h6, nk, fun es' ep' t z4 z5 => ?_⟩
  have sm := Step.mut (H := H3) (o := .ext (dObj p es' ep')) (List.mem_of_getElem? hp) s0
  have h7 := NRel.put (n := u) (t := t) (show Rep S3 (encT2 ks) (.ref bb) from q3) h6
  refine en.nx _ _ _ _ _ _ hk (g3.mut hp s0 (.inl ⟨s0, _, upd_same, es', ep', _, rfl, h2', ?_, z4, z5, h7⟩)) (rs.step (st.trans sm)) (st.trans sm)
  rw [h7.length]
  have := putN_length m ks u
  omega
/-- the dict may be locked from here on -/
theorem wss_lockN (n : Nat) {m : List (List (List Int) × Int)} (hl : ob[n]? = some (.raw (nestO X.prog X.w false m))) (h : Wss X rest (ob.set n (.raw (nestO X.prog X.w true m))) sl D) : Wss X rest ob sl D := fun S A H σ D' g rs en => by
  have g2 : Good X.K S A H (ob.set n (.raw (nestO X.prog X.w true m))) := ⟨g.ex, g.nd, by rw [List.length_set]; exact g.len, fun j a c e1 e2 => by
    by_cases q : n = j
    · subst q
      rw [List.getElem?_set_self (List.getElem?_eq_some_iff.mp hl).1] at e2
      cases e2
      rcases g.own n a _ e1 hl with z | ⟨_, _, z, _⟩
      · exact .inl z
      · cases z
    · rw [List.getElem?_set_ne q] at e2
      exact g.own j a c e1 e2, g.here⟩
  exact h S A H σ D' g2 rs en
theorem we_getN (ct : Ct X k) (h : We X a ob sl fun r1 ob1 => We X b ob1 sl fun r2 ob2 => ∃ (n : Nat) (lk : Bool) (ks : List (List Int)) (m : List (List (List Int) × Int)) (u : Int), r1 = .p n ∧ r2 = .d (encT2 ks) ∧ ob2[n]? = some (.raw (nestO X.prog X.w lk m)) ∧ valN m ks = some u ∧ P (.d (.int u)) ob2) (hs : NoSl b := by intro _ _; rfl) : We X (.Subscript a b pos) ob sl P := fun S A H σ Q g rs en => by
  refine wpE.of (pe_nget (room2 ct) pe_wp pe_wp hs) (h S A H σ _ g rs fun r1 ob1 x S1 A1 H1 h1 g1 q1 st1 => h1 S1 A1 H1 σ _ g1 (rs.step st1) fun r2 ob2 y S2 A2 H2 h2 g2 q2 st2 => ?_)
  obtain ⟨n, lk, ks, m, u, rfl, rfl, hl, hu, hk⟩ := h2
  obtain ⟨p, hp, rfl⟩ := q1.step st2
  obtain ⟨u0, rd0, es, ep, xs, rfl, h2', h3', h4, h5, h6⟩ : ∃ u0, Rd H2 p u0 ∧ NOk X.prog X.w m p S2 u0 := by
    rcases g2.own n p _ hp hl with ⟨_, o, z1, z2⟩ | ⟨o, z1, _, od, u0, z2, z3⟩
    · exact ⟨o, .inl z1, z2⟩
    · subst z2
      exact ⟨u0, .inr ⟨od, g2.ex.at z1 rfl⟩, z3⟩
  have rd : Rd H2 p (.ext (dObj p es ep)) := rd0
  obtain ⟨bb, rfl, nk⟩ := nkey_of (K := X.K) (A := []) (ob := []) g2.ex (show Rep S2 (encT2 ks) y from q2)
  obtain ⟨q, t, e1, e2⟩ := (NRel.atKey (k := ks) h6).2 u hu
  exact ⟨p, bb, es, ep, xs, ks, q, u, t, rfl, rfl, rd, nfacts_of g2.ex h2' h3' h4 h5 h6, nk, e1, e2, en _ _ _ _ _ _ hk g2 rr_int (st1.trans st2)⟩
theorem wi_keysN (h : We X e ob sl fun r ob1 => ∃ (n : Nat) (m : List (List (List Int) × Int)), r = .p n ∧ ob1[n]? = some (.raw (nestO X.prog X.w true m)) ∧ (m.length ≤ sizeLine → PI (m.map fun p => encT2 p.1) ob1)) : Wi X tg e ob sl PI := fun S A H σ R g rs en => by
  refine wpI.of (pi_keysN pe_wp) (h S A H σ _ g rs fun r ob1 v S1 A1 H1 h1 g1 q1 st1 => ?_)
  obtain ⟨n, m, rfl, hl, h1⟩ := h1
  obtain ⟨d, hp, rfl⟩ := q1
  have ys : ∀ (od : Obj) (u : HO) (xs : Xs) (S2 : Hp), NRel S2 xs m → S2 d = some (.frz od u) → Yields S2 (Itn d od u (xs.map (·.2.1))) (m.map fun p => encT2 p.1) := fun od u xs S2 hr hS S3 H3 le ex i => by
    have hH : H3 d = some (.frz od u) := ex.at (le _ _ hS) rfl
    have hlen : (m.map fun p => encT2 p.1).length = (xs.map (·.2.1)).length := by rw [List.length_map, List.length_map, hr.length]
    refine ⟨fun hi => ⟨⟨hH, by rw [← hlen]; exact hi⟩, fun x H4 hy => ?_⟩, fun hi => ⟨hH, by rw [hi, hlen]; exact Nat.le_refl _⟩⟩
    obtain ⟨rfl, q, hq, rfl⟩ := hy
    rw [List.getElem?_map] at hq
    cases e : xs[i]? with
    | none => rw [e] at hq; cases hq
    | some x =>
      rw [e] at hq
      cases hq
      obtain ⟨p, e1, e2⟩ := L2.paired_get hr e
      exact ⟨encT2 p.1, S3, by rw [List.getElem?_map, e1]; rfl, ex, Le.refl _, Rep.mono le e2.2.1, fun _ _ z => z, fun _ z => .inl z⟩
  rcases g1.own n d _ hp hl with ⟨s0, o, hx, es, ep, xs, rfl, h2', h3', h4, h5, h6⟩ | ⟨o, hS, _, od, u, rfl, es, ep, xs, rfl, h2', h3', h4, h5, h6⟩
  · refine ⟨d, es, ep, xs, rfl, nfacts_of g1.ex h2' h3' h4 h5 h6, .inl ⟨hx, fun od => ?_⟩⟩
    have hm : m.length ≤ sizeLine := by rw [← h6.length]; exact h3'
    have le : Le S1 (upd S1 d (.frz od (.ext (dObj d es ep)))) := Le.new s0
    refine en _ ob1 (Itn d od (.ext (dObj d es ep)) (xs.map (·.2.1))) (upd S1 d (.frz od (.ext (dObj d es ep)))) A1 (upd H1 d (.frz od (.ext (dObj d es ep)))) (h1 hm) ⟨fun a u z => ?_, g1.nd, g1.len, fun j a c e1 e2 => ?_, fun a ha => ?_⟩ (st1.trans ⟨le, List.prefix_refl _, fun a u z c => ?_, fun a z => ?_⟩) (ys od _ xs _ (h6.mono le) upd_same)
    · by_cases q : a = d
      · subst q
        rw [upd_same] at z ⊢
        exact .inl z
      · rw [upd_ne q] at z ⊢
        exact g1.ex a u z
    · by_cases q : a = d
      · subst q
        have hj : j = n := nd_ix g1.nd e1 hp
        subst hj
        rw [hl] at e2
        cases e2
        exact .inr ⟨_, upd_same, rfl, od, _, rfl, es, ep, xs, rfl, h2', h3', h4, h5, h6.mono le⟩
      · exact (g1.own j a c e1 e2).mono le (List.prefix_refl _) (fun z => by rw [upd_ne q]; exact z) fun _ u z => by rw [upd_ne q]; exact z
    · by_cases q : a = d
      · subst q
        rw [upd_same]
        exact fun w => by cases w
      · rw [upd_ne q]
        exact g1.here a ha
    · have q : a ≠ d := by
        rintro rfl
        rcases c with c | c
        · exact c (List.mem_of_getElem? hp)
        · exact c s0
      rw [upd_ne q]
      exact z
    · rcases z with z | z
      · by_cases q : a = d
        · subst q
          exact .inr (.inl (List.mem_of_getElem? hp))
        · rw [upd_ne q] at z
          exact .inl z
      · exact .inr (.inl z)
  · have hm : m.length ≤ sizeLine := by rw [← h6.length]; exact h3'
    exact ⟨d, es, ep, xs, rfl, nfacts_of g1.ex h2' h3' h4 h5 h6, .inr ⟨od, g1.ex.at hS rfl, en _ ob1 _ S1 A1 H1 (h1 hm) g1 st1 (ys od _ xs _ h6 hS)⟩⟩
end
end DL

/-! DL: a comprehension whose element draws. -/
namespace DL
open PySem L2
section
variable {X : Cx} {e a b c tg elt iter : Expr} {ob : Obs} {sl : Sls} {P : Post} {k : Nat}
theorem lcP_mapG {α β : Type} {own : Bool} {scope : Scope} {t : Tg} {vs : List Nat} (enc : α → Dt) (en2 : β → Dt) (Φ : β → Prop) (Gn : Nat → Obs → Prop) (ho : t.own vs = true) (hg : ∀ s H C cl fp, PG (X.blk s H scope (compEnvC scope cl C X.env) fp) tg (tgR X.K t))
    (hi : Wi X tg iter ob sl fun ds ob1 => ds.length ≤ sizeLine ∧ Gn 0 ob1 ∧ ∃ (l : List α), ds = l.map enc ∧ (∀ (i : Nat) a, l[i]? = some a → ∃ slb, bindT t (enc a) (wipeSl sl vs) = some slb ∧ ∀ ob2, Gn i ob2 → ∀ s H C cl fp, We (X.blk s H scope (compEnvC scope cl C X.env) fp) elt ob2 slb (fun r ob3 => ∃ y, r = .d (en2 y) ∧ Φ y ∧ Gn (i + 1) ob3)) ∧
      ∀ (l' : List β) ob2, l'.length = l.length → (∀ y ∈ l', Φ y) → Gn l.length ob2 → Mk own (l'.map en2) ob2 P) :
    LcP X own tg elt iter [] scope t vs ob sl P := by
  refine ⟨ho, tYes, bkE X scope elt, hg, fun _ _ _ _ _ => pts_nil, pe_bk, fun S A H σ R g rs en => hi S A H σ R g rs fun ds ob1 J S1 A1 H1 h1 => en ds ob1 J S1 A1 H1 ?_⟩
  obtain ⟨hz, g1, l, rfl, hl, hk⟩ := h1
  refine ⟨hz, fun i acc ob2 => Gn i ob2 ∧ ∃ l' : List β, l'.length = i ∧ (∀ y ∈ l', Φ y) ∧ acc = l'.map en2, ⟨g1, [], rfl, (fun y h => by cases h), rfl⟩, fun i d hd acc ob2 ⟨e1, e2⟩ => ?_, fun acc ob2 ⟨e1, e2⟩ => ?_⟩
  · obtain ⟨l', hs, hp, rfl⟩ := e2
    obtain ⟨a, ha, rfl⟩ := get_map hd
    obtain ⟨slb, hb, he⟩ := hl i a ha
    refine ⟨slb, hb, tYes_ok ⟨fun _ => bkE_ok fun s H C cl fp => (he ob2 e1 s H C cl fp).mono fun r ob4 h4 => ?_, fun z => by cases z⟩⟩
    obtain ⟨y, rfl, hy, g4⟩ := h4
    refine ⟨_, rfl, g4, l' ++ [y], by rw [List.length_append, hs]; rfl, fun z hz => ?_, by rw [List.map_append]; rfl⟩
    rcases List.mem_append.mp hz with q | q
    · exact hp z q
    · rw [List.mem_singleton] at q
      subst q
      exact hy
  · obtain ⟨l', hs, hp, rfl⟩ := e2
    rw [List.length_map] at hs e1
    exact hk l' ob2 hs hp e1
end
theorem paired_snoc {α β : Type} {F : α → β → Prop} {a : α} {b : β} (h : F a b) : ∀ {l : List α} {m : List β}, Paired F l m → Paired F (l ++ [a]) (m ++ [b])
  | _, _, .nil => .cons h .nil
  | _, _, .cons r t => .cons r (paired_snoc h t)
theorem vals_rev : ∀ {vs : List V} {us : List Value}, Vals vs us → Vals vs.reverse us.reverse
  | _, _, .nil => .nil
  | _, _, .cons r t => by
    rw [List.reverse_cons, List.reverse_cons]
    exact paired_snoc r (vals_rev t)
section
variable {X : Cx} {e : Expr} {es : List Expr} {ob : Obs} {sl : Sls}
theorem wa_consV {d : Dt} {P : List R → Obs → Prop} (h1 : We X e ob sl (Pv d ob)) (h : Wa X es ob sl fun rs ob2 => P (.d d :: rs) ob2) (hs : starEach (e :: es) X.env = (false, eval e X.env) :: starEach es X.env := by rfl) : Wa X (e :: es) ob sl P :=
  wa_cons (h1.mono fun r ob1 ⟨e1, e2⟩ => by subst e1 e2; exact h) hs
end
end DL

/-! DLN: is True, xs[::-1], list(range(a, b, c)), a call that borrows an owned list. -/
namespace DL
open PySem PySem.W PyProof.Rows L2
section
variable {X : Cx} {a b c e : Expr} {es : List Expr} {pos p1 p2 p3 apos pos' : Pos} {ob : Obs} {sl : Sls} {P : Post} {PT : Bool → Obs → Prop} {Q : VK} {k j : Nat} {S H : Hp} {A : List Addr}
theorem op2_isT {r1 : R} (v : Bool) (h : ∃ u : Bool, r1 = .d (.bl u) ∧ P (.d (.bl (decide (u = v)))) ob) : Op2 X rIsB r1 (.d (.bl v)) ob P := fun S A H x y Q g q1 q2 en => by
  obtain ⟨u, rfl, h2⟩ := h
  exact ⟨u, v, q1.bl, q2.bl, en.here h2 g rr_bl⟩
theorem op2_notT {r1 : R} (v : Bool) (h : ∃ u : Bool, r1 = .d (.bl u) ∧ P (.d (.bl (!decide (u = v)))) ob) : Op2 X rNotB r1 (.d (.bl v)) ob P := fun S A H x y Q g q1 q2 en => by
  obtain ⟨u, rfl, h2⟩ := h
  exact ⟨u, v, q1.bl, q2.bl, en.here h2 g rr_bl⟩
theorem we_isB {v : Bool} (h : We X a ob sl fun r1 ob1 => ∃ u : Bool, r1 = .d (.bl u) ∧ P (.d (.bl (decide (u = v)))) ob1) : We X (.Compare a [.Is] [.Constant (.bool v) j pos'] pos) ob sl P := we_cmp op_isBl (nomark _) (h.mono fun _ _ h1 => we_bl (op2_isT v h1))
theorem we_notB {v : Bool} (h : We X a ob sl fun r1 ob1 => ∃ u : Bool, r1 = .d (.bl u) ∧ P (.d (.bl (!decide (u = v)))) ob1) : We X (.Compare a [.IsNot] [.Constant (.bool v) j pos'] pos) ob sl P := we_cmp op_notBl (nomark _) (h.mono fun _ _ h1 => we_bl (op2_notT v h1))
theorem wt_isB {v : Bool} (h : We X a ob sl fun r1 ob1 => ∃ u : Bool, r1 = .d (.bl u) ∧ PT (decide (u = v)) ob1) : Wt X (.Compare a [.Is] [.Constant (.bool v) j pos'] pos) ob sl PT := wt_cmp op_isBl (nomark _) (h.mono fun _ _ ⟨u, e, h1⟩ => we_bl (op2_isT v ⟨u, e, _, rfl, h1⟩))
theorem wt_notB {v : Bool} (h : We X a ob sl fun r1 ob1 => ∃ u : Bool, r1 = .d (.bl u) ∧ PT (!decide (u = v)) ob1) : Wt X (.Compare a [.IsNot] [.Constant (.bool v) j pos'] pos) ob sl PT := wt_cmp op_notBl (nomark _) (h.mono fun _ _ ⟨u, e, h1⟩ => we_bl (op2_notT v ⟨u, e, _, rfl, h1⟩))
/-! ### xs[::-1] -/
def revP (own : Bool) (ob : Obs) (P : Post) (r : R) : Prop := match listRd ob r with
  | some l => Mk own l.reverse ob P
  | none => False
theorem we_revL (own : Bool) {n : Nat} (h : We X a ob sl fun r ob1 => revP own ob1 P r) : We X (.Subscript a (.Slice none none (some (.UnaryOp .USub (.Constant (.int 1) n p1) p2)) p3) pos) ob sl P := fun S A H σ Q g rs en => by
  refine wpE.of (pe_revL pe_wp) (h S A H σ _ g rs fun r ob1 v S1 A1 H1 h1 g1 q1 st1 => ?_)
  replace h1 : revP own ob1 P r := h1
  unfold revP at h1
  split at h1
  · rename_i l e1
    obtain ⟨p, xs, rfl, h2, h3⟩ := listRd_rel e1 g1 q1
    exact ⟨p, xs, rfl, h2, fun z hz => h1.fin (en.step st1) g1 h3.reverse hz⟩
  · exact h1.elim
/-! ### list(range(a, b, c)) -/
def irangeC (i c : Int) (n : Nat) : List Int := (List.range n).map fun m => i + (m : Nat) * c
theorem vals_rgC {i c : Int} {n : Nat} {acc : Array Value} (h : ItemsOf (fun m v => ∃ t, v = .int (i + m * c) t) acc n) : Vals ((irangeC i c n).map V.int) acc.toList := by
  have e : acc.toList.length = n := by rw [Array.length_toList]; exact h.1
  unfold irangeC
  rw [List.map_map, ← e]
  refine vals_of_get acc.toList _ fun j u hj => ?_
  obtain ⟨t, rfl⟩ := h.2 j u (by rw [← hj, Array.getElem?_toList])
  exact ⟨t, rfl⟩
def tLstRg3 (ta : TA) : TE := fun σ H Q => ta σ H fun vs H1 => ∃ (i j c : Int) (n : Nat), vs = [.int i, .int j, .int c] ∧ RgC i j c n ∧ n ≤ 2 ^ 24 ∧ ∀ q, H1 q = none → Q (.ref q) (upd H1 q (.lst ((irangeC i c n).map V.int)))
theorem pe_listRg3 {ta : TA} (hcm : X.calm = true) (hg : Gl X "list") (hm : X.mg "list" = none) (hg2 : Gl X "range") (hm2 : X.mg "range" = none) (ha : PA X [a, b, c] ta)
    (hs : starEach [a, b, c] X.env = (false, eval a X.env) :: starEach [b, c] X.env) (hpl : (backTo apos (starEach [b, c] X.env)).any (·.1) = false)
    (na : starEach [Expr.Call (.Name "range" p2) [a, b, c] [] apos] X.env = (false, eval (.Call (.Name "range" p2) [a, b, c] [] apos) X.env) :: starEach [] X.env) :
    PE X (.Call (.Name "list" p1) [.Call (.Name "range" p2) [a, b, c] [] apos] [] pos) (tLstRg3 ta) := by
  refine ⟨fun pins s σ H Q I h => ?_⟩
  have inner : wpAny (model X.prog X.w) X.A (eval (.Call (.Name "range" p2) [a, b, c] [] apos) X.env) (fun x s' => ∃ r i j c t u v n H', x = .ref r ∧ IsRange s'.heap r i j c t u v ∧ Inv X pins σ H' s' ∧ RgC i j c n ∧ n ≤ 2 ^ 24 ∧ ∀ q, H' q = none → Q (.ref q) (upd H' q (.lst ((irangeC i c n).map V.int)))) X.xe s := by
    refine Call_ (ld_blt I hg2 hm2 boot_range (PyProof.Rows.callWith_type1 (thn (ha.run apos pins s σ H _ I h) fun us s1 ⟨vs, H1, I1, r1, q1⟩ => ?_) hs hpl))
    obtain ⟨i, j, k, n, e, ⟨c0, c1, c2, c3⟩, hn, q⟩ := q1
    subst e
    cases r1 with
    | cons r rr =>
      cases rr with
      | cons r' rr =>
        cases rr with
        | cons r'' rr =>
          cases rr
          obtain ⟨t, rfl⟩ := r
          obtain ⟨t', rfl⟩ := r'
          obtain ⟨t'', rfl⟩ := r''
          refine call_range_3 c0 ?_ (.inl (PyProof.noPylong_small c1))
          exact ⟨_, i, j, k, _, _, _, n, H1, rfl, IsRange.new _ _ _ _ _ _ _, I1.kept fun b o e => Heap.get?_push_of_some _ e, ⟨c0, c1, c2, c3⟩, hn, q⟩
  refine Call_ (ld_blt I hg hm boot_list (PyProof.Rows.callWith_type1 (args_cons (thn inner fun x s1 ⟨r, i, j, c, t, u, v, n, H1, ex, hr, I1, hc, hn, q⟩ => args_nil ?_) na) na))
  subst ex
  obtain ⟨c0, c1, c2, c3⟩ := hc
  refine call_list_range (n := n) (I1.ok.hd hcm) hr c2 c3 hn fun h' tk acc c' hk e' hi => ?_
  refine ⟨.ref s1.heap.objs.size, upd H1 s1.heap.objs.size (.lst ((irangeC i c n).map V.int)), I1.laid hk (Nat.le_refl _) (show ObjOk X.prog X.w _ _ _ (.lst ((irangeC i c n).map V.int)) from ⟨?_, acc.toList, c', vals_rgC hi, ?_⟩), rfl, q _ (I1.hok.fresh (Nat.le_refl _))⟩
  · rw [List.length_map, show (irangeC i c n).length = n by unfold irangeC; rw [List.length_map, List.length_range], sizeLine_eq]; omega
  · rw [Array.toArray_toList]; exact e'
theorem we_listRg3 (own : Bool) (ct : Ct X k) (hm : X.mg "list" = none) (hm2 : X.mg "range" = none) (h : Wa X [a, b, c] ob sl fun rs ob1 => ∃ (i j c : Int) (n : Nat), rs = [.d (.int i), .d (.int j), .d (.int c)] ∧ RgC i j c n ∧ n ≤ 2 ^ 24 ∧ Mk own ((irangeC i c n).map .int) ob1 P) (hg : Gl X "list" := by rfl) (hg2 : Gl X "range" := by rfl)
    (hs : starEach [a, b, c] X.env = (false, eval a X.env) :: starEach [b, c] X.env := by rfl) (hpl : (backTo apos (starEach [b, c] X.env)).any (·.1) = false := by rfl)
    (na : starEach [Expr.Call (.Name "range" p2) [a, b, c] [] apos] X.env = (false, eval (.Call (.Name "range" p2) [a, b, c] [] apos) X.env) :: starEach [] X.env := by rfl) :
    We X (.Call (.Name "list" p1) [.Call (.Name "range" p2) [a, b, c] [] apos] [] pos) ob sl P := fun S A H σ Q g rs en => by
  refine wpE.of (pe_listRg3 ct.calm hg hm hg2 hm2 pa_wp hs hpl na) (h S A H σ _ g rs fun rs1 ob1 vs S1 A1 H1 h1 g1 q1 st1 => ?_)
  obtain ⟨i, j, c, n, rfl, hc, hn, h2⟩ := h1
  obtain ⟨v1, t1, rfl, e1, q2⟩ := relRs_cons.mp q1
  obtain ⟨v2, t2, rfl, e2, q3⟩ := relRs_cons.mp q2
  obtain ⟨v3, t3, rfl, e3, q4⟩ := relRs_cons.mp q3
  rw [relRs_nil.mp q4, e1.int, e2.int, e3.int]
  exact ⟨i, j, c, n, rfl, hc, hn, fun q hq => h2.fin (en.step st1) g1 (reps_ints.mpr rfl) hq⟩
/-! ### a call that borrows an owned list -/
def asB (i : Nat) (x : Dt) : R → Option Dt
  | .d d => some d
  | .p k => if k = i then some x else none
def asBs (i : Nat) (x : Dt) : List R → Option (List Dt)
  | [] => some []
  | r :: l => match asB i x r, asBs i x l with
    | some d, some ds => some (d :: ds)
    | _, _ => none
/-- a scalar or a list of ints -/
def flatD : Dt → Prop := fun d => d.sc = true ∨ ∃ l : List Int, d = .lst (l.map .int)
def retB (ob : Obs) (P : Post) : Post := dataP fun r _ => ∃ x, r = .d x ∧ flatD x ∧ ∀ r', dtOf ob r' = some x → P r' ob
theorem relRs_asB {i : Nat} {x : Dt} {p : Addr} {S' : Hp} (hp : A[i]? = some p) (le : Le S S') (hx : Rep S' x (.ref p)) : ∀ {rs : List R} {ds : List Dt} {vs : List V}, asBs i x rs = some ds → RelRs S A rs vs → Reps S' ds vs
  | [], _, vs, e, h => by
    cases e
    rw [relRs_nil.mp h]
    exact reps_nil.mpr rfl
  | r :: rs, ds, vs, e, h => by
    obtain ⟨v, t, rfl, h1, h2⟩ := relRs_cons.mp h
    unfold asBs at e
    cases e1 : asB i x r with
    | none => rw [e1] at e; cases e
    | some d =>
      cases e2 : asBs i x rs with
      | none => rw [e1, e2] at e; cases e
      | some l =>
        rw [e1, e2] at e
        cases e
        refine reps_cons.mpr ⟨v, t, rfl, ?_, relRs_asB hp le hx e2 h2⟩
        cases r with
        | d y =>
          cases e1
          exact Rep.mono le h1
        | p m =>
          replace e1 : (if m = i then some x else none) = some d := e1
          by_cases c : m = i
          · rw [if_pos c] at e1
            cases e1
            subst c
            obtain ⟨q, hq, rfl⟩ := h1
            rw [hp] at hq
            cases hq
            exact hx
          · rw [if_neg c] at e1
            cases e1
/-- the state without what was lent -/
def cutHp (S : Hp) (p : Addr) : Hp := fun a => if a = p then none else S a
theorem retB_end {K : PySem.W.Frag} {i : Nat} {p : Addr} {l : List Dt} {xs : List V} (g : Good K S A H ob) (hp : A[i]? = some p) (hi : ob[i]? = some (.lst l)) (hs : S p = none) (hh : H p = some (.lst xs)) (hl : Reps S l xs) (en : End K S A H P Q) : End K (upd S p (.lst xs)) [] H (retB ob P) Q := by
  have hm := List.mem_of_getElem? hp
  refine data_end (P := fun r _ => ∃ x, r = .d x ∧ flatD x ∧ ∀ r', dtOf ob r' = some x → P r' ob) fun r ob0 v S1 A1 H1 h1 g1 q1 st1 => ?_
  obtain ⟨x, rfl, hf, h2⟩ := h1
  have kp : ∀ a o, H a = some o → H1 a = some o := fun a o q => st1.keep a o q (.inl List.not_mem_nil)
  have nw : ∀ a, a ≠ p → S1 a ≠ none → S a ≠ none ∨ H a = none := fun a na z => by
    rcases st1.new a (.inl z) with z | z | z
    · rw [upd_ne na] at z
      exact .inl z
    · exact absurd z List.not_mem_nil
    · exact .inr z
  have e1p : S1 p = some (.lst xs) := st1.le p _ upd_same
  have le : Le S (cutHp S1 p) := fun a o q => by
    have na : a ≠ p := by
      rintro rfl
      rw [hs] at q
      cases q
    unfold cutHp
    rw [if_neg na]
    exact st1.le a o (by rw [upd_ne na]; exact q)
  have le1 : Le (cutHp S1 p) S1 := fun a o q => by
    unfold cutHp at q
    by_cases c : a = p
    · rw [if_pos c] at q
      cases q
    · rw [if_neg c] at q
      exact q
  have g2 : Good K (cutHp S1 p) A H1 ob := by
    refine ⟨g1.ex.le le1, g.nd, g.len, fun m a c e1 e2 => (g.own m a c e1 e2).mono le (List.prefix_refl A) (fun z => ?_) (fun _ o q => kp a o q), fun a ha z => ?_⟩
    · by_cases c : a = p
      · unfold cutHp
        rw [if_pos c]
      · unfold cutHp
        rw [if_neg c]
        cases q : S1 a with
        | none => rfl
        | some o =>
          rcases nw a c (by rw [q]; exact fun w => by cases w) with w | w
          · exact (w z).elim
          · exact (g.here a (List.mem_of_getElem? e1) w).elim
    · cases q : H a with
      | none => exact g.here a ha q
      | some o => rw [kp a o q] at z; cases z
  have st2 : Step S A H (cutHp S1 p) A H1 := ⟨le, List.prefix_refl A, fun a o q _ => kp a o q, fun a z => by
    rcases z with z | z
    · by_cases c : a = p
      · subst c
        exact .inr (.inl hm)
      · unfold cutHp at z
        rw [if_neg c] at z
        rcases nw a c z with w | w
        · exact .inl w
        · exact .inr (.inr w)
    · exact .inr (.inl z)⟩
  rcases hf with hf | ⟨n, rfl⟩
  · exact en (.d x) ob v _ _ _ (h2 (.d x) rfl) g2 (Rep.sc hf q1 _) st2
  · obtain ⟨a, ys, rfl, ha, hr⟩ := rep_lst.mp q1
    obtain rfl := reps_ints.mp hr
    by_cases c : a = p
    · subst c
      rw [e1p] at ha
      obtain rfl : xs = n.map .int := by cases ha; rfl
      have hln : l = n.map .int := by
        have key : ∀ (l : List Dt) (n : List Int), Reps S l (n.map V.int) → l = n.map Dt.int := by
          intro l
          induction l with
          | nil =>
            intro n h
            have := reps_nil.mp h
            cases n with
            | nil => rfl
            | cons _ _ => cases this
          | cons d l ih =>
            intro n h
            obtain ⟨x, r, e, h3, h4⟩ := reps_cons.mp h
            cases n with
            | nil => cases e
            | cons m n =>
              rw [List.map_cons] at e
              cases e
              rw [List.map_cons, ih n h4]
              cases d with
              | int z => rw [show z = m from by have := rep_int.mp h3; cases this; rfl]
              | non => have := rep_non.mp h3; cases this
              | bl b => have := rep_bl.mp h3; cases this
              | str b => have := rep_str.mp h3; cases this
              | lst b => obtain ⟨_, _, e, _⟩ := rep_lst.mp h3; cases e
              | tup b => obtain ⟨_, _, e, _⟩ := rep_tup.mp h3; cases e
              | dct b => obtain ⟨_, _, e, _⟩ := rep_dct.mp h3; cases e
              | dtt b =>
                simp only [Rep] at h3
                obtain ⟨_, _, e, _⟩ := h3
                cases e
              | ins C b => obtain ⟨_, _, _, e, _⟩ := rep_ins.mp h3; cases e
              | adr b => have := rep_adr.mp h3; cases this
        exact key l n hl
      subst hln
      refine en (.p i) ob _ _ _ _ (h2 (.p i) ?_) g2 ⟨a, hp, rfl⟩ st2
      show (match ob[i]? with
        | some (.lst l) => some (Dt.lst l)
        | some (.rd l) => some (.lst l)
        | some (.frz x) => some x
        | _ => none) = some (Dt.lst (n.map .int))
      rw [hi]
    · refine en (.d (.lst (n.map .int))) ob _ _ _ _ (h2 (.d _) rfl) g2 (rep_lst.mpr ⟨a, _, rfl, ?_, reps_ints.mpr rfl⟩) st2
      unfold cutHp
      rw [if_neg c]
      exact ha
theorem we_callB (i : Nat) {st : Stmt} {x : Str} {ps : List Str} {f : FS} (F : Fn X.prog X.w X.K X.mg X.base x st j ps f) (ct : Ct X k) (hj : j ≤ k) (h : Wa X (e :: es) ob sl fun rs ob1 => ∃ (l : List Dt) (ds : List Dt), ob1[i]? = some (.lst l) ∧ asBs i (.lst l) rs = some ds ∧ f (ds.map R.d) [] (retB ob1 P)) (hg : Gl X x := by rfl) (hd : (x == ("__debug__" : Str)) = false := by decide)
    (hs : starEach (e :: es) X.env = (false, eval e X.env) :: starEach es X.env := by rfl) (hp : (backTo pos (starEach es X.env)).any (·.1) = false := by rfl) : We X (.Call (.Name x p1) (e :: es) [] pos) ob sl P := fun S A H σ Q g rs en => by
  obtain ⟨ad, fd, h1, h2, h3, h4⟩ := F.ex
  refine wpE.of (pe_call h4 (ct.room.mono hj) hg h1 h2.kp h3 .nil pass0 pa_wp hd hs hp) (h S A H σ _ g rs fun rl ob1 vs S1 A1 H1 hh g1 q1 st1 => ?_)
  obtain ⟨l, ds, hi, hb, hf⟩ := hh
  have hlt : i < A1.length := by rw [g1.len]; exact (List.getElem?_eq_some_iff.mp hi).1
  obtain ⟨p, hp2⟩ : ∃ p, A1[i]? = some p := ⟨A1[i], List.getElem?_eq_some_iff.mpr ⟨hlt, rfl⟩⟩
  obtain ⟨h0, xs, hx1, hx2⟩ := g1.own i p _ hp2 hi
  have hx : Rep (upd S1 p (.lst xs)) (.lst l) (.ref p) := rep_lst.mpr ⟨p, xs, rfl, upd_same, hx2.mono (Le.new h0)⟩
  rw [List.append_nil]
  have ex2 : Ex (upd S1 p (.lst xs)) H1 := (g1.frz hp2 h0 hx1 hx).ex
  exact ⟨upd S1 p (.lst xs), [], ds.map R.d, [], _, good_none ex2, relRs_d.mpr (relRs_asB hp2 (Le.new h0) hx hb q1), hf, retB_end g1 hp2 hi h0 hx1 hx2 (en.step st1)⟩
end
section
variable {X : Cx} {e a b c tg elt iter : Expr} {ob : Obs} {sl : Sls} {P : Post} {k : Nat}
theorem lcP_mapGI {α β : Type} {own : Bool} {scope : Scope} {t : Tg} {vs : List Nat} (enc : α → Dt) (en2 : β → Dt) (Φ : Nat → β → Prop) (Gn : Nat → Obs → Prop) (ho : t.own vs = true) (hg : ∀ s H C cl fp, PG (X.blk s H scope (compEnvC scope cl C X.env) fp) tg (tgR X.K t))
    (hi : Wi X tg iter ob sl fun ds ob1 => ds.length ≤ sizeLine ∧ Gn 0 ob1 ∧ ∃ (l : List α), ds = l.map enc ∧ (∀ (i : Nat) a, l[i]? = some a → ∃ slb, bindT t (enc a) (wipeSl sl vs) = some slb ∧ ∀ ob2, Gn i ob2 → ∀ s H C cl fp, We (X.blk s H scope (compEnvC scope cl C X.env) fp) elt ob2 slb (fun r ob3 => ∃ y, r = .d (en2 y) ∧ Φ i y ∧ Gn (i + 1) ob3)) ∧
      ∀ (l' : List β) ob2, l'.length = l.length → (∀ (i : Nat) y, l'[i]? = some y → Φ i y) → Gn l.length ob2 → Mk own (l'.map en2) ob2 P) :
    LcP X own tg elt iter [] scope t vs ob sl P := by
  refine ⟨ho, tYes, bkE X scope elt, hg, fun _ _ _ _ _ => pts_nil, pe_bk, fun S A H σ R g rs en => hi S A H σ R g rs fun ds ob1 J S1 A1 H1 h1 => en ds ob1 J S1 A1 H1 ?_⟩
  obtain ⟨hz, g1, l, rfl, hl, hk⟩ := h1
  refine ⟨hz, fun i acc ob2 => Gn i ob2 ∧ ∃ l' : List β, l'.length = i ∧ (∀ (i : Nat) y, l'[i]? = some y → Φ i y) ∧ acc = l'.map en2, ⟨g1, [], rfl, (fun i y h => by cases h), rfl⟩, fun i d hd acc ob2 ⟨e1, e2⟩ => ?_, fun acc ob2 ⟨e1, e2⟩ => ?_⟩
  · obtain ⟨l', hs, hp, rfl⟩ := e2
    obtain ⟨a, ha, rfl⟩ := get_map hd
    obtain ⟨slb, hb, he⟩ := hl i a ha
    refine ⟨slb, hb, tYes_ok ⟨fun _ => bkE_ok fun s H C cl fp => (he ob2 e1 s H C cl fp).mono fun r ob4 h4 => ?_, fun z => by cases z⟩⟩
    obtain ⟨y, rfl, hy, g4⟩ := h4
    refine ⟨_, rfl, g4, l' ++ [y], by rw [List.length_append, hs]; rfl, fun j z hz => ?_, by rw [List.map_append]; rfl⟩
    by_cases q : j < l'.length
    · rw [List.getElem?_append_left q] at hz
      exact hp j z hz
    · rw [List.getElem?_append_right (by omega)] at hz
      have q2 : j - l'.length = 0 := by
        have := (List.getElem?_eq_some_iff.mp hz).1
        simp at this
        exact this
      rw [q2] at hz
      cases hz
      obtain rfl : j = i := by omega
      exact hy
  · obtain ⟨l', hs, hp, rfl⟩ := e2
    rw [List.length_map] at hs e1
    exact hk l' ob2 hs hp e1
end
end DL

/-! DLO: a for loop whose turns leave what they made behind them. -/
namespace DL
open PySem L2
section
variable {X : Cx} {e a b c tg elt iter : Expr} {body : List Stmt} {ob : Obs} {sl : Sls} {D : Out} {k : Nat} {K : PySem.W.Frag} {S H S1 H1 : Hp} {A A1 : List Addr} {pos : Pos}
def okRn (n : Nat) : Option R → Prop
  | some (.p k) => k < n
  | _ => True
def dropS (n : Nat) : Sls → Sls → Prop
  | [], [] => True
  | x :: l, y :: m => (y = none ∨ (y = x ∧ okRn n x)) ∧ dropS n l m
  | _, _ => False
theorem dropS_get {n : Nat} : ∀ {l m : Sls}, dropS n l m → m.length = l.length ∧ ∀ (i : Nat) r, m[i]? = some (some r) → l[i]? = some (some r) ∧ okRn n (some r)
  | [], [], _ => ⟨rfl, fun i r h => by cases h⟩
  | [], _ :: _, h => h.elim
  | _ :: _, [], h => h.elim
  | x :: l, y :: m, ⟨h1, h2⟩ => by
    obtain ⟨e1, e2⟩ := dropS_get h2
    refine ⟨by rw [List.length_cons, List.length_cons, e1], fun i r h => ?_⟩
    cases i with
    | zero =>
      cases h
      rcases h1 with z | ⟨z1, z2⟩
      · cases z
      · subst z1
        exact ⟨rfl, z2⟩
    | succ i => exact e2 i r h
theorem RelS.drop {n : Nat} {l m : Sls} {σ : L2.St} (h : RelS S A l σ) (d : dropS n l m) : RelS S (A.take n) m σ := by
  obtain ⟨e1, e2⟩ := dropS_get d
  refine ⟨fun i r q => ?_, by rw [e1]; exact h.len⟩
  obtain ⟨h1, h2⟩ := e2 i r q
  obtain ⟨v, hv, hr⟩ := h.get i r h1
  refine ⟨v, hv, ?_⟩
  cases r with
  | d x => exact hr
  | p j =>
    obtain ⟨p, hp, rfl⟩ := hr
    exact ⟨p, by rw [List.getElem?_take, if_pos (show j < n from h2)]; exact hp, rfl⟩
theorem Good.drop {n : Nat} (g : Good K S A H ob) (hf : ∀ c ∈ ob.take n, flatO c = true) : Good K S (A.take n) H (ob.take n) := by
  refine ⟨g.ex, g.nd.sublist (List.take_sublist n A), by rw [List.length_take, List.length_take, g.len], fun i a c h1 h2 => ?_, fun a ha => g.here a (List.mem_of_mem_take ha)⟩
  have hc := List.mem_of_getElem? h2
  rw [List.getElem?_take] at h1 h2
  by_cases q : i < n
  · rw [if_pos q] at h1 h2
    exact (g.own i a c h1 h2).flat (hf c hc)
  · rw [if_neg q] at h1
    cases h1
theorem Step.drop {n : Nat} {S0 H0 : Hp} {A0 : List Addr} (h : Step S0 A0 H0 S A H) (hn : A0.length = n) : Step S0 A0 H0 S (A.take n) H := by
  refine ⟨h.le, ?_, h.keep, fun a z => h.new a (z.imp id fun q => List.mem_of_mem_take q)⟩
  obtain ⟨t, rfl⟩ := h.pre
  rw [← hn, List.take_left]
  exact List.prefix_refl _
theorem ws_forD {t : Tg} (n : Nat) (ct : Ct X k) (hg : PG X tg (tgR X.K t)) (hi : Wi X tg iter ob sl fun ds ob1 => ob1.length = n ∧ ∃ J : Nat → Obs → Sls → Prop, J 0 ob1 sl ∧
      (∀ i d ob2 sl2, ds[i]? = some d → J i ob2 sl2 → ∃ sl3, bindT t d sl2 = some sl3 ∧ Wss X body ob2 sl3 { D with nx := fun ob5 sl5 => ∃ ob6 sl6, ob6 = ob5.take n ∧ (∀ c ∈ ob5.take n, flatO c = true) ∧ dropS n sl5 sl6 ∧ J (i + 1) ob6 sl6, ct := fun _ _ => False, bk := D.nx }) ∧ ∀ ob2 sl2, J ds.length ob2 sl2 → D.nx ob2 sl2)
    (hs : ∀ x, foldedSetIterable iter X.env x = pure x := by intro _; rfl) : Ws X (.For tg iter body [] pos) ob sl D := fun S A H σ D' g rs en => by
  refine wpS.of (ps_for ct.po ct.calm pi_wp hg pss_wp hs) (hi S A H σ _ g rs fun ds ob1 Jt S1 A1 H1 h1 g1 st1 ys => ?_)
  obtain ⟨hn, J, j0, turn, fin⟩ := h1
  have hA : A1.length = n := by rw [g1.len, hn]
  refine ⟨fun i m σ' H' => m = ds.length - i ∧ i ≤ ds.length ∧ ∃ ob2 sl2 S2 A2, J i ob2 sl2 ∧ Good X.K S2 A2 H' ob2 ∧ RelS S2 A2 sl2 σ' ∧ Step S1 A1 H1 S2 A2 H', ⟨_, rfl, Nat.zero_le _, ob1, sl, S1, A1, j0, g1, rs.step st1, Step.refl⟩, ?_⟩
  rintro i m σ' H' ⟨rfl, hi, ob2, sl2, S2, A2, j2, g2, rs2, st2⟩
  obtain ⟨yg, yst⟩ := ys S2 H' st2.le g2.ex i
  by_cases hlt : i < ds.length
  · obtain ⟨go, yn⟩ := yg hlt
    refine .inr ⟨go, fun σ' H' => ∃ ob2 sl2 S2 A2, J (i + 1) ob2 sl2 ∧ Good X.K S2 A2 H' ob2 ∧ RelS S2 A2 sl2 σ' ∧ Step S1 A1 H1 S2 A2 H', fun σ' H' q => ⟨ds.length - (i + 1), by omega, rfl, hlt, q⟩, fun x H3 hy => ?_⟩
    obtain ⟨d, S3, hd, ex3, le3, rx, kp3, nw3⟩ := yn x H3 hy
    have g3 : Good X.K S3 A2 H3 ob2 := g2.ext ex3 le3 kp3 nw3
    have st3 : Step S2 A2 H' S3 A2 H3 := Step.ext le3 kp3 nw3
    obtain ⟨sl3, hb, hbody⟩ := turn i d ob2 sl2 hd j2
    refine bindT_ok (vs := []) g3.ex t d _ sl3 _ x _ hb (rs2.step st3) rx (.inr trivial) fun σ4 rs4 _ => ?_
    refine hbody S3 A2 H3 σ4 _ g3 rs4 ⟨?_, en.rt.step ((st1.trans st2).trans st3), en.nx.step ((st1.trans st2).trans st3), fun _ _ _ _ _ _ z => z.elim⟩
    rintro ob5 sl5 σ5 S5 A5 H5 ⟨ob6, sl6, rfl, hf, hdr, hJ⟩ g5 r5 st5
    exact ⟨_, _, S5, A5.take n, hJ, g5.drop hf, r5.drop hdr, ((st2.trans st3).trans st5).drop hA⟩
  · have e : i = ds.length := by omega
    subst e
    exact .inl ⟨yst rfl, en.nx _ _ _ _ _ _ (fin ob2 sl2 j2) g2 rs2 (st1.trans st2)⟩
end
section
variable {X : Cx} {p1 pos : Pos} {ob : Obs} {sl : Sls} {P : Post} {k j : Nat}
theorem we_call0 (own : Bool) {st : Stmt} {x : Str} {ps : List Str} {f : FS} (F : Fn X.prog X.w X.K X.mg X.base x st j ps f) (ct : Ct X k) (hj : j ≤ k) (h : f [] [] (retP own ob P)) (hg : Gl X x := by rfl) (hd : (x == ("__debug__" : Str)) = false := by decide) : We X (.Call (.Name x p1) [] [] pos) ob sl P := fun S A H σ Q g rs en => by
  obtain ⟨ad, fd, h1, h2, h3, h4⟩ := F.ex
  refine wpE.of (pe_call0 h4 (ct.room.mono hj) hg h1 h2.kp h3 .nil pass0 hd) ?_
  exact ⟨S, [], [], [], _, good_none g.ex, relRs_nil.mpr rfl, h, retP_end g en⟩
end
section
variable {X : Cx} {e a b c o : Expr} {es : List Expr} {pos p1 p2 apos : Pos} {ob : Obs} {sl : Sls} {P : Post} {D : Out} {K : PySem.W.Frag} {S S' H H' : Hp} {A A' : List Addr} {Q : VK} {k j : Nat} {x : Str} {ps : List Str} {f : FS} {r : R} {v : V}
def rNotInO (C : Addr) (sp : Sp) : R2 := fun x y H Q => ∃ a dx fs, y = .ref a ∧ H a = some (.ins C dx fs) ∧ sp [.ref a, x] H (fun v H' => ∃ b, v = .bl b ∧ Q (.bl (!b)) H') E0
theorem op_notInO {C fa : Addr} {fd : FuncData} {sp : Sp} (F : FnOk X.prog X.w X.K X.mg X.base CX0 j fa fd ps sp) (hs : PySem.W.findIn X.K (.ref C) "__contains__" = some (some (.ref fa))) (hf : PySem.W.isFn X.K (.ref fa) = true) (hb : Binds X.K fd ps []) (hr : Room j X.A) : OpR X (compareOp .NotIn) (rNotInO C sp) := by
  intro pins s σ H x y v u Q I rx ry h
  obtain ⟨a, dx, fs, rfl, ha, h⟩ := h
  cases ry
  obtain ⟨mA, O, _⟩ := ins_get I.hok ha
  obtain ⟨od, J, _⟩ := O.look
  show wpAny (model X.prog X.w) X.A (do return Value.bool (!(← contains (Value.ref a) v))) (EP X pins σ Q) X.xe s
  refine wpAny_bind (contains_own I.kIn J hs hf (thn (run_fn (us := [.ref a, v]) (vs := [.ref a, x]) F hr hb .nil pass0 I (.cons rfl (.cons rx .nil)) h) fun z s' ⟨w', H', I', rz, b, e, q⟩ => ?_))
  subst e
  cases rz
  exact wpAny_truthy_bool (wpAny_pure ⟨.bl (!b), H', I', rfl, q⟩)
/-- a in b, b an instance that is data -/
theorem we_notInO {C : Addr} (F : Mt X.prog X.w X.K X.mg X.base C "__contains__" j ps f) (ct : Ct X k) (hj : j ≤ k) (h : We X a ob sl fun r1 ob1 => We X b ob1 sl fun r2 ob2 => ∃ (x : Dt) (fs : List (Str × Dt)), r1 = .d x ∧ r2 = .d (.ins C fs) ∧ f [.d (.ins C fs), .d x] [] (fun r _ => ∃ c, r = .d (.bl c) ∧ P (.d (.bl (!c))) ob2))
    (hm : behindInMarks .NotIn b = false := by rfl) : We X (.Compare a [.NotIn] [b] pos) ob sl P := by
  obtain ⟨ad, fd, h1, h2, h3⟩ := F.ex
  refine we_cmp (op_notInO h3 h1.at_ h1.fn h2 (ct.room.mono hj)) hm (h.mono fun r1 ob1 hh => hh.mono fun r2 ob2 hh S A H x y Q g q1 q2 en => ?_)
  obtain ⟨d, fs, rfl, rfl, hf⟩ := hh
  obtain ⟨p, dx, xs, rfl, e1, e2⟩ := rep_ins.mp q2
  refine ⟨p, dx, xs, rfl, g.ex.at e1 rfl, S, [], [.d (.ins C fs), .d d], [], _, good_none g.ex, relRs_cons.mpr ⟨_, _, rfl, (show Rep S _ _ from q2), relRs_cons.mpr ⟨_, _, rfl, (show Rep S _ _ from q1), relRs_nil.mpr rfl⟩⟩, hf, fun r ob0 v S1 A1 H1 hc g1 qv st1 => ?_⟩
  obtain ⟨c, rfl, hk⟩ := hc
  obtain ⟨g3, st3⟩ := g.pass st1 g1
  exact ⟨c, qv.bl, en _ _ _ _ _ _ hk g3 rr_bl st3⟩
theorem wt_notInO {C : Addr} {B : Bool → Obs → Prop} (F : Mt X.prog X.w X.K X.mg X.base C "__contains__" j ps f) (ct : Ct X k) (hj : j ≤ k) (h : We X a ob sl fun r1 ob1 => We X b ob1 sl fun r2 ob2 => ∃ (x : Dt) (fs : List (Str × Dt)), r1 = .d x ∧ r2 = .d (.ins C fs) ∧ f [.d (.ins C fs), .d x] [] (fun r _ => ∃ c, r = .d (.bl c) ∧ B (!c) ob2))
    (hm : behindInMarks .NotIn b = false := by rfl) : Wt X (.Compare a [.NotIn] [b] pos) ob sl B := by
  obtain ⟨ad, fd, h1, h2, h3⟩ := F.ex
  refine wt_cmp (op_notInO h3 h1.at_ h1.fn h2 (ct.room.mono hj)) hm (h.mono fun r1 ob1 hh => hh.mono fun r2 ob2 hh S A H x y Q g q1 q2 en => ?_)
  obtain ⟨d, fs, rfl, rfl, hf⟩ := hh
  obtain ⟨p, dx, xs, rfl, e1, e2⟩ := rep_ins.mp q2
  refine ⟨p, dx, xs, rfl, g.ex.at e1 rfl, S, [], [.d (.ins C fs), .d d], [], _, good_none g.ex, relRs_cons.mpr ⟨_, _, rfl, (show Rep S _ _ from q2), relRs_cons.mpr ⟨_, _, rfl, (show Rep S _ _ from q1), relRs_nil.mpr rfl⟩⟩, hf, fun r ob0 v S1 A1 H1 hc g1 qv st1 => ?_⟩
  obtain ⟨c, rfl, hk⟩ := hc
  obtain ⟨g3, st3⟩ := g.pass st1 g1
  exact ⟨c, qv.bl, en _ _ _ _ _ _ ⟨!c, rfl, hk⟩ g3 rr_bl st3⟩
end
end DL


/-! zip(xs, ys, strict=True) of two lists of one length -/
namespace DL.Z
open PySem
open PySem.Sem (wp)
theorem tc_zipS (a b c : Value) : checkTypeCall "zip" ⟨[a, b], [(Str.ofString "strict", c)]⟩ = pure () := by kernel_rfl
theorem nc_zipS (a b c : Value) : checkBuiltinCall "zip.__new__" ⟨[.type "zip", a, b], [(Str.ofString "strict", c)]⟩ = pure () := by kernel_rfl
theorem args_initS (obj a b c : Value) : argsOk "object.__init__" ⟨[obj, a, b], [(Str.ofString "strict", c)]⟩ := by unfold argsOk; kernel_rfl
abbrev IsZipS (h : Heap) (z TI TO : Addr) (f0 : Value) : Prop :=
  h.get? z = some { cls := .type "zip", dict := none, data := .fields #[f0, .bool false, .bool true, .ref TI, .ref TO], slots := #[] }
abbrev zipS5 (h : Heap) (l1 l2 : Addr) : Heap := (zipH4 h l1 l2).push { cls := .type "zip", data := .fields #[.none, .bool false, .bool true, .ref (zipH2 h l1 l2).objs.size, .ref (zipH3 h l1 l2).objs.size] }
theorem meets_zipS (l1 l2 : Addr) (xs ys : Array Value) :
    Meets (Builtin.«zip.__new__» ⟨[.type "zip", .ref l1, .ref l2], [(Str.ofString "strict", .bool true)]⟩) (fun _ R s => s.heap.IsList l1 xs ∧ s.heap.IsList l2 ys ∧
      R (.ok (.ret (.ref (zipH4 s.heap l1 l2).objs.size))) { s with heap := zipS5 s.heap l1 l2 }) :=
  .of_wp fun prog w A R s h => by
    obtain ⟨hp, g, d, tk, os⟩ := s; obtain ⟨hl1, hl2, h⟩ := h
    have hsub := sub_zip
    have hL1 : Heap.IsList (Shared.heap ⟨hp, g, d, tk, os⟩) l1 xs := hl1
    have hL2 : Heap.IsList (Shared.heap ⟨hp.push { cls := .type "list_iterator", data := .fields #[.ref l1, .int 0 0] }, g, d, tk, os⟩) l2 ys := Heap.IsList.push hl2 _
    have e2 : (Str.ofString "strict" != ("strict" : Str)) = false := by decide +kernel
    wp_walk using wpAny_pyIter_list hL1, wpAny_pyIter_list hL2
    exact ⟨_, rfl, h⟩
section
variable {prog : Program} {w : World} {A : Around} {E : Value → Shared → Prop} {s : Shared}
theorem call_zipS {l1 l2 : Addr} {xs ys : Array Value} {Q : Value → Shared → Prop} (hl1 : s.heap.IsList l1 xs) (hl2 : s.heap.IsList l2 ys)
    (h : ∀ h', IsZipS h' (s.heap.objs.size + 4) (s.heap.objs.size + 2) (s.heap.objs.size + 3) .none → IsPair h' (s.heap.objs.size + 2) (.ref s.heap.objs.size) (.ref (s.heap.objs.size + 1)) →
      IsPair h' (s.heap.objs.size + 3) .none .none → h'.IsListIter s.heap.objs.size l1 0 → h'.IsListIter (s.heap.objs.size + 1) l2 0 → h'.objs.size = s.heap.objs.size + 5 →
      (∀ c o, s.heap.get? c = some o → h'.get? c = some o) → Q (.ref (s.heap.objs.size + 4)) { s with heap := h' }) :
    wpAny (model prog w) A (call (.type "zip") [.ref l1, .ref l2] [(Str.ofString "strict", .bool true)]) Q E s := by
  refine callType_newKw F.called_zip (by decide) (tc_zipS _ _ _) (nc_zipS _ _ _) (fun obj => args_initS obj _ _ _) F.entry_zip_new
    (meets_zipS l1 l2 xs ys) ⟨hl1, hl2, ?_⟩
  have z1 : (zipH1 s.heap l1).objs.size = s.heap.objs.size + 1 := Heap.size_push ..
  have z2 : (zipH2 s.heap l1 l2).objs.size = s.heap.objs.size + 2 := by rw [Heap.size_push, z1]
  have z3 : (zipH3 s.heap l1 l2).objs.size = s.heap.objs.size + 3 := by rw [Heap.size_push, z2]
  have z4 : (zipH4 s.heap l1 l2).objs.size = s.heap.objs.size + 4 := by rw [Heap.size_push, z3]
  have z5 : (zipS5 s.heap l1 l2).objs.size = s.heap.objs.size + 5 := by rw [Heap.size_push, z4]
  have g5 : (zipS5 s.heap l1 l2).get? (zipH4 s.heap l1 l2).objs.size = some _ := Heap.get?_push_size _ rfl
  have g4 : (zipS5 s.heap l1 l2).get? (zipH3 s.heap l1 l2).objs.size = some _ := Heap.get?_push_of_some _ (Heap.get?_push_size _ rfl)
  have g3 : (zipS5 s.heap l1 l2).get? (zipH2 s.heap l1 l2).objs.size = some _ := Heap.get?_push_of_some _ (Heap.get?_push_of_some _ (Heap.get?_push_size _ rfl))
  have g2 : (zipS5 s.heap l1 l2).get? (zipH1 s.heap l1).objs.size = some _ := Heap.get?_push_of_some _ (Heap.get?_push_of_some _ (Heap.get?_push_of_some _ (Heap.get?_push_size _ rfl)))
  have g1 : (zipS5 s.heap l1 l2).get? s.heap.objs.size = some _ := Heap.get?_push_of_some _ (Heap.get?_push_of_some _ (Heap.get?_push_of_some _ (Heap.get?_push_of_some _ (Heap.get?_push_size _ rfl))))
  show _ ∧ _
  rw [z2, z3, z4] at g5
  rw [z1, z2] at g3
  rw [z3] at g4
  rw [z1] at g2
  rw [z4]
  exact ⟨⟨_, g5, rfl⟩, h _ g5 g3 g4 ⟨_, g1, rfl, rfl⟩ ⟨_, g2, rfl, rfl⟩ z5 fun c o x =>
    Heap.get?_push_of_some _ (Heap.get?_push_of_some _ (Heap.get?_push_of_some _ (Heap.get?_push_of_some _ (Heap.get?_push_of_some _ x))))⟩
/-- the next item or the end, of a list's iterator -/
theorem noe_item {it l : Addr} {i : Nat} {items} {x : Value} {Q : Option Value → Shared → Prop} (hit : s.heap.IsListIter it l i) (hl : s.heap.IsList l items) (hx : items[i]? = some x)
    (hQ : ∀ h', h'.IsListIter it l (i + 1) → Heap.SameBut it s.heap h' → Q (some x) { s with heap := h' }) :
    wpAny (model prog w) A (Builtin.SmallTypes.nextOrEnd (.ref it)) Q E s := by
  unfold Builtin.SmallTypes.nextOrEnd
  refine wpAny_bind (wpAny_attempt (wpAny_nextOf_list_item hit hl hx fun h' a b => ?_))
  exact wpAny_pure (hQ h' a b)
theorem noe_end {it l : Addr} {i : Nat} {items} {Q : Option Value → Shared → Prop} (hh : A.handled = none) (hit : s.heap.IsListIter it l i) (hl : s.heap.IsList l items) (hx : items[i]? = none)
    (hQ : ∀ h', Heap.ExtBut it s.heap h' → Q none { s with heap := h' }) :
    wpAny (model prog w) A (Builtin.SmallTypes.nextOrEnd (.ref it)) Q E s := by
  unfold Builtin.SmallTypes.nextOrEnd
  refine wpAny_bind (wpAny_attempt (wpAny_nextOf_list_end hh hit hl hx fun h' e hk he => ?_))
  obtain ⟨o, ho, hc⟩ := he
  refine wpAny_bind (wpAny_isInstance (T := "StopIteration") (b := true) ⟨o, ho, hc⟩ isSubtype_stop ?_)
  exact wpAny_pure (hQ h' hk)
theorem zipS_next_item {z TI TO i1 i2 l1 l2 : Addr} {k1 k2 : Nat} {xs ys : Array Value} {x y a b : Value} {Q : Value → Shared → Prop} (D : ZipApart z TI TO i1 i2 l1 l2)
    (hz : IsZipS s.heap z TI TO .none) (hTI : IsPair s.heap TI (.ref i1) (.ref i2)) (hTO : IsPair s.heap TO a b)
    (h1 : s.heap.IsListIter i1 l1 k1) (h2 : s.heap.IsListIter i2 l2 k2) (hl1 : s.heap.IsList l1 xs) (hl2 : s.heap.IsList l2 ys) (hx : xs[k1]? = some x) (hy : ys[k2]? = some y)
    (hQ : ∀ h', IsZipS h' z TI TO (rawInt s.heap.objs.size) → IsPair h' TO x y → h'.IsListIter i1 l1 (k1 + 1) → h'.IsListIter i2 l2 (k2 + 1) → IsPair h' s.heap.objs.size x y → h'.objs.size = s.heap.objs.size + 1 →
      (∀ c o, c ≠ z → c ≠ TO → c ≠ i1 → c ≠ i2 → s.heap.get? c = some o → h'.get? c = some o) → Q (.ref s.heap.objs.size) { s with heap := h' }) :
    wpAny (model prog w) A (Builtin.«zip.__next__» ⟨[.ref z], []⟩) (fun fin s' => ∃ v, fin = .done (.ret v) ∧ Q v s') E s := by
  show wpAny _ _ (field (.ref z) 2 >>= _) _ _ _
  refine wpAny_bind (wpAny_field hz rfl (x := .bool true) rfl ?_)
  show wpAny _ _ (field (.ref z) 3 >>= _) _ _ _
  refine wpAny_bind (wpAny_field hz rfl (x := .ref TI) rfl ?_)
  refine wpAny_bind (wpAny_seqItems hTI rfl ?_)
  show wpAny _ _ (Builtin.SmallTypes.ownedTupleIsFree (.ref z) >>= _) _ _ _
  refine wpAny_bind ?_
  unfold Builtin.SmallTypes.ownedTupleIsFree
  refine wpAny_bind (wpAny_field hz rfl (x := .none) rfl (wpAny_pure ?_))
  simp only [if_true]
  refine wpAny_bind (wpAny_rule ?_)
  refine wpAny_bind (wpAny_field hz rfl (x := .ref TO) rfl ?_)
  refine wpAny_bind (wpAny_setField_rec hz (by simp) fun h₁ hz₁ hs₁ => ?_)
  replace hz₁ : IsZipS h₁ z TI TO .ellipsis := hz₁
  refine wpAny_bind ?_
  simp only [List.zipIdx_cons, List.zipIdx_nil, List.forIn_cons, List.forIn_nil]

  refine wpAny_bind (wpAny_bind (wpAny_onRaise ?_))
  show wpAny _ _ (Builtin.SmallTypes.nextOrEnd (.ref i1)) _ _ _
  refine (noe_item (h1.extBut hs₁.extBut D.i1z) (hl1.extBut hs₁.extBut D.l1z) hx fun h₂ h1₂ hs₂ => ?_)
  have hTO₂ : IsPair h₂ TO a b := hs₂.extBut _ _ D.TOi1 (hs₁.extBut _ _ D.TOz hTO)
  refine wpAny_bind (wpAny_seqItems hTO₂ rfl ?_)
  refine wpAny_bind (wpAny_updateSeq_pair hTO₂ fun h₃ hTO₃ hs₃ => ?_)
  replace hTO₃ : IsPair h₃ TO x b := hTO₃
  refine wpAny_bind (wpAny_letGo (wpAny_pure ?_))

  refine wpAny_bind (wpAny_bind (wpAny_onRaise ?_))
  show wpAny _ _ (Builtin.SmallTypes.nextOrEnd (.ref i2)) _ _ _
  refine (noe_item (((h2.extBut hs₁.extBut D.i2z).extBut hs₂.extBut D.i12.symm).extBut hs₃.extBut D.TOi2.symm)
    (((hl2.extBut hs₁.extBut D.l2z).extBut hs₂.extBut D.l2i1).extBut hs₃.extBut D.l2TO) hy fun h₄ h2₄ hs₄ => ?_)
  have hTO₄ : IsPair h₄ TO x b := hs₄.extBut _ _ D.TOi2 hTO₃
  refine wpAny_bind (wpAny_seqItems hTO₄ rfl ?_)
  refine wpAny_bind (wpAny_updateSeq_pair hTO₄ fun h₅ hTO₅ hs₅ => ?_)
  replace hTO₅ : IsPair h₅ TO x y := hTO₅
  refine wpAny_bind (wpAny_letGo (wpAny_pure (wpAny_pure ?_)))

  refine wpAny_bind (wpAny_seqItems hTO₅ rfl ?_)
  refine wpAny_bind (wpAny_newTuple ?_)
  have hsz : h₅.objs.size = s.heap.objs.size := by rw [hs₅.1, hs₄.1, hs₃.1, hs₂.1, hs₁.1]
  have hz₅ : IsZipS h₅ z TI TO .ellipsis := hs₅.extBut _ _ D.TOz.symm (hs₄.extBut _ _ D.i2z.symm (hs₃.extBut _ _ D.TOz.symm (hs₂.extBut _ _ D.i1z.symm hz₁)))
  have hk₅ : ∀ c o, c ≠ z → c ≠ TO → c ≠ i1 → c ≠ i2 → s.heap.get? c = some o → h₅.get? c = some o := fun c o c1 c2 c3 c4 e =>
    hs₅.extBut _ _ c2 (hs₄.extBut _ _ c4 (hs₃.extBut _ _ c2 (hs₂.extBut _ _ c3 (hs₁.extBut _ _ c1 e))))
  have h1₅ : h₅.IsListIter i1 l1 (k1 + 1) := ((h1₂.extBut hs₃.extBut D.TOi1.symm).extBut hs₄.extBut D.i12).extBut hs₅.extBut D.TOi1.symm
  have h2₅ : h₅.IsListIter i2 l2 (k2 + 1) := h2₄.extBut hs₅.extBut D.TOi2.symm
  have hzlt : z < h₅.objs.size := Heap.lt_size hz₅
  have hTOlt : TO < h₅.objs.size := Heap.lt_size hTO₅
  have hi1lt : i1 < h₅.objs.size := by obtain ⟨_, e, _⟩ := h1₅; exact Heap.lt_size e
  have hi2lt : i2 < h₅.objs.size := by obtain ⟨_, e, _⟩ := h2₅; exact Heap.lt_size e
  show wpAny _ _ (Builtin.SmallTypes.ownedTupleHandOut (.ref z) (.ref h₅.objs.size) >>= _) _ _ _
  refine wpAny_bind ?_
  unfold Builtin.SmallTypes.ownedTupleHandOut
  have hz₆ : IsZipS (h₅.push { cls := .type "tuple", data := .seq #[x, y] }) z TI TO .ellipsis := Heap.get?_push_of_some _ hz₅
  refine wpAny_bind (wpAny_setField_rec hz₆ (by simp) fun h₇ hz₇ hs₇ => ?_)
  replace hz₇ : IsZipS h₇ z TI TO (rawInt h₅.objs.size) := hz₇
  refine wpAny_setField_rec hz₇ (by simp) fun h₈ hz₈ hs₈ => ?_
  replace hz₈ : IsZipS h₈ z TI TO (rawInt h₅.objs.size) := hz₈
  have up : ∀ c o, c ≠ z → h₅.get? c = some o → h₈.get? c = some o := fun c o c1 e => hs₈.extBut _ _ c1 (hs₇.extBut _ _ c1 (Heap.get?_push_of_some _ e))
  have hT₈ : IsPair h₈ h₅.objs.size x y := hs₈.extBut _ _ (Nat.ne_of_gt hzlt) (hs₇.extBut _ _ (Nat.ne_of_gt hzlt) (Heap.get?_push_size _ rfl))
  have hz8 : h₈.objs.size = h₅.objs.size + 1 := by rw [hs₈.1, hs₇.1, Heap.size_push]
  rw [hsz] at hz₈ hT₈ hz8
  refine wpAny_pure ⟨_, rfl, ?_⟩
  show Q (.ref h₅.objs.size) _
  rw [hsz]
  exact hQ h₈ hz₈ (up _ _ D.TOz hTO₅) (h1₅.at fun o e => up _ o D.i1z e) (h2₅.at fun o e => up _ o D.i2z e) hT₈ hz8 fun c o c1 c2 c3 c4 e => up c o c1 (hk₅ c o c1 c2 c3 c4 e)

theorem stop_thrown {Q : Fin → Shared → Prop} (hh : A.handled = none) (hE : ∀ h' e, (∀ c o, s.heap.get? c = some o → h'.get? c = some o) → (∃ o, h'.get? e = some o ∧ o.cls = .type "StopIteration") → E (.ref e) { s with heap := h' }) :
    wpAny (model prog w) A (Builtin.SmallTypes.stopIteration) Q E s := by
  unfold Builtin.SmallTypes.stopIteration
  refine wpAny_bind ?_
  simp only [newExc, newTuple]
  refine wpAny_bind (wpAny_newObj_type ?_ (by size_fits))
  refine wpAny_bind (m := firstArgMember _ _) (wpAny_of_eq (a := Value.none) (by first | rfl | (simp only [firstArgMember]; rfl)) ?_)
  refine wpAny_newObj_type ?_ (by size_fits)
  simp only [raiseNew]
  refine wpAny_bind (wpAny_handled ?_)
  rw [hh]
  refine wpAny_bind (wpAny_pure (wpAny_throw ?_))
  exact hE _ _ (fun c o x => Heap.get?_push_of_some _ (Heap.get?_push_of_some _ x)) ⟨_, Heap.get?_push_size _ rfl, rfl⟩
theorem zipS_next_end {z TI TO i1 i2 l1 l2 : Addr} {k : Nat} {xs ys : Array Value} {a b : Value} {Q : Fin → Shared → Prop} (hh : A.handled = none) (D : ZipApart z TI TO i1 i2 l1 l2)
    (hz : IsZipS s.heap z TI TO .none) (hTI : IsPair s.heap TI (.ref i1) (.ref i2)) (hTO : IsPair s.heap TO a b)
    (h1 : s.heap.IsListIter i1 l1 k) (h2 : s.heap.IsListIter i2 l2 k) (hl1 : s.heap.IsList l1 xs) (hl2 : s.heap.IsList l2 ys) (hx : xs[k]? = none) (hy : ys[k]? = none)
    (hE : ∀ h' e, (∀ c o, c ≠ z → c ≠ TO → c ≠ i1 → c ≠ i2 → s.heap.get? c = some o → h'.get? c = some o) → (∃ o, h'.get? e = some o ∧ o.cls = .type "StopIteration") → E (.ref e) { s with heap := h' }) :
    wpAny (model prog w) A (Builtin.«zip.__next__» ⟨[.ref z], []⟩) Q E s := by
  show wpAny _ _ (field (.ref z) 2 >>= _) _ _ _
  refine wpAny_bind (wpAny_field hz rfl (x := .bool true) rfl ?_)
  show wpAny _ _ (field (.ref z) 3 >>= _) _ _ _
  refine wpAny_bind (wpAny_field hz rfl (x := .ref TI) rfl ?_)
  refine wpAny_bind (wpAny_seqItems hTI rfl ?_)
  show wpAny _ _ (Builtin.SmallTypes.ownedTupleIsFree (.ref z) >>= _) _ _ _
  refine wpAny_bind ?_
  unfold Builtin.SmallTypes.ownedTupleIsFree
  refine wpAny_bind (wpAny_field hz rfl (x := .none) rfl (wpAny_pure ?_))
  simp only [if_true]
  refine wpAny_bind (wpAny_rule ?_)
  refine wpAny_bind (wpAny_field hz rfl (x := .ref TO) rfl ?_)
  refine wpAny_bind (wpAny_setField_rec hz (by simp) fun h₁ hz₁ hs₁ => ?_)
  replace hz₁ : IsZipS h₁ z TI TO .ellipsis := hz₁
  refine wpAny_bind ?_
  simp only [List.zipIdx_cons, List.zipIdx_nil, List.forIn_cons, List.forIn_nil]
  refine wpAny_bind (wpAny_bind (wpAny_onRaise ?_))
  show wpAny _ _ (Builtin.SmallTypes.nextOrEnd (.ref i1)) _ _ _
  refine noe_end hh (h1.extBut hs₁.extBut D.i1z) (hl1.extBut hs₁.extBut D.l1z) hx fun h₂ hs₂ => ?_
  have hz₂ : IsZipS h₂ z TI TO .ellipsis := hs₂ _ _ D.i1z.symm hz₁
  refine wpAny_bind (wpAny_setField_rec hz₂ (by simp) fun h₃ hz₃ hs₃ => ?_)
  have h2₃ := ((h2.extBut hs₁.extBut D.i2z).extBut hs₂ D.i12.symm).extBut hs₃.extBut D.i2z
  have hl2₃ := ((hl2.extBut hs₁.extBut D.l2z).extBut hs₂ D.l2i1).extBut hs₃.extBut D.l2z
  refine wpAny_bind ?_
  refine wpAny_bind (m := forIn (([Value.ref i1, Value.ref i2].drop 1).zipIdx 1) _ _) ?_
  simp only [List.drop_succ_cons, List.drop_zero, List.zipIdx_cons, List.zipIdx_nil, List.forIn_cons, List.forIn_nil]
  refine wpAny_bind (wpAny_bind ?_)
  refine noe_end hh h2₃ hl2₃ hy fun h₄ hs₄ => ?_
  simp only [Option.isSome_none, Bool.false_eq_true, if_false]
  refine wpAny_pure (wpAny_pure ?_)
  refine wpAny_bind (wpAny_rule ?_)
  refine stop_thrown hh fun h₅ e hk5 he => ?_
  exact hE h₅ e (fun c o c1 c2 c3 c4 x => hk5 c o (hs₄ _ _ c4 (hs₃.extBut _ _ c1 (hs₂ _ _ c3 (hs₁.extBut _ _ c1 x))))) he
theorem pyNext_item {z TI TO i1 i2 l1 l2 : Addr} {k1 k2 : Nat} {xs ys : Array Value} {x y a b : Value} {Q : Option Value → Shared → Prop} (D : ZipApart z TI TO i1 i2 l1 l2)
    (hz : IsZipS s.heap z TI TO .none) (hTI : IsPair s.heap TI (.ref i1) (.ref i2)) (hTO : IsPair s.heap TO a b)
    (h1 : s.heap.IsListIter i1 l1 k1) (h2 : s.heap.IsListIter i2 l2 k2) (hl1 : s.heap.IsList l1 xs) (hl2 : s.heap.IsList l2 ys) (hx : xs[k1]? = some x) (hy : ys[k2]? = some y)
    (hQ : ∀ h', IsZipS h' z TI TO (rawInt s.heap.objs.size) → IsPair h' TO x y → h'.IsListIter i1 l1 (k1 + 1) → h'.IsListIter i2 l2 (k2 + 1) → IsPair h' s.heap.objs.size x y → h'.objs.size = s.heap.objs.size + 1 →
      (∀ c o, c ≠ z → c ≠ TO → c ≠ i1 → c ≠ i2 → s.heap.get? c = some o → h'.get? c = some o) → Q (some (.ref s.heap.objs.size)) { s with heap := h' }) :
    wpAny (model prog w) A (pyNext (.ref z)) Q E s := by
  have hT : s.TypeIs (.ref z) "zip" := ⟨_, hz, rfl⟩
  unfold pyNext
  exact wpAny_bind (wpAny_attempt (wpAny_callSpecial?_slot (name := Str.ofString "__next__") hT F.slot_zip_next
    (wpAny_call_entry F.slot_zip_next hT F.entry_zip_next
      (zipS_next_item D hz hTI hTO h1 h2 hl1 hl2 hx hy fun h' a1 a2 a3 a4 a5 a6 a7 => wpAny_pure (hQ h' a1 a2 a3 a4 a5 a6 a7)) (F.args_zip_next_1 _))))

theorem pyNext_end {z TI TO i1 i2 l1 l2 : Addr} {k : Nat} {xs ys : Array Value} {a b : Value} {Q : Option Value → Shared → Prop} (hh : A.handled = none) (D : ZipApart z TI TO i1 i2 l1 l2)
    (hz : IsZipS s.heap z TI TO .none) (hTI : IsPair s.heap TI (.ref i1) (.ref i2)) (hTO : IsPair s.heap TO a b)
    (h1 : s.heap.IsListIter i1 l1 k) (h2 : s.heap.IsListIter i2 l2 k) (hl1 : s.heap.IsList l1 xs) (hl2 : s.heap.IsList l2 ys) (hx : xs[k]? = none) (hy : ys[k]? = none)
    (hQ : ∀ h', (∀ c o, c ≠ z → c ≠ TO → c ≠ i1 → c ≠ i2 → s.heap.get? c = some o → h'.get? c = some o) → Q none { s with heap := h' }) : wpAny (model prog w) A (pyNext (.ref z)) Q E s := by
  have hT : s.TypeIs (.ref z) "zip" := ⟨_, hz, rfl⟩
  unfold pyNext
  refine wpAny_bind (wpAny_attempt (wpAny_callSpecial?_slot (name := Str.ofString "__next__") hT F.slot_zip_next
    (wpAny_call_entry F.slot_zip_next hT F.entry_zip_next (zipS_next_end hh D hz hTI hTO h1 h2 hl1 hl2 hx hy fun h' e hk he => ?_) (F.args_zip_next_1 _))))
  obtain ⟨o, ho, hc⟩ := he
  refine wpAny_bind (wpAny_isInstance (T := "StopIteration") (b := true) ⟨o, ho, hc⟩ isSubtype_stop ?_)
  exact wpAny_pure (hQ _ hk)

theorem letGo_zipS {elts : List Expr} {x1} {pos : Pos} {z TI TO T : Addr} {Q : Unit → Shared → Prop} (hz : IsZipS s.heap z TI TO (rawInt T))
    (hQ : ∀ h', IsZipS h' z TI TO .none → Heap.SameBut z s.heap h' → Q () { s with heap := h' }) :
    wpAny (model prog w) A (letOwnedTupleGo (.Tuple elts x1 pos) (.ref z) (.ref T)) Q E s := by
  unfold letOwnedTupleGo
  refine wpAny_bind (wpAny_load hz ?_)
  show wpAny _ _ (if (["enumerate", "zip", "dict_itemiterator", "dict_reverseitemiterator", "odict_iterator", "itertools.zip_longest", "itertools.pairwise"].contains "zip" &&
      (#[rawInt T, .bool false, .bool true, .ref TI, .ref TO] : Array Value)[0]? == some (rawInt T)) = true then _ else _) Q E s
  rw [if_pos (by simp)]
  refine wpAny_bind (wpAny_rule ?_)
  show wpAny _ _ (setField (.ref z) 0 .none) Q E s
  exact wpAny_setField_rec hz (by simp) fun h' hz' hs' => hQ h' hz' hs'

theorem pyIter_zipS {z TI TO : Addr} {f0 : Value} {Q : Value → Shared → Prop} (hz : IsZipS s.heap z TI TO f0) (h : Q (.ref z) s) : wpAny (model prog w) A (pyIter (.ref z)) Q E s := by
  have hT : s.TypeIs (.ref z) "zip" := ⟨_, hz, rfl⟩
  refine wpAny_pyIter_slot hT F.slot_zip_iter (wpAny_call_entry F.slot_zip_iter hT F.entry_zip_iter ?_ (F.args_zip_iter_1 _))
  show wpAny _ _ (ret (.ref z)) _ _ s
  exact wpAny_pure ⟨_, rfl, "zip", _, hT, F.slot_zip_next.lookup, h⟩

theorem callWith_typeK {env : Env} {pos : Pos} {T : String} {e : Expr} {rest : List Expr} {kws : List Keyword} {Q : Value → Shared → Prop}
    (h : wpAny (model prog w) A (spliced (backTo pos (starEach (e :: rest) env))) (fun vs s₁ => wpAny (model prog w) A (evalAll ((backToKw pos (keywordEach kws env)).map (·.2)))
      (fun kvs s₂ => wpAny (model prog w) A (call (.type T) vs (((backToKw pos (keywordEach kws env)).filterMap (·.1)).zip kvs)) Q E s₂) E s₁) E s)
    (he : backTo pos (starEach (e :: rest) env) = (false, eval e env) :: backTo pos (starEach rest env) := by rfl)
    (hplain : (backTo pos (starEach (e :: rest) env)).any (·.1) = false := by rfl)
    (hall : (backToKw pos (keywordEach kws env)).all (·.1.isSome) = true := by rfl)
    (hkw : (backToKw pos (keywordEach kws env)).any (·.1.isNone) = false := by rfl) :
    wpAny (model prog w) A (callWith pos (.type T) [] (backTo pos (starEach (e :: rest) env)) (backToKw pos (keywordEach kws env))) Q E s := by
  unfold callWith
  refine wpAny_bind (wpAny_holding (wpAny_mono (Q := fun a s₁ => wpAny (model prog w) A (call (.type T) ([] ++ a.pos) a.kw) Q E s₁) ?_ (fun a s₁ h₁ => wpAny_bind (wpAny_standAt ?_)) fun _ _ x => x))
  · rw [he] at h ⊢
    exact PyProof.Rows.evalArgs_kwB hall h
  · simp only [hplain, hkw, Bool.or_false]
    refine wpAny_bind (wpAny_pure ?_)
    exact wpAny_bind (wpAny_mono h₁ (fun r s₂ hr => wpAny_bind (wpAny_holding (wpAny_point (wpAny_pure hr)))) fun _ _ x => x)
end
end DL.Z
namespace DL
open PySem L2
def ItzS (K : PySem.W.Frag) (a b : Addr) : It :=
  ⟨fun i H => ∃ (xs ys : List V) (x y : V), SqL K H a xs ∧ SqL K H b ys ∧ xs[i]? = some x ∧ ys[i]? = some y,
    fun i H v H' => ∃ T x y, v = .ref T ∧ H T = none ∧ H' = upd H T (.tup [x, y]) ∧ (∀ xs, SqL K H a xs → xs[i]? = some x) ∧ ∀ ys, SqL K H b ys → ys[i]? = some y,
    fun i H => ∃ xs ys : List V, SqL K H a xs ∧ SqL K H b ys ∧ xs.length ≤ i ∧ ys.length ≤ i⟩
theorem turn_zipS {P : Program} {w : World} {K : PySem.W.Frag} {elts : List Expr} {kk : Nat} {tpos : Pos} {a b z TI TO i1 i2 : Addr} (D : ZipApart z TI TO i1 i2 a b) :
    Turn P w K (.Tuple elts kk tpos) (ItzS K a b) [z, TI, TO, i1, i2] z (fun i h => Z.IsZipS h z TI TO .none ∧ IsPair h TI (.ref i1) (.ref i2) ∧ (∃ x y, IsPair h TO x y) ∧ h.IsListIter i1 a i ∧ h.IsListIter i2 b i) where
  mem := by simp
  obj := fun i h st c hc => by
    obtain ⟨hz, hTI, ⟨x, y, hTO⟩, ⟨o1, e1, _, d1⟩, ⟨o2, e2, _, d2⟩⟩ := st
    have e' : c = z ∨ c = TI ∨ c = TO ∨ c = i1 ∨ c = i2 := by simpa using hc
    rcases e' with q | q | q | q | q
    · rw [q]; exact ⟨_, hz, fun v q => nomatch q⟩
    · rw [q]; exact ⟨_, hTI, fun v q => nomatch q⟩
    · rw [q]; exact ⟨_, hTO, fun v q => nomatch q⟩
    · rw [q]; exact ⟨o1, e1, fun v q => by rw [d1] at q; cases q⟩
    · rw [q]; exact ⟨o2, e2, fun v q => by rw [d2] at q; cases q⟩
  keep := fun i h h' st k => by
    obtain ⟨hz, hTI, ⟨x, y, hTO⟩, h1, h2⟩ := st
    exact ⟨k z (by simp) _ hz, k TI (by simp) _ hTI, ⟨x, y, k TO (by simp) _ hTO⟩, h1.at fun o q => k i1 (by simp) o q, h2.at fun o q => k i2 (by simp) o q⟩
  item := by
    intro X hP hw hK hc i pins s σ H E I hf st hg
    subst hP hw hK
    obtain ⟨hz, hTI, ⟨x0, y0, hTO⟩, h1, h2⟩ := st
    obtain ⟨xs, ys, x, y, hqx, hqy, hx, hy⟩ := hg
    obtain ⟨its, rv, p, _⟩ := I.list hqx
    obtain ⟨its2, rv2, p2, _⟩ := I.list hqy
    obtain ⟨u, hu, ru⟩ := rv.get hx
    obtain ⟨u2, hu2, ru2⟩ := rv2.get hy
    have hzl : z < s.heap.objs.size := Heap.lt_size hz
    refine Z.pyNext_item D hz hTI hTO h1 h2 p.isList p2.isList (x := u) (y := u2) (by simpa using hu) (by simpa using hu2) fun h' z' TO' h1' h2' hT hsz hk => ?_
    refine ⟨_, rfl, Z.letGo_zipS (s := { s with heap := h' }) z' fun h'' z'' sb => ?_⟩
    have hT2 : h''.get? s.heap.objs.size = some { cls := .type "tuple", data := .seq #[u, u2] } := (sb.2 _ (Nat.ne_of_gt hzl)).trans hT
    have new : ObjOk X.prog X.w (upd H s.heap.objs.size (.tup [x, y])) h'' s.heap.objs.size (.tup [x, y]) :=
      ⟨by show 2 ≤ sizeLine; decide, [u, u2], .cons ru (.cons ru2 .nil), ⟨_, hT2, rfl, _, rfl⟩⟩
    have I1 : Inv X pins σ (upd H s.heap.objs.size (.tup [x, y])) { s with heap := h'' } :=
      I.turnedNew (t' := s.toks) (ch := [z, TI, TO, i1, i2]) (fun c o hb q => (sb.2 c (fun q' => hb (by simp [q']))).trans (hk c o (fun q' => hb (by simp [q'])) (fun q' => hb (by simp [q'])) (fun q' => hb (by simp [q'])) (fun q' => hb (by simp [q'])) q)) hf (Nat.le_refl _) new
    refine ⟨.ref s.heap.objs.size, _, I1, rfl, ⟨_, x, y, rfl, I.hok.fresh (Nat.le_refl _), rfl, fun l hl => by rw [I.list_inj hl hqx]; exact hx, fun l hl => by rw [I.list_inj hl hqy]; exact hy⟩, ⟨z'', ?_, ⟨u, u2, ?_⟩, ?_, ?_⟩, fun c hcm => ?_⟩
    · exact (sb.2 _ D.TIz).trans (hk _ _ D.TIz D.TITO D.TIi1 D.TIi2 hTI)
    · exact (sb.2 _ D.TOz).trans TO'
    · exact h1'.at fun o q => (sb.2 _ D.i1z).trans q
    · exact h2'.at fun o q => (sb.2 _ D.i2z).trans q
    · have hlt : c < s.heap.objs.size := by
        have e' : c = z ∨ c = TI ∨ c = TO ∨ c = i1 ∨ c = i2 := by simpa using hcm
        rcases e' with q | q | q | q | q
        · rw [q]; exact hzl
        · rw [q]; exact Heap.lt_size hTI
        · rw [q]; exact Heap.lt_size hTO
        · rw [q]; obtain ⟨_, e1, _⟩ := h1; exact Heap.lt_size e1
        · rw [q]; obtain ⟨_, e2, _⟩ := h2; exact Heap.lt_size e2
      rw [upd_ne (Nat.ne_of_lt hlt)]
      exact (hf c hcm).1
  done := by
    intro X hP hw hK hc i pins s σ H E I hf st hg
    subst hP hw hK
    obtain ⟨hz, hTI, ⟨x0, y0, hTO⟩, h1, h2⟩ := st
    obtain ⟨xs, ys, hqx, hqy, hend1, hend2⟩ := hg
    obtain ⟨its, rv, p, _⟩ := I.list hqx
    obtain ⟨its2, rv2, p2, _⟩ := I.list hqy
    have l1 := rv.length
    have l2 := rv2.length
    have e1 : its.toArray[i]? = none := by simp; omega
    have e2 : its2.toArray[i]? = none := by simp; omega
    exact Z.pyNext_end (I.ok.hd hc) D hz hTI hTO h1 h2 p.isList p2.isList e1 e2 fun h' hk => ⟨rfl, I.turnedL (t' := s.toks) (ch := [z, TI, TO, i1, i2]) (fun c o hb q =>
      hk c o (fun q' => hb (by simp [q'])) (fun q' => hb (by simp [q'])) (fun q' => hb (by simp [q'])) (fun q' => hb (by simp [q'])) q) hf⟩
  self := fun A i s Q E st h => Z.pyIter_zipS st.1 h

def iZipS (K : PySem.W.Frag) (ta : TA) : TI := fun σ H R => ta σ H fun vs H1 => ∃ a b xs ys, vs = [.ref a, .ref b] ∧ SqL K H1 a xs ∧ SqL K H1 b ys ∧ R (ItzS K a b) H1
abbrev kwStrict (kp : Pos) (kz : Nat) (kq : Pos) : Keyword := ⟨some (Str.ofString "strict"), .Constant (.bool true) kz kq, kp⟩
theorem pi_zipS {X : Cx} {e e2 : Expr} {ta : TA} {p pos tpos kp kq : Pos} {elts : List Expr} {kk kz : Nat} (hg : Gl X "zip") (hm : X.mg "zip" = none) (ha : PA X [e, e2] ta)
    (hs : starEach [e, e2] X.env = (false, eval e X.env) :: starEach [e2] X.env := by rfl) (hpl : (backTo pos (starEach [e, e2] X.env)).any (·.1) = false := by rfl) :
    PI X (.Tuple elts kk tpos) (.Call (.Name "zip" p) [e, e2] [kwStrict kp kz kq] pos) (iZipS X.K ta) := by
  refine ⟨fun pins s σ H R I h => ?_⟩
  refine wpAny_Call_Name_kw (ld_blt I hg hm PyProof.Rows.boot_zip (Z.callWith_typeK (thn (ha.run pos pins s σ H _ I h) fun us s1 ⟨vs, H1, I1, r1, q1⟩ => ?_) (by rw [hs]; rfl) hpl))
  refine PyProof.Rows.kws_cons ?_
  refine wpAny_pure ?_
  refine PyProof.Rows.kws_nil ?_
  obtain ⟨a, b, xs, ys, ex, hqx, hqy, q⟩ := q1
  subst ex
  cases r1 with
  | cons r rr =>
    cases rr with
    | cons r' rr =>
      cases rr
      cases r
      cases r'
      obtain ⟨its, rv, p1, _⟩ := I1.list hqx
      obtain ⟨its2, rv2, p2, _⟩ := I1.list hqy
      have la : a < s1.heap.objs.size := p1.lt
      have lb : b < s1.heap.objs.size := p2.lt
      refine Z.call_zipS p1.isList p2.isList fun h' hz hTI hTO h1 h2 hsz hk => Z.pyIter_zipS hz ?_
      have I2 : Inv X pins σ H1 { s1 with heap := h' } := I1.kept (t' := s1.toks) hk
      refine ⟨s1.heap.objs.size + 4, [s1.heap.objs.size + 4, s1.heap.objs.size + 2, s1.heap.objs.size + 3, s1.heap.objs.size, s1.heap.objs.size + 1], _, _, H1, rfl, I2, turn_zipS (PySem.W.ktu_apart s1.heap.objs.size a b la lb), ⟨hz, hTI, ⟨_, _, hTO⟩, h1, h2⟩, fun c hcm => ?_, q⟩
      have e' : c = s1.heap.objs.size + 4 ∨ c = s1.heap.objs.size + 2 ∨ c = s1.heap.objs.size + 3 ∨ c = s1.heap.objs.size ∨ c = s1.heap.objs.size + 1 := by simpa using hcm
      have hle : s1.heap.objs.size ≤ c := by
        rcases e' with z | z | z | z | z
        · rw [z]; exact Nat.le_add_right _ _
        · rw [z]; exact Nat.le_add_right _ _
        · rw [z]; exact Nat.le_add_right _ _
        · rw [z]; exact Nat.le_refl _
        · rw [z]; exact Nat.le_add_right _ _
      exact I1.fpOk hle (I1.hok.fresh hle)
section
variable {X : Cx} {e e2 : Expr} {kz : Nat} {p1 pos tpos kp kq : Pos} {ob : Obs} {sl : Sls} {PI : List Dt → Obs → Prop} {S : Hp} {K : PySem.W.Frag}
def zipD (l m : List Dt) : List Dt := (l.zip m).map fun p => .tup [p.1, p.2]
theorem yields_zip {p p2 : Addr} {xs ys : List V} {l m : List Dt} (h : S p = some (.lst xs)) (q : Reps S l xs) (h' : S p2 = some (.lst ys)) (q' : Reps S m ys) (hlm : l.length = m.length) : Yields S (ItzS K p p2) (zipD l m) := fun S1 H1 le ex i => by
  have hp : SqL K H1 p xs := SqL.of (ex.at (le _ _ h) rfl)
  have hp2 : SqL K H1 p2 ys := SqL.of (ex.at (le _ _ h') rfl)
  have hlen : (zipD l m).length = l.length := by unfold zipD; rw [List.length_map, List.length_zip, hlm, Nat.min_self]
  rw [hlen]
  refine ⟨fun hi => ⟨⟨xs, ys, xs[i]'(by rw [q.length]; exact hi), ys[i]'(by rw [q'.length, ← hlm]; exact hi), hp, hp2, by simp [q.length, hi], by simp [q'.length, ← hlm, hi]⟩, fun x H2 hy => ?_⟩, fun hi => ⟨xs, ys, hp, hp2, by rw [q.length]; omega, by rw [q'.length]; omega⟩⟩
  obtain ⟨T, y, y2, rfl, hT, rfl, hy, hy2⟩ := hy
  obtain ⟨d, e1, e2⟩ := q.get (hy xs hp)
  obtain ⟨d2, e3, e4⟩ := q'.get (hy2 ys hp2)
  have sT : S1 T = none := ex.fresh hT
  refine ⟨.tup [d, d2], upd S1 T (.tup [y, y2]), ?_, fun a u z => ?_, Le.new sT, rep_tup.mpr ⟨T, _, rfl, upd_same, reps_cons.mpr ⟨_, _, rfl, Rep.mono (Le.trans le (Le.new sT)) e2, Reps.one (Rep.mono (Le.trans le (Le.new sT)) e4)⟩⟩, fun a u z => ?_, fun a z => ?_⟩
  · unfold zipD
    rw [List.getElem?_map, List.getElem?_zip_eq_some (z := (d, d2)) |>.mpr ⟨e1, e3⟩]
    rfl
  · by_cases c : a = T
    · subst c
      rw [upd_same] at z
      exact .inl (by rw [upd_same]; exact z)
    · rw [upd_ne c] at z ⊢
      exact ex a u z
  · rw [upd_ne (ne_of_none z hT)]
    exact z
  · by_cases c : a = T
    · subst c
      exact .inr hT
    · rw [upd_ne c] at z
      exact .inl z
theorem wpA.sz {σ : L2.St} {H : Hp} {es : List Expr} {Q : List V → Hp → Prop} (h : wpA X es σ H fun v H1 => Sz H1 → Q v H1) : wpA X es σ H Q := ⟨fun pos pins s I => thn (h.run pos pins s I) fun u s1 ⟨v, H1, I1, r1, q1⟩ =>
  ⟨v, H1, I1, r1, q1 ⟨fun a xs h => (I1.hok a _ h).1, fun a xs h => (I1.hok a _ h).1⟩⟩⟩
theorem wi_zipS {elts : List Expr} {kk : Nat} (hm : X.mg "zip" = none) (h : Wa X [e, e2] ob sl fun rs ob1 => ∃ l m, rs = [.d (.lst l), .d (.lst m)] ∧ l.length = m.length ∧ (l.length ≤ sizeLine → PI (zipD l m) ob1)) (hg : Gl X "zip" := by rfl) (hs : starEach [e, e2] X.env = (false, eval e X.env) :: starEach [e2] X.env := by rfl) (hpl : (backTo pos (starEach [e, e2] X.env)).any (·.1) = false := by rfl) : Wi X (.Tuple elts kk tpos) (.Call (.Name "zip" p1) [e, e2] [kwStrict kp kz kq] pos) ob sl PI := fun S A H σ R g rs en => by
  refine wpI.of (pi_zipS hg hm pa_wp hs hpl) (wpA.sz (h S A H σ _ g rs fun rs ob1 v S1 A1 H1 h1 g1 q1 st1 sz => ?_))
  obtain ⟨l, m, rfl, hlm, h1⟩ := h1
  obtain ⟨v1, v2, rfl, q2, q3⟩ := relRs2 q1
  obtain ⟨p, xs, rfl, h2, h3⟩ := rep_lst.mp q2
  obtain ⟨p2, ys, rfl, h4, h5⟩ := rep_lst.mp q3
  exact ⟨p, p2, xs, ys, rfl, SqL.of (g1.ex.at h2 rfl), SqL.of (g1.ex.at h4 rfl), en _ ob1 _ _ _ _ (h1 (by rw [← h3.length]; exact sz.1 p xs (g1.ex.at h2 rfl))) g1 st1 (yields_zip h2 h3 h4 h5 hlm)⟩
end
end DL


/-! DL: for .. in d.items(), d.values() over a dict with tuple keys that is data (it is locked meanwhile). -/
namespace DL
open PySem L2
section
variable {X : Cx} {K : PySem.W.Frag} {S H : Hp} {A : List Addr} {ob : List Ob} {d : Addr} {od : Obj} {kvs : List (List Key × V)}
theorem frzT2 {pins : List (Addr × Obj)} {σ : L2.St} {s : Shared} (I : Inv X pins σ H s) (h : H d = some (.frz od (.dT kvs))) :
    (d == sysModules) = false ∧ s.heap.get? d = some od ∧ od.ExactDict ∧ ∃ (es : Array DictEntry) (ep : Nat), od.data = .dict es ep ∧ es.size = kvs.length ∧
      ∀ (i : Nat) (k : List Key) (v : V) (hi : i < es.size), kvs[i]? = some (k, v) → ∃ (q : Addr), es[i].key = .ref q ∧ H q = some (.tup (k.map kV)) ∧ RelV v es[i].val := by
  obtain ⟨hd, z, hs, xs, pr, o', es, ep, ho, hx, hdt, he, _⟩ := I.hok d _ h
  rw [hd] at ho
  cases ho
  refine ⟨hs, hd, hx, es, ep, hdt, ?_, fun i k v hi e => ?_⟩
  · have l1 : es.size = xs.length := size_of_entries he
    have l2 : kvs.length = xs.length := Paired.length pr
    omega
  · obtain ⟨b, hb, e1, e2, e3⟩ := paired_get pr e
    have q := entry_at he i
    rw [hb] at q
    obtain ⟨q1, q2⟩ := Array.getElem?_eq_some_iff.mp q
    rw [q2]
    exact ⟨b.2.1, rfl, e2, e3⟩
/-- the values of the locked dict, the pairs as new tuples -/
def ItdT (d : Addr) (o : Obj) (kvs : List (List Key × V)) : It :=
  ⟨fun i H => H d = some (.frz o (.dT kvs)) ∧ i < kvs.length, fun i H x H' => H' = H ∧ ∃ k, kvs[i]? = some (k, x), fun i H => H d = some (.frz o (.dT kvs)) ∧ kvs.length ≤ i⟩
def ItiT (d : Addr) (o : Obj) (kvs : List (List Key × V)) : It :=
  ⟨fun i H => H d = some (.frz o (.dT kvs)) ∧ i < kvs.length, fun i H x H' => ∃ T k v q, kvs[i]? = some (k, v) ∧ x = .ref T ∧ H T = none ∧ H q = some (.tup (k.map kV)) ∧ H' = upd H T (.tup [.ref q, v]), fun i H => H d = some (.frz o (.dT kvs)) ∧ kvs.length ≤ i⟩
variable {P : Program} {w : World} {tg : Expr} {es : Array DictEntry} {ep : Nat}
theorem turn_valsT (it : Addr) (hod : od.data = .dict es ep) : Turn P w K tg (ItdT d od kvs) [it] it (fun i h => h.IsValIter it d i kvs.length ep) where
  mem := by simp
  obj := fun i h st b hb => by
    have e : b = it := by simpa using hb
    subst e
    obtain ⟨oi, e, c, dd⟩ := st
    exact ⟨oi, e, fun v z => by rw [dd] at z; cases z⟩
  keep := fun i h h' st k => st.at fun oi e => k it (by simp) oi e
  item := by
    intro X hP hw hK hc i pins s σ H E I hf st hg
    subst hP hw hK
    obtain ⟨hd, hi⟩ := hg
    obtain ⟨f0, f1, f2, f3, f4, f5⟩ := hf it (by simp)
    obtain ⟨hs, hgd, hx, es', ep', hdt, hsz, ent⟩ := frzT2 I hd
    obtain ⟨rfl, rfl⟩ := dict_ep hod hdt
    obtain ⟨⟨k, v⟩, hkv⟩ : ∃ p, kvs[i]? = some p := ⟨kvs[i], List.getElem?_eq_getElem hi⟩
    have hlt : i < es'.size := by rw [hsz]; exact hi
    obtain ⟨q, hq1, hq2, hq3⟩ := ent i k v hlt hkv
    rw [← hsz] at st
    refine PySem.wpAny_pyNext_values_item_raw st ⟨od, hgd, hx, hdt⟩ hlt fun h' st' sb => ?_
    have I1 : Inv X pins σ H { s with heap := h' } := I.turned (t' := s.toks) (fun b ob hb e => (sb.2 b hb).trans e) f0 f1 f3 f4 f5
    obtain ⟨oi, e, c, dd⟩ := id st'
    refine ⟨es'[i].val, rfl, go_of (s := { s with heap := h' }) e c dd (by decide) ⟨v, H, I1, hq3, ⟨rfl, k, hkv⟩, ?_, fun b hb => (hf b hb).1⟩⟩
    show h'.IsValIter it d (i + 1) kvs.length _
    rw [← hsz]
    exact st'
  done := by
    intro X hP hw hK hc i pins s σ H E I hf st hg
    subst hP hw hK
    obtain ⟨hd, hi⟩ := hg
    obtain ⟨f0, f1, f2, f3, f4, f5⟩ := hf it (by simp)
    obtain ⟨hs, hgd, hx, es', ep', hdt, hsz, ent⟩ := frzT2 I hd
    obtain ⟨rfl, rfl⟩ := dict_ep hod hdt
    rw [← hsz] at st
    exact PySem.wpAny_pyNext_values_end_raw (I.ok.hd hc) st ⟨od, hgd, hx, hdt⟩ (by omega) fun h' eb => ⟨rfl, I.turned (t' := s.toks) (fun b ob hb e => eb b ob hb e) f0 f1 f3 f4 f5⟩
  self := fun A i s Q E st h => wpAny_pyIter_valiter st h
theorem turn_itemsT {elts : List Expr} {kk : Nat} {tpos : Pos} (it : Addr) (hod : od.data = .dict es ep) :
    Turn P w K (.Tuple elts kk tpos) (ItiT d od kvs) [it] it (fun i h => ∃ ok ov, IsItemIter h it d i kvs.length ep ok ov) where
  mem := by simp
  obj := fun i h st b hb => by
    have e : b = it := by simpa using hb
    subst e
    obtain ⟨ok, ov, e⟩ := st
    exact ⟨_, e, fun v z => nomatch z⟩
  keep := fun i h h' st k => let ⟨ok, ov, e⟩ := st; ⟨ok, ov, k it (by simp) _ e⟩
  item := by
    intro X hP hw hK hc i pins s σ H E I hf st hg
    subst hP hw hK
    obtain ⟨hd, hi⟩ := hg
    obtain ⟨hs, hgd, hx, es', ep', hdt, hsz, ent⟩ := frzT2 I hd
    obtain ⟨rfl, rfl⟩ := dict_ep hod hdt
    obtain ⟨⟨k, v⟩, hkv⟩ : ∃ p, kvs[i]? = some p := ⟨kvs[i], List.getElem?_eq_getElem hi⟩
    have hlt2 : i < es'.size := by rw [hsz]; exact hi
    obtain ⟨q, hq1, hq2, hq3⟩ := ent i k v hlt2 hkv
    obtain ⟨ok, ov, he⟩ := st
    rw [← hsz] at he
    have hlt : it < s.heap.objs.size := Heap.lt_size he
    refine PySem.wpAny_pyNext_items_item_raw he ⟨od, hgd, hx, hdt⟩ hlt2 fun h' ho hT hz hk => ?_
    refine ⟨_, rfl, wpAny_letOwnedTupleGo_items (s := { s with heap := h' }) ho fun h'' he' sb => ?_⟩
    have hT2 : h''.get? s.heap.objs.size = some { cls := .type "tuple", data := .seq #[es'[i].key, es'[i].val] } := (sb.2 _ (Nat.ne_of_gt hlt)).trans hT
    have new : ObjOk X.prog X.w (upd H s.heap.objs.size (.tup [.ref q, v])) h'' s.heap.objs.size (.tup [.ref q, v]) :=
      ⟨by show 2 ≤ sizeLine; decide, [es'[i].key, es'[i].val], .cons hq1 (.cons hq3 .nil), ⟨_, hT2, rfl, _, rfl⟩⟩
    have I1 : Inv X pins σ (upd H s.heap.objs.size (.tup [.ref q, v])) { s with heap := h'' } :=
      I.turnedNew (t' := s.toks) (ch := [it]) (fun b ob hb e => (sb.2 b (by simpa using hb)).trans (hk b ob (by simpa using hb) e)) hf (Nat.le_refl _) new
    refine ⟨.ref s.heap.objs.size, _, I1, rfl, ⟨_, k, v, q, hkv, rfl, I.hok.fresh (Nat.le_refl _), hq2, rfl⟩, ⟨es'[i].key, es'[i].val, ?_⟩, fun b hb => ?_⟩
    · rw [← hsz]; exact he'
    · have e : b = it := by simpa using hb
      rw [e, upd_ne (Nat.ne_of_lt hlt)]
      exact (hf it (by simp)).1
  done := by
    intro X hP hw hK hc i pins s σ H E I hf st hg
    subst hP hw hK
    obtain ⟨hd, hi⟩ := hg
    obtain ⟨f0, f1, f2, f3, f4, f5⟩ := hf it (by simp)
    obtain ⟨hs, hgd, hx, es', ep', hdt, hsz, ent⟩ := frzT2 I hd
    obtain ⟨rfl, rfl⟩ := dict_ep hod hdt
    obtain ⟨ok, ov, he⟩ := st
    rw [← hsz] at he
    exact PySem.wpAny_pyNext_items_end_raw (I.ok.hd hc) he ⟨od, hgd, hx, hdt⟩ (by omega) fun h' eb => ⟨rfl, I.turned (t' := s.toks) (fun b ob hb e => eb b ob hb e) f0 f1 f3 f4 f5⟩
  self := fun A i s Q E st h => let ⟨_, _, e⟩ := st; PySem.W.kcp_self e h
end
def iLock (X : Cx) (td : TE) (Jt : Addr → Obj → List (List Key × V) → It) : TI := fun σ H R => td σ H fun x H1 => ∃ d kvs, x = .ref d ∧ ((H1 d = some (.dT kvs) ∧ ∀ od, (∀ o' u', X.H_0 d ≠ some (.frz o' u')) → R (Jt d od kvs) (upd H1 d (.frz od (.dT kvs)))) ∨ ∃ od, H1 d = some (.frz od (.dT kvs)) ∧ R (Jt d od kvs) H1)
section
variable {X : Cx} {tg e : Expr} {td : TE} {apos cpos : Pos}
theorem run_lock {pins : List (Addr × Obj)} {σ : L2.St} {s1 : Shared} {R : It → Hp → Prop} {H1 : Hp} {d : Addr} {kvs : List (List Key × V)} {Jt : Addr → Obj → List (List Key × V) → It} {W : Sem Value} (I1 : Inv X pins σ H1 s1)
    (q : (H1 d = some (.dT kvs) ∧ ∀ od, (∀ o' u', X.H_0 d ≠ some (.frz o' u')) → R (Jt d od kvs) (upd H1 d (.frz od (.dT kvs)))) ∨ ∃ od, H1 d = some (.frz od (.dT kvs)) ∧ R (Jt d od kvs) H1) {Q : Prop}
    (h : ∀ od H2, Inv X pins σ H2 s1 → H2 d = some (.frz od (.dT kvs)) → R (Jt d od kvs) H2 → Q) : Q := by
  rcases q with ⟨hd, q⟩ | ⟨od, hd, q⟩
  · have hn := I1.nofrz hd True.intro
    obtain ⟨od, I2⟩ := I1.lock hd True.intro
    exact h od _ I2 upd_same (q od hn)
  · exact h od _ I1 hd q
theorem pi_valuesT (he : PE X e td) (hbase : attributeBase e "values" X.env (eval e X.env) = eval e X.env := by rfl) (hline : (apos.endLine == cpos.line) = true := by rfl) : PI X tg (.Call (.Attribute e "values" apos) [] [] cpos) (iLock X td ItdT) := by
  refine ⟨fun pins s σ H R I h => ?_⟩
  refine wpAny_Call_method (T := "dict") (id := "dict.values") hbase rfl hline F.plainAttrs_dict F.slot_dict_values F.type_dict_values (thn (he.run pins s σ H _ I h) fun u s1 ⟨x, H1, I1, rx, d, kvs, ex, q⟩ => ?_)
  subst ex
  obtain rfl : u = Value.ref d := rx
  refine run_lock (W := pure .none) I1 q fun od H2 I2 hd q => ?_
  obtain ⟨hs, hgd, hx, es, ep, hdt, hsz, ent⟩ := frzT2 I2 hd
  have hm : s1.heap.DictRaw d es ep := ⟨od, hgd, hx, hdt⟩
  refine ⟨hm.typeIs, ?_, ?_⟩
  · intro a ha
    cases ha
    exact ⟨od, hgd, hx.2.1⟩
  have I3 : Inv X pins σ H2 { s1 with heap := s1.heap.push { cls := .type "dict_values", data := .fields #[.ref d] } } := I2.kept (t' := s1.toks) fun b ob q => Heap.get?_push_of_some _ q
  have fin : wpAny (model X.prog X.w) X.A (pyIter (.ref s1.heap.objs.size)) (PIE X pins σ tg R) X.xe { s1 with heap := s1.heap.push { cls := .type "dict_values", data := .fields #[.ref d] } } := by
    refine PySem.wpAny_pyIter_values_raw (d := d) ⟨_, Heap.get?_push_size _ rfl, rfl, rfl⟩ (hm.at fun o e => Heap.get?_push_of_some _ e) (pi_one (tk := s1.toks) I3 _ (turn_valsT _ hdt) ⟨_, Heap.get?_push_size _ rfl, rfl, ?_⟩ q)
    rw [hsz] <;> rfl
  show wpAny _ _ (callWith cpos (.builtin "dict.values") [.ref d] [] []) _ X.xe s1
  exact method_meetsIn F.slot_dict_values F.entry_dict_values rfl (PySem.evalArgs_none ⟨rfl, hm.typeIs, F.args_dict_values_1 _, _, PySem.meets_dict_values_raw d hs, ⟨es, ep, hm⟩, fin⟩)
theorem pi_itemsT {elts : List Expr} {kk : Nat} {tpos : Pos} (he : PE X e td) (hbase : attributeBase e "items" X.env (eval e X.env) = eval e X.env := by rfl) (hline : (apos.endLine == cpos.line) = true := by rfl) :
    PI X (.Tuple elts kk tpos) (.Call (.Attribute e "items" apos) [] [] cpos) (iLock X td ItiT) := by
  refine ⟨fun pins s σ H R I h => ?_⟩
  refine wpAny_Call_method (T := "dict") (id := "dict.items") hbase rfl hline F.plainAttrs_dict F.slot_dict_items F.type_dict_items (thn (he.run pins s σ H _ I h) fun u s1 ⟨x, H1, I1, rx, d, kvs, ex, q⟩ => ?_)
  subst ex
  obtain rfl : u = Value.ref d := rx
  refine run_lock (W := pure .none) I1 q fun od H2 I2 hd q => ?_
  obtain ⟨hs, hgd, hx, es, ep, hdt, hsz, ent⟩ := frzT2 I2 hd
  have hm : s1.heap.DictRaw d es ep := ⟨od, hgd, hx, hdt⟩
  refine ⟨hm.typeIs, ?_, ?_⟩
  · intro a ha
    cases ha
    exact ⟨od, hgd, hx.2.1⟩
  have I3 : Inv X pins σ H2 { s1 with heap := s1.heap.push { cls := .type "dict_items", data := .fields #[.ref d] } } := I2.kept (t' := s1.toks) fun b ob q => Heap.get?_push_of_some _ q
  have fin : wpAny (model X.prog X.w) X.A (pyIter (.ref s1.heap.objs.size)) (PIE X pins σ (.Tuple elts kk tpos) R) X.xe { s1 with heap := s1.heap.push { cls := .type "dict_items", data := .fields #[.ref d] } } := by
    refine PySem.wpAny_pyIter_items_raw (d := d) ⟨_, Heap.get?_push_size _ rfl, rfl, rfl⟩ (hm.at fun o e => Heap.get?_push_of_some _ e) (pi_one (tk := s1.toks) I3 _ (turn_itemsT _ hdt) ⟨.none, .none, ?_⟩ q)
    rw [← hsz]
    exact Heap.get?_push_size _ rfl
  show wpAny _ _ (callWith cpos (.builtin "dict.items") [.ref d] [] []) _ X.xe s1
  exact method_meetsIn F.slot_dict_items F.entry_dict_items rfl (PySem.evalArgs_none ⟨rfl, hm.typeIs, F.args_dict_items_1 _, _, PySem.meets_dict_items_raw d hs, ⟨es, ep, hm⟩, fin⟩)
end
/-- what the iterator over the locked dict at d yields -/
def YieldsL (S : Hp) (d : Addr) (od : Obj) (kvs : List (List Key × V)) (J : It) (ds : List Dt) : Prop := ∀ (S1 H1 : Hp), Le S S1 → Ex S1 H1 → H1 d = some (.frz od (.dT kvs)) → ∀ i,
  (i < ds.length → J.go i H1 ∧ ∀ x H2, J.yld i H1 x H2 → ∃ dd S2, ds[i]? = some dd ∧ Ex S2 H2 ∧ Le S1 S2 ∧ Rep S2 dd x ∧ (∀ a o, H1 a = some o → H2 a = some o) ∧ (∀ a, S2 a ≠ none → S1 a ≠ none ∨ H1 a = none)) ∧
  (i = ds.length → J.stop i H1)
theorem reps_keys {S : Hp} : ∀ (ks : List Key), Reps S (ks.map keyD) (ks.map kV)
  | [] => reps_nil.mpr rfl
  | k :: ks => reps_cons.mpr ⟨_, _, rfl, keyD_rep.mpr rfl, reps_keys ks⟩
def tupK (k : List Key) : Dt := .tup (k.map keyD)
section
variable {S : Hp} {d : Addr} {od : Obj} {kvs : List (List Key × V)} {l : List (List Key × Dt)}
theorem repT_get : ∀ {l : List (List Key × Dt)} {xs : List (List Key × V)} {i : Nat} {k : List Key} {v : V}, RepT S l xs → xs[i]? = some (k, v) → ∃ x, l[i]? = some (k, x) ∧ Rep S x v
  | [], _, i, k, v, h, e => by
    rw [repT_nil.mp h] at e
    simp at e
  | (j, y) :: l, _, 0, k, v, h, e => by
    obtain ⟨x, r, rfl, h1, h2⟩ := repT_cons.mp h
    simp at e
    obtain ⟨rfl, rfl⟩ := e
    exact ⟨y, rfl, h1⟩
  | (j, y) :: l, _, i + 1, k, v, h, e => by
    obtain ⟨x, r, rfl, h1, h2⟩ := repT_cons.mp h
    obtain ⟨x', q, q2⟩ := repT_get (i := i) h2 (by simpa using e)
    exact ⟨x', by simpa using q, q2⟩
theorem yields_valsT (hr : RepT S l kvs) : YieldsL S d od kvs (ItdT d od kvs) (l.map (·.2)) := fun S1 H1 le ex hd i => by
  rw [List.length_map, ← hr.lenEq]
  refine ⟨fun hi => ⟨⟨hd, hi⟩, fun x H2 hy => ?_⟩, fun hi => ⟨hd, by omega⟩⟩
  obtain ⟨rfl, k, hk⟩ := hy
  obtain ⟨y, e1, e2⟩ := repT_get hr hk
  exact ⟨y, S1, by rw [List.getElem?_map, e1]; rfl, ex, Le.refl _, Rep.mono le e2, fun _ _ z => z, fun _ z => .inl z⟩
end
/-! ### data without tuples -/
mutual
def noT : Dt → Bool
  | .lst l => noTs l
  | .tup _ => false
  | .dct l => noTK l
  | .dtt l => noTT l
  | .ins _ fs => noTF fs
  | _ => true
def noTs : List Dt → Bool
  | [] => true
  | d :: l => noT d && noTs l
def noTK : List (Key × Dt) → Bool
  | [] => true
  | (_, d) :: l => noT d && noTK l
def noTT : List (List Key × Dt) → Bool
  | [] => true
  | (_, d) :: l => noT d && noTT l
def noTF : List (Str × Dt) → Bool
  | [] => true
  | (_, d) :: l => noT d && noTF l
end
theorem noTs_ints (l : List Int) : noTs (l.map .int) = true := by
  induction l with
  | nil => rfl
  | cons x l ih => rw [List.map_cons, noTs, ih]; rfl
theorem noTT_ints {m : List (List Int × List Int)} : noTT (dttE encI m) = true := by
  induction m with
  | nil => rfl
  | cons x l ih =>
    rw [dttE, List.map_cons, noTT]
    rw [show noT (encI x.2) = noTs (x.2.map .int) from rfl, noTs_ints]
    exact ih
section
variable {S S' : Hp} {q : Addr} {ys : List V}
mutual
theorem rep_forget (hq : S q = some (.tup ys)) (hs : ∀ a, a ≠ q → S' a = S a) : ∀ {d : Dt} {v : V}, noT d = true → Rep S d v → Rep S' d v
  | .non, _, _, h => by simpa only [Rep] using h
  | .bl _, _, _, h => by simpa only [Rep] using h
  | .int _, _, _, h => by simpa only [Rep] using h
  | .str _, _, _, h => by simpa only [Rep] using h
  | .adr _, _, _, h => by simpa only [Rep] using h
  | .lst l, _, n, h => by
    simp only [Rep] at h ⊢
    obtain ⟨a, xs, h1, h2, h3⟩ := h
    exact ⟨a, xs, h1, by rw [hs a (fun e => by rw [e, hq] at h2; cases h2)]; exact h2, reps_forget hq hs (by simpa only [noT] using n) h3⟩
  | .tup l, _, n, h => by simp [noT] at n
  | .dct l, _, n, h => by
    simp only [Rep] at h ⊢
    obtain ⟨a, xs, h1, h2, h3⟩ := h
    exact ⟨a, xs, h1, by rw [hs a (fun e => by rw [e, hq] at h2; cases h2)]; exact h2, repK_forget hq hs (by simpa only [noT] using n) h3⟩
  | .dtt l, _, n, h => by
    simp only [Rep] at h ⊢
    obtain ⟨a, xs, h1, h2, h3⟩ := h
    exact ⟨a, xs, h1, by rw [hs a (fun e => by rw [e, hq] at h2; cases h2)]; exact h2, repT_forget hq hs (by simpa only [noT] using n) h3⟩
  | .ins C fs, _, n, h => by
    simp only [Rep] at h ⊢
    obtain ⟨a, dx, xs, h1, h2, h3⟩ := h
    exact ⟨a, dx, xs, h1, by rw [hs a (fun e => by rw [e, hq] at h2; cases h2)]; exact h2, repF_forget hq hs (by simpa only [noT] using n) h3⟩
theorem reps_forget (hq : S q = some (.tup ys)) (hs : ∀ a, a ≠ q → S' a = S a) : ∀ {l : List Dt} {xs : List V}, noTs l = true → Reps S l xs → Reps S' l xs
  | [], _, _, h => by simpa only [Reps] using h
  | d :: l, _, n, h => by
    simp only [Reps] at h ⊢
    simp only [noTs, Bool.and_eq_true] at n
    obtain ⟨x, r, h1, h2, h3⟩ := h
    exact ⟨x, r, h1, rep_forget hq hs n.1 h2, reps_forget hq hs n.2 h3⟩
theorem repK_forget (hq : S q = some (.tup ys)) (hs : ∀ a, a ≠ q → S' a = S a) : ∀ {l : List (Key × Dt)} {xs : List (Key × V)}, noTK l = true → RepK S l xs → RepK S' l xs
  | [], _, _, h => by simpa only [RepK] using h
  | (k, d) :: l, _, n, h => by
    simp only [RepK] at h ⊢
    simp only [noTK, Bool.and_eq_true] at n
    obtain ⟨x, r, h1, h2, h3⟩ := h
    exact ⟨x, r, h1, rep_forget hq hs n.1 h2, repK_forget hq hs n.2 h3⟩
theorem repT_forget (hq : S q = some (.tup ys)) (hs : ∀ a, a ≠ q → S' a = S a) : ∀ {l : List (List Key × Dt)} {xs : List (List Key × V)}, noTT l = true → RepT S l xs → RepT S' l xs
  | [], _, _, h => by simpa only [RepT] using h
  | (k, d) :: l, _, n, h => by
    simp only [RepT] at h ⊢
    simp only [noTT, Bool.and_eq_true] at n
    obtain ⟨x, r, h1, h2, h3⟩ := h
    exact ⟨x, r, h1, rep_forget hq hs n.1 h2, repT_forget hq hs n.2 h3⟩
theorem repF_forget (hq : S q = some (.tup ys)) (hs : ∀ a, a ≠ q → S' a = S a) : ∀ {l : List (Str × Dt)} {xs : List (Str × V)}, noTF l = true → RepF S l xs → RepF S' l xs
  | [], _, _, h => by simpa only [RepF] using h
  | (k, d) :: l, _, n, h => by
    simp only [RepF] at h ⊢
    simp only [noTF, Bool.and_eq_true] at n
    obtain ⟨x, r, h1, h2, h3⟩ := h
    exact ⟨x, r, h1, rep_forget hq hs n.1 h2, repF_forget hq hs n.2 h3⟩
end
end
def okI1 : Ob → Bool
  | .lst ds => noTs ds
  | .dct m => noTK m
  | .dtt m => noTT m
  | _ => false
def okI (ob : Obs) : Bool := ob.all okI1
def okS1 : Option R → Bool
  | some (.d x) => noT x
  | _ => true
def okIS (sl : Sls) : Bool := sl.all okS1
section
variable {K : PySem.W.Frag} {S S' H : Hp} {A : List Addr} {ob : Obs} {q : Addr} {ys : List V}
theorem okI1_own {c : Ob} {a : Addr} (h : okI1 c = true) (o : Own K S A H c a) : S a = none ∧ ∃ u, H a = some u ∧ ∀ xs, u ≠ .tup xs := by
  cases c with
  | lst ds => obtain ⟨h0, xs, h1, _⟩ := o; exact ⟨h0, _, h1, fun xs z => by cases z⟩
  | dct ds => obtain ⟨h0, xs, h1, _⟩ := o; exact ⟨h0, _, h1, fun xs z => by cases z⟩
  | dtt ds => obtain ⟨h0, xs, h1, _⟩ := o; exact ⟨h0, _, h1, fun xs z => by cases z⟩
  | _ => cases h
theorem okI_not (g : Good K S A H ob) (h : okI ob = true) (hq : H q = some (.tup ys)) : q ∉ A := fun m => by
  obtain ⟨i, hi⟩ := List.getElem?_of_mem m
  have hl : i < ob.length := by rw [← g.len]; exact (List.getElem?_eq_some_iff.mp hi).1
  have e2 : ob[i]? = some ob[i] := List.getElem?_eq_getElem hl
  obtain ⟨_, u, h1, h2⟩ := okI1_own (List.all_eq_true.mp h _ (List.getElem_mem hl)) (g.own i q _ hi e2)
  rw [hq] at h1
  cases h1
  exact h2 _ rfl
theorem okI_flat (h : okI ob = true) : ∀ c ∈ ob, flatO c = true := fun c hc => by
  have := List.all_eq_true.mp h c hc
  cases c <;> first | rfl | cases this
theorem Good.forget (g : Good K S A H ob) (h : okI ob = true) (hq : S q = some (.tup ys)) (hs : ∀ a, a ≠ q → S' a = S a) (hle : ∀ o, S' q = some o → S q = some o) (hn : q ∉ A) : Good K S' A H ob where
  ex := fun a o z => g.ex a o (by
    by_cases e : a = q
    · subst e; exact hle o z
    · rw [hs a e] at z; exact z)
  nd := g.nd
  len := g.len
  own := fun i a c h1 h2 => by
    have na : a ≠ q := fun e => hn (by rw [← e]; exact List.mem_of_getElem? h1)
    have ho := List.all_eq_true.mp h c (List.mem_of_getElem? h2)
    have o := g.own i a c h1 h2
    cases c with
    | lst ds => obtain ⟨h0, xs, e1, e2⟩ := o; exact ⟨by rw [hs a na]; exact h0, xs, e1, reps_forget hq hs ho e2⟩
    | dct ds => obtain ⟨h0, xs, e1, e2⟩ := o; exact ⟨by rw [hs a na]; exact h0, xs, e1, repK_forget hq hs ho e2⟩
    | dtt ds => obtain ⟨h0, xs, e1, e2⟩ := o; exact ⟨by rw [hs a na]; exact h0, xs, e1, repT_forget hq hs ho e2⟩
    | _ => cases ho
  here := g.here
theorem RelS.forget {sl : Sls} {σ : L2.St} (r : RelS S A sl σ) (h : okIS sl = true) (hq : S q = some (.tup ys)) (hs : ∀ a, a ≠ q → S' a = S a) : RelS S' A sl σ := ⟨fun i x e => by
  obtain ⟨v, h1, h2⟩ := r.get i x e
  have ho := List.all_eq_true.mp h _ (List.mem_of_getElem? e)
  refine ⟨v, h1, ?_⟩
  cases x with
  | d x => exact rep_forget hq hs ho h2
  | p k => exact h2, r.len⟩
end
section
variable {X : Cx} {S S' H H' : Hp} {A A' : List Addr} {d : Addr} {kvs : List (List Key × V)} {od : Obj} {D : Out} {D' : Ends} {ob : Obs}
theorem Good.relock {K : PySem.W.Frag} (g : Good K S A H ob) (hS : S d ≠ none) (hH : ∀ a, a ≠ d → H' a = H a) (ex : Ex S H') (hd : H' d ≠ none) : Good K S A H' ob where
  ex := ex
  nd := g.nd
  len := g.len
  own := fun i a c h1 h2 => (g.own i a c h1 h2).mono (Le.refl _) (List.prefix_refl _) (fun z => z) fun z o e => by
    rw [hH a fun q => by rw [q] at z; exact hS z]
    exact e
  here := fun a ha => by
    by_cases e : a = d
    · subst e; exact hd
    · rw [hH a e]; exact g.here a ha
theorem Step.unlock (hS : S d = some (.dT kvs)) (hH : H d = some (.dT kvs)) (st : Step S A (upd H d (.frz od (.dT kvs))) S' A' H') : Step S A H S' A' (upd H' d (.dT kvs)) where
  le := st.le
  pre := st.pre
  keep := fun a o h c => by
    by_cases e : a = d
    · subst e
      rw [hH] at h
      rw [upd_same, ← h]
    · rw [upd_ne e]
      exact st.keep a o (by rw [upd_ne e]; exact h) c
  new := fun a h => by
    by_cases e : a = d
    · subst e
      exact .inl (by rw [hS]; exact fun z => by cases z)
    · have := st.new a h
      rwa [upd_ne e] at this
theorem lock_N {K : PySem.W.Frag} {P : Obs → Sls → Prop} {Q : L2.St → Hp → Prop} (hS : S d = some (.dT kvs)) (hH : H d = some (.dT kvs)) (hn : ∀ o' u', X.H_0 d ≠ some (.frz o' u')) (en : EndN K S A H P Q) : EndN K S A (upd H d (.frz od (.dT kvs))) P (unlN (X := X) Q) := fun ob sl σ S1 A1 H1 h g r st => by
  have e1 : H1 d = some (.frz od (.dT kvs)) := st.keep d _ upd_same (.inr (by rw [hS]; exact fun z => by cases z))
  have s1 : S1 d = some (.dT kvs) := st.le d _ hS
  refine .inr ⟨d, od, _, e1, hn, en ob sl σ S1 A1 _ h (g.relock (d := d) (by rw [s1]; exact fun z => by cases z) (fun a na => upd_ne na) (fun a o z => ?_) (by rw [upd_same]; exact fun z => by cases z)) r (st.unlock hS hH)⟩
  by_cases e : a = d
  · subst e
    rw [s1] at z
    cases z
    exact .inl upd_same
  · rw [upd_ne e]
    exact g.ex a o z
theorem lock_E {K : PySem.W.Frag} {P : Post} {Q : VK} (hS : S d = some (.dT kvs)) (hH : H d = some (.dT kvs)) (hn : ∀ o' u', X.H_0 d ≠ some (.frz o' u')) (en : End K S A H P Q) : End K S A (upd H d (.frz od (.dT kvs))) P (unlV (X := X) Q) := fun r ob v S1 A1 H1 h g rr st => by
  have e1 : H1 d = some (.frz od (.dT kvs)) := st.keep d _ upd_same (.inr (by rw [hS]; exact fun z => by cases z))
  have s1 : S1 d = some (.dT kvs) := st.le d _ hS
  refine .inr ⟨d, od, _, e1, hn, en r ob v S1 A1 _ h (g.relock (d := d) (by rw [s1]; exact fun z => by cases z) (fun a na => upd_ne na) (fun a o z => ?_) (by rw [upd_same]; exact fun z => by cases z)) rr (st.unlock hS hH)⟩
  by_cases e : a = d
  · subst e
    rw [s1] at z
    cases z
    exact .inl upd_same
  · rw [upd_ne e]
    exact g.ex a o z
theorem lock_ends (hS : S d = some (.dT kvs)) (hH : H d = some (.dT kvs)) (hn : ∀ o' u', X.H_0 d ≠ some (.frz o' u')) (en : EndS X.K S A H D D') : EndS X.K S A (upd H d (.frz od (.dT kvs))) D (unlD X D') :=
  ⟨lock_N hS hH hn en.nx, lock_E hS hH hn en.rt, lock_N hS hH hn en.bk, lock_N hS hH hn en.ct⟩
theorem left_ends (en : EndS X.K S A H D D') : EndS X.K S A H D (unlD X D') :=
  ⟨fun _ _ _ _ _ _ h g r st => .inl (en.nx _ _ _ _ _ _ h g r st), fun _ _ _ _ _ _ h g r st => .inl (en.rt _ _ _ _ _ _ h g r st), fun _ _ _ _ _ _ h g r st => .inl (en.bk _ _ _ _ _ _ h g r st), fun _ _ _ _ _ _ h g r st => .inl (en.ct _ _ _ _ _ _ h g r st)⟩
theorem lock_good {K : PySem.W.Frag} (g : Good K S A H ob) (hS : S d = some (.dT kvs)) : Good K S A (upd H d (.frz od (.dT kvs))) ob :=
  g.relock (d := d) (by rw [hS]; exact fun z => by cases z) (fun a na => upd_ne na) (fun a o z => by
    by_cases e : a = d
    · subst e
      rw [hS] at z
      cases z
      exact .inr ⟨rfl, _, upd_same⟩
    · rw [upd_ne e]; exact g.ex a o z) (by rw [upd_same]; exact fun z => by cases z)
/-- from a data dict to the locked heap, and back at the ends -/
theorem lock_run {R : It → Hp → Prop} {Jt : Addr → Obj → List (List Key × V) → It} {D' : Ends} (g : Good X.K S A H ob) (hS : S d = some (.dT kvs)) (en : EndS X.K S A H D D')
    (h : ∀ od HL, HL d = some (.frz od (.dT kvs)) → Good X.K S A HL ob → EndS X.K S A HL D (unlD X D') → R (Jt d od kvs) HL) :
    (H d = some (.dT kvs) ∧ ∀ od, (∀ o' u', X.H_0 d ≠ some (.frz o' u')) → R (Jt d od kvs) (upd H d (.frz od (.dT kvs)))) ∨ ∃ od, H d = some (.frz od (.dT kvs)) ∧ R (Jt d od kvs) H := by
  rcases g.ex _ _ hS with z | ⟨_, od, z⟩
  · exact .inl ⟨z, fun od hn => h od _ upd_same (lock_good g hS) (lock_ends hS z hn en)⟩
  · exact .inr ⟨od, z, h od _ z g (left_ends en)⟩
end
section
variable {X : Cx} {e tg : Expr} {elts : List Expr} {body : List Stmt} {ob : Obs} {sl : Sls} {D : Out} {k kk : Nat} {pos tpos apos cpos : Pos}
def forR (X : Cx) (t : Tg) (body : List Stmt) (D2 : Ends) (σ : L2.St) : It → Hp → Prop := fun J H1 => ∃ W : Nat → Nat → L2.St → Hp → Prop, (∃ m, W 0 m σ H1) ∧ ∀ (i m : Nat) (σ : L2.St) (H : Hp), W i m σ H →
  (J.stop i H ∧ D2.nx σ H) ∨ (J.go i H ∧ ∃ N : L2.St → Hp → Prop, (∀ (σ' : L2.St) (H' : Hp), N σ' H' → ∃ m', m' < m ∧ W (i + 1) m' σ' H') ∧ ∀ (x : V) (H' : Hp), J.yld i H x H' → tgR X.K t x σ H' fun σ2 H2 => wpSs X body { nx := N, rt := D2.rt, bk := D2.nx, ct := N } σ2 H2)
/-- for x in d.values() -/
theorem ws_forV {t : Tg} (ct : Ct X k) (hg : PG X tg (tgR X.K t)) (hi : We X e ob sl fun r ob1 => ∃ l, r = .d (.dtt l) ∧ ∃ J : Nat → Obs → Sls → Prop, J 0 ob1 sl ∧
      (∀ i d ob2 sl2, (l.map (·.2))[i]? = some d → J i ob2 sl2 → ∃ sl3, bindT t d sl2 = some sl3 ∧ Wss X body ob2 sl3 { D with nx := J (i + 1), ct := J (i + 1), bk := D.nx }) ∧ ∀ ob2 sl2, J (l.map (·.2)).length ob2 sl2 → D.nx ob2 sl2)
    (hbase : attributeBase e "values" X.env (eval e X.env) = eval e X.env := by rfl) (hline : (apos.endLine == cpos.line) = true := by rfl)
    (hs : ∀ x, foldedSetIterable (.Call (.Attribute e "values" apos) [] [] cpos) X.env x = pure x := by intro _; rfl) : Ws X (.For tg (.Call (.Attribute e "values" apos) [] [] cpos) body [] pos) ob sl D := fun S A H σ D' g rs en => by
  refine wpS.of (ps_unl (ps_for ct.po ct.calm (pi_valuesT pe_wp hbase hline) hg pss_wp hs)) (hi S A H σ _ g rs fun r ob1 v S1 A1 H1 h1 g1 r1 st1 => ?_)
  obtain ⟨l, rfl, J, j0, turn, fin⟩ := h1
  obtain ⟨d, kvs, rfl, hS1, hkvs⟩ := rep_dtt.mp r1
  refine ⟨d, kvs, rfl, lock_run (R := forR X t body (unlD X D') σ) (Jt := ItdT) g1 hS1 (en.step st1) fun od HL hL gL enL => ?_⟩
  have ys := yields_valsT (d := d) (od := od) hkvs
  generalize l.map (·.2) = ds at ys turn fin
  refine ⟨fun i m σ' H' => m = ds.length - i ∧ i ≤ ds.length ∧ ∃ ob2 sl2 S2 A2, J i ob2 sl2 ∧ Good X.K S2 A2 H' ob2 ∧ RelS S2 A2 sl2 σ' ∧ Step S1 A1 HL S2 A2 H', ⟨_, rfl, Nat.zero_le _, ob1, sl, S1, A1, j0, gL, rs.step st1, Step.refl⟩, ?_⟩
  rintro i m σ' H' ⟨rfl, hi, ob2, sl2, S2, A2, j2, g2, rs2, st2⟩
  obtain ⟨yg, yst⟩ := ys S2 H' st2.le g2.ex (st2.keep d _ hL (.inr (by rw [hS1]; exact fun z => by cases z))) i
  by_cases hlt : i < ds.length
  · obtain ⟨go, yn⟩ := yg hlt
    refine .inr ⟨go, fun σ' H' => ∃ ob2 sl2 S2 A2, J (i + 1) ob2 sl2 ∧ Good X.K S2 A2 H' ob2 ∧ RelS S2 A2 sl2 σ' ∧ Step S1 A1 HL S2 A2 H', fun σ' H' q => ⟨ds.length - (i + 1), by omega, rfl, hlt, q⟩, fun x H3 hy => ?_⟩
    obtain ⟨dd, S3, hd, ex3, le3, rx, kp3, nw3⟩ := yn x H3 hy
    have g3 : Good X.K S3 A2 H3 ob2 := g2.ext ex3 le3 kp3 nw3
    have st3 : Step S2 A2 H' S3 A2 H3 := Step.ext le3 kp3 nw3
    obtain ⟨sl3, hb, hbody⟩ := turn i dd ob2 sl2 hd j2
    refine bindT_ok (vs := []) g3.ex t dd _ sl3 _ x _ hb (rs2.step st3) rx (.inr trivial) fun σ4 rs4 _ => ?_
    refine hbody S3 A2 H3 σ4 _ g3 rs4 ⟨?_, enL.rt.step (st2.trans st3), enL.nx.step (st2.trans st3), ?_⟩
    · exact fun ob5 sl5 σ5 S5 A5 H5 h5 g5 r5 st5 => ⟨ob5, sl5, S5, A5, h5, g5, r5, (st2.trans st3).trans st5⟩
    · exact fun ob5 sl5 σ5 S5 A5 H5 h5 g5 r5 st5 => ⟨ob5, sl5, S5, A5, h5, g5, r5, (st2.trans st3).trans st5⟩
  · have e : i = ds.length := by omega
    subst e
    exact .inl ⟨yst rfl, enL.nx _ _ _ _ _ _ (fin ob2 sl2 j2) g2 rs2 st2⟩
/-- for k, x in d.items(): the turns leave neither tuples nor what they made behind -/
theorem ws_forI {t : Tg} (n : Nat) (ct : Ct X k) (hg : PG X (.Tuple elts kk tpos) (tgR X.K t)) (hi : We X e ob sl fun r ob1 => ∃ l, r = .d (.dtt l) ∧ ob1.length = n ∧ okI ob1 = true ∧ ∃ J : Nat → Obs → Sls → Prop, J 0 ob1 sl ∧
      (∀ i kd ob2 sl2, l[i]? = some kd → J i ob2 sl2 → ∃ sl3, bindT t (.tup [tupK kd.1, kd.2]) sl2 = some sl3 ∧ Wss X body ob2 sl3 { nx := fun ob5 sl5 => ∃ ob6 sl6, ob6 = ob5.take n ∧ okI ob6 = true ∧ dropS n sl5 sl6 ∧ okIS sl6 = true ∧ J (i + 1) ob6 sl6, rt := fun _ _ => False }) ∧ ∀ ob2 sl2, J l.length ob2 sl2 → D.nx ob2 sl2)
    (hbase : attributeBase e "items" X.env (eval e X.env) = eval e X.env := by rfl) (hline : (apos.endLine == cpos.line) = true := by rfl)
    (hs : ∀ x, foldedSetIterable (.Call (.Attribute e "items" apos) [] [] cpos) X.env x = pure x := by intro _; rfl) : Ws X (.For (.Tuple elts kk tpos) (.Call (.Attribute e "items" apos) [] [] cpos) body [] pos) ob sl D := fun S A H σ D' g rs en => by
  refine wpS.of (ps_unl (ps_for ct.po ct.calm (pi_itemsT pe_wp hbase hline) hg pss_wp hs)) (hi S A H σ _ g rs fun r ob1 v S1 A1 H1 h1 g1 r1 st1 => ?_)
  obtain ⟨l, rfl, hn, hok1, J, j0, turn, fin⟩ := h1
  obtain ⟨d, kvs, rfl, hS1, hkvs⟩ := rep_dtt.mp r1
  refine ⟨d, kvs, rfl, lock_run (R := forR X t body (unlD X D') σ) (Jt := ItiT) g1 hS1 (en.step st1) fun od HL hL gL enL => ?_⟩
  have hle : kvs.length = l.length := hkvs.lenEq
  have hA1 : A1.length = n := by rw [g1.len, hn]
  refine ⟨fun i m σ' H' => m = l.length - i ∧ i ≤ l.length ∧ ∃ ob2 sl2 S2 A2, J i ob2 sl2 ∧ okI ob2 = true ∧ A2.length = n ∧ Good X.K S2 A2 H' ob2 ∧ RelS S2 A2 sl2 σ' ∧ Step S1 A1 HL S2 A2 H', ⟨_, rfl, Nat.zero_le _, ob1, sl, S1, A1, j0, hok1, hA1, gL, rs.step st1, Step.refl⟩, ?_⟩
  rintro i m σ' H' ⟨rfl, hi, ob2, sl2, S2, A2, j2, ok2, hA2, g2, rs2, st2⟩
  have hdL : H' d = some (.frz od (.dT kvs)) := st2.keep d _ hL (.inr (by rw [hS1]; exact fun z => by cases z))
  by_cases hlt : i < l.length
  · refine .inr ⟨⟨hdL, by rw [hle]; exact hlt⟩, fun σ' H' => ∃ ob2 sl2 S2 A2, J (i + 1) ob2 sl2 ∧ okI ob2 = true ∧ A2.length = n ∧ Good X.K S2 A2 H' ob2 ∧ RelS S2 A2 sl2 σ' ∧ Step S1 A1 HL S2 A2 H', fun σ' H' q => ⟨l.length - (i + 1), by omega, rfl, hlt, q⟩, ?_⟩
    rintro x H3 ⟨T, kx, v, q, hkv, rfl, hT, hq, rfl⟩
    obtain ⟨dd, hdd, rdd⟩ := repT_get hkvs hkv
    have nqA : q ∉ A2 := okI_not g2 ok2 hq
    have s2q : ∀ o, S2 q = some o → o = .tup (kx.map kV) := fun o z => by
      rcases g2.ex q o z with w | ⟨w, u, w2⟩
      · rw [hq] at w; cases w; rfl
      · rw [hq] at w2; cases w2
    have le2 : Le S2 (upd S2 q (.tup (kx.map kV))) := fun a o z => by
      by_cases e : a = q
      · subst e
        rw [upd_same, s2q o z]
      · rw [upd_ne e]; exact z
    have g2q : Good X.K (upd S2 q (.tup (kx.map kV))) A2 H' ob2 := ⟨fun a o z => by
      by_cases e : a = q
      · subst e
        rw [upd_same] at z
        cases z
        exact .inl hq
      · rw [upd_ne e] at z
        exact g2.ex a o z, g2.nd, g2.len, fun j a c e1 e2 => (g2.own j a c e1 e2).mono le2 (List.prefix_refl _) (fun z => by
          rw [upd_ne fun e => nqA (by rw [← e]; exact List.mem_of_getElem? e1)]
          exact z) fun _ o z => z, g2.here⟩
    have nqT : q ≠ T := fun e => by rw [e, hT] at hq; cases hq
    have sT : (upd S2 q (.tup (kx.map kV))) T = none := g2q.ex.fresh hT
    have g3 := g2q.newD (o := .tup [.ref q, v]) hT
    have st3 : Step (upd S2 q (.tup (kx.map kV))) A2 H' _ A2 _ := Step.newD (o := .tup [.ref q, v]) hT sT
    have rx : Rep (upd (upd S2 q (.tup (kx.map kV))) T (.tup [.ref q, v])) (.tup [tupK kx, dd]) (.ref T) := by
      refine rep_tup.mpr ⟨T, _, rfl, upd_same, reps_cons.mpr ⟨_, _, rfl, rep_tup.mpr ⟨q, kx.map kV, rfl, by rw [upd_ne nqT, upd_same], ?_⟩, Reps.one (Rep.mono (Le.trans (Le.trans st2.le le2) (Le.new sT)) rdd)⟩⟩
      exact reps_keys kx
    obtain ⟨sl3, hb, hbody⟩ := turn i (kx, dd) ob2 sl2 hdd j2
    refine bindT_ok (vs := []) g3.ex t _ _ sl3 _ _ _ hb ((rs2.mono' le2).step st3) rx (.inr trivial) fun σ4 rs4 _ => ?_
    refine hbody _ A2 _ σ4 _ g3 rs4 ⟨?_, fun _ _ _ _ _ _ z => z.elim, fun _ _ _ _ _ _ z => z.elim, fun _ _ _ _ _ _ z => z.elim⟩
    rintro ob5 sl5 σ5 S5 A5 H5 ⟨ob6, sl6, rfl, hok6, hdr, hoks, hJ⟩ g5 r5 st5
    have g6 := g5.drop (okI_flat hok6)
    have r6 := r5.drop hdr
    have st6 : Step (upd S2 q (.tup (kx.map kV))) A2 H' S5 (A5.take n) H5 := (st3.trans st5).drop hA2
    have s5q : S5 q = some (.tup (kx.map kV)) := st6.le q _ upd_same
    have h5q : H5 q = some (.tup (kx.map kV)) := st6.keep q _ hq (.inl nqA)
    have nq5 : q ∉ A5.take n := okI_not g6 hok6 h5q
    have hsA : ∀ a, a ≠ q → (fun a => if a = q then S2 q else S5 a) a = S5 a := fun a na => if_neg na
    have g7 := Good.forget (S' := fun a => if a = q then S2 q else S5 a) g6 hok6 s5q hsA (fun o z => by
      have z2 : S2 q = some o := by simpa using z
      rw [s5q, s2q o z2]) nq5
    have r7 := RelS.forget (S' := fun a => if a = q then S2 q else S5 a) r6 hoks s5q hsA
    refine ⟨_, _, _, A5.take n, hJ, hok6, ?_, g7, r7, st2.trans ⟨fun a o z => ?_, st6.pre, fun a o z c => ?_, fun a z => ?_⟩⟩
    · have h1 := st5.pre.length_le
      rw [List.length_take]
      omega
    · show (if a = q then S2 q else S5 a) = some o
      by_cases e : a = q
      · rw [if_pos e, ← e]; exact z
      · rw [if_neg e]
        exact st6.le a o (by rw [upd_ne e]; exact z)
    · refine st6.keep a o z (c.imp id fun c => ?_)
      by_cases e : a = q
      · subst e
        rw [upd_same]
        exact fun w => by cases w
      · rw [upd_ne e]; exact c
    · by_cases e : a = q
      · subst e
        rcases z with z | z
        · exact .inl (by simpa using z)
        · exact (nq5 z).elim
      · have := st6.new a (z.imp (fun z => by simpa [e] using z) id)
        rwa [upd_ne e] at this
  · have e : i = l.length := by omega
    subst e
    exact .inl ⟨⟨hdL, by omega⟩, enL.nx _ _ _ _ _ _ (fin ob2 sl2 j2) g2 rs2 st2⟩
end
/-! ### t + u of tuples -/
section
variable {X : Cx} {a b : Expr} {pos : Pos} {ob : Obs} {sl : Sls} {P : Post}
theorem we_addT (h : We X a ob sl fun r1 ob1 => We X b ob1 sl fun r2 ob2 => ∃ l m, r1 = .d (.tup l) ∧ r2 = .d (.tup m) ∧ l.length + m.length ≤ sizeLine ∧ P (.d (.tup (l ++ m))) ob2) : We X (.BinOp a .Add b pos) ob sl P := by
  refine we_op op_catA (h.mono fun r1 ob1 h1 => h1.mono fun r2 ob2 h2 S A H x y Q g q1 q2 en => ?_)
  obtain ⟨l, m, rfl, rfl, hz, h2⟩ := h2
  obtain ⟨p, xs, rfl, e1, e2⟩ := rep_tup.mp q1
  obtain ⟨q, ys, rfl, e3, e4⟩ := rep_tup.mp q2
  refine ⟨p, q, xs, ys, rfl, rfl, SqT.of (g.ex.at e1 rfl), SqT.of (g.ex.at e3 rfl), by rw [e2.length, e4.length]; exact hz, fun z => ?_, fun _ z => ?_, fun _ _ t ht => ?_⟩
  · subst z
    have : l = [] := List.eq_nil_of_length_eq_zero (by rw [← e2.length]; rfl)
    subst this
    exact en _ _ _ _ _ _ h2 g (rep_tup.mpr ⟨q, ys, rfl, e3, e4⟩) Step.refl
  · subst z
    have : m = [] := List.eq_nil_of_length_eq_zero (by rw [← e4.length]; rfl)
    subst this
    rw [List.append_nil] at h2
    exact en _ _ _ _ _ _ h2 g (rep_tup.mpr ⟨p, xs, rfl, e1, e2⟩) Step.refl
  · have hs := g.ex.fresh ht
    exact en _ _ _ _ _ _ h2 (g.newD ht) (rep_tup.mpr ⟨t, xs ++ ys, rfl, upd_same, (e2.append e4).mono (Le.new hs)⟩) (Step.newD ht hs)
end
theorem tupK_kT (ks : List Int) : tupK (kT ks) = encT ks := by
  unfold tupK kT
  rw [List.map_map]
  rfl
section
variable {X : Cx} {a b : Expr} {pos : Pos} {ob : Obs} {sl : Sls} {B : Bool → Obs → Prop} {k : Nat} {α : Type}
theorem wt_inT (enc : α → Dt) (ct : Ct X k) (h : We X a ob sl fun r1 ob1 => We X b ob1 sl fun r2 ob2 => inTP2 enc false ob2 (asT B) r1 r2) (hm : behindInMarks .In b = false := by rfl) : Wt X (.Compare a [.In] [b] pos) ob sl B := fun S A H σ Q g rs en => by
  refine wpT.of (pt_cmp (pc_din (hu_of ct.room) pe_wp pe_wp) hm) (h S A H σ _ g rs fun r1 ob1 x S1 A1 H1 h1 g1 q1 st1 => h1 S1 A1 H1 σ _ g1 (rs.step st1) fun r2 ob2 y S2 A2 H2 h2 g2 q2 st2 => ?_)
  obtain ⟨ks, m, rfl, hl, c, hc, hk⟩ := h2
  obtain ⟨p, o, rfl, e1, e2, _⟩ := dget_of (r2 := r2) hl g2 q2 (q1.step st2)
  refine ⟨p, o, rfl, e1, _, rfl, ?_⟩
  rw [e2]
  cases hc
  exact en _ _ _ _ _ hk g2 (st1.trans st2)
end
end DL


/-! DL: owned lists and tuples of them are lent to a call as data, and new ones come back as owned. -/
namespace DL
open PySem L2
def lendB : Ob → Bool
  | .lst _ => true
  | .tpl _ => true
  | _ => false
def LLof : List Addr → List Ob → List Addr
  | a :: A, c :: ob => if lendB c = true then a :: LLof A ob else LLof A ob
  | _, _ => []
theorem mem_LL : ∀ {A : List Addr} {ob : List Ob} {a : Addr}, a ∈ LLof A ob → ∃ (k : Nat) (c : Ob), A[k]? = some a ∧ ob[k]? = some c ∧ lendB c = true
  | [], _, a, h => by cases h
  | b :: A, [], a, h => by cases h
  | b :: A, c :: ob, a, h => by
    unfold LLof at h
    by_cases q : lendB c = true
    · rw [if_pos q] at h
      rcases List.mem_cons.mp h with e | h
      · subst e
        exact ⟨0, c, rfl, rfl, q⟩
      · obtain ⟨k, c', h1, h2, h3⟩ := mem_LL h
        exact ⟨k + 1, c', by simpa using h1, by simpa using h2, h3⟩
    · rw [if_neg q] at h
      obtain ⟨k, c', h1, h2, h3⟩ := mem_LL h
      exact ⟨k + 1, c', by simpa using h1, by simpa using h2, h3⟩
theorem LL_mem : ∀ {A : List Addr} {ob : List Ob} {k : Nat} {a : Addr} {c : Ob}, A[k]? = some a → ob[k]? = some c → lendB c = true → a ∈ LLof A ob
  | [], _, k, a, c, h, _, _ => by simp at h
  | b :: A, [], k, a, c, _, h, _ => by simp at h
  | b :: A, d :: ob, 0, a, c, h1, h2, h3 => by
    simp at h1 h2
    subst h1 h2
    unfold LLof
    rw [if_pos h3]
    exact List.mem_cons_self
  | b :: A, d :: ob, k + 1, a, c, h1, h2, h3 => by
    have := LL_mem (A := A) (ob := ob) (k := k) (by simpa using h1) (by simpa using h2) h3
    unfold LLof
    by_cases q : lendB d = true
    · rw [if_pos q]; exact List.mem_cons_of_mem _ this
    · rw [if_neg q]; exact this
def lendS (S : Hp) (L : List Addr) (H : Hp) : Hp := fun a => match S a with
  | some o => some o
  | none => if a ∈ L then H a else none
theorem lendS_some {S H : Hp} {L : List Addr} {a : Addr} {o : HO} (h : S a = some o) : lendS S L H a = some o := by unfold lendS; rw [h]
theorem lendS_in {S H : Hp} {L : List Addr} {a : Addr} (h : S a = none) (m : a ∈ L) : lendS S L H a = H a := by unfold lendS; rw [h]; simp only [if_pos m]
theorem lendS_out {S H : Hp} {L : List Addr} {a : Addr} (m : a ∉ L) : lendS S L H a = S a := by
  unfold lendS
  cases S a with
  | some o => rfl
  | none => simp only [if_neg m]
theorem Le.lend (S H : Hp) (L : List Addr) : Le S (lendS S L H) := fun a o h => lendS_some h
section
variable {K : PySem.W.Frag} {S S1 H H1 : Hp} {A A1 : List Addr} {ob ob0 : List Ob} {r : R} {v : V} {x : Dt} {P : Post} {Q : VK}
theorem LL_none (g : Good K S A H ob) {a : Addr} (h : a ∈ LLof A ob) : S a = none := by
  obtain ⟨k, c, h1, h2, h3⟩ := mem_LL h
  have o := g.own k a c h1 h2
  cases c with
  | lst ds => exact o.1
  | tpl rs => exact o.1
  | _ => cases h3
theorem lend_ex (g : Good K S A H ob) : Ex (lendS S (LLof A ob) H) H := fun a o h => by
  cases e : S a with
  | some u =>
    rw [lendS_some e] at h
    exact g.ex a o (by rw [e]; exact h)
  | none =>
    by_cases m : a ∈ LLof A ob
    · rw [lendS_in e m] at h
      exact .inl h
    · rw [lendS_out m, e] at h
      cases h
/-- an owned thing as data: a list, or a tuple of such -/
def dtP (ob : Obs) : R → Option Dt
  | .d x => some x
  | .p k => match ob[k]? with
    | some (.lst l) => some (.lst l)
    | some (.frz x) => some x
    | _ => none
def dtPs (ob : Obs) : List R → Option (List Dt)
  | [] => some []
  | r :: rs => match dtP ob r, dtPs ob rs with
    | some d, some ds => some (d :: ds)
    | _, _ => none
def dtL (ob : Obs) : R → Option Dt
  | .d x => some x
  | .p k => match ob[k]? with
    | some (.lst l) => some (.lst l)
    | some (.frz x) => some x
    | some (.tpl rs) => match dtPs ob rs with
      | some ds => some (.tup ds)
      | none => none
    | _ => none
def dtLs (ob : Obs) : List R → Option (List Dt)
  | [] => some []
  | r :: rs => match dtL ob r, dtLs ob rs with
    | some d, some ds => some (d :: ds)
    | _, _ => none
theorem dtP_rep (g : Good K S A H ob) (h : dtP ob r = some x) (q : RelR S A r v) : Rep (lendS S (LLof A ob) H) x v := by
  cases r with
  | d y =>
    cases h
    exact Rep.mono (Le.lend _ _ _) q
  | p k =>
    obtain ⟨p, hp, rfl⟩ := q
    unfold dtP at h
    cases e : ob[k]? with
    | none => simp only [e] at h; cases h
    | some c =>
      simp only [e] at h
      have o := g.own k p c hp e
      cases c with
      | lst l =>
        cases h
        obtain ⟨s0, xs, h1, h2⟩ := o
        exact rep_lst.mpr ⟨p, xs, rfl, by rw [lendS_in s0 (LL_mem hp e rfl)]; exact h1, h2.mono (Le.lend _ _ _)⟩
      | frz y =>
        cases h
        exact Rep.mono (Le.lend _ _ _) o
      | _ => cases h
theorem dtPs_rep (g : Good K S A H ob) : ∀ {rs : List R} {ds : List Dt} {vs : List V}, dtPs ob rs = some ds → RelRs S A rs vs → Reps (lendS S (LLof A ob) H) ds vs
  | [], ds, vs, h, q => by
    cases h
    rw [relRs_nil.mp q]
    exact reps_nil.mpr rfl
  | r :: rs, ds, vs, h, q => by
    obtain ⟨w, t, rfl, q1, q2⟩ := relRs_cons.mp q
    unfold dtPs at h
    cases e1 : dtP ob r with
    | none => simp only [e1] at h; cases h
    | some d =>
      cases e2 : dtPs ob rs with
      | none => simp only [e1, e2] at h; cases h
      | some l =>
        simp only [e1, e2] at h
        cases h
        exact reps_cons.mpr ⟨w, t, rfl, dtP_rep g e1 q1, dtPs_rep g e2 q2⟩
theorem dtL_rep (g : Good K S A H ob) (h : dtL ob r = some x) (q : RelR S A r v) : Rep (lendS S (LLof A ob) H) x v := by
  cases r with
  | d y =>
    cases h
    exact Rep.mono (Le.lend _ _ _) q
  | p k =>
    cases e : ob[k]? with
    | none => simp only [dtL, e] at h; cases h
    | some c =>
      have hq := q
      obtain ⟨p, hp, rfl⟩ := q
      have o := g.own k p c hp e
      cases c with
      | lst l =>
        simp only [dtL, e] at h
        exact dtP_rep g (r := .p k) (by simp only [dtP, e]; exact h) hq
      | frz y =>
        simp only [dtL, e] at h
        exact dtP_rep g (r := .p k) (by simp only [dtP, e]; exact h) hq
      | tpl rs =>
        simp only [dtL, e] at h
        cases e2 : dtPs ob rs with
        | none => simp only [e2] at h; cases h
        | some ds =>
          simp only [e2] at h
          cases h
          obtain ⟨s0, xs, h1, h2⟩ := o
          exact rep_tup.mpr ⟨p, xs, rfl, by rw [lendS_in s0 (LL_mem hp e rfl)]; exact h1, dtPs_rep g e2 h2⟩
      | _ => simp only [dtL, e] at h; cases h
theorem dtLs_rep (g : Good K S A H ob) : ∀ {rs : List R} {ds : List Dt} {vs : List V}, dtLs ob rs = some ds → RelRs S A rs vs → Reps (lendS S (LLof A ob) H) ds vs
  | [], ds, vs, h, q => by
    cases h
    rw [relRs_nil.mp q]
    exact reps_nil.mpr rfl
  | r :: rs, ds, vs, h, q => by
    obtain ⟨w, t, rfl, q1, q2⟩ := relRs_cons.mp q
    unfold dtLs at h
    cases e1 : dtL ob r with
    | none => simp only [e1] at h; cases h
    | some d =>
      cases e2 : dtLs ob rs with
      | none => simp only [e1, e2] at h; cases h
      | some l =>
        simp only [e1, e2] at h
        cases h
        exact reps_cons.mpr ⟨w, t, rfl, dtL_rep g e1 q1, dtLs_rep g e2 q2⟩
/-- what stands behind the call, without what was lent -/
def cutL (S1 : Hp) (L : List Addr) : Hp := fun a => if a ∈ L then none else S1 a
theorem cutL_good (g : Good K S A H ob) (g1 : Good K S1 A1 H1 ob0) (st1 : Step (lendS S (LLof A ob) H) [] H S1 A1 H1) : Good K (cutL S1 (LLof A ob)) A H1 ob ∧ Step S A H (cutL S1 (LLof A ob)) A H1 := by
  have kp : ∀ a o, H a = some o → H1 a = some o := fun a o q => st1.keep a o q (.inl List.not_mem_nil)
  have nw : ∀ a, a ∉ LLof A ob → S1 a ≠ none → S a ≠ none ∨ H a = none := fun a m z => by
    rcases st1.new a (.inl z) with z | z | z
    · rw [lendS_out m] at z
      exact .inl z
    · exact absurd z List.not_mem_nil
    · exact .inr z
  have le : Le S (cutL S1 (LLof A ob)) := fun a o q => by
    unfold cutL
    rw [if_neg fun m => by rw [LL_none g m] at q; cases q]
    exact st1.le a o (lendS_some q)
  have le1 : Le (cutL S1 (LLof A ob)) S1 := fun a o q => by
    unfold cutL at q
    by_cases c : a ∈ LLof A ob
    · rw [if_pos c] at q; cases q
    · rw [if_neg c] at q; exact q
  refine ⟨⟨g1.ex.le le1, g.nd, g.len, fun m a c e1 e2 => (g.own m a c e1 e2).mono le (List.prefix_refl A) (fun z => ?_) (fun _ o q => kp a o q), fun a ha z => ?_⟩, ⟨le, List.prefix_refl A, fun a o q _ => kp a o q, fun a z => ?_⟩⟩
  · unfold cutL
    by_cases c : a ∈ LLof A ob
    · rw [if_pos c]
    · rw [if_neg c]
      cases q : S1 a with
      | none => rfl
      | some o =>
        rcases nw a c (by rw [q]; exact fun w => by cases w) with w | w
        · exact (w z).elim
        · exact (g.here a (List.mem_of_getElem? e1) w).elim
  · cases q : H a with
    | none => exact g.here a ha q
    | some o => rw [kp a o q] at z; cases z
  · rcases z with z | z
    · unfold cutL at z
      by_cases c : a ∈ LLof A ob
      · rw [if_pos c] at z; exact (z rfl).elim
      · rw [if_neg c] at z
        rcases nw a c z with w | w
        · exact .inl w
        · exact .inr (.inr w)
    · exact .inr (.inl z)
theorem Good.more {ps : List Addr} {cs : List Ob} (g : Good K S A H ob) (nd : (A ++ ps).Nodup) (hl : ps.length = cs.length) (own : ∀ (k : Nat) (a : Addr) (c : Ob), ps[k]? = some a → cs[k]? = some c → Own K S (A ++ ps) H c a) (here : ∀ a ∈ ps, H a ≠ none) : Good K S (A ++ ps) H (ob ++ cs) where
  ex := g.ex
  nd := nd
  len := by rw [List.length_append, List.length_append, g.len, hl]
  own := fun k a c e1 e2 => by
    by_cases hi : k < A.length
    · rw [List.getElem?_append_left hi] at e1
      rw [List.getElem?_append_left (by rw [← g.len]; exact hi)] at e2
      exact (g.own k a c e1 e2).mono (Le.refl _) (List.prefix_append A ps) (fun z => z) fun _ _ z => z
    · rw [List.getElem?_append_right (by omega)] at e1
      rw [List.getElem?_append_right (by rw [← g.len]; omega), ← g.len] at e2
      exact own _ a c e1 e2
  here := fun a ha => by
    rcases List.mem_append.mp ha with z | z
    · exact g.here a z
    · exact here a z
theorem Step.more {ps : List Addr} (st : Step S A H S1 A H1) (h : ∀ p ∈ ps, H p = none) : Step S A H S1 (A ++ ps) H1 :=
  ⟨st.le, List.prefix_append A ps, st.keep, fun a z => by
    rcases z with z | z
    · exact st.new a (.inl z)
    · rcases List.mem_append.mp z with z | z
      · exact .inr (.inl z)
      · exact .inr (.inr (h a z))⟩
theorem reps_scs : ∀ {ds : List Dt} {xs : List V}, ds.all Dt.sc = true → Reps S ds xs → ∀ S', Reps S' ds xs
  | [], xs, _, h, S' => by rw [reps_nil.mp h]; exact reps_nil.mpr rfl
  | d :: ds, xs, a, h, S' => by
    rw [List.all_cons, Bool.and_eq_true] at a
    obtain ⟨x, t, rfl, h1, h2⟩ := reps_cons.mp h
    exact reps_cons.mpr ⟨x, t, rfl, Rep.sc a.1 h1 S', reps_scs a.2 h2 S'⟩
/-- what comes back: a scalar, a new list, a new tuple of new lists -/
def retL (ob : Obs) (P : Post) : Post := fun r ob0 =>
  (∃ x, r = .d x ∧ x.sc = true ∧ P (.d x) ob) ∨
  (∃ k ds, r = .p k ∧ ob0[k]? = some (.lst ds) ∧ ds.all Dt.sc = true ∧ P (.p ob.length) (ob ++ [.lst ds])) ∨
  (∃ k i j a b, r = .p k ∧ ob0[k]? = some (.tpl [.p i, .p j]) ∧ i ≠ j ∧ ob0[i]? = some (.lst a) ∧ ob0[j]? = some (.lst b) ∧ a.all Dt.sc = true ∧ b.all Dt.sc = true ∧
    P (.p (ob.length + 2)) (ob ++ [.lst a, .lst b, .tpl [.p ob.length, .p (ob.length + 1)]])) ∨
  (∃ k i j m a b c, r = .p k ∧ ob0[k]? = some (.tpl [.p i, .p j, .p m]) ∧ i ≠ j ∧ i ≠ m ∧ j ≠ m ∧ ob0[i]? = some (.lst a) ∧ ob0[j]? = some (.lst b) ∧ ob0[m]? = some (.lst c) ∧ a.all Dt.sc = true ∧ b.all Dt.sc = true ∧ c.all Dt.sc = true ∧
    P (.p (ob.length + 3)) (ob ++ [.lst a, .lst b, .lst c, .tpl [.p ob.length, .p (ob.length + 1), .p (ob.length + 2)]]))
/-- a new list of the call's: its address is new, and it can be owned -/
theorem new_lst {L : List Addr} (g : Good K S A H ob) (g1 : Good K S1 A1 H1 ob0) (st1 : Step (lendS S L H) [] H S1 A1 H1) {k : Nat} {p : Addr} {ds : List Dt} (hp : A1[k]? = some p) (hk : ob0[k]? = some (.lst ds)) (sc : ds.all Dt.sc = true) : H p = none ∧ p ∉ A ∧ S1 p = none ∧ ∃ xs, H1 p = some (.lst xs) ∧ ∀ S', Reps S' ds xs := by
  obtain ⟨s0, xs, h1, h2⟩ := g1.own k p _ hp hk
  have hn : H p = none := by
    rcases st1.new p (.inr (List.mem_of_getElem? hp)) with z | z | z
    · exact (z (st1.le.back s0)).elim
    · exact absurd z List.not_mem_nil
    · exact z
  exact ⟨hn, fun z => g.here p z hn, s0, xs, h1, reps_scs sc h2⟩
theorem new_tpl {L : List Addr} (g : Good K S A H ob) (g1 : Good K S1 A1 H1 ob0) (st1 : Step (lendS S L H) [] H S1 A1 H1) {k : Nat} {p : Addr} {rs : List R} (hp : A1[k]? = some p) (hk : ob0[k]? = some (.tpl rs)) : H p = none ∧ p ∉ A ∧ S1 p = none ∧ ∃ xs, H1 p = some (.tup xs) ∧ RelRs S1 A1 rs xs := by
  obtain ⟨s0, xs, h1, h2⟩ := g1.own k p _ hp hk
  have hn : H p = none := by
    rcases st1.new p (.inr (List.mem_of_getElem? hp)) with z | z | z
    · exact (z (st1.le.back s0)).elim
    · exact absurd z List.not_mem_nil
    · exact z
  exact ⟨hn, fun z => g.here p z hn, s0, xs, h1, h2⟩
theorem relRs_len : ∀ {rs : List R} {vs : List V}, RelRs S A rs vs → rs.length = vs.length
  | [], vs, h => by obtain rfl := relRs_nil.mp h; rfl
  | r :: rs, vs, h => by
    obtain ⟨v, t, rfl, _, h2⟩ := relRs_cons.mp h
    rw [List.length_cons, List.length_cons, relRs_len h2]
theorem relRs_get : ∀ {rs : List R} {vs : List V} {i : Nat} {r : R}, RelRs S A rs vs → rs[i]? = some r → ∃ v, vs[i]? = some v ∧ RelR S A r v
  | [], vs, i, r, h, e => by simp at e
  | q :: rs, vs, 0, r, h, e => by
    obtain ⟨v, t, rfl, h1, _⟩ := relRs_cons.mp h
    simp at e
    subst e
    exact ⟨v, rfl, h1⟩
  | q :: rs, vs, i + 1, r, h, e => by
    obtain ⟨v, t, rfl, _, h2⟩ := relRs_cons.mp h
    obtain ⟨u, h3, h4⟩ := relRs_get (i := i) h2 (by simpa using e)
    exact ⟨u, by simpa using h3, h4⟩
theorem relRs_at {rs : List R} {vs : List V} {i : Int} {r : R} (h : RelRs S A rs vs) (e : L2.atI rs i = some r) : ∃ v, L2.atI vs i = some v ∧ RelR S A r v := by
  unfold L2.atI at e ⊢
  rw [← relRs_len h]
  cases q : ixN rs.length i with
  | none => rw [q] at e; cases e
  | some j =>
    rw [q] at e
    exact relRs_get h e
theorem relRs_drop : ∀ (n : Nat) {rs : List R} {vs : List V}, RelRs S A rs vs → RelRs S A (rs.drop n) (vs.drop n)
  | 0, rs, vs, h => h
  | n + 1, [], vs, h => by rw [relRs_nil.mp h]; exact relRs_nil.mpr rfl
  | n + 1, r :: rs, vs, h => by
    obtain ⟨v, t, rfl, _, h2⟩ := relRs_cons.mp h
    exact relRs_drop n h2
theorem cutL_none {L : List Addr} {p : Addr} (h : S1 p = none) : cutL S1 L p = none := by
  unfold cutL
  by_cases c : p ∈ L
  · rw [if_pos c]
  · rw [if_neg c]; exact h
theorem at_app0 (A : List Addr) (p : Addr) (ps : List Addr) : (A ++ p :: ps)[A.length]? = some p := by rw [List.getElem?_append_right (Nat.le_refl _), Nat.sub_self]; rfl
theorem at_app1 (A : List Addr) (p q : Addr) (ps : List Addr) : (A ++ p :: q :: ps)[A.length + 1]? = some q := by rw [List.getElem?_append_right (by omega), show A.length + 1 - A.length = 1 from by omega]; rfl
theorem at_app2 (A : List Addr) (p q t : Addr) (ps : List Addr) : (A ++ p :: q :: t :: ps)[A.length + 2]? = some t := by rw [List.getElem?_append_right (by omega), show A.length + 2 - A.length = 2 from by omega]; rfl
theorem at_app3 (A : List Addr) (p q t u : Addr) (ps : List Addr) : (A ++ p :: q :: t :: u :: ps)[A.length + 3]? = some u := by rw [List.getElem?_append_right (by omega), show A.length + 3 - A.length = 3 from by omega]; rfl
theorem retL_end (g : Good K S A H ob) (en : End K S A H P Q) : End K (lendS S (LLof A ob) H) [] H (retL ob P) Q := fun r ob0 v S1 A1 H1 h1 g1 q1 st1 => by
  obtain ⟨g2, st2⟩ := cutL_good g g1 st1
  rcases h1 with ⟨x, rfl, sc, h⟩ | ⟨k, ds, rfl, hk, sc, h⟩ | ⟨k, i, j, a, b, rfl, hk, hij, hi, hj, sa, sb, h⟩ | ⟨k, i, j, m, a, b, c, rfl, hk, hij, him, hjm, hi, hj, hm, sa, sb, sc, h⟩
  · exact en _ _ _ _ _ _ h g2 (Rep.sc sc q1 _) st2
  · obtain ⟨p, hp, rfl⟩ := q1
    obtain ⟨n1, n2, n3, xs, n4, n5⟩ := new_lst g g1 st1 hp hk sc
    refine en _ _ _ _ _ _ h (g2.more (ps := [p]) (cs := [.lst ds]) ?_ rfl (fun m a c e1 e2 => ?_) (fun a ha => ?_)) ⟨p, by rw [← g.len]; exact at_app0 A p [], rfl⟩ (st2.more fun a ha => by rw [List.mem_singleton.mp ha]; exact n1)
    · rw [List.nodup_append]
      exact ⟨g.nd, by simp, fun a ha b hb => by rw [List.mem_singleton.mp hb]; rintro rfl; exact n2 ha⟩
    · have : m = 0 := by
        have := (List.getElem?_eq_some_iff.mp e1).1
        simp at this
        exact this
      subst this
      simp at e1 e2
      subst e1 e2
      exact ⟨cutL_none n3, xs, n4, n5 _⟩
    · rw [List.mem_singleton.mp ha, n4]
      exact fun z => by cases z
  · obtain ⟨p, hp, rfl⟩ := q1
    obtain ⟨t1, t2, t3, xs, t4, t5⟩ := new_tpl g g1 st1 hp hk
    obtain ⟨x1, u1, rfl, r1, r2⟩ := relRs_cons.mp t5
    obtain ⟨x2, u2, rfl, r3, r4⟩ := relRs_cons.mp r2
    obtain rfl := relRs_nil.mp r4
    obtain ⟨pi, hpi, rfl⟩ := r1
    obtain ⟨pj, hpj, rfl⟩ := r3
    obtain ⟨a1, a2, a3, ax, a4, a5⟩ := new_lst g g1 st1 hpi hi sa
    obtain ⟨b1, b2, b3, bx, b4, b5⟩ := new_lst g g1 st1 hpj hj sb
    have nij : pi ≠ pj := fun e => hij (nd_ix g1.nd (by rw [← e] at hpj; exact hpi) (by rw [e]; exact hpj))
    have nip : pi ≠ p := fun e => by rw [e, t4] at a4; cases a4
    have njp : pj ≠ p := fun e => by rw [e, t4] at b4; cases b4
    refine en _ _ _ _ _ _ h (g2.more (ps := [pi, pj, p]) (cs := [.lst a, .lst b, .tpl [.p ob.length, .p (ob.length + 1)]]) ?_ rfl (fun m q c e1 e2 => ?_) (fun q hq => ?_)) ⟨p, by rw [← g.len]; exact at_app2 A pi pj p [], rfl⟩ (st2.more fun q hq => ?_)
    · rw [List.nodup_append]
      refine ⟨g.nd, by simp [nij, nip, njp], fun q hq w hw => ?_⟩
      simp only [List.mem_cons, List.not_mem_nil, or_false] at hw
      rintro rfl
      rcases hw with rfl | rfl | rfl
      · exact a2 hq
      · exact b2 hq
      · exact t2 hq
    · rcases m with _ | _ | _ | m
      · simp at e1 e2
        subst e1 e2
        exact ⟨cutL_none a3, ax, a4, a5 _⟩
      · simp at e1 e2
        subst e1 e2
        exact ⟨cutL_none b3, bx, b4, b5 _⟩
      · simp at e1 e2
        subst e1 e2
        refine ⟨cutL_none t3, _, t4, relRs_cons.mpr ⟨_, _, rfl, ⟨pi, by rw [← g.len]; exact at_app0 A pi _, rfl⟩, relRs_cons.mpr ⟨_, _, rfl, ⟨pj, by rw [← g.len]; exact at_app1 A pi pj _, rfl⟩, relRs_nil.mpr rfl⟩⟩⟩
      · simp at e1
    · simp only [List.mem_cons, List.not_mem_nil, or_false] at hq
      rcases hq with rfl | rfl | rfl
      · rw [a4]; exact fun z => by cases z
      · rw [b4]; exact fun z => by cases z
      · rw [t4]; exact fun z => by cases z
    · simp only [List.mem_cons, List.not_mem_nil, or_false] at hq
      rcases hq with rfl | rfl | rfl
      · exact a1
      · exact b1
      · exact t1
  · obtain ⟨p, hp, rfl⟩ := q1
    obtain ⟨t1, t2, t3, xs, t4, t5⟩ := new_tpl g g1 st1 hp hk
    obtain ⟨x1, u1, rfl, r1, r2⟩ := relRs_cons.mp t5
    obtain ⟨x2, u2, rfl, r3, r4⟩ := relRs_cons.mp r2
    obtain ⟨x3, u3, rfl, r5, r6⟩ := relRs_cons.mp r4
    obtain rfl := relRs_nil.mp r6
    obtain ⟨pi, hpi, rfl⟩ := r1
    obtain ⟨pj, hpj, rfl⟩ := r3
    obtain ⟨pm, hpm, rfl⟩ := r5
    obtain ⟨a1, a2, a3, ax, a4, a5⟩ := new_lst g g1 st1 hpi hi sa
    obtain ⟨b1, b2, b3, bx, b4, b5⟩ := new_lst g g1 st1 hpj hj sb
    obtain ⟨c1, c2, c3, cx, c4, c5⟩ := new_lst g g1 st1 hpm hm sc
    have nij : pi ≠ pj := fun e => hij (nd_ix g1.nd (by rw [← e] at hpj; exact hpi) (by rw [e]; exact hpj))
    have nim : pi ≠ pm := fun e => him (nd_ix g1.nd (by rw [← e] at hpm; exact hpi) (by rw [e]; exact hpm))
    have njm : pj ≠ pm := fun e => hjm (nd_ix g1.nd (by rw [← e] at hpm; exact hpj) (by rw [e]; exact hpm))
    have nip : pi ≠ p := fun e => by rw [e, t4] at a4; cases a4
    have njp : pj ≠ p := fun e => by rw [e, t4] at b4; cases b4
    have nmp : pm ≠ p := fun e => by rw [e, t4] at c4; cases c4
    refine en _ _ _ _ _ _ h (g2.more (ps := [pi, pj, pm, p]) (cs := [.lst a, .lst b, .lst c, .tpl [.p ob.length, .p (ob.length + 1), .p (ob.length + 2)]]) ?_ rfl (fun m q c e1 e2 => ?_) (fun q hq => ?_)) ⟨p, by rw [← g.len]; exact at_app3 A pi pj pm p [], rfl⟩ (st2.more fun q hq => ?_)
    · rw [List.nodup_append]
      refine ⟨g.nd, by simp [nij, nim, njm, nip, njp, nmp], fun q hq w hw => ?_⟩
      simp only [List.mem_cons, List.not_mem_nil, or_false] at hw
      rintro rfl
      rcases hw with rfl | rfl | rfl | rfl
      · exact a2 hq
      · exact b2 hq
      · exact c2 hq
      · exact t2 hq
    · rcases m with _ | _ | _ | _ | m
      · simp at e1 e2
        subst e1 e2
        exact ⟨cutL_none a3, ax, a4, a5 _⟩
      · simp at e1 e2
        subst e1 e2
        exact ⟨cutL_none b3, bx, b4, b5 _⟩
      · simp at e1 e2
        subst e1 e2
        exact ⟨cutL_none c3, cx, c4, c5 _⟩
      · simp at e1 e2
        subst e1 e2
        refine ⟨cutL_none t3, _, t4, relRs_cons.mpr ⟨_, _, rfl, ⟨pi, by rw [← g.len]; exact at_app0 A pi _, rfl⟩, relRs_cons.mpr ⟨_, _, rfl, ⟨pj, by rw [← g.len]; exact at_app1 A pi pj _, rfl⟩, relRs_cons.mpr ⟨_, _, rfl, ⟨pm, by rw [← g.len]; exact at_app2 A pi pj pm _, rfl⟩, relRs_nil.mpr rfl⟩⟩⟩⟩
      · simp at e1
    · simp only [List.mem_cons, List.not_mem_nil, or_false] at hq
      rcases hq with rfl | rfl | rfl | rfl
      · rw [a4]; exact fun z => by cases z
      · rw [b4]; exact fun z => by cases z
      · rw [c4]; exact fun z => by cases z
      · rw [t4]; exact fun z => by cases z
    · simp only [List.mem_cons, List.not_mem_nil, or_false] at hq
      rcases hq with rfl | rfl | rfl | rfl
      · exact a1
      · exact b1
      · exact c1
      · exact t1
end
section
variable {X : Cx} {e a b c : Expr} {es : List Expr} {pos p1 : Pos} {ob : Obs} {sl : Sls} {P : Post} {D : Out} {k j : Nat} {x : Str} {ps : List Str} {f : FS} {B : Bool → Obs → Prop}
/-- f(..): owned lists and tuples among the arguments are lent -/
theorem we_callL {st : Stmt} (F : Fn X.prog X.w X.K X.mg X.base x st j ps f) (ct : Ct X k) (hj : j ≤ k) (h : Wa X (e :: es) ob sl fun rs ob1 => ∃ ds : List Dt, dtLs ob1 rs = some ds ∧ f (ds.map R.d) [] (retL ob1 P)) (hg : Gl X x := by rfl) (hd : (x == ("__debug__" : Str)) = false := by decide)
    (hs : starEach (e :: es) X.env = (false, eval e X.env) :: starEach es X.env := by rfl) (hp : (backTo pos (starEach es X.env)).any (·.1) = false := by rfl) : We X (.Call (.Name x p1) (e :: es) [] pos) ob sl P := fun S A H σ Q g rs en => by
  obtain ⟨ad, fd, h1, h2, h3, h4⟩ := F.ex
  refine wpE.of (pe_call h4 (ct.room.mono hj) hg h1 h2.kp h3 .nil pass0 pa_wp hd hs hp) (h S A H σ _ g rs fun rl ob1 vs S1 A1 H1 hh g1 q1 st1 => ?_)
  obtain ⟨ds, hb, hf⟩ := hh
  rw [List.append_nil]
  exact ⟨_, [], ds.map R.d, [], _, good_none (lend_ex g1), relRs_d.mpr (dtLs_rep g1 hb q1), hf, retL_end g1 (en.step st1)⟩
/-- f(k = .., ..) -/
theorem we_callLK {st : Stmt} {kws : List Keyword} {ks : List Str} (gg : {α : Type} → List α → List α) (F : Fn X.prog X.w X.K X.mg X.base x st j ps f) (ct : Ct X k) (hj : j ≤ k)
    (hb : ∀ (kV doc pm : Value) (an : Option Addr) (cdv ct : Value) (us : List Value), us.length = ks.length → bindArgs (PySem.W.fnOf x x (defArgs st) (defBody st) (defScope st) .none kV doc pm an cdv ct) ⟨[], ks.zip us⟩ = pure (ps.zip (gg us)))
    (hr : ∀ {vs : List V} {us : List Value}, vs.length = ks.length → Vals vs us → Vals (gg vs) (gg us)) (hd : ∀ {ds : List Dt} {vs : List V} {S : Hp}, ds.length = ks.length → Reps S ds vs → Reps S (gg ds) (gg vs))
    (h : Wk X kws ob sl fun rs ob1 => ∃ ds : List Dt, dtLs ob1 rs = some ds ∧ ds.length = ks.length ∧ f ((gg ds).map R.d) [] (retL ob1 P)) (hg : Gl X x := by rfl)
    (hall : (backToKw pos (keywordEach kws X.env)).all (·.1.isSome) = true := by rfl) (hks : (backToKw pos (keywordEach kws X.env)).filterMap (·.1) = ks := by rfl) (hdb : (x == ("__debug__" : Str)) = false := by decide)
    (hpl : ((backTo pos (starEach [] X.env)).any (·.1) || (backToKw pos (keywordEach kws X.env)).any (·.1.isNone)) = false := by rfl) : We X (.Call (.Name x p1) [] kws pos) ob sl P := fun S A H σ Q gd rs en => by
  refine ⟨fun pins s I => ?_⟩
  obtain ⟨ad, fd, h1, h2, h3, h4⟩ := F.ex
  refine wpAny_Call_Name_kw (ld_glob I hg h1 ?_ hdb)
  refine PySem.W.callWith_KW0 (h₀ := X.base) I.ok.mod.kin h2.kp hall ?_ hpl
  refine thn (h S A H σ (fun vs H1 => ∃ S1 A1 ds ob1, Good X.K S1 A1 H1 ob1 ∧ Step S A H S1 A1 H1 ∧ Reps (lendS S1 (LLof A1 ob1) H1) ds vs ∧ ds.length = ks.length ∧ f ((gg ds).map R.d) [] (retL ob1 P)) gd rs (fun l ob1 vs S1 A1 H1 hh g1 q1 st1 => ?_) pos pins s I) fun ws s2 ⟨zs, H2, I2, rz, S1, A1, ds, ob1, g1, st1, q1, hl, hf⟩ => ⟨I2.kIn, ?_⟩
  · obtain ⟨ds, hb, hl, hf⟩ := hh
    exact ⟨S1, A1, ds, ob1, g1, st1, dtLs_rep g1 hb q1, hl, hf⟩
  · rw [hks]
    have lz : zs.length = ks.length := by rw [q1.length]; exact hl
    have lw : ws.length = ks.length := by rw [← rz.length]; exact lz
    have r2 := hr lz rz
    have hsp : spOf X.K f (gg zs) H2 Q E0 := ⟨_, [], (gg ds).map R.d, [], _, good_none (lend_ex g1), relRs_d.mpr (hd hl q1), hf, retL_end g1 (en.step st1)⟩
    obtain ⟨oc, od, kV, doc, pm, an, cdv, ct', osl, rfl, lk, hcd⟩ := h2.ex
    refine wpAny_call (codeAny_mono (h4.run X.A X.stack s2 H2 ⟨[], ks.zip ws⟩ (gg ws) (gg zs) Q E0 (ct.room.mono hj) I2.env0 (.of_eq (hb kV doc pm an cdv ct' ws lw)) r2 hsp) fun r s' hq => ?_)
    cases r with
    | error e => exact (pass0 pins σ H2 s2 e s' I2 hq)
    | ok fl =>
      cases fl with
      | ret u => exact I2.after hq
      | next => exact False.elim hq
      | brk => exact False.elim hq
      | cont => exact False.elim hq
/-- a tuple with owned parts -/
theorem we_tupO {x1 : Nat} (h : Wa X es ob sl fun rs ob1 => rs.length ≤ sizeLine ∧ P (.p ob1.length) (ob1 ++ [.tpl rs])) : We X (.Tuple es x1 pos) ob sl P := fun S A H σ Q g rs en => by
  refine wpE.of (pe_tup pa_wp) (h S A H σ _ g rs fun l ob1 vs S1 A1 H1 h1 g1 q1 st1 => ?_)
  obtain ⟨hz, hk⟩ := h1
  refine ⟨by rw [← relRs_len q1]; exact hz, fun p hp => ?_⟩
  have hs := g1.ex.fresh hp
  exact en _ _ _ _ _ _ hk (g1.newO hp ⟨hs, vs, upd_same, q1.mono (Le.refl _) (List.prefix_append A1 [p])⟩) ⟨p, by rw [← g1.len]; exact at_app0 A1 p [], rfl⟩ (st1.trans (Step.newO hp))
/-- t[n], t an owned tuple -/
theorem we_ixT (h : We X a ob sl fun r1 ob1 => We X b ob1 sl fun r2 ob2 => ∃ k rs r' i, r1 = .p k ∧ r2 = .d (.int i) ∧ ob2[k]? = some (.tpl rs) ∧ L2.atI rs i = some r' ∧ P r' ob2) (hs : PlainIx b := by exact fun _ _ => rfl) : We X (.Subscript a b pos) ob sl P := fun S A H σ Q g rs en => by
  refine wpE.of (pe_ix ix_seq pe_wp pe_wp hs) (h S A H σ _ g rs fun r1 ob1 x S1 A1 H1 h1 g1 q1 st1 => h1 S1 A1 H1 σ _ g1 (rs.step st1) fun r2 ob2 y S2 A2 H2 h2 g2 q2 st2 => ?_)
  obtain ⟨k, rs', r', i, rfl, rfl, hk, hi, h2⟩ := h2
  obtain ⟨p, hp, rfl⟩ := q1.step st2
  obtain ⟨s0, xs, e1, e2⟩ := g2.own k p _ hp hk
  obtain ⟨u, hu, ru⟩ := relRs_at e2 hi
  rw [q2.int]
  exact .inr (.inl ⟨p, xs, _, u, rfl, rfl, SqT.of e1, hu, en _ _ _ _ _ _ h2 g2 ru (st1.trans st2)⟩)
/-- t[n:], t an owned tuple, n not 0 -/
theorem we_slT {lo : Expr} {p2 : Pos} (h : We X a ob sl fun r ob1 => We X lo ob1 sl fun r1 ob2 => ∃ k rs, ∃ n : Nat, r = .p k ∧ r1 = .d (.int n) ∧ ob2[k]? = some (.tpl rs) ∧ 0 < n ∧ 0 < rs.length ∧ P (.p ob2.length) (ob2 ++ [.tpl (rs.drop n)])) : We X (.Subscript a (.Slice (some lo) none none p2) pos) ob sl P := fun S A H σ Q g rs en => by
  refine wpE.of (pe_slice sl_tup pe_wp (po_some pe_wp) po_none) (h S A H σ _ g rs fun r ob1 x S1 A1 H1 h1 g1 q1 st1 => h1 S1 A1 H1 σ _ g1 (rs.step st1) fun r1 ob2 y S2 A2 H2 h2 g2 q2 st2 => ?_)
  obtain ⟨k, rs', n, rfl, rfl, hk, hn, hl, h2⟩ := h2
  obtain ⟨p, hp, rfl⟩ := q1.step st2
  obtain ⟨s0, xs, e1, e2⟩ := g2.own k p _ hp hk
  have hxl : rs'.length = xs.length := relRs_len e2
  refine ⟨n, q2.int, p, xs, rfl, SqT.of e1, ?_, fun q hq => ?_⟩
  · rw [HT.sIx_nat]
    rintro ⟨z, _⟩
    rw [← hxl] at z
    omega
  · have hs := g2.ex.fresh hq
    have ec : cutV xs (some (n : Int)) none = xs.drop n := by
      unfold cutV
      rw [HT.sIx_none, HT.sIx_nat]
      by_cases c : n ≤ xs.length
      · rw [Nat.min_eq_left c, List.take_of_length_le (by rw [List.length_drop]; exact Nat.le_refl _)]
      · rw [Nat.min_eq_right (by omega), Nat.sub_self, List.take_zero, List.drop_eq_nil_of_le (by omega)]
    rw [ec]
    exact en _ _ _ _ _ _ h2 (g2.newO hq ⟨hs, _, upd_same, (relRs_drop n e2).mono (Le.refl _) (List.prefix_append A2 [q])⟩) ⟨q, by rw [← g2.len]; exact at_app0 A2 q [], rfl⟩ ((st1.trans st2).trans (Step.newO hq))
/-- ==, != of what is owned: lists, tuples of lists, data -/
def eqLP (neg : Bool) (ob : Obs) (P : Post) (r1 r2 : R) : Prop := ∃ x y, dtL ob r1 = some x ∧ dtL ob r2 = some y ∧ okD 64 x = true ∧ okD 64 y = true ∧ P (.d (.bl (bif neg then !eqD x y else eqD x y))) ob
theorem we_eqL (ct : Ct X k) (h : We X a ob sl fun r1 ob1 => We X b ob1 sl fun r2 ob2 => eqLP false ob2 P r1 r2) : We X (.Compare a [.Eq] [b] pos) ob sl P :=
  we_cmp (op_eqD ct.room.units) (nomark _) (h.mono fun _ _ h1 => h1.mono fun _ _ h2 S A H v w Q g q1 q2 en => by
    obtain ⟨x, y, e1, e2, o1, o2, h2⟩ := h2
    exact ⟨_, _, Rep.dp (lend_ex g) 64 x v o1 (dtL_rep g e1 q1), Rep.dp (lend_ex g) 64 y w o2 (dtL_rep g e2 q2), okD_shaped o1 (Nat.le_refl _), okD_shaped o2 (Nat.le_refl _), en.here h2 g rr_bl⟩)
theorem we_neL (ct : Ct X k) (h : We X a ob sl fun r1 ob1 => We X b ob1 sl fun r2 ob2 => eqLP true ob2 P r1 r2) : We X (.Compare a [.NotEq] [b] pos) ob sl P :=
  we_cmp (op_neD ct.room.units) (nomark _) (h.mono fun _ _ h1 => h1.mono fun _ _ h2 S A H v w Q g q1 q2 en => by
    obtain ⟨x, y, e1, e2, o1, o2, h2⟩ := h2
    exact ⟨_, _, Rep.dp (lend_ex g) 64 x v o1 (dtL_rep g e1 q1), Rep.dp (lend_ex g) 64 y w o2 (dtL_rep g e2 q2), okD_shaped o1 (Nat.le_refl _), okD_shaped o2 (Nat.le_refl _), en.here h2 g rr_bl⟩)
theorem wt_eqL (ct : Ct X k) (h : We X a ob sl fun r1 ob1 => We X b ob1 sl fun r2 ob2 => eqLP false ob2 (asT B) r1 r2) : Wt X (.Compare a [.Eq] [b] pos) ob sl B :=
  wt_cmp (op_eqD ct.room.units) (nomark _) (h.mono fun _ _ h1 => h1.mono fun _ _ h2 S A H v w Q g q1 q2 en => by
    obtain ⟨x, y, e1, e2, o1, o2, h2⟩ := h2
    exact ⟨_, _, Rep.dp (lend_ex g) 64 x v o1 (dtL_rep g e1 q1), Rep.dp (lend_ex g) 64 y w o2 (dtL_rep g e2 q2), okD_shaped o1 (Nat.le_refl _), okD_shaped o2 (Nat.le_refl _), en.here h2 g rr_bl⟩)
theorem wt_neL (ct : Ct X k) (h : We X a ob sl fun r1 ob1 => We X b ob1 sl fun r2 ob2 => eqLP true ob2 (asT B) r1 r2) : Wt X (.Compare a [.NotEq] [b] pos) ob sl B :=
  wt_cmp (op_neD ct.room.units) (nomark _) (h.mono fun _ _ h1 => h1.mono fun _ _ h2 S A H v w Q g q1 q2 en => by
    obtain ⟨x, y, e1, e2, o1, o2, h2⟩ := h2
    exact ⟨_, _, Rep.dp (lend_ex g) 64 x v o1 (dtL_rep g e1 q1), Rep.dp (lend_ex g) 64 y w o2 (dtL_rep g e2 q2), okD_shaped o1 (Nat.le_refl _), okD_shaped o2 (Nat.le_refl _), en.here h2 g rr_bl⟩)
end
end DL


/-! DL: defs that show data (repr): nothing may stand in the guards around them. -/
namespace L2
open PySem PySem.Spec PyProof.Rows
/-- the promise of a def where no guard stands around the call -/
structure FnOkG (P : Program) (w : World) (K : PySem.W.Frag) (mg : Str → Option Value) (base : Heap) (CX : CXT) (k : Nat) (f : Addr) (fd : FuncData) (ps : List Str) (sp : Sp) : Prop where
  len : ∀ vs H Q E, sp vs H Q E → vs.length = ps.length
  run : ∀ (A : Around) (outer : List Env) (s : Shared) (H : Hp) (args : Args) (us : List Value) (vs : List V) (Q : VK) (E : XK), A.guards = some [] → Room k A → Env0 P w K mg base A outer s H → BindsTo s fd args (ps.zip us) → Vals vs us → sp vs H Q E →
    codeAny (model P w) A (.call (.ref f) args) (CR CX outer P w H s Q E) s
theorem FnOkG.imp {P : Program} {w : World} {K : PySem.W.Frag} {mg : Str → Option Value} {base : Heap} {CX : CXT} {k : Nat} {f : Addr} {fd : FuncData} {ps : List Str} {sp sp' : Sp} (F : FnOkG P w K mg base CX k f fd ps sp)
    (h : ∀ vs H Q E, sp' vs H Q E → sp vs H Q E) : FnOkG P w K mg base CX k f fd ps sp' :=
  ⟨fun vs H Q E q => F.len vs H Q E (h _ _ _ _ q), fun A outer s H args us vs Q E hg hr he hb hv hs => F.run A outer s H args us vs Q E hg hr he hb hv (h _ _ _ _ hs)⟩
section
variable {P : Program} {w : World} {K : PySem.W.Frag} {mg : Str → Option Value} {base : Heap}
theorem fun_okG {x qual : Str} {st : Stmt} {f : Addr} {fd : FuncData} {N ps : List Str} {k : Nat} {sp : Sp} (F : Fun K x qual st f fd) (S : FnScope N ps (defScope st)) (len : ∀ vs H Q E, sp vs H Q E → vs.length = ps.length)
    (hbody : ∀ (cdv : Value) (A : Around) (outer : List Env) (s : Shared) (H : Hp) (vs : List V) (Q : VK) (E : XK), A.guards = some [] → Room k (A.deeper (envOfC qual (defScope st) s.heap.objs.size f cdv)) → sp vs H Q E →
      ∃ t, PSs (cxOf CX0 P w K mg base N qual (defScope st) f cdv A outer s H E).nox (defBody st) t ∧ t { nx := fun _ H' => Q .non H', rt := Q } (start N vs) H) : FnOkG P w K mg base CX0 (k + 1) f fd ps sp := by
  obtain ⟨oc, od, kV, doc, pm, an, cdv, ct, osl, rfl, lk, hcd⟩ := F.ex
  refine ⟨len, fun A outer s H args us vs Q E hg hr e0 hb r hsp => ?_⟩
  have hl := len _ _ _ _ hsp
  have KX : K.In s.heap := e0.mod.kin.keeps fun b o e => (e0.bs b o e).1
  have hkind : ∀ y ∈ ps.zip us, (defScope st).names.lookup y.1 = some .local ∨ ((defScope st).names.lookup y.1 = some .cell ∧ ((cellsFrom (s.heap.objs.size + 1) (defScope st).names []).lookup y.1).isSome = true) := fun y hy => by
    rcases S.par y.1 (List.of_mem_zip (a := y.1) (b := y.2) hy).1 with q | q
    · exact .inl q
    · exact .inr ⟨q, PySem.W.cellsFrom_some _ _ _ (.inl q)⟩
  refine codeAny_call_function hr.depth (KX _ _ lk) rfl S.co S.gen rfl (PySem.W.codeRec_of KX hcd) (hb _ _ _ _ ?_)
  refine wpAny_newFunctionEnv_cells S.kind hkind fun env he s1 x => ?_
  subst he
  refine ⟨(e0.mod.nolimit.keeps fun b o e => (e0.bs b o e).1).keeps x.toInCall.keep, codeAny_func ?_⟩
  obtain ⟨t, ht, hq⟩ := hbody cdv A outer s H vs Q E hg (hr.deeper _) hsp
  refine wpAny_mono (ht.nox.run [] s1 (start N vs) H _ (inv_start S hr.hd e0 hl r x) hq) (fun fl s' hs => ?_) fun e s' hs => hs
  have fin : ∀ {σ' : St} {H' : Hp} {v : V} {u : Value}, Inv (cxOf CX0 P w K mg base N qual (defScope st) f cdv A outer s H E) [] σ' H' s' → RelV v u → Q v H' → CE outer P w H s Q u s' :=
    fun {σ' H' v u} J rv q => ⟨v, H', J.os, J.bare, J.base, J.hok, rv, q⟩
  cases fl with
  | ret u =>
    obtain ⟨v, σ', H', J, rv, q⟩ := hs
    exact fin J rv q
  | next =>
    obtain ⟨σ', H', J, q⟩ := hs
    exact fin (v := V.non) (u := Value.none) J rfl q
  | brk =>
    obtain ⟨_, _, _, q⟩ := hs
    exact False.elim q
  | cont =>
    obtain ⟨_, _, _, q⟩ := hs
    exact False.elim q
end
section
variable {X : Cx} {CX : CXT} {k : Nat} {f : Addr} {fd : FuncData} {ps : List Str} {sp : Sp} {dvs : List V} {ds : List Value} {E : XK} {x : Str} {p pos : Pos} {e : Expr} {es : List Expr} {t : TA}
theorem run_fnG {pins : List (Addr × Obj)} {σ : St} {H : Hp} {s : Shared} {Q : VK} {us : List Value} {vs : List V} (F : FnOkG X.prog X.w X.K X.mg X.base CX k f fd ps sp) (hgd : X.A.guards = some []) (hr : Room k X.A) (hb : Binds X.K fd ps ds) (hd : Vals dvs ds) (hx : Passes CX X E)
    (I : Inv X pins σ H s) (r : Vals vs us) (h : sp (vs ++ dvs) H Q E) : wpAny (model X.prog X.w) X.A (call (.ref f) us) (EP X pins σ Q) X.xe s := by
  have r2 : Vals (vs ++ dvs) (us ++ ds) := r.append hd
  have hl : (us ++ ds).length = ps.length := by rw [← r2.length]; exact F.len _ _ _ _ h
  refine wpAny_call (codeAny_mono (F.run X.A X.stack s H ⟨us, []⟩ (us ++ ds) (vs ++ dvs) Q E hgd hr I.env0 (hb s us I.kIn hl) r2 h) fun r s' hq => ?_)
  cases r with
  | error e => exact hx pins σ H s e s' I hq
  | ok fl =>
    cases fl with
    | ret u => exact I.after hq
    | next => exact False.elim hq
    | brk => exact False.elim hq
    | cont => exact False.elim hq
theorem pe_callG (F : FnOkG X.prog X.w X.K X.mg X.base CX k f fd ps sp) (hgd : X.A.guards = some []) (hr : Room k X.A) (hg : Gl X x) (hm : X.mg x = some (.ref f)) (hk : PySem.W.keepIn X.K (.ref f) = true) (hb : Binds X.K fd ps ds) (hd : Vals dvs ds) (hx : Passes CX X E)
    (ha : PA X (e :: es) t) (hdb : (x == ("__debug__" : Str)) = false := by decide) (he : starEach (e :: es) X.env = (false, eval e X.env) :: starEach es X.env := by rfl) (hpl : (backTo pos (starEach es X.env)).any (·.1) = false := by rfl) :
    PE X (.Call (.Name x p) (e :: es) [] pos) (tCall sp dvs E t) := by
  refine ⟨fun pins s σ H Q I h => ?_⟩
  refine wpAny_Call_Name_kw (ld_glob I hg hm ?_ hdb)
  refine PySem.W.callWith_K (h₀ := X.base) I.ok.mod.kin hk (thn (ha.run pos pins s σ H _ I h) fun us s1 ⟨vs, H1, I1, r, q⟩ => ⟨I1.kIn, ?_⟩) he hpl
  exact run_fnG F hgd hr hb hd hx I1 r q
end
/-- the law's call, with a promise that wants no guard around; the script is no object of the module -/
theorem law_callG {P : Program} {w : World} {K : PySem.W.Frag} {mg mb : Str → Option Value} {k : Nat} {fa a : Addr} {fd : FuncData} {x : Str} {sp : Sp} {s₁ : Shared} {vs : List Value} {ns : List Int}
    (KX : K.In s₁.heap) (hns : s₁.heap.Ns mainGlobals mg) (hb : s₁.heap.Ns builtinsNs mb) (hbb : ∀ x : Str, x ≠ "__name__" → mb x = bootBuiltins x) (hlim : s₁.heap.NoLimit) (hg : s₁.gens = #[])
    (ha : s₁.heap.get? a = some { cls := .type "list", data := .seq vs.toArray }) (hi : IntsAre vs ns) (hl : ns.length ≤ sizeLine) (hr : Room k callerA) (hk : K.lookup a = none)
    (F : ∀ base : Heap, K.In base → base.Ns mainGlobals mg → FnOkG P w K mg base CX0 k fa fd [x] sp) (hbind : ∀ (s : Shared) (u : Value), BindsTo s fd ⟨[u], []⟩ [(x, u)])
    (hsp : ∀ H : Hp, Only H → SqL K H a (ns.map V.int) → sp [.ref a] H (fun v _ => v = .bl true) fun _ _ _ => False) :
    codeAny (model P w) callerA (.call (.ref fa) ⟨[.ref a], []⟩) (fun r s' => r = .ok (.ret (.bool true)) ∧ OldK s₁.heap s'.heap ∧ s'.os = s₁.os ∧ AllBare s'.gens) s₁ := by
  have rv := vals_ints hi
  obtain ⟨H, eH⟩ : ∃ H : Hp, H = fun b => if b = a then some (.frz { cls := .type "list", data := .seq vs.toArray } (.lst (ns.map V.int))) else none := ⟨_, rfl⟩
  have ea : H a = some (.frz { cls := .type "list", data := .seq vs.toArray } (.lst (ns.map V.int))) := by rw [eH]; exact if_pos rfl
  have eo : ∀ b, b ≠ a → H b = none := fun b z => by rw [eH]; exact if_neg z
  have hO : Only H := fun b => by
    by_cases c : b = a
    · subst c; exact .inr ⟨_, _, ea⟩
    · exact .inl (eo b c)
  have hok : HOk P w H s₁.heap := fun b u z => by
    by_cases c : b = a
    · subst c
      rw [ea] at z
      cases z
      exact ⟨ha, by rw [List.length_map]; exact hl, vs, _, rv, ha⟩
    · rw [eo b c] at z; cases z
  have up : ∀ {b : Addr} {o : Obj}, s₁.heap.get? b = some o → b ≠ a → (hidT s₁.heap H).get? b = some o := fun e n => hidT_get e (eo _ n)
  have nsK : ∀ {b : Addr} {m : Str → Option Value}, s₁.heap.Ns b m → (hidT s₁.heap H).Ns b m := fun {b m} ⟨o, es, ep, e, d, r⟩ => ⟨o, es, ep, up e (fun c => by
    subst c
    rw [ha] at e
    cases e
    have d' : Data.seq vs.toArray _ = Data.dict es ep := d
    cases d'), d, r⟩
  have hKb : K.In (hidT s₁.heap H) := fun b o e => up (KX b o e) fun c => by subst c; rw [hk] at e; cases e
  have hM : Mod K mg (hidT s₁.heap H) := ⟨hKb, nsK hns, ⟨mb, nsK hb, hbb⟩, let ⟨mc, h1, h2⟩ := hlim; ⟨mc, nsK h1, h2⟩⟩
  have e0 : Env0 P w K mg (hidT s₁.heap H) callerA [] s₁ H := ⟨rfl, hM, fun b o e => of_hidT e, Nat.le_of_eq (hidT_size _ _), trivial, fun b hb => absurd (show b ∈ ([] : List Addr) from hb) (by simp), hok, .of_eq hg⟩
  refine codeAny_mono ((F _ hKb (nsK hns)).run callerA [] s₁ H ⟨[.ref a], []⟩ [.ref a] [.ref a] _ _ rfl hr e0 (hbind s₁ (.ref a)) (.cons rfl .nil) (hsp H hO (.inl (.inr ⟨_, ea⟩)))) fun r s' h => ?_
  cases r with
  | error e => exact h.elim
  | ok fl =>
    cases fl with
    | next => exact False.elim h
    | brk => exact False.elim h
    | cont => exact False.elim h
    | ret u =>
      obtain ⟨v, H', os, bare, un, hok', r', q⟩ := h
      have q' : v = .bl true := q
      subst q'
      obtain rfl : u = Value.bool true := r'
      refine ⟨rfl, OldK.of_keep fun b o e => ?_, os, bare⟩
      by_cases c : b = a
      · subst c
        rw [ha] at e
        cases e
        exact (hok' b _ (un.frzs b _ _ ea)).1
      · exact un.keep b o e (eo b c) (by intro z; exact absurd (show b ∈ ([] : List Addr) from z) (by simp)) (by simp)
end L2
namespace DL
open PySem L2
def isRefD : Dt → Bool
  | .lst _ => true
  | .tup _ => true
  | _ => false
/-- a def of the module whose promise wants no guard around -/
structure FnG (P : Program) (w : World) (K : PySem.W.Frag) (mg : Str → Option Value) (base : Heap) (x : Str) (st : Stmt) (k : Nat) (ps : List Str) (f : FS) : Prop where
  ex : ∃ a fd, mg x = some (.ref a) ∧ Fun K x x st a fd ∧ Binds K fd ps [] ∧ FnOkG P w K mg base CX0 k a fd ps (spOf K f)
section
variable {P : Program} {w : World} {K : PySem.W.Frag} {mg : Str → Option Value} {base : Heap}
theorem Def.fnG {x : Str} {st : Stmt} {N ps : List Str} {k : Nat} {f : FS} (d : Def K mg x st) (sc : FnScope N ps (defScope st)) (hb : BindsBy x st ps) (len : ∀ rs ob P, f rs ob P → rs.length = ps.length)
    (body : ∀ (a : Addr) (cdv : Value) (A : Around) (outer : List Env) (s : Shared) (H : Hp) (E : XK), Ct (cxOf CX0 P w K mg base N x (defScope st) a cdv A outer s H E).nox k → (cxOf CX0 P w K mg base N x (defScope st) a cdv A outer s H E).nox.A.guards = some [] → ∀ rs ob Po, f rs ob Po →
      Wss (cxOf CX0 P w K mg base N x (defScope st) a cdv A outer s H E).nox (defBody st) ob (rs.map some ++ List.replicate (N.length - rs.length) none) { nx := fun ob1 _ => Po (.d .non) ob1, rt := Po }) : FnG P w K mg base x st (k + 1) ps f := by
  obtain ⟨a, fd, hm, F⟩ := d.ex
  refine ⟨a, fd, hm, F, F.binds fun kV doc pm an cdv ct us hl => hb kV doc pm an cdv ct us hl, fun_okG F sc (fun vs H Q E h => ?_) (fun cdv A outer s H vs Q E hgd hr h => ?_)⟩
  · obtain ⟨S, A, rs, ob, Po, g, q, hf, en⟩ := h
    rw [relRs_length q]
    exact len _ _ _ hf
  · obtain ⟨S, A', rs, ob, Po, g, q, hf, en⟩ := h
    have b := body a cdv A outer s H E ⟨rfl, sc.nd, hr, PassesOwn.never⟩ hgd rs ob Po hf
    refine ⟨_, pss_wp, b S A' H _ _ g (relS_start q) ⟨?_, en, ?_, ?_⟩⟩
    · exact fun ob1 sl1 σ1 S1 A1 H1 h1 g1 rs1 st1 => en _ _ _ _ _ _ h1 g1 rr_non st1
    · exact fun ob1 sl1 σ1 S1 A1 H1 h1 g1 rs1 st1 => h1.elim
    · exact fun ob1 sl1 σ1 S1 A1 H1 h1 g1 rs1 st1 => h1.elim
/-- the law's def -/
theorem law_fnG {st : Stmt} {k : Nat} {x : Str} {fo : Addr} (d : Def K mg "law" st) (hb : BindsBy "law" st [x]) (F : ∀ base : Heap, FnG P w K mg base "law" st k [x] lawF) (hm : mg "law" = some (.ref fo)) :
    ∃ fd, (∀ (s : Shared) (u : Value), BindsTo s fd ⟨[u], []⟩ [(x, u)]) ∧ ∀ base : Heap, FnOkG P w K mg base CX0 k fo fd [x] (spOf K lawF) := by
  obtain ⟨a, fd, h1, F0⟩ := d.ex
  rw [hm] at h1
  cases h1
  refine ⟨fd, fun s u => ?_, fun base => ?_⟩
  · obtain ⟨oc, od, kV, doc, pm, an, cdv, ct, osl, rfl, lk, _⟩ := F0.ex
    exact .of_eq (hb kV doc pm an cdv ct [u] rfl)
  · obtain ⟨a2, fd2, h2, F2, _, ok⟩ := (F base).ex
    rw [hm] at h2
    cases h2
    rw [fun_uniq F0 F2]
    exact ok
end
open PySem.Spec PyProof.Rows in
theorem walk_ofLG {l : PySem.W.OpenLaw} {k : Nat} {q : Program} {loose : List Str} {XP : (Str → Option Value) → Heap → Prop} {d : DefRec} {x : Str} {n : Nat} {fa : List He.Fa} {fx : List (PySem.W.Frag → Bool)} {fn : List He.DefD}
    (hn : l.most = some 63) (hdf : d.params.defaults = []) (hr : Room k callerA)
    (F : ∀ (w : World) (mg : Str → Option Value) (fo : Addr) (h : Heap) (K : PySem.W.Frag), K.In h → He.SaysD fa fn K → (fx.all fun f => f K) = true → h.Ns mainGlobals mg → mg d.name = some (.ref fo) →
      ∃ (fd : FuncData), (∀ (s : Shared) (u : Value), BindsTo s fd ⟨[u], []⟩ [(x, u)]) ∧
        ∀ base : Heap, K.In base → base.Ns mainGlobals mg → FnOkG l.prog w K mg base CX0 k fo fd [x] (spOf K lawF)) :
    PySem.W.WalkO q loose XP (hookL n fa fx fn).says l.row.toRowW d [] (fun f vs => PySem.call f vs) := by
  refine Att.attach_callB hn hdf fun w s₀ s₁ mg mb fo o pm cd doc a vs ns G Y ho hd hcd hmg hobj hints hlen hbits hg => ?_
  obtain ⟨K, KX, nl, c, cx⟩ := Y
  obtain ⟨fd, hb, hF⟩ := F w mg fo _ K KX c cx G.T.g hmg
  refine law_callG KX G.T.g G.T.b G.T.builtins G.T.nolimit hg hobj hints (Nat.le_trans hlen (by decide)) hr ?_ hF hb (fun H hO hS => law_sp nl hlen hbits hS)
  cases e : K.lookup a with
  | none => rfl
  | some o =>
    have e1 := KX a o e
    rw [hobj] at e1
    cases e1
    have := nl a _ e
    simp [isL] at this
section
variable {X : Cx} {e a b c : Expr} {es : List Expr} {pos p1 : Pos} {ob : Obs} {sl : Sls} {P : Post} {k j : Nat} {x : Str} {ps : List Str} {f : FS} {tg : Expr} {PI : List Dt → Obs → Prop}
theorem we_callOG (i : Nat) {st : Stmt} (hgd : X.A.guards = some []) (F : FnG X.prog X.w X.K X.mg X.base x st j ps f) (ct : Ct X k) (hj : j ≤ k) (h : Wa X (e :: es) ob sl fun rs ob1 => ∃ rs' c, asOs i rs = some rs' ∧ ob1[i]? = some c ∧ flatO c = true ∧ f rs' [c] (retO i ob1 P)) (hg : Gl X x := by rfl) (hd : (x == ("__debug__" : Str)) = false := by decide)
    (hs : starEach (e :: es) X.env = (false, eval e X.env) :: starEach es X.env := by rfl) (hpp : (backTo pos (starEach es X.env)).any (·.1) = false := by rfl) : We X (.Call (.Name x p1) (e :: es) [] pos) ob sl P := fun S A H σ Q g rs en => by
  obtain ⟨ad, fd, h1, h2, h3, h4⟩ := F.ex
  refine wpE.of (pe_callG h4 hgd (ct.room.mono hj) hg h1 h2.kp h3 .nil pass0 pa_wp hd hs hpp) (h S A H σ _ g rs fun l ob1 vs S1 A1 H1 hh g1 q1 st1 => ?_)
  obtain ⟨rs', c, e1, hc, hf, hff⟩ := hh
  have hl : i < A1.length := by rw [g1.len]; exact (List.getElem?_eq_some_iff.mp hc).1
  have hp : A1[i]? = some A1[i] := List.getElem?_eq_getElem hl
  rw [List.append_nil]
  exact ⟨S1, [A1[i]], rs', [c], _, good_one g1 hp hc hf, relRs_asO hp e1 q1, hff, retO_end g1 hp hc (en.step st1)⟩
/-- f(..): data, and owned things lent -/
theorem we_callLG {st : Stmt} (hgd : X.A.guards = some []) (F : FnG X.prog X.w X.K X.mg X.base x st j ps f) (ct : Ct X k) (hj : j ≤ k) (h : Wa X (e :: es) ob sl fun rs ob1 => ∃ ds : List Dt, dtLs ob1 rs = some ds ∧ f (ds.map R.d) [] (retL ob1 P)) (hg : Gl X x := by rfl) (hd : (x == ("__debug__" : Str)) = false := by decide)
    (hs : starEach (e :: es) X.env = (false, eval e X.env) :: starEach es X.env := by rfl) (hp : (backTo pos (starEach es X.env)).any (·.1) = false := by rfl) : We X (.Call (.Name x p1) (e :: es) [] pos) ob sl P := fun S A H σ Q g rs en => by
  obtain ⟨ad, fd, h1, h2, h3, h4⟩ := F.ex
  refine wpE.of (pe_callG h4 hgd (ct.room.mono hj) hg h1 h2.kp h3 .nil pass0 pa_wp hd hs hp) (h S A H σ _ g rs fun rl ob1 vs S1 A1 H1 hh g1 q1 st1 => ?_)
  obtain ⟨ds, hb, hf⟩ := hh
  rw [List.append_nil]
  exact ⟨_, [], ds.map R.d, [], _, good_none (lend_ex g1), relRs_d.mpr (dtLs_rep g1 hb q1), hf, retL_end g1 (en.step st1)⟩
/-! ### repr(x), x a list or a tuple of data -/
def rReprD (K : PySem.W.Frag) : List V → Hp → VK → Prop := fun xs H Q => ∃ (a : Addr) (d : PyData), xs = [.ref a] ∧ Dp K H (.ref a) d ∧ d.showable = true ∧ d.hasDict = false ∧ d.depth ≤ 60 ∧ d.shown.length ≤ sizeLine ∧ Q (.str d.shown) H
theorem call_reprD (hgd : X.A.guards = some []) (hu : X.A.units + 64 < cLine) : CallR X (.builtin "repr") (rReprD X.K) := by
  intro pins s σ H xs us Q I r h
  obtain ⟨a, d, rfl, hd, hs, hn, hdp, hz, q⟩ := h
  obtain ⟨u, rfl, ru⟩ := vals1 r
  obtain ⟨as, r1⟩ := Dp.reads I d _ u hd ru
  obtain rfl : u = Value.ref a := ru
  exact repr_of_reads' r1 hs (PyData.noDict_hsm hn) hgd (by omega) (fun _ _ e => e) (fun h' t tk hk => ⟨.str _, H, I.kept hk, ⟨_, rfl⟩, q⟩) hz
theorem we_reprD (hgd : X.A.guards = some []) (ct : Ct X k) (hm : X.mg "repr" = none) (h : We X a ob sl fun r ob1 => ∃ x, dtL ob1 r = some x ∧ isRefD x = true ∧ okD 60 x = true ∧ (toPy x).showable = true ∧ (toPy x).shown.length ≤ sizeLine ∧ P (.d (.str (toPy x).shown)) ob1) (hg : Gl X "repr" := by rfl) (hs : starEach [a] X.env = (false, eval a X.env) :: starEach [] X.env := by rfl) : We X (.Call (.Name "repr" p1) [a] [] pos) ob sl P :=
  we_cb (call_reprD hgd ct.room.units) hm (wa_cons (h.mono fun r ob1 h1 => wa_nil fun S A H vs Q g q en => by
    obtain ⟨v, rfl, qz⟩ := relRs1 q
    obtain ⟨x, e1, hx, ok, sh, sz, h1⟩ := h1
    have rep := dtL_rep g e1 qz
    have dp := Rep.dp (K := X.K) (lend_ex g) 60 x v ok rep
    obtain ⟨p, rfl⟩ : ∃ p, v = .ref p := by
      cases x with
      | lst l => obtain ⟨p, _, e, _⟩ := rep_lst.mp rep; exact ⟨p, e⟩
      | tup l => obtain ⟨p, _, e, _⟩ := rep_tup.mp rep; exact ⟨p, e⟩
      | _ => cases hx
    exact ⟨p, _, rfl, dp, sh, PyData.hasDict_of_canLay _ (okD_lay 60 x ok).1, (okD_lay 60 x ok).2, sz, en.here h1 g rr_str⟩) hs) (by decide +kernel) hg (by decide) (by decide) hs rfl
/-! ### for x in reversed(l) -/
theorem yields_rev {S : Hp} {K : PySem.W.Frag} {p : Addr} {xs : List V} {l : List Dt} (h : S p = some (.lst xs)) (q : Reps S l xs) : Yields S (Itv K p xs.length) l.reverse := fun S1 H1 le ex i => by
  have hp : SqL K H1 p xs := SqL.of (ex.at (le _ _ h) rfl)
  have hlen : l.reverse.length = xs.length := by rw [List.length_reverse, q.length]
  rw [hlen]
  refine ⟨fun hi => ⟨⟨hi, xs, xs[xs.length - 1 - i]'(by omega), hp, by simp [show xs.length - 1 - i < xs.length from by omega]⟩, fun x H2 hy => ?_⟩, fun hi => Nat.le_of_eq hi.symm⟩
  obtain ⟨rfl, hy⟩ := hy
  obtain ⟨d, e1, e2⟩ := q.get (hy xs hp)
  have hi2 : xs.length - 1 - i < l.length := (List.getElem?_eq_some_iff.mp e1).1
  refine ⟨d, S1, ?_, ex, Le.refl _, Rep.mono le e2, fun _ _ z => z, fun _ z => .inl z⟩
  have hq := q.length
  rw [List.getElem?_reverse (by omega), show l.length - 1 - i = xs.length - 1 - i from by omega]
  exact e1
theorem wi_rev (hm : X.mg "reversed" = none) (h : We X e ob sl fun r ob1 => ∃ l, r = .d (.lst l) ∧ (l.length ≤ sizeLine → PI l.reverse ob1)) (hg : Gl X "reversed" := by rfl) (hs : starEach [e] X.env = [(false, eval e X.env)] := by rfl) : Wi X tg (.Call (.Name "reversed" p1) [e] [] pos) ob sl PI := fun S A H σ R g rs en => by
  refine wpI.of (pi_reversed hg hm (pa_cons pe_wp pa_nil hs) hs) (wpE.sz (h S A H σ _ g rs fun r ob1 v S1 A1 H1 h1 g1 q1 st1 sz => ?_))
  obtain ⟨l, rfl, h1⟩ := h1
  obtain ⟨p, xs, rfl, h2, h3⟩ := rep_lst.mp q1
  exact ⟨p, xs, rfl, SqL.of (g1.ex.at h2 rfl), en _ ob1 _ _ _ _ (h1 (by rw [← h3.length]; exact sz.1 p xs (g1.ex.at h2 rfl))) g1 st1 (yields_rev h2 h3)⟩
end
end DL


/-! DL: [list(k) for k in d], d a dict with tuple keys. -/
namespace DL
open PySem L2
theorem pe_unl {X : Cx} {e : Expr} {t : TE} (h : PE X e t) : PE X e (fun σ H Q => t σ H (unlV (X := X) Q)) := by
  refine ⟨fun pins s σ H Q I hw => ?_⟩
  refine thn (h.run pins s σ _ _ I hw) fun u s1 ⟨v, H', I2, r, q⟩ => ?_
  rcases q with q | ⟨d, od, o, e, hn, q⟩
  · exact ⟨v, _, I2, r, q⟩
  · exact ⟨v, _, I2.unlock e hn, r, q⟩
theorem LockR.unlV {X : Cx} {d : Addr} {kvs : List (List Key × V)} {od : Obj} {Hv HL : Hp} (h : LockR X d kvs od Hv HL) {P : VK} {v : V} (p : P v Hv) : DL.unlV (X := X) P v HL := by
  rcases h with ⟨rfl, z1, z2⟩ | ⟨rfl, z⟩
  · refine .inr ⟨d, od, .dT kvs, upd_same, z2, ?_⟩
    have e : L2.upd (L2.upd Hv d (.frz od (.dT kvs))) d (.dT kvs) = Hv := by
      funext b
      unfold L2.upd
      by_cases h1 : b = d
      · subst h1
        simp [z1]
      · simp [h1]
    rw [e]
    exact p
  · exact .inl p
theorem set_app {α : Type} (l : List α) (a b : α) : (l ++ [a]).set l.length b = l ++ [b] := by
  rw [List.set_append_right _ _ (Nat.le_refl _), Nat.sub_self]
  rfl
section
variable {X : Cx} {a b c e iter : Expr} {pos q0 q1 q2 q3 : Pos} {ob : Obs} {sl : Sls} {P : Post} {k : Nat} {y : Str}
/-- [list(y) for y in d], the new list owned -/
theorem we_keysL {scope : Scope} (j : Nat) (ct : Ct X k) (hm : X.mg "list" = none) (hi : We X iter ob sl fun r ob1 => ∃ l, dttOf ob1 r = some l ∧ l.length ≤ sizeLine ∧ P (.p ob1.length) (ob1 ++ [.lst (l.map fun p => .lst (p.1.map keyD))]))
    (ok : BlkOk X.N X.env.scope scope [(y, j)]) (hN : X.N[j]? = some y) (hj : j < sl.length) (hg : ∀ s H C cl fp, PG (X.blk s H scope (compEnvC scope cl C X.env) fp) (.Name y q0) (gName j))
    (hgl : ∀ (s : Shared) (H : Hp) (C : Addr) (cl : List (Str × Addr)) (fp : List Addr), Gl (X.blk s H scope (compEnvC scope cl C X.env) fp) "list") (hv : ∀ (s : Shared) (H : Hp) (C : Addr) (cl : List (Str × Addr)) (fp : List Addr), Vis (compEnvC scope cl C X.env).scope y) (hd1 : (y == ("__debug__" : Str)) = false) (hd2 : (y == ("__classdict__" : Str)) = false)
    (hst : ∀ (s : Shared) (H : Hp) (C : Addr) (cl : List (Str × Addr)) (fp : List Addr), starEach [.Name y q2] (compEnvC scope cl C X.env) = (false, eval (.Name y q2) (compEnvC scope cl C X.env)) :: starEach [] (compEnvC scope cl C X.env))
    (hs : ∀ x, foldedSetIterable iter X.env x = pure x := by intro _; rfl) :
    We X (.ListComp (.Call (.Name "list" q1) [.Name y q2] [] q3) [⟨.Name y q0, iter, [], 0⟩] scope pos) ob sl P := fun S A H σ Q g rs en => by
  refine wpE.of (pe_unl (pe_lc (tt := tYes) ct.calm ct.nd (pi_keysL pe_wp) ok hg (fun _ _ _ _ _ => pts_nil) (fun s H C cl fp => pe_callTy (X := X.blk s H scope (compEnvC scope cl C X.env) fp) (T := "list") (r := fun xs H Q => ∃ p ys, xs = [.ref p] ∧ (SqL X.K H p ys ∨ SqT X.K H p ys) ∧ ∀ l, H l = none → Q (.ref l) (upd H l (.lst ys))) (call_list_of (X := X.blk s H scope (compEnvC scope cl C X.env) fp)) (hgl s H C cl fp) hm (by decide +kernel) (pa_cons (pe_var hN (hv s H C cl fp) hd1 hd2) pa_nil (hst s H C cl fp)) (by decide) (by decide) (hst s H C cl fp) rfl) hs)) (hi S A H σ _ g rs fun r ob1 v S1 A1 H1 h1 g1 r1 st1 => ?_)
  obtain ⟨l, hl, hz, hk⟩ := h1
  obtain ⟨d, kvs, rfl, hd, hr⟩ := dttOf_rel hl g1 r1
  have hlen := hr.lenEq
  have core : ∀ od HL, LockR X d kvs od H1 HL → ∀ D, HL D = none → ∃ W : Nat → Nat → Hp → Prop, (∃ m, W 0 m (upd HL D (.lst []))) ∧ ∀ i m H, W i m H →
      ((Itkt d od kvs).stop i H ∧ DL.unlV (X := X) Q (.ref D) H) ∨ ((Itkt d od kvs).go i H ∧ ∃ Nx : Hp → Prop, (∀ H', Nx H' → ∃ m', m' < m ∧ W (i + 1) m' H') ∧ ∀ x H', (Itkt d od kvs).yld i H x H' → gName j x (wipe σ [j]) H' fun σ2 H2 => wipe σ2 [j] = wipe σ [j] ∧ tYes σ2 H2 fun b H3 =>
        if b = true then tCB (fun xs H Q => ∃ p ys, xs = [.ref p] ∧ (SqL X.K H p ys ∨ SqT X.K H p ys) ∧ ∀ l, H l = none → Q (.ref l) (upd H l (.lst ys))) (tCons (tVar j) tNil) σ2 H3 fun y H4 => ∃ acc, H4 D = some (.lst acc) ∧ acc.length < sizeLine ∧ Nx (upd H4 D (.lst (acc ++ [y]))) else Nx H3) := fun od HL hL D hD => by
    have nD : D ≠ d := by
      rintro rfl
      rw [hL.at] at hD
      cases hD
    have hD1 : H1 D = none := by rw [← hL.ne nD]; exact hD
    have sD : S1 D = none := g1.ex.fresh hD1
    refine ⟨fun i m H' => m = kvs.length - i ∧ i ≤ kvs.length ∧ ∃ Hv S2, LockR X d kvs od Hv H' ∧ Good X.K S2 (A1 ++ [D]) Hv (ob1 ++ [.lst ((l.take i).map fun p => .lst (p.1.map keyD))]) ∧ Step S1 A1 H1 S2 (A1 ++ [D]) Hv,
      ⟨_, rfl, Nat.zero_le _, _, S1, hL.upd nD, g1.newO (c := .lst ((l.take 0).map fun p => .lst (p.1.map keyD))) hD1 ⟨sD, [], upd_same, by rw [List.take_zero]; exact reps_nil.mpr rfl⟩, Step.newO hD1⟩, ?_⟩
    rintro i m H' ⟨rfl, hile, Hv, S2, hR, g2, st2⟩
    by_cases hlt : i < kvs.length
    · refine .inr ⟨⟨hR.at, hlt⟩, fun H' => i + 1 ≤ kvs.length ∧ ∃ Hv S2, LockR X d kvs od Hv H' ∧ Good X.K S2 (A1 ++ [D]) Hv (ob1 ++ [.lst ((l.take (i + 1)).map fun p => .lst (p.1.map keyD))]) ∧ Step S1 A1 H1 S2 (A1 ++ [D]) Hv, fun H' q => ⟨kvs.length - (i + 1), by omega, rfl, q⟩, ?_⟩
      rintro x H3 ⟨rfl, kk, vv, q, hkv, rfl, hq⟩
      refine ⟨?_, V.ref q, ?_, q, _, rfl, .inr (SqT.of hq), fun p hp => ?_⟩
      · simp only [wipe, List.set_set]
      · show ((wipe σ [j]).set j (some (V.ref q)))[j]? = some (some (V.ref q))
        rw [List.getElem?_set_self (by rw [wipe_length, ← rs.len]; exact hj)]
      obtain ⟨dd, e1⟩ := RepT.getKey hr hkv
      have aD : (A1 ++ [D])[A1.length]? = some D := at_app0 A1 D []
      have oD : (ob1 ++ [Ob.lst ((l.take i).map fun p => .lst (p.1.map keyD))])[A1.length]? = some (.lst ((l.take i).map fun p => .lst (p.1.map keyD))) := by rw [g1.len, List.getElem?_append_right (Nat.le_refl _), Nat.sub_self]; rfl
      obtain ⟨s2D, xs, hxD, hxs⟩ := g2.own _ _ _ aD oD
      have npD : D ≠ p := by
        rintro rfl
        rw [hR.ne nD, hxD] at hp
        cases hp
      have npd : p ≠ d := by
        rintro rfl
        rw [hR.at] at hp
        cases hp
      have hpv : Hv p = none := by rw [← hR.ne npd]; exact hp
      have s2p : S2 p = none := g2.ex.fresh hpv
      have hxl : xs.length = i := by rw [hxs.length, List.length_map, List.length_take]; omega
      refine ⟨xs, by rw [upd_ne npD, hR.ne nD]; exact hxD, by omega, by omega, upd (upd Hv p (.lst (kk.map kV))) D (.lst (xs ++ [.ref p])), upd S2 p (.lst (kk.map kV)), (hR.upd npd).upd nD, ?_, (st2.trans (Step.newD hpv s2p)).trans (Step.mut (List.mem_append_right _ (List.mem_singleton.mpr rfl)) (by rw [upd_ne npD]; exact s2D))⟩
      have g3 := (g2.newD (o := .lst (kk.map kV)) hpv).mut (o := .lst (xs ++ [.ref p])) (c := .lst ((l.take (i + 1)).map fun p => .lst (p.1.map keyD))) aD (by rw [upd_ne npD]; exact s2D) ⟨by rw [upd_ne npD]; exact s2D, _, upd_same, by
        rw [List.take_add_one, e1, List.map_append]
        exact (hxs.mono (Le.new s2p)).append (Reps.one (rep_lst.mpr ⟨p, _, rfl, upd_same, reps_keys kk⟩))⟩
      rw [g1.len, set_app] at g3
      exact g3
    · have e : i = kvs.length := by omega
      subst e
      rw [List.take_of_length_le (by omega)] at g2
      exact .inl ⟨⟨hR.at, Nat.le_refl _⟩, hR.unlV (en _ _ _ _ _ _ hk g2 ⟨D, by rw [← g1.len]; exact at_app0 A1 D [], rfl⟩ (st1.trans st2))⟩
  refine ⟨d, kvs, rfl, ?_⟩
  rcases hd with hd | ⟨od, hd⟩
  · exact .inl ⟨hd, fun od hn D hD => core od _ (.inl ⟨rfl, hd, hn⟩) D hD⟩
  · exact .inr ⟨od, hd, fun D hD => core od _ (.inr ⟨rfl, hd⟩) D hD⟩
end
end DL


/-! DL: owned lists at places that are not written down. -/
namespace DL
open PySem L2
section
variable {ob : Obs} {k : Nat} {l ds : List Dt} {P : Post} {rs : List R}
theorem dtO_at (h : ob[k]? = some (.lst l)) : dtOf ob (.p k) = some (.lst l) := by unfold dtOf; simp only [h]
theorem dtP_at (h : ob[k]? = some (.lst l)) : dtP ob (.p k) = some (.lst l) := by unfold dtP; simp only [h]
theorem dtL_at (h : ob[k]? = some (.lst l)) : dtL ob (.p k) = some (.lst l) := by unfold dtL; simp only [h]
theorem dtL_two {i j : Nat} {a b : List Dt} (h : ob[k]? = some (.tpl [.p i, .p j])) (h1 : ob[i]? = some (.lst a)) (h2 : ob[j]? = some (.lst b)) : dtL ob (.p k) = some (.tup [.lst a, .lst b]) := by
  unfold dtL
  simp only [h, dtPs, dtP_at h1, dtP_at h2]
theorem dtLs_nil : dtLs ob [] = some [] := rfl
theorem dtLs_d {x : Dt} {r : List Dt} (h : dtLs ob rs = some r) : dtLs ob (.d x :: rs) = some (x :: r) := by
  unfold dtLs
  simp only [dtL, h]
theorem dtLs_p {x : Dt} {r : List Dt} (h0 : dtL ob (.p k) = some x) (h : dtLs ob rs = some r) : dtLs ob (.p k :: rs) = some (x :: r) := by
  unfold dtLs
  simp only [h0, h]
theorem listRd_at (h : ob[k]? = some (.lst l)) : listRd ob (.p k) = some l := by unfold listRd; simp only [h]
theorem ixP_at {i : Int} {y : Dt} (h : ob[k]? = some (.lst l)) (hi : L2.atI l i = some y) (hp : P (.d y) ob) : ixP ob P (.p k) (.d (.int i)) := by
  show (match listRd ob (.p k) with | some l => ∃ x, L2.atI l i = some x ∧ P (.d x) ob | none => False)
  rw [listRd_at h]
  exact ⟨y, hi, hp⟩
theorem allsc_ints (l : List Int) : (l.map Dt.int).all Dt.sc = true := by
  rw [List.all_map, List.all_eq_true]
  intro x _
  rfl
theorem app_at {k : Nat} {c e : Ob} (h : ob[k]? = some c) : (ob ++ [e])[k]? = some c := by rw [List.getElem?_append_left (List.getElem?_eq_some_iff.mp h).1]; exact h
theorem app_end {e : Ob} : (ob ++ [e])[ob.length]? = some e := by rw [List.getElem?_append_right (Nat.le_refl _), Nat.sub_self]; rfl
theorem at_ne {i j : Nat} {c e : Ob} (h : ob[i]? = some c) (h2 : ob[j]? = some e) (hn : c ≠ e) : i ≠ j := fun z => by
  rw [z, h2] at h
  exact hn (Option.some.inj h).symm
theorem at_lt {c : Ob} (h : ob[k]? = some c) : k < ob.length := (List.getElem?_eq_some_iff.mp h).1
end
end DL


/-! DL: texts compared; what calls own brought back as data, or as something unknown. -/
namespace DL
open PySem L2
section
variable {K : PySem.W.Frag} {S S1 H H1 : Hp} {A A1 : List Addr} {ob ob0 : List Ob} {P : Post} {Q : VK}
/-- own lists and tuples of them that come back are data -/
def retF (ob : Obs) (P : Post) : Post := fun r ob0 => ∃ x, dtL ob0 r = some x ∧ P (.d x) ob
theorem retF_end (g : Good K S A H ob) (en : End K S A H P Q) : End K S [] H (retF ob P) Q := fun r ob0 v S1 A1 H1 h1 g1 q1 st1 => by
  obtain ⟨x, hx, h⟩ := h1
  have ex := lend_ex g1
  have st : Step S [] H (lendS S1 (LLof A1 ob0) H1) [] H1 := ⟨st1.le.trans (Le.lend _ _ _), List.prefix_refl _, st1.keep, fun a z => by
    rcases z with z | z
    · by_cases m : a ∈ LLof A1 ob0
      · obtain ⟨k, c, e1, _, _⟩ := mem_LL m
        exact st1.new a (.inr (List.mem_of_getElem? e1))
      · rw [lendS_out m] at z
        exact st1.new a (.inl z)
    · exact absurd z List.not_mem_nil⟩
  obtain ⟨g3, st3⟩ := g.pass st (good_none ex)
  exact en _ _ _ _ _ _ h g3 (dtL_rep g1 hx q1) st3
/-- something comes back that is None, or some list nobody looks into -/
def retX (ob : Obs) (P : Post) : Post := fun r ob0 => (r = .d .non ∧ P (.d .non) ob) ∨ (∃ l, r = .d (.lst l) ∧ ∀ a, P (.d (.adr a)) ob)
theorem retX_end (g : Good K S A H ob) (en : End K S A H P Q) : End K (lendS S (LLof A ob) H) [] H (retX ob P) Q := fun r ob0 v S1 A1 H1 h1 g1 q1 st1 => by
  obtain ⟨g2, st2⟩ := cutL_good g g1 st1
  rcases h1 with ⟨rfl, h⟩ | ⟨l, rfl, h⟩
  · exact en _ _ _ _ _ _ h g2 (show Rep (cutL S1 (LLof A ob)) .non v from Rep.sc rfl q1 _) st2
  · obtain ⟨p, xs, rfl, _, _⟩ := rep_lst.mp q1
    exact en _ _ _ _ _ _ (h p) g2 (show Rep (cutL S1 (LLof A ob)) (.adr p) (.ref p) from rep_adr.mpr rfl) st2
end
section
variable {X : Cx} {e a b c : Expr} {es : List Expr} {pos p1 : Pos} {ob : Obs} {sl : Sls} {P : Post} {k j : Nat} {x : Str} {ps : List Str} {f : FS} {B : Bool → Obs → Prop}
theorem we_callF {st : Stmt} (F : Fn X.prog X.w X.K X.mg X.base x st j ps f) (ct : Ct X k) (hj : j ≤ k) (h : Wa X (e :: es) ob sl fun rs ob1 => ∃ ds : List Dt, rs = ds.map R.d ∧ f (ds.map R.d) [] (retF ob1 P)) (hg : Gl X x := by rfl) (hd : (x == ("__debug__" : Str)) = false := by decide)
    (hs : starEach (e :: es) X.env = (false, eval e X.env) :: starEach es X.env := by rfl) (hp : (backTo pos (starEach es X.env)).any (·.1) = false := by rfl) : We X (.Call (.Name x p1) (e :: es) [] pos) ob sl P := fun S A H σ Q g rs en => by
  obtain ⟨ad, fd, h1, h2, h3, h4⟩ := F.ex
  refine wpE.of (pe_call h4 (ct.room.mono hj) hg h1 h2.kp h3 .nil pass0 pa_wp hd hs hp) (h S A H σ _ g rs fun l ob1 vs S1 A1 H1 hh g1 q1 st1 => ?_)
  obtain ⟨ds, rfl, hf⟩ := hh
  rw [List.append_nil]
  exact ⟨S1, [], ds.map R.d, [], _, good_none g1.ex, relRs_d.mpr (relRs_d.mp q1), hf, retF_end g1 (en.step st1)⟩
theorem we_callX {st : Stmt} (F : Fn X.prog X.w X.K X.mg X.base x st j ps f) (ct : Ct X k) (hj : j ≤ k) (h : Wa X (e :: es) ob sl fun rs ob1 => ∃ ds : List Dt, dtLs ob1 rs = some ds ∧ f (ds.map R.d) [] (retX ob1 P)) (hg : Gl X x := by rfl) (hd : (x == ("__debug__" : Str)) = false := by decide)
    (hs : starEach (e :: es) X.env = (false, eval e X.env) :: starEach es X.env := by rfl) (hp : (backTo pos (starEach es X.env)).any (·.1) = false := by rfl) : We X (.Call (.Name x p1) (e :: es) [] pos) ob sl P := fun S A H σ Q g rs en => by
  obtain ⟨ad, fd, h1, h2, h3, h4⟩ := F.ex
  refine wpE.of (pe_call h4 (ct.room.mono hj) hg h1 h2.kp h3 .nil pass0 pa_wp hd hs hp) (h S A H σ _ g rs fun rl ob1 vs S1 A1 H1 hh g1 q1 st1 => ?_)
  obtain ⟨ds, hb, hf⟩ := hh
  rw [List.append_nil]
  exact ⟨_, [], ds.map R.d, [], _, good_none (lend_ex g1), relRs_d.mpr (dtLs_rep g1 hb q1), hf, retX_end g1 (en.step st1)⟩
theorem we_callFK {st : Stmt} {kws : List Keyword} {ks : List Str} (gg : {α : Type} → List α → List α) (F : Fn X.prog X.w X.K X.mg X.base x st j ps f) (ct : Ct X k) (hj : j ≤ k)
    (hb : ∀ (kV doc pm : Value) (an : Option Addr) (cdv ct : Value) (us : List Value), us.length = ks.length → bindArgs (PySem.W.fnOf x x (defArgs st) (defBody st) (defScope st) .none kV doc pm an cdv ct) ⟨[], ks.zip us⟩ = pure (ps.zip (gg us)))
    (hr : ∀ {vs : List V} {us : List Value}, vs.length = ks.length → Vals vs us → Vals (gg vs) (gg us)) (hd : ∀ {ds : List Dt} {vs : List V} {S : Hp}, ds.length = ks.length → Reps S ds vs → Reps S (gg ds) (gg vs))
    (h : Wk X kws ob sl fun rs ob1 => ∃ ds : List Dt, rs = ds.map R.d ∧ ds.length = ks.length ∧ f ((gg ds).map R.d) [] (retF ob1 P)) (hg : Gl X x := by rfl)
    (hall : (backToKw pos (keywordEach kws X.env)).all (·.1.isSome) = true := by rfl) (hks : (backToKw pos (keywordEach kws X.env)).filterMap (·.1) = ks := by rfl) (hdb : (x == ("__debug__" : Str)) = false := by decide)
    (hpl : ((backTo pos (starEach [] X.env)).any (·.1) || (backToKw pos (keywordEach kws X.env)).any (·.1.isNone)) = false := by rfl) : We X (.Call (.Name x p1) [] kws pos) ob sl P := fun S A H σ Q gd rs en => by
  refine ⟨fun pins s I => ?_⟩
  obtain ⟨ad, fd, h1, h2, h3, h4⟩ := F.ex
  refine wpAny_Call_Name_kw (ld_glob I hg h1 ?_ hdb)
  refine PySem.W.callWith_KW0 (h₀ := X.base) I.ok.mod.kin h2.kp hall ?_ hpl
  refine thn (h S A H σ (fun vs H1 => ∃ S1 A1 ds ob1, Good X.K S1 A1 H1 ob1 ∧ Step S A H S1 A1 H1 ∧ Reps S1 ds vs ∧ ds.length = ks.length ∧ f ((gg ds).map R.d) [] (retF ob1 P)) gd rs (fun l ob1 vs S1 A1 H1 hh g1 q1 st1 => ?_) pos pins s I) fun ws s2 ⟨zs, H2, I2, rz, S1, A1, ds, ob1, g1, st1, q1, hl, hf⟩ => ⟨I2.kIn, ?_⟩
  · obtain ⟨ds, rfl, hl, hf⟩ := hh
    exact ⟨S1, A1, ds, ob1, g1, st1, relRs_d.mp q1, hl, hf⟩
  · rw [hks]
    have lz : zs.length = ks.length := by rw [q1.length]; exact hl
    have lw : ws.length = ks.length := by rw [← rz.length]; exact lz
    have r2 := hr lz rz
    have hsp : spOf X.K f (gg zs) H2 Q E0 := ⟨_, [], (gg ds).map R.d, [], _, good_none g1.ex, relRs_d.mpr (hd hl q1), hf, retF_end g1 (en.step st1)⟩
    obtain ⟨oc, od, kV, doc, pm, an, cdv, ct', osl, rfl, lk, hcd⟩ := h2.ex
    refine wpAny_call (codeAny_mono (h4.run X.A X.stack s2 H2 ⟨[], ks.zip ws⟩ (gg ws) (gg zs) Q E0 (ct.room.mono hj) I2.env0 (.of_eq (hb kV doc pm an cdv ct' ws lw)) r2 hsp) fun r s' hq => ?_)
    cases r with
    | error e => exact (pass0 pins σ H2 s2 e s' I2 hq)
    | ok fl =>
      cases fl with
      | ret u => exact I2.after hq
      | next => exact False.elim hq
      | brk => exact False.elim hq
      | cont => exact False.elim hq
/-! ### texts -/
theorem wt_neS (h : We X a ob sl fun r1 ob1 => We X b ob1 sl fun r2 ob2 => ∃ s t, r1 = .d (.str s) ∧ r2 = .d (.str t) ∧ B (!decide (s = t)) ob2) : Wt X (.Compare a [.NotEq] [b] pos) ob sl B :=
  wt_cmp op_ne (nomark _) (h.mono fun _ _ h1 => h1.mono fun _ _ h2 S A H v w Q g q1 q2 en => by
    obtain ⟨s, t, rfl, rfl, hb⟩ := h2
    obtain rfl := rep_str.mp (show Rep S (.str s) v from q1)
    obtain rfl := rep_str.mp (show Rep S (.str t) w from q2)
    refine ⟨rfl, en.here (r := .d (.bl (!decide (s = t)))) ⟨_, rfl, hb⟩ g ?_⟩
    rw [show decide (V.str s = V.str t) = decide (s = t) from decide_eq_decide.mpr ⟨fun e => V.str.inj e, fun e => by rw [e]⟩]
    exact rr_bl)
end
/-! ### data compared -/
theorem eqv_self_ints (l : List Int) : PyData.eqvAll (l.map .int) (l.map .int) = true := by
  induction l with
  | nil => simp [PyData.eqvAll]
  | cons x l ih => simp [PyData.eqvAll, PyData.eqv, ih]
theorem toPy_ints (l : List Int) : toPy (encI l) = .list (l.map .int) := by
  show PyData.list (toPys (l.map Dt.int)) = _
  rw [toPys_eq, List.map_map]
  rfl
theorem okD_pair (a b : List Int) : okD 64 (.tup [encI a, encI b]) = true := by
  show (okD 63 (encI a) && (okD 63 (encI b) && true)) = true
  rw [okD_encI 62, okD_encI 62]
  rfl
theorem okD_more (l : List Int) : okD 64 (.lst (l.map Dt.int ++ [.non])) = true := by
  show okDs 63 (l.map Dt.int ++ [.non]) = true
  rw [okDs_eq, List.all_append, List.all_map, Bool.and_eq_true]
  exact ⟨List.all_eq_true.mpr fun _ _ => rfl, rfl⟩
theorem eqD_pair (a b : List Int) : eqD (.tup [encI a, encI b]) (.tup [encI a, encI b]) = true := by
  unfold eqD
  have e : toPy (.tup [encI a, encI b]) = .tuple [.list (a.map .int), .list (b.map .int)] := by
    rw [← toPy_ints, ← toPy_ints]
    rfl
  rw [e]
  simp [PyData.eqv, PyData.eqvAll, eqv_self_ints]
theorem eqv_more (l : List Int) : PyData.eqvAll (l.map .int) (l.map .int ++ [.none]) = false := by
  induction l with
  | nil => simp [PyData.eqvAll]
  | cons x l ih => simp [PyData.eqvAll, PyData.eqv, ih]
theorem eqD_more (l : List Int) : eqD (encI l) (.lst (l.map Dt.int ++ [.non])) = false := by
  unfold eqD
  rw [toPy_ints]
  have e : toPy (.lst (l.map Dt.int ++ [.non])) = .list (l.map .int ++ [.none]) := by
    show PyData.list (toPys (l.map Dt.int ++ [.non])) = _
    rw [toPys_eq, List.map_append, List.map_map]
    rfl
  rw [e]
  show PyData.eqvAll _ _ = false
  exact eqv_more l
end DL

namespace K65
open PySem L2 DL
def top (i : Nat) : Stmt := PySem.Challenge.pw_voicerows_k65_whole_greatest_beginnings.main.body.getD i (.Pass ⟨0, 0, 0, 0⟩)
abbrev s_is_whole : Stmt := top 8
theorem sc_is_whole : FnScope ["value"] ["value"] (defScope s_is_whole) := ⟨rfl, rfl, rfl, by decide +kernel, rfl, by decide +kernel, by decide +kernel⟩
abbrev s_is_between : Stmt := top 9
theorem sc_is_between : FnScope ["value", "low", "high"] ["value", "low", "high"] (defScope s_is_between) := ⟨rfl, rfl, rfl, by decide +kernel, rfl, by decide +kernel, by decide +kernel⟩
abbrev s_is_row_list : Stmt := top 10
theorem sc_is_row_list : FnScope ["value", "item"] ["value"] (defScope s_is_row_list) := ⟨rfl, rfl, rfl, by decide +kernel, rfl, by decide +kernel, by decide +kernel⟩
abbrev s_check_row : Stmt := top 11
theorem sc_check_row : FnScope ["row"] ["row"] (defScope s_check_row) := ⟨rfl, rfl, rfl, by decide +kernel, rfl, by decide +kernel, by decide +kernel⟩
abbrev s_Lets___init__ : Stmt := inClass (top 15) 0
theorem sc_Lets___init__ : FnScope ["self", "numbers", "start", "number"] ["self", "numbers", "start"] (defScope s_Lets___init__) := ⟨rfl, rfl, rfl, by decide +kernel, rfl, by decide +kernel, by decide +kernel⟩
abbrev s_Lets__fill : Stmt := inClass (top 15) 1
theorem sc_Lets__fill : FnScope ["self", "numbers", "start", "held", "number"] ["self", "numbers", "start"] (defScope s_Lets__fill) := ⟨rfl, rfl, rfl, by decide +kernel, rfl, by decide +kernel, by decide +kernel⟩
abbrev s_Lets_numbers : Stmt := inClass (top 15) 2
theorem sc_Lets_numbers : FnScope ["self"] ["self"] (defScope s_Lets_numbers) := ⟨rfl, rfl, rfl, by decide +kernel, rfl, by decide +kernel, by decide +kernel⟩
abbrev s_Lets_start : Stmt := inClass (top 15) 3
theorem sc_Lets_start : FnScope ["self"] ["self"] (defScope s_Lets_start) := ⟨rfl, rfl, rfl, by decide +kernel, rfl, by decide +kernel, by decide +kernel⟩
abbrev s_Lets___contains__ : Stmt := inClass (top 15) 4
theorem sc_Lets___contains__ : FnScope ["self", "value"] ["self", "value"] (defScope s_Lets___contains__) := ⟨rfl, rfl, rfl, by decide +kernel, rfl, by decide +kernel, by decide +kernel⟩
abbrev s_Lets___eq__ : Stmt := inClass (top 15) 5
theorem sc_Lets___eq__ : FnScope ["self", "other"] ["self", "other"] (defScope s_Lets___eq__) := ⟨rfl, rfl, rfl, by decide +kernel, rfl, by decide +kernel, by decide +kernel⟩
abbrev s_numbers_to : Stmt := top 16
theorem sc_numbers_to : FnScope ["lets", "most", "number"] ["lets", "most"] (defScope s_numbers_to) := ⟨rfl, rfl, rfl, by decide +kernel, rfl, by decide +kernel, by decide +kernel⟩
abbrev s_bound_of : Stmt := top 17
theorem sc_bound_of : FnScope ["lets", "start"] ["lets"] (defScope s_bound_of) := ⟨rfl, rfl, rfl, by decide +kernel, rfl, by decide +kernel, by decide +kernel⟩
abbrev s_fault_to : Stmt := top 18
theorem sc_fault_to : FnScope ["lets", "most", "numbers", "found", "low", "high"] ["lets", "most"] (defScope s_fault_to) := ⟨rfl, rfl, rfl, by decide +kernel, rfl, by decide +kernel, by decide +kernel⟩
abbrev s_is_good : Stmt := top 19
theorem sc_is_good : FnScope ["lets"] ["lets"] (defScope s_is_good) := ⟨rfl, rfl, rfl, by decide +kernel, rfl, by decide +kernel, by decide +kernel⟩
abbrev s_check_good : Stmt := top 20
theorem sc_check_good : FnScope ["lets"] ["lets"] (defScope s_check_good) := ⟨rfl, rfl, rfl, by decide +kernel, rfl, by decide +kernel, by decide +kernel⟩
abbrev s_check_two : Stmt := top 22
theorem sc_check_two : FnScope ["lets", "one", "other"] ["lets", "one", "other"] (defScope s_check_two) := ⟨rfl, rfl, rfl, by decide +kernel, rfl, by decide +kernel, by decide +kernel⟩
abbrev s_exchanged : Stmt := top 24
theorem sc_exchanged : FnScope ["lets", "first", "second"] ["lets", "first", "second"] (defScope s_exchanged) := ⟨rfl, rfl, rfl, by decide +kernel, rfl, by decide +kernel, by decide +kernel⟩
abbrev s_journey : Stmt := top 26
theorem sc_journey : FnScope ["lets", "row", "item", "found", "now", "first"] ["lets", "row", "item"] (defScope s_journey) := ⟨rfl, rfl, rfl, by decide +kernel, rfl, by decide +kernel, by decide +kernel⟩
abbrev s_left_of : Stmt := top 27
theorem sc_left_of : FnScope ["lets", "row", "item", "found", "done"] ["lets", "row", "item"] (defScope s_left_of) := ⟨rfl, rfl, rfl, by decide +kernel, rfl, by decide +kernel, by decide +kernel⟩
abbrev s_to_front : Stmt := top 28
theorem sc_to_front : FnScope ["lets", "row", "at", "item", "first", "pair"] ["lets", "row", "at"] (defScope s_to_front) := ⟨rfl, rfl, rfl, by decide +kernel, rfl, by decide +kernel, by decide +kernel⟩
abbrev s_fronts_of : Stmt := top 30
theorem sc_fronts_of : FnScope ["lets", "row", "found", "at", "item"] ["lets", "row"] (defScope s_fronts_of) := ⟨rfl, rfl, rfl, by decide +kernel, rfl, by decide +kernel, by decide +kernel⟩
abbrev s_common_fronts : Stmt := top 31
theorem sc_common_fronts : FnScope ["lets", "one", "other", "beside", "item"] ["lets", "one", "other"] (defScope s_common_fronts) := ⟨rfl, rfl, rfl, by decide +kernel, rfl, by decide +kernel, by decide +kernel⟩
abbrev s_shared_beginning : Stmt := top 32
theorem sc_shared_beginning : FnScope ["lets", "one", "other", "found", "left", "right", "common"] ["lets", "one", "other"] (defScope s_shared_beginning) := ⟨rfl, rfl, rfl, by decide +kernel, rfl, by decide +kernel, by decide +kernel⟩
abbrev s_greatest_beginning : Stmt := top 33
theorem sc_greatest_beginning : FnScope ["lets", "one", "other"] ["lets", "one", "other"] (defScope s_greatest_beginning) := ⟨rfl, rfl, rfl, by decide +kernel, rfl, by decide +kernel, by decide +kernel⟩
abbrev s_both_left : Stmt := top 34
theorem sc_both_left : FnScope ["lets", "one", "other"] ["lets", "one", "other"] (defScope s_both_left) := ⟨rfl, rfl, rfl, by decide +kernel, rfl, by decide +kernel, by decide +kernel⟩
abbrev s__law_hash : Stmt := top 36
theorem sc__law_hash : FnScope ["seed", "index", "mixed"] ["seed", "index"] (defScope s__law_hash) := ⟨rfl, rfl, rfl, by decide +kernel, rfl, by decide +kernel, by decide +kernel⟩
abbrev s__law_random : Stmt := top 37
theorem sc__law_random : FnScope ["generator", "bound", "drawn", "turn"] ["generator", "bound"] (defScope s__law_random) := ⟨rfl, rfl, rfl, by decide +kernel, rfl, by decide +kernel, by decide +kernel⟩
abbrev s__law_cell : Stmt := top 38
theorem sc__law_cell : FnScope ["script", "index"] ["script", "index"] (defScope s__law_cell) := ⟨rfl, rfl, rfl, by decide +kernel, rfl, by decide +kernel, by decide +kernel⟩
abbrev s__law_generator : Stmt := top 39
theorem sc__law_generator : FnScope ["script", "index", "seed"] ["script", "index"] (defScope s__law_generator) := ⟨rfl, rfl, rfl, by decide +kernel, rfl, by decide +kernel, by decide +kernel⟩
abbrev s__law_told_set : Stmt := top 40
theorem sc__law_told_set : FnScope ["generator", "found"] ["generator"] (defScope s__law_told_set) := ⟨rfl, rfl, rfl, by decide +kernel, rfl, by decide +kernel, by decide +kernel⟩
abbrev s__law_in : Stmt := top 41
theorem sc__law_in : FnScope ["told", "number"] ["told", "number"] (defScope s__law_in) := ⟨rfl, rfl, rfl, by decide +kernel, rfl, by decide +kernel, by decide +kernel⟩
abbrev s__law_lets : Stmt := top 42
theorem sc__law_lets : FnScope ["told", "numbers"] ["told"] (defScope s__law_lets) := ⟨rfl, rfl, rfl, by decide +kernel, rfl, by decide +kernel, by decide +kernel⟩
abbrev s__law_exchanged : Stmt := top 43
theorem sc__law_exchanged : FnScope ["told", "one", "other"] ["told", "one", "other"] (defScope s__law_exchanged) := ⟨rfl, rfl, rfl, by decide +kernel, rfl, by decide +kernel, by decide +kernel⟩
abbrev s__law_near : Stmt := top 44
theorem sc__law_near : FnScope ["told", "row", "found", "at", "pair"] ["told", "row"] (defScope s__law_near) := ⟨rfl, rfl, rfl, by decide +kernel, rfl, by decide +kernel, by decide +kernel⟩
abbrev s__law_class : Stmt := top 45
theorem sc__law_class : FnScope ["told", "row", "most", "known", "order", "at", "there"] ["told", "row", "most"] (defScope s__law_class) := ⟨rfl, rfl, rfl, by decide +kernel, rfl, by decide +kernel, by decide +kernel⟩
abbrev s__law_left : Stmt := top 46
theorem sc__law_left : FnScope ["told", "row", "item", "found", "now", "at", "first"] ["told", "row", "item"] (defScope s__law_left) := ⟨rfl, rfl, rfl, by decide +kernel, rfl, by decide +kernel, by decide +kernel⟩
abbrev s__law_divided : Stmt := top 47
theorem sc__law_divided : FnScope ["told", "row", "by", "left", "item"] ["told", "row", "by"] (defScope s__law_divided) := ⟨rfl, rfl, rfl, by decide +kernel, rfl, by decide +kernel, by decide +kernel⟩
abbrev s__law_stirred : Stmt := top 48
theorem sc__law_stirred : FnScope ["generator", "told", "row", "most", "found", "turn", "near"] ["generator", "told", "row", "most"] (defScope s__law_stirred) := ⟨rfl, rfl, rfl, by decide +kernel, rfl, by decide +kernel, by decide +kernel⟩
abbrev s__law_row : Stmt := top 49
theorem sc__law_row : FnScope ["generator", "most", "high", "turn"] ["generator", "most", "high"] (defScope s__law_row) := ⟨rfl, rfl, rfl, by decide +kernel, rfl, by decide +kernel, by decide +kernel⟩
abbrev s__law_fronts : Stmt := top 50
theorem sc__law_fronts : FnScope ["told", "row", "found", "at", "line", "item", "first", "pair"] ["told", "row"] (defScope s__law_fronts) := ⟨rfl, rfl, rfl, by decide +kernel, rfl, by decide +kernel, by decide +kernel⟩
abbrev s__law_first : Stmt := top 51
theorem sc__law_first : FnScope ["told", "row", "found", "left"] ["told", "row"] (defScope s__law_first) := ⟨rfl, rfl, rfl, by decide +kernel, rfl, by decide +kernel, by decide +kernel⟩
abbrev s__law_heads : Stmt := top 52
theorem sc__law_heads : FnScope ["told", "row", "known", "found", "there", "size", "head"] ["told", "row"] (defScope s__law_heads) := ⟨rfl, rfl, rfl, by decide +kernel, rfl, by decide +kernel, by decide +kernel⟩
abbrev s__law_told_right : Stmt := top 53
theorem sc__law_told_right : FnScope ["told", "one", "other", "found", "left", "item", "known"] ["told", "one", "other", "found", "left"] (defScope s__law_told_right) := ⟨rfl, rfl, rfl, by decide +kernel, rfl, by decide +kernel, by decide +kernel⟩
abbrev s__law_right : Stmt := top 54
theorem sc__law_right : FnScope ["generator", "told", "lets", "base", "one", "other", "kept", "found", "left", "heads", "others", "both", "head", "given"] ["generator"] (defScope s__law_right) := ⟨rfl, rfl, rfl, by decide +kernel, rfl, by decide +kernel, by decide +kernel⟩
abbrev s_law : Stmt := top 55
theorem sc_law : FnScope ["script", "index", "one"] ["script"] (defScope s_law) := ⟨rfl, rfl, rfl, by decide +kernel, rfl, by decide +kernel, by decide +kernel⟩
structure Tx (K : PySem.W.Frag) (mg : Str → Option Value) : Prop where
  z_bool : mg "bool" = none
  z_enumerate : mg "enumerate" = none
  z_int : mg "int" = none
  z_isinstance : mg "isinstance" = none
  z_len : mg "len" = none
  z_list : mg "list" = none
  z_max : mg "max" = none
  z_range : mg "range" = none
  z_repr : mg "repr" = none
  z_reversed : mg "reversed" = none
  z_sorted : mg "sorted" = none
  z_sum : mg "sum" = none
  z_tuple : mg "tuple" = none
  c_MOST_COUNT : ∃ t, mg "MOST_COUNT" = some (.int 1000 t)
  c_MOST_LENGTH : ∃ t, mg "MOST_LENGTH" = some (.int 200 t)
  c_MOST_NUMBERS : ∃ t, mg "MOST_NUMBERS" = some (.int 200 t)
  mg_Lets : mg "Lets" = some (.ref (He.ga K "Lets"))
  cls_Lets : Cls K (He.ga K "Lets")
  isc_Lets : C8.InsC K (He.ga K "Lets")
  na_Lets__held : NoAttr K (He.ga K "Lets") "_held"
  na_Lets__start : NoAttr K (He.ga K "Lets") "_start"
  d_is_whole : Def K mg "is_whole" s_is_whole
  d_is_between : Def K mg "is_between" s_is_between
  d_is_row_list : Def K mg "is_row_list" s_is_row_list
  d_check_row : Def K mg "check_row" s_check_row
  d_Lets___init__ : DefI K mg "Lets" (He.ga K "Lets") "Lets.__init__" s_Lets___init__ [.non]
  d_Lets__fill : DefM K (He.ga K "Lets") "_fill" "Lets._fill" s_Lets__fill
  d_Lets_numbers : DefM K (He.ga K "Lets") "numbers" "Lets.numbers" s_Lets_numbers
  d_Lets_start : DefM K (He.ga K "Lets") "start" "Lets.start" s_Lets_start
  d_Lets___contains__ : DefM K (He.ga K "Lets") "__contains__" "Lets.__contains__" s_Lets___contains__
  d_Lets___eq__ : DefM K (He.ga K "Lets") "__eq__" "Lets.__eq__" s_Lets___eq__
  d_numbers_to : Def K mg "numbers_to" s_numbers_to
  d_bound_of : Def K mg "bound_of" s_bound_of
  d_fault_to : Def K mg "fault_to" s_fault_to
  d_is_good : Def K mg "is_good" s_is_good
  d_check_good : Def K mg "check_good" s_check_good
  d_check_two : Def K mg "check_two" s_check_two
  d_exchanged : Def K mg "exchanged" s_exchanged
  d_journey : Def K mg "journey" s_journey
  d_left_of : Def K mg "left_of" s_left_of
  d_to_front : Def K mg "to_front" s_to_front
  d_fronts_of : Def K mg "fronts_of" s_fronts_of
  d_common_fronts : Def K mg "common_fronts" s_common_fronts
  d_shared_beginning : Def K mg "shared_beginning" s_shared_beginning
  d_greatest_beginning : Def K mg "greatest_beginning" s_greatest_beginning
  d_both_left : Def K mg "both_left" s_both_left
  d__law_hash : Def K mg "_law_hash" s__law_hash
  d__law_random : Def K mg "_law_random" s__law_random
  d__law_cell : Def K mg "_law_cell" s__law_cell
  d__law_generator : Def K mg "_law_generator" s__law_generator
  d__law_told_set : Def K mg "_law_told_set" s__law_told_set
  d__law_in : Def K mg "_law_in" s__law_in
  d__law_lets : Def K mg "_law_lets" s__law_lets
  d__law_exchanged : Def K mg "_law_exchanged" s__law_exchanged
  d__law_near : Def K mg "_law_near" s__law_near
  d__law_class : Def K mg "_law_class" s__law_class
  d__law_left : Def K mg "_law_left" s__law_left
  d__law_divided : Def K mg "_law_divided" s__law_divided
  d__law_stirred : Def K mg "_law_stirred" s__law_stirred
  d__law_row : Def K mg "_law_row" s__law_row
  d__law_fronts : Def K mg "_law_fronts" s__law_fronts
  d__law_first : Def K mg "_law_first" s__law_first
  d__law_heads : Def K mg "_law_heads" s__law_heads
  d__law_told_right : Def K mg "_law_told_right" s__law_told_right
  d__law_right : Def K mg "_law_right" s__law_right
  d_law : Def K mg "law" s_law
def isBet (n lo hi : Int) : Bool := decide (lo ≤ n) && decide (n ≤ hi)
def heldL (ks : List Int) : List (Key × Dt) := ks.map fun n => (.inl n, .bl true)
def addK (ks : List Int) (n : Int) : List Int := if n ∈ ks then ks else ks ++ [n]
def keysOf (ns : List Int) : List Int := ns.foldl addK []
def fillW : Nat → List Int → Int → Option (List Int × Option Int)
  | 0, _, _ => none
  | m + 1, ks, u => if u - 1 ∈ ks then fillW m (ks.filter fun n => decide (n ≠ u - 1)) (u - 1) else some (ks, some u)
def fillS (ns : List Int) : Option Int → List Int × Option Int
  | none => (keysOf ns, none)
  | some t => let ks := keysOf (ns.filter fun n => decide (n < t))
    match fillW (ks.length + 1) ks t with
    | some r => r
    | none => ([], none)
theorem held_put (ks : List Int) (n : Int) : putD (heldL ks) (.inl n) (.bl true) = heldL (addK ks n) := by
  unfold putD addK heldL
  by_cases h : n ∈ ks
  · rw [if_pos h, if_pos (by rw [List.any_map, List.any_eq_true]; exact ⟨n, h, by simp⟩), List.map_map]
    refine List.map_congr_left fun m _ => ?_
    by_cases e : m = n <;> simp [e]
  · rw [if_neg h, if_neg (by
      rw [List.any_map, List.any_eq_true]
      rintro ⟨m, hm, e⟩
      simp at e
      exact h (e ▸ hm)), List.map_append]
    rfl
theorem held_fold (l : List Int) : l.foldl (fun acc a => putD acc (.inl a) (.bl true)) [] = heldL (keysOf l) := by
  have key : ∀ (l ks : List Int), l.foldl (fun acc a => putD acc (.inl a) (.bl true)) (heldL ks) = heldL (l.foldl addK ks) := fun l => by
    induction l with
    | nil => intro ks; rfl
    | cons a l ih => intro ks; rw [List.foldl_cons, held_put, ih]; rfl
  exact key l []
theorem held_val (ks : List Int) (n : Int) : (valD (heldL ks) (.inl n)).isSome = decide (n ∈ ks) := by
  unfold valD heldL
  rw [Option.isSome_map]
  apply Bool.eq_iff_iff.mpr
  rw [List.find?_isSome, decide_eq_true_iff]
  constructor
  · rintro ⟨x, hx, e⟩
    obtain ⟨m, hm, rfl⟩ := List.mem_map.mp hx
    simp at e
    exact e ▸ hm
  · exact fun h => ⟨_, List.mem_map_of_mem h, by simp⟩
theorem held_drop (ks : List Int) (n : Int) : dropD (heldL ks) (.inl n) = heldL (ks.filter fun m => decide (m ≠ n)) := by
  unfold dropD heldL
  rw [List.filter_map]
  congr 1
  refine List.filter_congr fun m _ => ?_
  simp
theorem held_keys (ks : List Int) : ((heldL ks).map fun p => keyD p.1) = ks.map .int := by
  unfold heldL
  rw [List.map_map]
  rfl
theorem filter_lt {ks : List Int} {n : Int} (h : n ∈ ks) : (ks.filter fun m => decide (m ≠ n)).length < ks.length := by
  exact List.length_filter_lt_length_iff_exists.mpr ⟨n, h, by simp⟩
theorem fillW_some : ∀ (m : Nat) (ks : List Int) (u : Int), ks.length < m → ∃ r, fillW m ks u = some r ∧ r.2 ≠ none
  | 0, ks, u, h => absurd h (Nat.not_lt_zero _)
  | m + 1, ks, u, h => by
    unfold fillW
    by_cases hu : u - 1 ∈ ks
    · rw [if_pos hu]
      exact fillW_some m _ _ (Nat.lt_of_lt_of_le (filter_lt hu) (Nat.le_of_lt_succ h))
    · rw [if_neg hu]
      exact ⟨_, rfl, fun z => by cases z⟩
theorem fillS_some (ns : List Int) (t : Int) : fillW ((keysOf (ns.filter fun n => decide (n < t))).length + 1) (keysOf (ns.filter fun n => decide (n < t))) t = some (fillS ns (some t)) := by
  obtain ⟨r, h, _⟩ := fillW_some _ (keysOf (ns.filter fun n => decide (n < t))) t (Nat.lt_succ_self _)
  rw [h]
  unfold fillS
  simp only [h]
theorem fillW_step {m : Nat} {ks : List Int} {u : Int} {r : List Int × Option Int} (h : u - 1 ∈ ks) (e : fillW m ks u = some r) : ∃ m1, m = m1 + 1 ∧ fillW m1 (ks.filter fun n => decide (n ≠ u - 1)) (u - 1) = some r := by
  cases m with
  | zero => cases e
  | succ m =>
    unfold fillW at e
    rw [if_pos h] at e
    exact ⟨m, rfl, e⟩
theorem fillW_stop {m : Nat} {ks : List Int} {u : Int} {r : List Int × Option Int} (h : ¬ u - 1 ∈ ks) (e : fillW m ks u = some r) : r = (ks, some u) := by
  cases m with
  | zero => cases e
  | succ m =>
    unfold fillW at e
    rw [if_neg h] at e
    exact (Option.some.inj e).symm
def letsD (C : Addr) (ks : List Int) (st : Option Int) : Dt := .ins C [("_held", .dct (heldL ks)), ("_start", optD st)]
def lfR (ks : List Int) (st : Option Int) : List (Str × R) := [("_held", .d (.dct (heldL ks))), ("_start", .d (optD st))]
def insI (n : Int) : List Int → List Int
  | [] => [n]
  | m :: l => if n ≤ m then n :: m :: l else m :: insI n l
def sortI : List Int → List Int
  | [] => []
  | n :: l => insI n (sortI l)
theorem insI_perm (n : Int) : ∀ l : List Int, (insI n l).Perm (n :: l)
  | [] => List.Perm.refl _
  | m :: l => by
    unfold insI
    by_cases h : n ≤ m
    · rw [if_pos h]
    · rw [if_neg h]
      exact ((insI_perm n l).cons m).trans (List.Perm.swap n m l)
theorem sortI_perm : ∀ l : List Int, (sortI l).Perm l
  | [] => List.Perm.refl _
  | n :: l => (insI_perm n _).trans ((sortI_perm l).cons n)
theorem insI_sorted (n : Int) : ∀ {l : List Int}, l.Pairwise (fun a b => leI a b = true) → (insI n l).Pairwise (fun a b => leI a b = true)
  | [], _ => List.pairwise_singleton _ _
  | m :: l, h => by
    unfold insI
    obtain ⟨h1, h2⟩ := List.pairwise_cons.mp h
    by_cases q : n ≤ m
    · rw [if_pos q]
      refine List.pairwise_cons.mpr ⟨fun x hx => ?_, h⟩
      rcases List.mem_cons.mp hx with e | e
      · subst e; exact decide_eq_true q
      · exact decide_eq_true (Int.le_trans q (of_decide_eq_true (h1 x e)))
    · rw [if_neg q]
      refine List.pairwise_cons.mpr ⟨fun x hx => ?_, insI_sorted n h2⟩
      rcases List.mem_cons.mp ((insI_perm n l).mem_iff.mp hx) with e | e
      · subst e; exact decide_eq_true (by omega)
      · exact h1 x e
theorem sortI_sorted : ∀ l : List Int, (sortI l).Pairwise (fun a b => leI a b = true)
  | [] => List.Pairwise.nil
  | n :: l => insI_sorted n (sortI_sorted l)
theorem leI_trans (a b c : Int) (h1 : leI a b = true) (h2 : leI b c = true) : leI a c = true := decide_eq_true (Int.le_trans (of_decide_eq_true h1) (of_decide_eq_true h2))
theorem leI_total (a b : Int) : (leI a b || leI b a) = true := by
  rcases Int.le_total a b with z | z
  · rw [show leI a b = true from decide_eq_true z]; rfl
  · rw [show leI b a = true from decide_eq_true z, Bool.or_true]
theorem mergeI (l : List Int) : l.mergeSort leI = sortI l := by
  refine List.Perm.eq_of_pairwise (le := fun a b => leI a b = true) (fun a b _ _ h1 h2 => ?_) ?_ (sortI_sorted l) ((List.mergeSort_perm _ _).trans (sortI_perm l).symm)
  · exact Int.le_antisymm (of_decide_eq_true h1) (of_decide_eq_true h2)
  · exact List.pairwise_mergeSort leI_trans leI_total _
def inL (ks : List Int) (st : Option Int) (x : Int) : Bool := decide (x ∈ ks) || (match st with | none => false | some t => decide (t ≤ x))
theorem filter_bet {ns : List Int} (h : ∀ n ∈ ns, 1 ≤ n ∧ n ≤ 1000) : ns.filter (fun n => !isBet n 1 1000) = [] := by
  refine List.filter_eq_nil_iff.mpr fun n hn => ?_
  rw [isBet, decide_eq_true (h n hn).1, decide_eq_true (h n hn).2]
  exact Bool.false_ne_true
def maxOf : List Int → Int
  | [] => 0
  | a :: r => r.foldl max a
theorem foldl_max : ∀ (l : List Int) (a : Int), (a ≤ l.foldl max a ∧ ∀ y ∈ l, y ≤ l.foldl max a) ∧ (l.foldl max a = a ∨ l.foldl max a ∈ l)
  | [], a => ⟨⟨Int.le_refl a, fun y h => by cases h⟩, .inl rfl⟩
  | b :: l, a => by
    obtain ⟨⟨h1, h2⟩, h3⟩ := foldl_max l (max a b)
    rw [List.foldl_cons]
    refine ⟨⟨by omega, fun y hy => ?_⟩, ?_⟩
    · rcases List.mem_cons.mp hy with e | e
      · subst e; omega
      · exact h2 y e
    · rcases h3 with h3 | h3
      · rw [h3]
        by_cases q : a ≤ b
        · exact .inr (by rw [Int.max_eq_right q]; exact List.mem_cons_self)
        · exact .inl (Int.max_eq_left (by omega))
      · exact .inr (List.mem_cons_of_mem _ h3)
theorem maxOf_eq {l : List Int} {m : Int} (h1 : m ∈ l) (h2 : ∀ y, y ∈ l → y ≤ m) : m = maxOf l := by
  cases l with
  | nil => cases h1
  | cons a r =>
    obtain ⟨⟨q1, q2⟩, q3⟩ := foldl_max r a
    have a1 : maxOf (a :: r) ≤ m := by
      rcases q3 with z | z
      · show r.foldl max a ≤ m
        rw [z]; exact h2 a List.mem_cons_self
      · exact h2 _ (List.mem_cons_of_mem _ z)
    have a2 : m ≤ maxOf (a :: r) := by
      rcases List.mem_cons.mp h1 with e | e
      · subst e; exact q1
      · exact q2 m e
    omega
def encF : Option (Int × Int) → Dt
  | none => .non
  | some p => .tup [.int p.1, .int p.2]
def sumF : Option (Int × Int) → Int
  | none => 0
  | some p => p.1 + p.2
def startI : Option Int → Int
  | none => 0
  | some t => t
def numsG (ks : List Int) : Option Int → Int → List Int
  | none, most => (sortI ks).filter fun n => decide (n ≤ most)
  | some t, most => ((sortI ks).filter fun n => decide (n ≤ most)) ++ irange t (most + 1)
def boundG (ks : List Int) (st : Option Int) : Int := maxOf (sortI ks ++ [startI st])
def stepG (ks : List Int) (st : Option Int) (most low : Int) (fo : Option (Int × Int)) (high : Int) : Option (Int × Int) :=
  if (decide (low ≤ high) && (decide (low + high ≤ most) && (DL.isNon (.d (encF fo)) || decide (low + high < sumF fo)))) = true then
    (if (inL ks st (low + high) != inL ks st (low + high + 1)) = true then some (low, high) else fo) else fo
def faultG (ks : List Int) (st : Option Int) (most : Int) : Option (Int × Int) := (numsG ks st most).foldl (fun fo low => (numsG ks st most).foldl (stepG ks st most low) fo) none
def goodG (ks : List Int) (st : Option Int) (len : Int) : Bool := DL.isNon (.d (encF (faultG ks st (min (len - 3) (boundG ks st)))))
def faultB (ks : List Int) (st : Option Int) : Option (Int × Int) := faultG ks st (boundG ks st)
def holdsG (ks : List Int) (st : Option Int) : Option Int := match faultB ks st with
  | none => none
  | some p => some (p.1 + p.2 + 2)
def stOk (st : Option Int) : Bool := match st with
  | none => true
  | some t => decide (1 ≤ t) && decide (t ≤ 1000)
def okL (ks : List Int) (st : Option Int) : Bool := decide (ks.length ≤ 5000) && (decide (0 ≤ boundG ks st) && (decide (boundG ks st ≤ 10000) && stOk st))
theorem okL_1 {ks : List Int} {st : Option Int} (h : okL ks st = true) : ks.length ≤ 5000 ∧ 0 ≤ boundG ks st ∧ boundG ks st ≤ 10000 ∧ stOk st = true := by
  unfold okL at h
  simp only [Bool.and_eq_true, decide_eq_true_eq] at h
  exact ⟨h.1, h.2.1, h.2.2.1, h.2.2.2⟩
theorem stOk_1 {t : Int} (h : stOk (some t) = true) : 1 ≤ t ∧ t ≤ 1000 := by
  unfold stOk at h
  simp only [Bool.and_eq_true, decide_eq_true_eq] at h
  exact h
theorem nums_sz {ks : List Int} {t most : Int} {p : Int → Bool} (hz : ks.length ≤ 5000) (ht : 1 ≤ t) (hm : most ≤ 10000) : (((sortI ks).filter p).map Dt.int).length + ((irange t (most + 1)).map Dt.int).length ≤ sizeLine := by
  rw [List.length_map, List.length_map, irange_length]
  have h1 := List.length_filter_le p (sortI ks)
  have h2 := (sortI_perm ks).length_eq
  exact Nat.le_trans (show _ ≤ 20000 from by omega) (by decide)
def isBetO (n lo : Int) : Option Int → Bool
  | none => decide (lo ≤ n) && true
  | some hi => isBet n lo hi
/-! rows of counts: deeds, dividing from the left and from the right -/
structure GoodF (G : Int → Bool) : Prop where
  pos : ∀ a, G a = true → 1 ≤ a
  good : ∀ a b, G a = true → G b = true → G (a + b) = G (a + b + 1)
/-- one deed, either way -/
inductive Deed (G : Int → Bool) : List Int → List Int → Prop
  | to {f g t s : Int} {q : List Int} (h : G g = true) (ht : t = f + g) (hs : s = f + g + 1) : Deed G (f :: s :: q) (t :: f :: q)
  | fro {f g t s : Int} {q : List Int} (h : G g = true) (ht : t = f + g) (hs : s = f + g + 1) : Deed G (t :: f :: q) (f :: s :: q)
  | cons {a : Int} {l m : List Int} (h : Deed G l m) : Deed G (a :: l) (a :: m)
/-- joined rows -/
inductive Jn (G : Int → Bool) : List Int → List Int → Prop
  | refl (l : List Int) : Jn G l l
  | step {l m n : List Int} (h : Deed G l m) (t : Jn G m n) : Jn G l n
section
variable {G : Int → Bool}
theorem Deed.symm {l m : List Int} (h : Deed G l m) : Deed G m l := by
  induction h with
  | to h ht hs => exact .fro h ht hs
  | fro h ht hs => exact .to h ht hs
  | cons _ ih => exact .cons ih
theorem Deed.jn {l m : List Int} (h : Deed G l m) : Jn G l m := .step h (.refl _)
theorem Jn.trans {l m n : List Int} (h : Jn G l m) (k : Jn G m n) : Jn G l n := by
  induction h with
  | refl _ => exact k
  | step h _ ih => exact .step h (ih k)
theorem Jn.symm {l m : List Int} (h : Jn G l m) : Jn G m l := by
  induction h with
  | refl _ => exact .refl _
  | step h _ ih => exact ih.trans h.symm.jn
theorem Jn.cons (a : Int) {l m : List Int} (h : Jn G l m) : Jn G (a :: l) (a :: m) := by
  induction h with
  | refl _ => exact .refl _
  | step h _ ih => exact .step (.cons h) ih
theorem Deed.app {l m : List Int} (r : List Int) (h : Deed G l m) : Deed G (l ++ r) (m ++ r) := by
  induction h with
  | to h ht hs => exact .to h ht hs
  | fro h ht hs => exact .fro h ht hs
  | cons _ ih => exact .cons ih
theorem Jn.app {l m : List Int} (r : List Int) (h : Jn G l m) : Jn G (l ++ r) (m ++ r) := by
  induction h with
  | refl _ => exact .refl _
  | step h _ ih => exact .step (h.app r) ih
theorem Deed.len {l m : List Int} (h : Deed G l m) : l.length = m.length := by
  induction h with
  | to _ _ _ => rfl
  | fro _ _ _ => rfl
  | cons _ ih => rw [List.length_cons, List.length_cons, ih]
theorem Jn.len {l m : List Int} (h : Jn G l m) : l.length = m.length := by
  induction h with
  | refl _ => rfl
  | step h _ ih => exact h.len.trans ih
def NN (l : List Int) : Prop := ∀ x ∈ l, 0 ≤ x
theorem nn_cons {a : Int} {l : List Int} : NN (a :: l) ↔ 0 ≤ a ∧ NN l := by
  unfold NN
  constructor
  · intro h
    exact ⟨h a List.mem_cons_self, fun x hx => h x (List.mem_cons_of_mem _ hx)⟩
  · rintro ⟨h1, h2⟩ x hx
    rcases List.mem_cons.mp hx with e | e
    · subst e; exact h1
    · exact h2 x e
theorem Deed.nn (hG : GoodF G) {l m : List Int} (h : Deed G l m) (n : NN l) : NN m := by
  induction h with
  | to h ht hs =>
    have := hG.pos _ h
    rw [nn_cons, nn_cons] at n ⊢
    exact ⟨by omega, n.1, n.2.2⟩
  | fro h ht hs =>
    have := hG.pos _ h
    rw [nn_cons, nn_cons] at n ⊢
    exact ⟨n.2.1, by omega, n.2.2⟩
  | cons _ ih =>
    rw [nn_cons] at n ⊢
    exact ⟨n.1, ih n.2⟩
theorem Jn.nn (hG : GoodF G) {l m : List Int} (h : Jn G l m) (n : NN l) : NN m := by
  induction h with
  | refl _ => exact n
  | step h _ ih => exact ih (h.nn hG n)
/-- what is left of a row behind an item -/
def lft (G : Int → Bool) : Int → List Int → Option (List Int)
  | _, [] => none
  | x, a :: w => if a = x then some w else if (decide (a < x) && G (x - a)) = true then (lft G (x + 1) w).map (a :: ·) else if (decide (x < a) && G (a - x)) = true then (lft G x w).map ((a + 1) :: ·) else none
theorem lft_jn (hG : GoodF G) : ∀ (w : List Int) (x : Int) (r : List Int), lft G x w = some r → Jn G w (x :: r)
  | [], x, r, h => by cases h
  | a :: w, x, r, h => by
    unfold lft at h
    by_cases c : a = x
    · rw [if_pos c] at h
      cases h
      subst c
      exact .refl _
    · rw [if_neg c] at h
      by_cases d : (decide (a < x) && G (x - a)) = true
      · rw [if_pos d] at h
        obtain ⟨r', e1, rfl⟩ := Option.map_eq_some_iff.mp h
        rw [Bool.and_eq_true, decide_eq_true_iff] at d
        exact ((lft_jn hG w (x + 1) r' e1).cons a).trans (Deed.to d.2 (by omega) (by omega)).jn
      · rw [if_neg d] at h
        by_cases e : (decide (x < a) && G (a - x)) = true
        · rw [if_pos e] at h
          obtain ⟨r', e1, rfl⟩ := Option.map_eq_some_iff.mp h
          rw [Bool.and_eq_true, decide_eq_true_iff] at e
          exact ((lft_jn hG w x r' e1).cons a).trans (Deed.fro e.2 (by omega) (by omega)).jn
        · rw [if_neg e] at h
          cases h
/-- both none, or both joined -/
def OJ (G : Int → Bool) : Option (List Int) → Option (List Int) → Prop
  | none, none => True
  | some a, some b => Jn G a b
  | _, _ => False
theorem OJ.refl (o : Option (List Int)) : OJ G o o := by
  cases o with
  | none => trivial
  | some a => exact Jn.refl _
theorem OJ.map {o u : Option (List Int)} (h : OJ G o u) (a : Int) : OJ G (o.map (a :: ·)) (u.map (a :: ·)) := by
  cases o with
  | none => cases u with
    | none => trivial
    | some b => exact h
  | some b => cases u with
    | none => exact h
    | some c => exact Jn.cons a h
theorem OJ.trans {o u v : Option (List Int)} (h : OJ G o u) (k : OJ G u v) : OJ G o v := by
  cases o with
  | none => cases u with
    | none => exact k
    | some b => exact h.elim
  | some b => cases u with
    | none => exact h.elim
    | some c => cases v with
      | none => exact k.elim
      | some d => exact Jn.trans h k
theorem OJ.symm {o u : Option (List Int)} (h : OJ G o u) : OJ G u o := by
  cases o with
  | none => cases u with
    | none => trivial
    | some b => exact h.elim
  | some b => cases u with
    | none => exact h.elim
    | some c => exact Jn.symm h
theorem oj_two {o : Option (List Int)} {a b c d : Int} (h : ∀ q, Deed G (a :: b :: q) (c :: d :: q)) : OJ G ((o.map (b :: ·)).map (a :: ·)) ((o.map (d :: ·)).map (c :: ·)) := by
  cases o with
  | none => trivial
  | some q => exact (h q).jn
theorem lft_eq {x a : Int} {w : List Int} (h : a = x) : lft G x (a :: w) = some w := by
  unfold lft
  rw [if_pos h]
theorem lft_lo {x a : Int} {w : List Int} (h : a < x) (g : G (x - a) = true) : lft G x (a :: w) = (lft G (x + 1) w).map (a :: ·) := by
  rw [lft, if_neg (by omega), if_pos (by rw [decide_eq_true h, g]; rfl)]
theorem lft_lo_n {x a : Int} {w : List Int} (h : a < x) (g : G (x - a) = false) : lft G x (a :: w) = none := by
  rw [lft, if_neg (by omega), if_neg (by rw [g, Bool.and_false]; exact Bool.false_ne_true), if_neg (by rw [decide_eq_false (show ¬ x < a from by omega)]; exact Bool.false_ne_true)]
theorem lft_hi {x a : Int} {w : List Int} (h : x < a) (g : G (a - x) = true) : lft G x (a :: w) = (lft G x w).map ((a + 1) :: ·) := by
  rw [lft, if_neg (by omega), if_neg (by rw [decide_eq_false (show ¬ a < x from by omega)]; exact Bool.false_ne_true), if_pos (by rw [decide_eq_true h, g]; rfl)]
theorem lft_hi_n {x a : Int} {w : List Int} (h : x < a) (g : G (a - x) = false) : lft G x (a :: w) = none := by
  rw [lft, if_neg (by omega), if_neg (by rw [decide_eq_false (show ¬ a < x from by omega)]; exact Bool.false_ne_true), if_neg (by rw [g, Bool.and_false]; exact Bool.false_ne_true)]
theorem map_none {a : Int} : (none : Option (List Int)).map (a :: ·) = none := rfl
/-- a deed at the head -/
theorem lft_head (hG : GoodF G) {f g : Int} {q : List Int} (hg : G g = true) (x : Int) : OJ G (lft G x (f :: (f + g + 1) :: q)) (lft G x ((f + g) :: f :: q)) := by
  have pg := hG.pos _ hg
  by_cases c1 : f = x
  · rw [lft_eq c1, lft_hi (by omega) (by rw [show f + g - x = g from by omega]; exact hg), lft_eq c1, c1]
    exact .refl _
  by_cases c2 : f + g = x
  · rw [lft_eq c2, lft_lo (by omega) (by rw [show x - f = g from by omega]; exact hg), lft_eq (by omega)]
    exact .refl _
  by_cases c3 : f < x
  · by_cases c4 : f + g < x
    · -- u = x - (f + g)
      have key := hG.good (x - (f + g)) g
      cases hu : G (x - (f + g)) with
      | false =>
        rw [lft_lo_n c4 hu]
        cases hd : G (x - f) with
        | false => rw [lft_lo_n c3 hd]; trivial
        | true =>
          rw [lft_lo c3 hd]
          by_cases c5 : f + g + 1 = x + 1
          · omega
          · rw [lft_lo_n (by omega) (by rw [show x + 1 - (f + g + 1) = x - (f + g) from by omega]; exact hu)]
            trivial
      | true =>
        have k2 := key hu hg
        rw [show x - (f + g) + g = x - f from by omega, show x - f + 1 = x + 1 - f from by omega] at k2
        rw [lft_lo c4 hu]
        cases hd : G (x - f) with
        | false =>
          rw [lft_lo_n c3 hd, lft_lo_n (by omega) (by rw [← k2]; exact hd)]
          trivial
        | true =>
          rw [lft_lo c3 hd, lft_lo (by omega) (by rw [show x + 1 - (f + g + 1) = x - (f + g) from by omega]; exact hu), lft_lo (a := f) (by omega) (by rw [← k2]; exact hd)]
          exact oj_two fun q => .to hg rfl rfl
    · -- v = f + g - x
      have c4' : x < f + g := by omega
      have key := hG.good (x - f) (f + g - x)
      cases hd : G (x - f) with
      | false =>
        rw [lft_lo_n c3 hd]
        cases hv : G (f + g - x) with
        | false => rw [lft_hi_n c4' hv]; trivial
        | true => rw [lft_hi c4' hv, lft_lo_n c3 hd]; trivial
      | true =>
        rw [lft_lo c3 hd]
        cases hv : G (f + g - x) with
        | false =>
          rw [lft_hi_n c4' hv, lft_hi_n (by omega) (by rw [show f + g + 1 - (x + 1) = f + g - x from by omega]; exact hv)]
          trivial
        | true =>
          have k2 := key hd hv
          rw [show x - f + (f + g - x) = g from by omega, hg] at k2
          rw [lft_hi c4' hv, lft_hi (by omega) (by rw [show f + g + 1 - (x + 1) = f + g - x from by omega]; exact hv), lft_lo c3 hd]
          exact oj_two fun q => .to k2.symm (by omega) (by omega)
  · have c3' : x < f := by omega
    have key := hG.good (f - x) g
    cases he : G (f - x) with
    | false =>
      rw [lft_hi_n c3' he]
      cases hv : G (f + g - x) with
      | false => rw [lft_hi_n (by omega) hv]; trivial
      | true => rw [lft_hi (by omega) hv, lft_hi_n c3' he]; trivial
    | true =>
      have k2 := key he hg
      rw [show f - x + g = f + g - x from by omega, show f + g - x + 1 = f + g + 1 - x from by omega] at k2
      rw [lft_hi c3' he]
      cases hv : G (f + g - x) with
      | false => rw [lft_hi_n (by omega) hv, lft_hi_n (by omega) (by rw [← k2]; exact hv)]; trivial
      | true =>
        rw [lft_hi (by omega) hv, lft_hi (a := f + g + 1) (by omega) (by rw [← k2]; exact hv), lft_hi c3' he]
        exact oj_two fun q => .to hg (by omega) (by omega)
theorem lft_deed (hG : GoodF G) {l m : List Int} (h : Deed G l m) : ∀ x, OJ G (lft G x l) (lft G x m) := by
  induction h with
  | to h ht hs => intro x; subst ht hs; exact lft_head hG h x
  | fro h ht hs => intro x; subst ht hs; exact (lft_head hG h x).symm
  | @cons a l m h ih =>
    intro x
    unfold lft
    by_cases c : a = x
    · rw [if_pos c, if_pos c]
      exact h.jn
    · rw [if_neg c, if_neg c]
      by_cases d : (decide (a < x) && G (x - a)) = true
      · rw [if_pos d, if_pos d]
        exact (ih (x + 1)).map a
      · rw [if_neg d, if_neg d]
        by_cases e : (decide (x < a) && G (a - x)) = true
        · rw [if_pos e, if_pos e]
          exact (ih x).map (a + 1)
        · rw [if_neg e, if_neg e]
          trivial
theorem lft_of_jn (hG : GoodF G) {l m : List Int} (h : Jn G l m) : ∀ x, OJ G (lft G x l) (lft G x m) := by
  induction h with
  | refl _ => exact fun x => OJ.refl _
  | step h _ ih => exact fun x => (lft_deed hG h x).trans (ih x)
/-- cancelling from the left -/
theorem jn_cancel (hG : GoodF G) {a : Int} {l m : List Int} (h : Jn G (a :: l) (a :: m)) : Jn G l m := by
  have q := lft_of_jn hG h a
  rw [lft_eq rfl, lft_eq rfl] at q
  exact q
def lby (G : Int → Bool) (row items : List Int) : Option (List Int) := items.foldl (fun o x => o.bind (lft G x)) (some row)
theorem lby_none (items : List Int) : items.foldl (fun o x => o.bind (lft G x)) none = none := by
  induction items with
  | nil => rfl
  | cons a l ih => exact ih
theorem lby_cons (row : List Int) (x : Int) (items : List Int) : lby G row (x :: items) = match lft G x row with
  | none => none
  | some r => lby G r items := by
  unfold lby
  rw [List.foldl_cons]
  show List.foldl _ (lft G x row) items = _
  cases lft G x row with
  | none => exact lby_none items
  | some r => rfl
theorem lft_len (hG : GoodF G) {x : Int} {w r : List Int} (h : lft G x w = some r) : w.length = r.length + 1 := (lft_jn hG w x r h).len
/-- joined, by dividing -/
theorem lby_jn (hG : GoodF G) : ∀ (other one : List Int), one.length = other.length → ((lby G one other).isSome = true ↔ Jn G one other)
  | [], one, hl => by
    cases one with
    | nil => exact ⟨fun _ => .refl _, fun _ => rfl⟩
    | cons a l => cases hl
  | x :: other, one, hl => by
    rw [lby_cons]
    cases e : lft G x one with
    | none =>
      refine ⟨fun h => (by cases h), fun h => ?_⟩
      have q := lft_of_jn hG h x
      rw [e, lft_eq rfl] at q
      exact q.elim
    | some r =>
      have hr := lft_jn hG one x r e
      have hl2 : r.length = other.length := by
        have := lft_len hG e
        rw [List.length_cons] at hl
        omega
      refine (lby_jn hG other r hl2).trans ⟨fun h => hr.trans (h.cons x), fun h => jn_cancel hG (hr.symm.trans h)⟩
/-! from the right; rows are turned about -/
def rgt (G : Int → Bool) : Int → List Int → Option (List Int)
  | _, [] => none
  | x, l :: v => if l = x then some v else if (decide (x < l) && G (l - x - 1)) = true then (rgt G x v).map ((l - 1) :: ·) else if (decide (l < x) && G (x - l - 1)) = true then (rgt G (x - 1) v).map (l :: ·) else none
/-- deeds of turned rows -/
inductive DeedR (G : Int → Bool) : List Int → List Int → Prop
  | to {f g t s : Int} {q : List Int} (h : G g = true) (ht : t = f + g) (hs : s = f + g + 1) : DeedR G (s :: f :: q) (f :: t :: q)
  | fro {f g t s : Int} {q : List Int} (h : G g = true) (ht : t = f + g) (hs : s = f + g + 1) : DeedR G (f :: t :: q) (s :: f :: q)
  | cons {a : Int} {l m : List Int} (h : DeedR G l m) : DeedR G (a :: l) (a :: m)
inductive JnR (G : Int → Bool) : List Int → List Int → Prop
  | refl (l : List Int) : JnR G l l
  | step {l m n : List Int} (h : DeedR G l m) (t : JnR G m n) : JnR G l n
theorem DeedR.symm {l m : List Int} (h : DeedR G l m) : DeedR G m l := by
  induction h with
  | to h ht hs => exact .fro h ht hs
  | fro h ht hs => exact .to h ht hs
  | cons _ ih => exact .cons ih
theorem JnR.trans {l m n : List Int} (h : JnR G l m) (k : JnR G m n) : JnR G l n := by
  induction h with
  | refl _ => exact k
  | step h _ ih => exact .step h (ih k)
theorem JnR.symm {l m : List Int} (h : JnR G l m) : JnR G m l := by
  induction h with
  | refl _ => exact .refl _
  | step h _ ih => exact ih.trans (.step h.symm (.refl _))
theorem JnR.cons (a : Int) {l m : List Int} (h : JnR G l m) : JnR G (a :: l) (a :: m) := by
  induction h with
  | refl _ => exact .refl _
  | step h _ ih => exact .step (.cons h) ih
theorem DeedR.app {l m : List Int} (r : List Int) (h : DeedR G l m) : DeedR G (l ++ r) (m ++ r) := by
  induction h with
  | to h ht hs => exact .to h ht hs
  | fro h ht hs => exact .fro h ht hs
  | cons _ ih => exact .cons ih
theorem Deed.appL (p : List Int) {l m : List Int} (h : Deed G l m) : Deed G (p ++ l) (p ++ m) := by
  induction p with
  | nil => exact h
  | cons a p ih => exact .cons ih
theorem Deed.rev {l m : List Int} (h : Deed G l m) : DeedR G l.reverse m.reverse := by
  have two : ∀ {a b c d : Int} {q : List Int}, DeedR G [b, a] [d, c] → DeedR G (a :: b :: q).reverse (c :: d :: q).reverse := fun {a b c d q} h => by
    rw [List.reverse_cons, List.reverse_cons, List.append_assoc, List.reverse_cons, List.reverse_cons, List.append_assoc]
    have key : ∀ (p : List Int), DeedR G (p ++ [b, a]) (p ++ [d, c]) := fun p => by
      induction p with
      | nil => exact h
      | cons x p ih => exact .cons ih
    exact key q.reverse
  induction h with
  | to h ht hs => exact two (.to h ht hs)
  | fro h ht hs => exact two (.fro h ht hs)
  | cons _ ih =>
    rw [List.reverse_cons, List.reverse_cons]
    exact ih.app _
theorem DeedR.rev {l m : List Int} (h : DeedR G l m) : Deed G l.reverse m.reverse := by
  have two : ∀ {a b c d : Int} {q : List Int}, Deed G [b, a] [d, c] → Deed G (a :: b :: q).reverse (c :: d :: q).reverse := fun {a b c d q} h => by
    rw [List.reverse_cons, List.reverse_cons, List.append_assoc, List.reverse_cons, List.reverse_cons, List.append_assoc]
    exact h.appL q.reverse
  induction h with
  | to h ht hs => exact two (.to h ht hs)
  | fro h ht hs => exact two (.fro h ht hs)
  | cons _ ih =>
    rw [List.reverse_cons, List.reverse_cons]
    exact ih.app _
theorem Jn.rev {l m : List Int} (h : Jn G l m) : JnR G l.reverse m.reverse := by
  induction h with
  | refl _ => exact .refl _
  | step h _ ih => exact .step h.rev ih
theorem JnR.rev {l m : List Int} (h : JnR G l m) : Jn G l.reverse m.reverse := by
  induction h with
  | refl _ => exact .refl _
  | step h _ ih => exact .step h.rev ih
theorem rgt_jn (hG : GoodF G) : ∀ (w : List Int) (x : Int) (r : List Int), rgt G x w = some r → JnR G w (x :: r)
  | [], x, r, h => by cases h
  | a :: w, x, r, h => by
    unfold rgt at h
    by_cases c : a = x
    · rw [if_pos c] at h
      cases h
      subst c
      exact .refl _
    · rw [if_neg c] at h
      by_cases d : (decide (x < a) && G (a - x - 1)) = true
      · rw [if_pos d] at h
        obtain ⟨r', e1, rfl⟩ := Option.map_eq_some_iff.mp h
        rw [Bool.and_eq_true, decide_eq_true_iff] at d
        exact ((rgt_jn hG w x r' e1).cons a).trans (.step (.to d.2 (by omega) (by omega)) (.refl _))
      · rw [if_neg d] at h
        by_cases e : (decide (a < x) && G (x - a - 1)) = true
        · rw [if_pos e] at h
          obtain ⟨r', e1, rfl⟩ := Option.map_eq_some_iff.mp h
          rw [Bool.and_eq_true, decide_eq_true_iff] at e
          exact ((rgt_jn hG w (x - 1) r' e1).cons a).trans (.step (.fro e.2 (by omega) (by omega)) (.refl _))
        · rw [if_neg e] at h
          cases h
def OJR (G : Int → Bool) : Option (List Int) → Option (List Int) → Prop
  | none, none => True
  | some a, some b => JnR G a b
  | _, _ => False
theorem OJR.refl (o : Option (List Int)) : OJR G o o := by
  cases o with
  | none => trivial
  | some a => exact JnR.refl _
theorem OJR.map {o u : Option (List Int)} (h : OJR G o u) (a : Int) : OJR G (o.map (a :: ·)) (u.map (a :: ·)) := by
  cases o with
  | none => cases u with
    | none => trivial
    | some b => exact h
  | some b => cases u with
    | none => exact h
    | some c => exact JnR.cons a h
theorem OJR.trans {o u v : Option (List Int)} (h : OJR G o u) (k : OJR G u v) : OJR G o v := by
  cases o with
  | none => cases u with
    | none => exact k
    | some b => exact h.elim
  | some b => cases u with
    | none => exact h.elim
    | some c => cases v with
      | none => exact k.elim
      | some d => exact JnR.trans h k
theorem OJR.symm {o u : Option (List Int)} (h : OJR G o u) : OJR G u o := by
  cases o with
  | none => cases u with
    | none => trivial
    | some b => exact h.elim
  | some b => cases u with
    | none => exact h.elim
    | some c => exact JnR.symm h
theorem ojr_two {o : Option (List Int)} {a b c d : Int} (h : ∀ q, DeedR G (a :: b :: q) (c :: d :: q)) : OJR G ((o.map (b :: ·)).map (a :: ·)) ((o.map (d :: ·)).map (c :: ·)) := by
  cases o with
  | none => trivial
  | some q => exact .step (h q) (.refl _)
theorem rgt_eq {x a : Int} {w : List Int} (h : a = x) : rgt G x (a :: w) = some w := by
  unfold rgt
  rw [if_pos h]
theorem rgt_hi {x a : Int} {w : List Int} (h : x < a) (g : G (a - x - 1) = true) : rgt G x (a :: w) = (rgt G x w).map ((a - 1) :: ·) := by
  rw [rgt, if_neg (by omega), if_pos (by rw [decide_eq_true h, g]; rfl)]
theorem rgt_hi_n {x a : Int} {w : List Int} (h : x < a) (g : G (a - x - 1) = false) : rgt G x (a :: w) = none := by
  rw [rgt, if_neg (by omega), if_neg (by rw [g, Bool.and_false]; exact Bool.false_ne_true), if_neg (by rw [decide_eq_false (show ¬ a < x from by omega)]; exact Bool.false_ne_true)]
theorem rgt_lo {x a : Int} {w : List Int} (h : a < x) (g : G (x - a - 1) = true) : rgt G x (a :: w) = (rgt G (x - 1) w).map (a :: ·) := by
  rw [rgt, if_neg (by omega), if_neg (by rw [decide_eq_false (show ¬ x < a from by omega)]; exact Bool.false_ne_true), if_pos (by rw [decide_eq_true h, g]; rfl)]
theorem rgt_lo_n {x a : Int} {w : List Int} (h : a < x) (g : G (x - a - 1) = false) : rgt G x (a :: w) = none := by
  rw [rgt, if_neg (by omega), if_neg (by rw [decide_eq_false (show ¬ x < a from by omega)]; exact Bool.false_ne_true), if_neg (by rw [g, Bool.and_false]; exact Bool.false_ne_true)]
theorem g_zero (hG : GoodF G) {a : Int} (h : a ≤ 0) : G a = false := by
  cases e : G a with
  | false => rfl
  | true =>
    have := hG.pos a e
    omega
theorem rgt_head (hG : GoodF G) {f g : Int} {q : List Int} (hg : G g = true) (x : Int) : OJR G (rgt G x ((f + g + 1) :: f :: q)) (rgt G x (f :: (f + g) :: q)) := by
  have pg := hG.pos _ hg
  by_cases c1 : f + g + 1 = x
  · rw [rgt_eq c1, rgt_lo (by omega) (by rw [show x - f - 1 = g from by omega]; exact hg), rgt_eq (by omega)]
    exact .refl _
  by_cases c2 : f = x
  · rw [rgt_eq c2, rgt_hi (by omega) (by rw [show f + g + 1 - x - 1 = g from by omega]; exact hg), rgt_eq c2, show f + g + 1 - 1 = f + g from by omega]
    exact .refl _
  by_cases c3 : f < x
  · by_cases c4 : f + g + 1 < x
    · have key := hG.good (x - (f + g + 1) - 1) g
      cases hu : G (x - (f + g + 1) - 1) with
      | false =>
        rw [rgt_lo_n c4 hu]
        cases hd : G (x - f - 1) with
        | false => rw [rgt_lo_n c3 hd]; trivial
        | true =>
          rw [rgt_lo c3 hd, rgt_lo_n (by omega) (by rw [show x - 1 - (f + g) - 1 = x - (f + g + 1) - 1 from by omega]; exact hu)]
          trivial
      | true =>
        have k2 := key hu hg
        rw [show x - (f + g + 1) - 1 + g = x - 1 - f - 1 from by omega, show x - 1 - f - 1 + 1 = x - f - 1 from by omega] at k2
        rw [rgt_lo c4 hu]
        cases hd : G (x - f - 1) with
        | false =>
          rw [rgt_lo_n c3 hd, rgt_lo_n (by omega) (by rw [k2]; exact hd)]
          trivial
        | true =>
          rw [rgt_lo c3 hd, rgt_lo (a := f) (by omega) (by rw [k2]; exact hd), rgt_lo (by omega) (by rw [show x - 1 - (f + g) - 1 = x - (f + g + 1) - 1 from by omega]; exact hu)]
          exact ojr_two fun q => .to hg rfl rfl
    · have c4' : x < f + g + 1 := by omega
      have key := hG.good (x - f - 1) (f + g + 1 - x - 1)
      cases hd : G (x - f - 1) with
      | false =>
        rw [rgt_lo_n c3 hd]
        cases hv : G (f + g + 1 - x - 1) with
        | false => rw [rgt_hi_n c4' hv]; trivial
        | true => rw [rgt_hi c4' hv, rgt_lo_n c3 hd]; trivial
      | true =>
        rw [rgt_lo c3 hd]
        cases hv : G (f + g + 1 - x - 1) with
        | false =>
          rw [rgt_hi_n c4' hv]
          by_cases c5 : f + g = x - 1
          · omega
          · rw [rgt_hi_n (by omega) (by rw [show f + g - (x - 1) - 1 = f + g + 1 - x - 1 from by omega]; exact hv)]
            trivial
        | true =>
          have p1 := hG.pos _ hd
          have p2 := hG.pos _ hv
          have k2 := key hd hv
          rw [show x - f - 1 + (f + g + 1 - x - 1) = g - 1 from by omega, show g - 1 + 1 = g from by omega, hg] at k2
          rw [rgt_hi c4' hv, rgt_hi (a := f + g) (by omega) (by rw [show f + g - (x - 1) - 1 = f + g + 1 - x - 1 from by omega]; exact hv), rgt_lo c3 hd]
          exact ojr_two fun q => .to k2 (by omega) (by omega)
  · have c3' : x < f := by omega
    have key := hG.good (f - x - 1) g
    cases he : G (f - x - 1) with
    | false =>
      rw [rgt_hi_n c3' he]
      cases hv : G (f + g + 1 - x - 1) with
      | false => rw [rgt_hi_n (by omega) hv]; trivial
      | true => rw [rgt_hi (by omega) hv, rgt_hi_n c3' he]; trivial
    | true =>
      have k2 := key he hg
      rw [show f - x - 1 + g = f + g - x - 1 from by omega, show f + g - x - 1 + 1 = f + g + 1 - x - 1 from by omega] at k2
      rw [rgt_hi c3' he]
      cases hv : G (f + g + 1 - x - 1) with
      | false => rw [rgt_hi_n (a := f + g + 1) (by omega) hv, rgt_hi_n (by omega) (by rw [k2]; exact hv)]; trivial
      | true =>
        rw [rgt_hi (a := f + g + 1) (by omega) hv, rgt_hi (a := f + g) (by omega) (by rw [k2]; exact hv), rgt_hi c3' he]
        exact ojr_two fun q => .to hg (by omega) (by omega)
theorem rgt_deed (hG : GoodF G) {l m : List Int} (h : DeedR G l m) : ∀ x, OJR G (rgt G x l) (rgt G x m) := by
  induction h with
  | to h ht hs => intro x; subst ht hs; exact rgt_head hG h x
  | fro h ht hs => intro x; subst ht hs; exact (rgt_head hG h x).symm
  | @cons a l m h ih =>
    intro x
    unfold rgt
    by_cases c : a = x
    · rw [if_pos c, if_pos c]
      exact .step h (.refl _)
    · rw [if_neg c, if_neg c]
      by_cases d : (decide (x < a) && G (a - x - 1)) = true
      · rw [if_pos d, if_pos d]
        exact (ih x).map (a - 1)
      · rw [if_neg d, if_neg d]
        by_cases e : (decide (a < x) && G (x - a - 1)) = true
        · rw [if_pos e, if_pos e]
          exact (ih (x - 1)).map a
        · rw [if_neg e, if_neg e]
          trivial
theorem rgt_of_jn (hG : GoodF G) {l m : List Int} (h : JnR G l m) : ∀ x, OJR G (rgt G x l) (rgt G x m) := by
  induction h with
  | refl _ => exact fun x => OJR.refl _
  | step h _ ih => exact fun x => (rgt_deed hG h x).trans (ih x)
/-! last items -/
def lbh (G : Int → Bool) (ls : List Int) (item : Int) : List Int := ls.filter (fun c => decide (c < item) && G (item - c - 1)) ++ [item] ++ (ls.filter (fun c => decide (item < c) && G (c - item))).map (· + 1)
def lastsM (G : Int → Bool) (row : List Int) : List Int := row.foldl (lbh G) []
theorem lbh_mem {ls : List Int} {item x : Int} : x ∈ lbh G ls item ↔ x = item ∨ (x < item ∧ G (item - x - 1) = true ∧ x ∈ ls) ∨ (item < x - 1 ∧ G (x - 1 - item) = true ∧ x - 1 ∈ ls) := by
  unfold lbh
  rw [List.mem_append, List.mem_append, List.mem_singleton, List.mem_filter, List.mem_map, Bool.and_eq_true, decide_eq_true_iff]
  constructor
  · rintro ((⟨h1, h2, h3⟩ | h) | ⟨y, hy, rfl⟩)
    · exact .inr (.inl ⟨h2, h3, h1⟩)
    · exact .inl h
    · rw [List.mem_filter, Bool.and_eq_true, decide_eq_true_iff] at hy
      rw [show y + 1 - 1 = y from by omega]
      exact .inr (.inr ⟨hy.2.1, hy.2.2, hy.1⟩)
  · rintro (h | ⟨h2, h3, h1⟩ | ⟨h2, h3, h1⟩)
    · exact .inl (.inr h)
    · exact .inl (.inl ⟨h1, h2, h3⟩)
    · exact .inr ⟨x - 1, by rw [List.mem_filter, Bool.and_eq_true, decide_eq_true_iff]; exact ⟨h1, h2, h3⟩, by omega⟩
theorem lasts_rgt (hG : GoodF G) : ∀ (v : List Int) (x : Int), x ∈ lastsM G v.reverse ↔ (rgt G x v).isSome = true
  | [], x => by simp [lastsM, rgt]
  | l :: v, x => by
    unfold lastsM
    rw [List.reverse_cons, List.foldl_append, List.foldl_cons, List.foldl_nil, lbh_mem]
    show x = l ∨ (x < l ∧ G (l - x - 1) = true ∧ x ∈ lastsM G v.reverse) ∨ (l < x - 1 ∧ G (x - 1 - l) = true ∧ x - 1 ∈ lastsM G v.reverse) ↔ _
    rw [lasts_rgt hG v x, lasts_rgt hG v (x - 1)]
    by_cases c : l = x
    · rw [rgt_eq c]
      exact ⟨fun _ => rfl, fun _ => .inl c.symm⟩
    by_cases d : x < l
    · cases e : G (l - x - 1) with
      | false =>
        rw [rgt_hi_n d e]
        constructor
        · rintro (h | ⟨_, h, _⟩ | ⟨h, _⟩)
          · omega
          · cases h
          · omega
        · intro h; cases h
      | true =>
        rw [rgt_hi d e, Option.isSome_map]
        constructor
        · rintro (h | ⟨_, _, h⟩ | ⟨h, _⟩)
          · omega
          · exact h
          · omega
        · exact fun h => .inr (.inl ⟨d, rfl, h⟩)
    · cases e : G (x - l - 1) with
      | false =>
        rw [rgt_lo_n (by omega) e]
        constructor
        · rintro (h | ⟨h, _⟩ | ⟨_, h, _⟩)
          · omega
          · omega
          · rw [show x - 1 - l = x - l - 1 from by omega, e] at h; cases h
        · intro h; cases h
      | true =>
        have p := hG.pos _ e
        rw [rgt_lo (by omega) e, Option.isSome_map]
        constructor
        · rintro (h | ⟨h, _⟩ | ⟨_, _, h⟩)
          · omega
          · omega
          · exact h
        · exact fun h => .inr (.inr ⟨by omega, by rw [show x - 1 - l = x - l - 1 from by omega]; exact e, h⟩)
theorem lbh_asc {ls : List Int} {item : Int} (h : ls.Pairwise (· < ·)) : (lbh G ls item).Pairwise (· < ·) := by
  unfold lbh
  rw [List.append_assoc, List.pairwise_append, List.singleton_append, List.pairwise_cons]
  refine ⟨h.filter _, ⟨fun x hx => ?_, ?_⟩, fun a ha b hb => ?_⟩
  · obtain ⟨y, hy, rfl⟩ := List.mem_map.mp hx
    have := (List.mem_filter.mp hy).2
    rw [Bool.and_eq_true, decide_eq_true_iff] at this
    omega
  · exact (h.filter _).map _ fun a b hab => by omega
  · have h1 := (List.mem_filter.mp ha).2
    rw [Bool.and_eq_true, decide_eq_true_iff] at h1
    rcases List.mem_cons.mp hb with e | e
    · omega
    · obtain ⟨y, hy, rfl⟩ := List.mem_map.mp e
      have := (List.mem_filter.mp hy).2
      rw [Bool.and_eq_true, decide_eq_true_iff] at this
      omega
theorem lasts_asc (row : List Int) : (lastsM G row).Pairwise (· < ·) := by
  have key : ∀ (row ls : List Int), ls.Pairwise (· < ·) → (row.foldl (lbh G) ls).Pairwise (· < ·) := fun row => by
    induction row with
    | nil => exact fun ls h => h
    | cons a l ih => exact fun ls h => ih _ (lbh_asc h)
  exact key row [] List.Pairwise.nil
theorem asc_ext : ∀ {l m : List Int}, l.Pairwise (· < ·) → m.Pairwise (· < ·) → (∀ x, x ∈ l ↔ x ∈ m) → l = m := fun {l m} hl hm h => by
  have p : l.Perm m := (List.perm_ext_iff_of_nodup (hl.imp fun h => by omega) (hm.imp fun h => by omega)).mpr h
  exact List.Perm.eq_of_pairwise (le := (· < ·)) (fun a b _ _ h1 h2 => absurd h2 (by omega)) hl hm p
/-- joined rows have the same last items -/
theorem lasts_jn (hG : GoodF G) {row other : List Int} (h : Jn G row other) : lastsM G other = lastsM G row := by
  refine asc_ext (lasts_asc _) (lasts_asc _) fun x => ?_
  have e1 := lasts_rgt hG other.reverse x
  have e2 := lasts_rgt hG row.reverse x
  rw [List.reverse_reverse] at e1 e2
  rw [e1, e2]
  have q := rgt_of_jn hG h.rev x
  cases a : rgt G x row.reverse with
  | none =>
    cases b : rgt G x other.reverse with
    | none => exact Iff.rfl
    | some r => rw [a, b] at q; exact q.elim
  | some r =>
    cases b : rgt G x other.reverse with
    | none => rw [a, b] at q; exact q.elim
    | some r2 => exact ⟨fun _ => rfl, fun _ => rfl⟩
/-- without a last item -/
def restM (G : Int → Bool) (row : List Int) (x : Int) : Option (List Int) := (rgt G x row.reverse).map List.reverse
theorem rest_isSome (hG : GoodF G) (row : List Int) (x : Int) : (restM G row x).isSome = decide (x ∈ lastsM G row) := by
  unfold restM
  rw [Option.isSome_map]
  have e := lasts_rgt hG row.reverse x
  rw [List.reverse_reverse] at e
  cases h : (rgt G x row.reverse).isSome with
  | true => exact (decide_eq_true (e.mpr h)).symm
  | false => exact (decide_eq_false fun z => by rw [e.mp z] at h; cases h).symm
theorem rest_jn (hG : GoodF G) {row r : List Int} {x : Int} (h : restM G row x = some r) : Jn G row (r ++ [x]) := by
  unfold restM at h
  obtain ⟨u, e1, rfl⟩ := Option.map_eq_some_iff.mp h
  have q := (rgt_jn hG _ _ _ e1).rev
  rw [List.reverse_reverse, List.reverse_cons] at q
  exact q
theorem rest_two (hG : GoodF G) {row other r r2 : List Int} {x : Int} (h : Jn G row other) (h1 : restM G row x = some r) (h2 : restM G other x = some r2) : Jn G r r2 := by
  unfold restM at h1 h2
  obtain ⟨u, e1, rfl⟩ := Option.map_eq_some_iff.mp h1
  obtain ⟨u2, e2, rfl⟩ := Option.map_eq_some_iff.mp h2
  have q := rgt_of_jn hG h.rev x
  rw [e1, e2] at q
  exact JnR.rev q
theorem rest_snoc (row : List Int) (x : Int) : restM G (row ++ [x]) x = some row := by
  unfold restM
  rw [List.reverse_append, List.reverse_singleton, List.singleton_append, rgt_eq rfl]
  show some row.reverse.reverse = _
  rw [List.reverse_reverse]
theorem jn_snoc (hG : GoodF G) {row other : List Int} {x : Int} : Jn G (row ++ [x]) (other ++ [x]) ↔ Jn G row other :=
  ⟨fun h => rest_two hG h (rest_snoc _ _) (rest_snoc _ _), fun h => h.app [x]⟩
/-! logs -/
def LogF : Nat → List Int → Prop
  | _, [] => True
  | k, a :: l => 0 ≤ a ∧ a ≤ (k : Int) ∧ LogF (k + 1) l
theorem Deed.log (hG : GoodF G) {l m : List Int} (h : Deed G l m) : ∀ k, LogF k l → LogF k m := by
  induction h with
  | to h ht hs =>
    rintro k ⟨h1, h2, h3, h4, h5⟩
    have := hG.pos _ h
    exact ⟨by omega, by omega, h1, by omega, h5⟩
  | fro h ht hs =>
    rintro k ⟨h1, h2, h3, h4, h5⟩
    have := hG.pos _ h
    exact ⟨h3, by omega, by omega, by omega, h5⟩
  | cons _ ih => exact fun k ⟨h1, h2, h3⟩ => ⟨h1, h2, ih (k + 1) h3⟩
theorem Jn.log (hG : GoodF G) {l m : List Int} (h : Jn G l m) (k : Nat) (q : LogF k l) : LogF k m := by
  induction h with
  | refl _ => exact q
  | step h _ ih => exact ih (h.log hG k q)
theorem log_app : ∀ {l m : List Int} {k : Nat}, LogF k (l ++ m) → LogF k l
  | [], _, _, _ => trivial
  | a :: l, m, k, ⟨h1, h2, h3⟩ => ⟨h1, h2, log_app h3⟩
end
/-! what the defs over rows compute -/
def encO : Option (List Int) → Dt
  | none => .non
  | some l => encI l
theorem isNon_encO (r : Option (List Int)) : DL.isNon (.d (encO r)) = !r.isSome := by cases r <;> rfl
def logB (l : List Int) : Bool := decide (((l.zipIdx.filter fun p => decide ((p.2 : Int) < p.1)).map fun p => ((p.2 : Nat) : Int)) = [])
theorem enum_ints (t : List Int) : enumD (t.map Dt.int) = t.zipIdx.map fun p => Dt.tup [.int (p.2 : Nat), .int p.1] := by
  unfold enumD
  rw [List.zipIdx_map, List.map_map]
  rfl
theorem enumD_len (l : List Dt) : (enumD l).length = l.length := by
  unfold enumD
  rw [List.length_map, List.length_zipIdx]
theorem filter_nn {l : List Int} (h : NN l) : l.filter (fun n => !isBetO n 0 none) = [] := by
  refine List.filter_eq_nil_iff.mpr fun n hn => ?_
  rw [isBetO, decide_eq_true (h n hn)]
  exact Bool.false_ne_true
theorem logB_iff {l : List Int} (h : NN l) : logB l = true ↔ LogF 0 l := by
  have key : ∀ (l : List Int) (k : Nat), NN l → (((l.zipIdx k).filter fun p => decide ((p.2 : Int) < p.1)) = [] ↔ LogF k l) := fun l => by
    induction l with
    | nil => exact fun k _ => ⟨fun _ => trivial, fun _ => rfl⟩
    | cons a l ih =>
      intro k hk
      rw [nn_cons] at hk
      rw [List.zipIdx_cons, List.filter_cons]
      by_cases c : (k : Int) < a
      · rw [if_pos (by simpa using c)]
        exact ⟨fun z => by (cases z), fun z => absurd z.2.1 (by omega)⟩
      · rw [if_neg (by simpa using c), ih (k + 1) hk.2]
        exact ⟨fun z => ⟨hk.1, by omega, z⟩, fun z => z.2.2⟩
  unfold logB
  rw [decide_eq_true_iff, List.map_eq_nil_iff]
  exact key l 0 h
theorem lbh_len (G : Int → Bool) (item : Int) (ls : List Int) : (lbh G ls item).length ≤ ls.length + 1 := by
  unfold lbh
  rw [List.length_append, List.length_append, List.length_map]
  have key : ∀ ls : List Int, (ls.filter fun c => decide (c < item) && G (item - c - 1)).length + (ls.filter fun c => decide (item < c) && G (c - item)).length ≤ ls.length := fun ls => by
    induction ls with
    | nil => exact Nat.le_refl _
    | cons a l ih =>
      rw [List.filter_cons, List.filter_cons]
      by_cases c : a < item
      · rw [if_neg (c := (decide (item < a) && G (a - item)) = true) (by rw [decide_eq_false (show ¬ item < a from by omega)]; exact Bool.false_ne_true)]
        split <;> simp only [List.length_cons] <;> omega
      · rw [if_neg (c := (decide (a < item) && G (item - a - 1)) = true) (by rw [decide_eq_false c]; exact Bool.false_ne_true)]
        split <;> simp only [List.length_cons] <;> omega
  have := key ls
  simp only [List.length_cons, List.length_nil]
  omega
theorem lasts_len (G : Int → Bool) (row : List Int) : (lastsM G row).length ≤ row.length := by
  have key : ∀ (row ls : List Int), (row.foldl (lbh G) ls).length ≤ ls.length + row.length := fun row => by
    induction row with
    | nil => exact fun ls => Nat.le_refl _
    | cons a l ih =>
      intro ls
      have h1 := ih (lbh G ls a)
      have h2 := lbh_len G a ls
      rw [List.foldl_cons, List.length_cons]
      omega
  have h := key row []
  rw [List.length_nil, Nat.zero_add] at h
  exact h
theorem lbh_sz1 {ls : List Int} {p : Int → Bool} {item : Int} (h : ls.length ≤ 300) : ((ls.filter p).map Dt.int).length + [Dt.int item].length ≤ sizeLine := by
  have := List.length_filter_le p ls
  rw [List.length_map]
  exact Nat.le_trans (show _ ≤ 2000 from by simp only [List.length_cons, List.length_nil]; omega) (by decide)
theorem lbh_sz2 {ls : List Int} {p q : Int → Bool} {g : Int → Dt} {item : Int} (h : ls.length ≤ 300) : ((ls.filter p).map Dt.int ++ [Dt.int item]).length + ((ls.filter q).map g).length ≤ sizeLine := by
  have h1 := List.length_filter_le p ls
  have h2 := List.length_filter_le q ls
  rw [List.length_append, List.length_map, List.length_map]
  exact Nat.le_trans (show _ ≤ 2000 from by simp only [List.length_cons, List.length_nil]; omega) (by decide)
theorem lbh_enc (l m : List Int) (x : Int) : l.map Dt.int ++ [Dt.int x] ++ m.map (fun c => Dt.int (c + 1)) = (l ++ [x] ++ m.map (· + 1)).map Dt.int := by
  rw [List.map_append, List.map_append, List.map_map]
  rfl
theorem cat1 (l : List Int) (x : Int) : l.map Dt.int ++ [Dt.int x] = (l ++ [x]).map Dt.int := by
  rw [List.map_append]
  rfl
theorem cat2 (l : List Int) (x : Int) : [Dt.int x] ++ l.map Dt.int = (x :: l).map Dt.int := rfl
theorem cat_sz {l m : List Dt} (h : l.length ≤ 500) (k : m.length ≤ 500) : l.length + m.length ≤ sizeLine := Nat.le_trans (show _ ≤ 1000 from by omega) (by decide)
theorem one_sz {l : List Int} {x : Dt} (h : l.length ≤ 500) : (l.map Dt.int).length + [x].length ≤ sizeLine := by
  rw [List.length_map]
  exact Nat.le_trans (show _ ≤ 1000 from by simp only [List.length_cons, List.length_nil]; omega) (by decide)
theorem one_sz2 {l : List Int} {x : Dt} (h : l.length ≤ 500) : [x].length + (l.map Dt.int).length ≤ sizeLine := by
  rw [List.length_map]
  exact Nat.le_trans (show _ ≤ 1000 from by simp only [List.length_cons, List.length_nil]; omega) (by decide)
theorem app_sz {l : List Int} (h : l.length ≤ 500) : (l.map Dt.int).length < sizeLine := by
  rw [List.length_map]
  exact Nat.lt_of_le_of_lt h (by decide)
theorem cut_hi {l : List Int} {n : Int} (h : 0 ≤ n) : cutD (l.map Dt.int) none (some n) = (l.take n.toNat).map Dt.int := by
  obtain ⟨k, rfl⟩ := Int.eq_ofNat_of_zero_le h
  unfold cutD
  rw [HT.sIx_none, show ((k : Nat) : Int) = (k : Int) from rfl, HT.sIx_nat, List.drop_zero, Nat.sub_zero, Int.toNat_natCast, List.length_map, List.map_take]
  by_cases c : k ≤ l.length
  · rw [Nat.min_eq_left c]
  · rw [Nat.min_eq_right (by omega), List.take_of_length_le (by rw [List.length_map]; exact Nat.le_refl _), List.take_of_length_le (by rw [List.length_map]; omega)]
theorem cut_lo {l : List Int} {n : Int} (h : 0 ≤ n) : cutD (l.map Dt.int) (some n) none = (l.drop n.toNat).map Dt.int := by
  obtain ⟨k, rfl⟩ := Int.eq_ofNat_of_zero_le h
  unfold cutD
  rw [HT.sIx_none, HT.sIx_nat, Int.toNat_natCast, List.length_map, List.map_drop]
  by_cases c : k ≤ l.length
  · rw [Nat.min_eq_left c, List.take_of_length_le (by rw [List.length_drop, List.length_map]; exact Nat.le_refl _)]
  · rw [Nat.min_eq_right (by omega), Nat.sub_self, List.take_zero, List.drop_eq_nil_of_le (by rw [List.length_map]; omega)]
theorem drop_at {α : Type} {l : List α} {i : Nat} {a : α} (h : l[i]? = some a) : l.drop i = a :: l.drop (i + 1) := by
  obtain ⟨h1, h2⟩ := List.getElem?_eq_some_iff.mp h
  rw [List.drop_eq_getElem_cons h1, h2]
/-- the walk of a division -/
def jrn (G : Int → Bool) : List Int → Int → List Int → List Int × Bool
  | [], _, fd => (fd, false)
  | a :: w, now, fd => if a = now then (fd, true) else if (decide (a < now) && G (now - a)) = true then jrn G w (now + 1) (fd ++ [a]) else if (decide (now < a) && G (a - now)) = true then jrn G w now (fd ++ [a + 1]) else (fd, false)
theorem jrn_lft (G : Int → Bool) : ∀ (w : List Int) (x : Int) (fd : List Int), ∃ f b, jrn G w x fd = (fd ++ f, b) ∧ f.length ≤ w.length ∧ lft G x w = bif b then some (f ++ w.drop (f.length + 1)) else none
  | [], x, fd => ⟨[], false, by rw [List.append_nil]; rfl, Nat.le_refl _, rfl⟩
  | a :: w, x, fd => by
    unfold jrn lft
    by_cases c : a = x
    · rw [if_pos c, if_pos c]
      exact ⟨[], true, by rw [List.append_nil], Nat.zero_le _, rfl⟩
    · rw [if_neg c, if_neg c]
      by_cases d : (decide (a < x) && G (x - a)) = true
      · rw [if_pos d, if_pos d]
        obtain ⟨f, b, e1, e2, e3⟩ := jrn_lft G w (x + 1) (fd ++ [a])
        refine ⟨a :: f, b, by rw [e1, List.append_assoc]; rfl, by simp only [List.length_cons]; omega, ?_⟩
        rw [e3]
        cases b <;> rfl
      · rw [if_neg d, if_neg d]
        by_cases e : (decide (x < a) && G (a - x)) = true
        · rw [if_pos e, if_pos e]
          obtain ⟨f, b, e1, e2, e3⟩ := jrn_lft G w x (fd ++ [a + 1])
          refine ⟨(a + 1) :: f, b, by rw [e1, List.append_assoc]; rfl, by simp only [List.length_cons]; omega, ?_⟩
          rw [e3]
          cases b <;> rfl
        · rw [if_neg e, if_neg e]
          exact ⟨[], false, by rw [List.append_nil], Nat.zero_le _, rfl⟩
theorem lft_jrn (G : Int → Bool) (row : List Int) (x : Int) : (bif (jrn G row x []).2 then some ((jrn G row x []).1 ++ row.drop ((jrn G row x []).1.length + 1)) else none) = lft G x row := by
  obtain ⟨f, b, e1, _, e3⟩ := jrn_lft G row x []
  rw [e1, e3]
  rfl
theorem jrn_len (G : Int → Bool) (row : List Int) (x : Int) : (jrn G row x []).1.length ≤ row.length := by
  obtain ⟨f, b, e1, e2, _⟩ := jrn_lft G row x []
  rw [e1]
  exact e2
theorem lft_len2 {G : Int → Bool} {x : Int} {w r : List Int} (h : lft G x w = some r) : r.length ≤ w.length := by
  obtain ⟨f, b, _, e2, e3⟩ := jrn_lft G w x []
  rw [e3] at h
  cases b with
  | false => cases h
  | true =>
    cases h
    rw [List.length_append, List.length_drop]
    omega
/-- the walk back -/
def rbk (G : Int → Bool) (now : Int) (lf bh : List Int) : Option (List Int) := ((rgt G now lf.reverse).map (bh ++ ·)).map List.reverse
theorem rbk_0 (G : Int → Bool) (item : Int) (row : List Int) : rbk G item row [] = restM G row item := by
  unfold rbk restM
  cases rgt G item row.reverse <;> rfl
theorem rbk_nil (G : Int → Bool) (now : Int) (bh : List Int) : rbk G now [] bh = none := rfl
theorem rev_snoc (lf : List Int) (last : Int) : (lf ++ [last]).reverse = last :: lf.reverse := by
  rw [List.reverse_append]
  rfl
theorem rbk_eq {G : Int → Bool} {now last : Int} {lf bh : List Int} (h : last = now) : rbk G now (lf ++ [last]) bh = some (lf ++ bh.reverse) := by
  unfold rbk
  rw [rev_snoc, rgt, if_pos h]
  show some (bh ++ lf.reverse).reverse = _
  rw [List.reverse_append, List.reverse_reverse]
theorem rbk_hi {G : Int → Bool} {now last : Int} {lf bh : List Int} (h : ¬ last = now) (d : (decide (now < last) && G (last - now - 1)) = true) : rbk G now (lf ++ [last]) bh = rbk G now lf (bh ++ [last - 1]) := by
  unfold rbk
  rw [rev_snoc, rgt, if_neg h, if_pos d]
  cases rgt G now lf.reverse with
  | none => rfl
  | some u =>
    show some (bh ++ (last - 1) :: u).reverse = some ((bh ++ [last - 1]) ++ u).reverse
    rw [List.append_assoc]
    rfl
theorem rbk_lo {G : Int → Bool} {now last : Int} {lf bh : List Int} (h : ¬ last = now) (d : (decide (now < last) && G (last - now - 1)) = false) (e : (decide (last < now) && G (now - last - 1)) = true) : rbk G now (lf ++ [last]) bh = rbk G (now - 1) lf (bh ++ [last]) := by
  unfold rbk
  rw [rev_snoc, rgt, if_neg h, if_neg (by rw [d]; exact Bool.false_ne_true), if_pos e]
  cases rgt G (now - 1) lf.reverse with
  | none => rfl
  | some u =>
    show some (bh ++ last :: u).reverse = some ((bh ++ [last]) ++ u).reverse
    rw [List.append_assoc]
    rfl
theorem rbk_no {G : Int → Bool} {now last : Int} {lf bh : List Int} (h : ¬ last = now) (d : (decide (now < last) && G (last - now - 1)) = false) (e : (decide (last < now) && G (now - last - 1)) = false) : rbk G now (lf ++ [last]) bh = none := by
  unfold rbk
  rw [rev_snoc, rgt, if_neg h, if_neg (by rw [d]; exact Bool.false_ne_true), if_neg (by rw [e]; exact Bool.false_ne_true)]
  rfl
theorem snoc_of {l : List Int} (h : ¬ l = []) : ∃ k x, l = k ++ [x] := ⟨l.dropLast, l.getLast h, (List.dropLast_concat_getLast h).symm⟩
theorem rev_enc (l : List Int) : (l.map Dt.int).reverse = l.reverse.map Dt.int := by rw [List.map_reverse]
/-- joined, as told -/
def jnB (G : Int → Bool) (one other : List Int) : Bool := decide (one.length = other.length) && (lby G one other).isSome
theorem len_eq (one other : List Int) : decide (((one.map Dt.int).length : Int) = ((other.map Dt.int).length : Int)) = decide (one.length = other.length) := by
  rw [List.length_map, List.length_map]
  exact decide_eq_decide.mpr (by omega)
theorem jnB_iff {G : Int → Bool} (hG : GoodF G) {one other : List Int} : jnB G one other = true ↔ Jn G one other := by
  unfold jnB
  rw [Bool.and_eq_true, decide_eq_true_iff]
  constructor
  · rintro ⟨h1, h2⟩
    exact (lby_jn hG other one h1).mp h2
  · exact fun h => ⟨h.len, (lby_jn hG other one h.len).mpr h⟩
/-! first rows: of each class of rows the one that is the least by its last items -/
section
variable {G : Int → Bool}
def mfB (G : Int → Bool) (ls : List Int) (item : Int) : Bool := decide (ls.filter (fun c => decide (c < item) && G (item - c - 1)) = [])
def isFg (G : Int → Bool) : List Int → List Int → Bool
  | _, [] => true
  | ls, x :: xs => mfB G ls x && isFg G (lbh G ls x) xs
abbrev isF (G : Int → Bool) (row : List Int) : Bool := isFg G [] row
theorem isFg_app (G : Int → Bool) : ∀ (a ls b : List Int), isFg G ls (a ++ b) = (isFg G ls a && isFg G (a.foldl (lbh G) ls) b)
  | [], ls, b => by simp [isFg]
  | x :: a, ls, b => by
    rw [List.cons_append, isFg, isFg, isFg_app G a, List.foldl_cons, Bool.and_assoc]
theorem isF_snoc (row : List Int) (x : Int) : isF G (row ++ [x]) = (isF G row && mfB G (lastsM G row) x) := by
  rw [isF, isFg_app, isFg, isFg, Bool.and_true]
  rfl
theorem lasts_snoc (row : List Int) (x : Int) : lastsM G (row ++ [x]) = lbh G (lastsM G row) x := by
  rw [lastsM, lastsM, List.foldl_append]
  rfl
theorem mfB_iff {ls : List Int} {x : Int} : mfB G ls x = true ↔ ∀ c ∈ ls, c < x → G (x - c - 1) = false := by
  unfold mfB
  rw [decide_eq_true_iff, List.filter_eq_nil_iff]
  constructor
  · intro h c hc hx
    have := h c hc
    cases e : G (x - c - 1) with
    | false => rfl
    | true => exact absurd (by simp [hx, e]) this
  · intro h c hc q
    simp only [Bool.and_eq_true, decide_eq_true_eq] at q
    rw [h c hc q.1] at q
    cases q.2
/-- behind a first row the last item is the least -/
theorem first_least {row : List Int} {x : Int} (h : isF G (row ++ [x]) = true) : ∀ y ∈ lastsM G (row ++ [x]), x ≤ y := by
  rw [isF_snoc, Bool.and_eq_true] at h
  have h2 := mfB_iff.mp h.2
  intro y hy
  rw [lasts_snoc, lbh_mem] at hy
  rcases hy with rfl | ⟨a, b, c⟩ | ⟨a, b, c⟩
  · exact Int.le_refl _
  · rw [h2 y c a] at b
    cases b
  · omega
theorem last_mem (row : List Int) (x : Int) : x ∈ lastsM G (row ++ [x]) := by
  rw [lasts_snoc, lbh_mem]
  exact .inl rfl
theorem snoc_cases (l : List Int) : l = [] ∨ ∃ k x, l = k ++ [x] := by
  by_cases h : l = []
  · exact .inl h
  · exact .inr ⟨l.dropLast, l.getLast h, (List.dropLast_concat_getLast h).symm⟩
theorem jn_snoc_eq (hG : GoodF G) {r s : List Int} {x y : Int} (h : Jn G (r ++ [x]) (s ++ [y])) (e : x = y) : Jn G r s := by
  subst e
  exact (jn_snoc hG).mp h
/-- of one class there is one first row, and it is the least by its last items -/
theorem first_le (hG : GoodF G) : ∀ (n : Nat) (r s : List Int), r.length = n → isF G r = true → Jn G r s → r.reverse ≤ s.reverse
  | 0, r, s, hn, _, hj => by
    have := hj.len
    rw [List.eq_nil_of_length_eq_zero hn, List.eq_nil_of_length_eq_zero (by omega : s.length = 0)]
    exact List.le_refl _
  | n + 1, r, s, hn, hf, hj => by
    have hl := hj.len
    rcases snoc_cases r with rfl | ⟨r, x, rfl⟩
    · cases hn
    rcases snoc_cases s with rfl | ⟨s, y, rfl⟩
    · rw [hn] at hl; cases hl
    have hx : x ≤ y := first_least hf y (by rw [← lasts_jn hG hj]; exact last_mem s y)
    rw [List.reverse_append, List.reverse_append]
    show x :: r.reverse ≤ y :: s.reverse
    rcases Int.lt_or_eq_of_le hx with q | q
    · exact List.cons_le_cons_iff.mpr (.inl q)
    · refine List.cons_le_cons_iff.mpr (.inr ⟨q, first_le hG n r s ?_ ?_ (jn_snoc_eq hG hj q)⟩)
      · rw [List.length_append] at hn
        simpa using hn
      · rw [isF_snoc, Bool.and_eq_true] at hf
        exact hf.1
theorem first_one (hG : GoodF G) {r s : List Int} (h : isF G r = true) (h2 : isF G s = true) (hj : Jn G r s) : r = s :=
  List.reverse_inj.mp (List.le_antisymm (first_le hG _ r s rfl h hj) (first_le hG _ s r rfl h2 hj.symm))
/-! ### the first row, found -/
def fstN (G : Int → Bool) : Nat → List Int → List Int
  | 0, _ => []
  | n + 1, l => match lastsM G l with
    | [] => []
    | x :: _ => match restM G l x with
      | none => []
      | some r => fstN G n r ++ [x]
def fstM (G : Int → Bool) (l : List Int) : List Int := fstN G l.length l
theorem lasts_cons (l : List Int) (h : ¬ l = []) : ∃ x t, lastsM G l = x :: t := by
  rcases snoc_cases l with rfl | ⟨k, y, rfl⟩
  · exact absurd rfl h
  · cases e : lastsM G (k ++ [y]) with
    | nil =>
      have := last_mem (G := G) k y
      rw [e] at this
      cases this
    | cons x t => exact ⟨x, t, rfl⟩
theorem head_least {l t : List Int} {x : Int} (e : lastsM G l = x :: t) : ∀ y ∈ lastsM G l, x ≤ y := by
  have h := lasts_asc (G := G) l
  rw [e] at h ⊢
  intro y hy
  rcases List.mem_cons.mp hy with rfl | hy
  · exact Int.le_refl _
  · exact Int.le_of_lt ((List.pairwise_cons.mp h).1 y hy)
theorem rest_last (hG : GoodF G) {row : List Int} {item : Int} (h : item ∈ lastsM G row) : ∃ r, restM G row item = some r ∧ Jn G row (r ++ [item]) := by
  have hs := rest_isSome hG row item
  rw [decide_eq_true h] at hs
  obtain ⟨r, hr⟩ := Option.isSome_iff_exists.mp hs
  exact ⟨r, hr, rest_jn hG hr⟩
theorem fstN_ok (hG : GoodF G) : ∀ (n : Nat) (l : List Int), l.length = n → isF G (fstN G n l) = true ∧ Jn G l (fstN G n l)
  | 0, l, hn => by
    rw [List.eq_nil_of_length_eq_zero hn]
    exact ⟨rfl, .refl _⟩
  | n + 1, l, hn => by
    obtain ⟨x, t, e⟩ := lasts_cons (G := G) l (fun h => by rw [h] at hn; cases hn)
    have hle := head_least e
    have hx : x ∈ lastsM G l := by rw [e]; exact List.mem_cons_self
    obtain ⟨r, hr, hj⟩ := rest_last hG hx
    have hl := hj.len
    rw [List.length_append] at hl
    obtain ⟨h1, h2⟩ := fstN_ok hG n r (by simp only [List.length_cons, List.length_nil] at hl; omega)
    unfold fstN
    rw [e]
    simp only [hr]
    have hj2 : Jn G l (fstN G n r ++ [x]) := hj.trans ((jn_snoc hG).mpr h2)
    refine ⟨?_, hj2⟩
    rw [isF_snoc, h1, Bool.true_and, mfB_iff]
    intro c hc hcx
    cases q : G (x - c - 1) with
    | false => rfl
    | true =>
      have : c ∈ lastsM G l := by
        rw [← lasts_jn hG hj2, lasts_snoc, lbh_mem]
        exact .inr (.inl ⟨hcx, q, hc⟩)
      have := hle c this
      omega
theorem fstM_ok (hG : GoodF G) (l : List Int) : isF G (fstM G l) = true ∧ Jn G l (fstM G l) := fstN_ok hG _ l rfl
theorem fst_jn (hG : GoodF G) {l m : List Int} : fstM G l = fstM G m ↔ Jn G l m := by
  constructor
  · intro h
    have h1 := (fstM_ok hG l).2
    rw [h] at h1
    exact h1.trans (fstM_ok hG m).2.symm
  · intro h
    exact first_one hG (fstM_ok hG l).1 (fstM_ok hG m).1 ((fstM_ok hG l).2.symm.trans (h.trans (fstM_ok hG m).2))
theorem fst_isF (hG : GoodF G) (l : List Int) : isF G l = true ↔ fstM G l = l :=
  ⟨fun h => first_one hG (fstM_ok hG l).1 h (fstM_ok hG l).2.symm, fun h => by rw [← h]; exact (fstM_ok hG l).1⟩
end
/-! ### lists without twice the same -/
theorem nodup_le {α : Type} [DecidableEq α] : ∀ {l m : List α}, l.Nodup → (∀ x ∈ l, x ∈ m) → l.length ≤ m.length
  | [], m, _, _ => Nat.zero_le _
  | a :: l, m, h, k => by
    have ha := k a List.mem_cons_self
    have h2 := List.nodup_cons.mp h
    have e := List.length_erase_of_mem ha
    have hp := List.length_pos_of_mem ha
    have := nodup_le (l := l) (m := m.erase a) h2.2 fun x hx => (List.mem_erase_of_ne (fun q => h2.1 (by rw [← q]; exact hx))).mpr (k x (List.mem_cons_of_mem _ hx))
    rw [List.length_cons]
    omega
theorem nodup_perm {α : Type} [DecidableEq α] {l m : List α} (h : l.Nodup) (k : m.Nodup) (e : ∀ x, x ∈ l ↔ x ∈ m) : l.Perm m := by
  refine List.perm_iff_count.mpr fun x => ?_
  rw [List.Nodup.count h, List.Nodup.count k]
  simp only [e x]
/-! draws -/
def genI (n : Int) (l : List Dt) : Prop := ∃ g0 g1 g2 : Int, l = [.int g0, .int g1, .int g2] ∧ 0 ≤ g0 ∧ 0 ≤ g1 ∧ g1 < 2147483648 ∧ 0 ≤ g2 ∧ g2 ≤ n
theorem mulOkI {i j : Int} (h0 : 0 ≤ i) (h1 : i < 18446744073709551616) : IntMulOk i j := mulOk (by
  have e : (2 : Nat) ^ 64 = 18446744073709551616 := by decide
  rw [e]
  omega)
theorem log2_small {b : Int} (h0 : 0 < b) (h1 : b < 576460752303423488) : b.natAbs.log2 < 9000 := by
  have e : (2 : Nat) ^ 59 = 576460752303423488 := by decide
  have : b.natAbs.log2 < 59 := (Nat.log2_lt (by omega)).mpr (by rw [e]; omega)
  omega
theorem bits59 {b : Int} (h0 : 0 < b) (h1 : b < 576460752303423488) : ((Builtin.Int.intBits b : Nat) : Int) ≤ 59 := by
  have e : (2 : Nat) ^ 59 = 576460752303423488 := by decide
  have := bits_le (i := b) (n := 59) (by rw [e]; omega)
  omega
theorem bitsM {m : Int} (h0 : 0 ≤ m) (h1 : m < 1000003) : Builtin.Int.intBits m ≤ 1048576 := by
  have e : (2 : Nat) ^ 20 = 1048576 := by decide
  have := bits_le (i := m) (n := 20) (by rw [e]; omega)
  omega
theorem atI_i {ns : List Int} {n : Int} (h0 : 0 ≤ n) (h1 : n < (ns.length : Int)) : ∃ z ∈ ns, L2.atI (ns.map Dt.int) n = some (.int z) := by
  have hl : n.toNat < ns.length := by omega
  refine ⟨ns[n.toNat], List.getElem_mem hl, ?_⟩
  unfold L2.atI L2.ixN
  rw [List.length_map, if_pos h0, if_pos h1]
  simp [hl]
theorem cut1 (ns : List Int) : cutD (ns.map Dt.int) none (some 1) = (ns.take 1).map Dt.int := by
  unfold cutD
  cases ns with
  | nil => rfl
  | cons a r => simp [HT.sIx]
theorem genI_mono {n m : Int} {l : List Dt} (h : n ≤ m) (g : genI n l) : genI m l := by
  obtain ⟨g0, g1, g2, e, h1, h2, h3, h4, h5⟩ := g
  exact ⟨g0, g1, g2, e, h1, h2, h3, h4, Int.le_trans h5 h⟩
def iget (l : List Int) (n : Int) : Int := l.getD n.toNat 0
theorem atI_g {l : List Int} {n : Int} (h0 : 0 ≤ n) (h1 : n < (l.length : Int)) : L2.atI (l.map Dt.int) n = some (.int (iget l n)) := by
  have hl : n.toNat < l.length := by omega
  unfold L2.atI L2.ixN iget
  rw [List.length_map, if_pos h0, if_pos h1]
  simp [hl, List.getD]
theorem irange_get {a b : Int} {i : Nat} {n : Int} (h : (irange a b)[i]? = some n) : n = a + (i : Int) := by
  unfold irange at h
  rw [List.getElem?_map] at h
  cases e : (List.range (b - a).toNat)[i]? with
  | none => rw [e] at h; cases h
  | some j =>
    rw [e] at h
    have := (List.getElem?_eq_some_iff.mp e)
    obtain ⟨q1, q2⟩ := this
    rw [List.getElem_range] at q2
    have h2 := Option.some.inj h
    rw [← h2]
    show a + (j : Int) = a + (i : Int)
    omega
theorem all_snoc {α : Type} {p : α → Bool} {l : List α} {i : Nat} {a : α} (h : l[i]? = some a) (h1 : (l.take i).all p = true) (h2 : p a = true) : (l.take (i + 1)).all p = true := by
  rw [List.take_add_one, h, List.all_append, h1]
  simp [h2]
theorem all_false {α : Type} {p : α → Bool} {l : List α} {i : Nat} {a : α} (h : l[i]? = some a) (h2 : p a = false) : l.all p = false := by
  rw [List.all_eq_false]
  exact ⟨a, List.mem_of_getElem? h, by rw [h2]; exact Bool.false_ne_true⟩
/-! lots of last items counted by size; classes counted -/
def richM (ks ns : List Int) (low : Int) : Bool := !decide (ns.filter (fun high => inL ks none (low + high) || inL ks none (low + high + 1)) = [])
def leanM (ks : List Int) : Bool := decide (((sortI ks).filter (richM ks (sortI ks))).map (fun _ => (1 : Int)) = [])
def leanB (ks : List Int) (st : Option Int) : Bool := match st with
  | none => leanM ks
  | some _ => false
def sizesM (ks : List Int) (len : Int) : List Int := [1, len, ((numsG ks none (len - 2)).map fun g => len - 1 - g).sum]
def padI (n : Int) (l : List Int) : List Int := l ++ List.replicate (n - (l.length : Int)).toNat 0
theorem padI_len {n : Int} {l : List Int} (h : (l.length : Int) ≤ n) : ((padI n l).length : Int) = n := by
  unfold padI
  rw [List.length_append, List.length_replicate]
  omega
def addM (one other : List Int) : List Int := ((padI (max (one.length : Int) (other.length : Int)) one).zip (padI (max (one.length : Int) (other.length : Int)) other)).map fun p => p.1 + p.2
theorem pad_eq (one other : List Int) : (padI (max (one.length : Int) (other.length : Int)) one).length = (padI (max (one.length : Int) (other.length : Int)) other).length := by
  have h1 := padI_len (n := max (one.length : Int) (other.length : Int)) (l := one) (by omega)
  have h2 := padI_len (n := max (one.length : Int) (other.length : Int)) (l := other) (by omega)
  omega
theorem addM_len (one other : List Int) : (addM one other).length = max one.length other.length := by
  unfold addM
  rw [List.length_map, List.length_zip, ← pad_eq, Nat.min_self]
  have h1 := padI_len (n := max (one.length : Int) (other.length : Int)) (l := one) (by omega)
  omega
theorem zip_ints : ∀ (a b : List Int), zipD (a.map Dt.int) (b.map Dt.int) = (a.zip b).map fun p : Int × Int => Dt.tup [.int p.1, .int p.2]
  | [], b => rfl
  | x :: a, [] => rfl
  | x :: a, y :: b => by
    have ih := zip_ints a b
    unfold zipD at ih ⊢
    rw [List.map_cons, List.map_cons, List.zip_cons_cons, List.map_cons, List.zip_cons_cons, List.map_cons, ih]
theorem rep0 (k : Nat) : (List.replicate k [Dt.int 0]).flatten = (List.replicate k (0 : Int)).map Dt.int := by
  induction k with
  | zero => rfl
  | succ k ih => rw [List.replicate_succ, List.flatten_cons, ih]; rfl
theorem pad_enc (n : Int) (l : List Int) : l.map Dt.int ++ (List.replicate (n - (l.length : Int)).toNat [Dt.int 0]).flatten = (padI n l).map Dt.int := by
  unfold padI
  rw [rep0, List.map_append]
/-! ### states -/
abbrev Sts := List (List Int × List Int)
def keptM (st : Option Int) (item : Int) (ks : List Int) : List Int := match st with
  | none => ks
  | some s => ks.filter fun low => decide (item - low < s)
def freeM (ks : List Int) (st : Option Int) (item : Int) (h : List Int) : Bool := decide (h.filter (fun low => !inL ks st (item - low - 1)) = [])
def chM (ks : List Int) (st : Option Int) (item : Int) (p : List Int × List Int) : Sts := [p] ++ (bif freeM ks st item p.1 then [(p.1 ++ [item], 0 :: p.2)] else [])
def insM (st : Option Int) (item : Int) (m : Sts) (q : List Int × List Int) : Sts := putM m (keptM st item q.1) (match valM m (keptM st item q.1) with
  | some u => addM u q.2
  | none => q.2)
def furM (ks : List Int) (st : Option Int) (item : Int) (m : Sts) : Sts := m.foldl (fun acc p => (chM ks st item p).foldl (insM st item) acc) []
def stM (ks : List Int) (st : Option Int) : Nat → Sts
  | 0 => [([], [1])]
  | n + 1 => furM ks st n (stM ks st n)
def totM (m : Sts) : List Int := m.foldl (fun t p => addM t p.2) []
def RL (ks : List Int) (st : Option Int) (b : Nat) : List Int := bif leanB ks st then sizesM ks b else totM (stM ks st b)
abbrev encC (p : List Int × List Int) : Dt := .tup [encT p.1, encI p.2]
theorem put_mem {m : Sts} {k v : List Int} {p : List Int × List Int} (h : p ∈ putM m k v) : p ∈ m ∨ p = (k, v) := by
  unfold putM at h
  split at h
  · obtain ⟨q, hq, e⟩ := List.mem_map.mp h
    split at e
    · rename_i c
      subst e
      rw [c]
      exact .inr rfl
    · subst e
      exact .inl hq
  · rcases List.mem_append.mp h with h | h
    · exact .inl h
    · exact .inr (List.mem_singleton.mp h)
theorem val_mem {m : Sts} {k u : List Int} (h : valM m k = some u) : ∃ p ∈ m, p.2 = u := by
  unfold valM at h
  obtain ⟨p, hp, e⟩ := Option.map_eq_some_iff.mp h
  exact ⟨p, List.mem_of_find?_eq_some hp, e⟩
def BdS (n a b : Nat) (m : Sts) : Prop := m.length ≤ n ∧ ∀ p ∈ m, p.1.length ≤ a ∧ p.2.length ≤ b
theorem kept_len (st : Option Int) (item : Int) (ks : List Int) : (keptM st item ks).length ≤ ks.length := by
  unfold keptM
  split
  · exact Nat.le_refl _
  · exact List.length_filter_le _ _
theorem ins_bd {n a b : Nat} {m : Sts} {st : Option Int} {item : Int} {q : List Int × List Int} (h : BdS n a b m) (h1 : q.1.length ≤ a) (h2 : q.2.length ≤ b) : BdS (n + 1) a b (insM st item m q) := by
  unfold insM
  refine ⟨Nat.le_trans (putM_length _ _ _) (by have := h.1; omega), fun p hp => ?_⟩
  rcases put_mem hp with hp | rfl
  · exact h.2 p hp
  · refine ⟨Nat.le_trans (kept_len _ _ _) h1, ?_⟩
    dsimp only
    split
    · rename_i u hu
      obtain ⟨p, hp, e⟩ := val_mem hu
      rw [addM_len]
      have := (h.2 p hp).2
      rw [e] at this
      omega
    · exact h2
theorem ch_len (ks : List Int) (st : Option Int) (item : Int) (p : List Int × List Int) : (chM ks st item p).length ≤ 2 := by
  unfold chM
  cases freeM ks st item p.1 <;> simp
theorem ch_bd {ks : List Int} {st : Option Int} {item : Int} {p q : List Int × List Int} {a b : Nat} (h1 : p.1.length ≤ a) (h2 : p.2.length ≤ b) (hq : q ∈ chM ks st item p) : q.1.length ≤ a + 1 ∧ q.2.length ≤ b + 1 := by
  unfold chM at hq
  rcases List.mem_append.mp hq with hq | hq
  · rw [List.mem_singleton.mp hq]
    omega
  · cases e : freeM ks st item p.1 with
    | false => rw [e] at hq; cases hq
    | true =>
      rw [e] at hq
      rw [List.mem_singleton.mp hq]
      simp only [List.length_append, List.length_cons, List.length_nil]
      omega
theorem fold_bd {st : Option Int} {item : Int} {a b : Nat} : ∀ (l : Sts) (n : Nat) (m : Sts), BdS n a b m → (∀ q ∈ l, q.1.length ≤ a ∧ q.2.length ≤ b) → BdS (n + l.length) a b (l.foldl (insM st item) m)
  | [], n, m, h, _ => h
  | q :: l, n, m, h, hl => by
    have hq := hl q List.mem_cons_self
    have := fold_bd (st := st) (item := item) l (n + 1) _ (ins_bd (st := st) (item := item) h hq.1 hq.2) fun q hq => hl q (List.mem_cons_of_mem _ hq)
    rw [List.length_cons, show n + (l.length + 1) = n + 1 + l.length from by omega]
    exact this
theorem BdS.mono {n n' a b : Nat} {m : Sts} (h : BdS n a b m) (k : n ≤ n') : BdS n' a b m := ⟨Nat.le_trans h.1 k, h.2⟩
theorem fur_bd {ks : List Int} {st : Option Int} {item : Int} {a b : Nat} : ∀ (l : Sts) (n : Nat) (acc : Sts), BdS n (a + 1) (b + 1) acc → (∀ q ∈ l, q.1.length ≤ a ∧ q.2.length ≤ b) → BdS (n + 2 * l.length) (a + 1) (b + 1) (l.foldl (fun acc p => (chM ks st item p).foldl (insM st item) acc) acc)
  | [], n, m, h, _ => h
  | q :: l, n, m, h, hl => by
    have hq := hl q List.mem_cons_self
    have h1 := fold_bd (st := st) (item := item) (chM ks st item q) n m h fun r hr => ch_bd hq.1 hq.2 hr
    have h2 := fur_bd (ks := ks) (st := st) (item := item) l (n + 2) _ (h1.mono (by have := ch_len ks st item q; omega)) fun q hq => hl q (List.mem_cons_of_mem _ hq)
    rw [List.length_cons, show n + 2 * (l.length + 1) = n + 2 + 2 * l.length from by omega]
    exact h2
theorem st_bd (ks : List Int) (st : Option Int) : ∀ i : Nat, ∀ p ∈ stM ks st i, p.1.length ≤ i ∧ p.2.length ≤ i + 1
  | 0, p, hp => by
    rw [List.mem_singleton.mp hp]
    exact ⟨Nat.le_refl _, Nat.le_refl _⟩
  | i + 1, p, hp => (fur_bd (ks := ks) (st := st) (item := i) (stM ks st i) 0 [] ⟨Nat.le_refl _, fun p hp => by cases hp⟩ (st_bd ks st i)).2 p hp
theorem tot_bd {b : Nat} : ∀ (m : Sts) (t : List Int), t.length ≤ b → (∀ p ∈ m, p.2.length ≤ b) → (m.foldl (fun t p => addM t p.2) t).length ≤ b
  | [], t, h, _ => h
  | p :: m, t, h, hm => tot_bd m _ (by rw [addM_len]; have := hm p List.mem_cons_self; omega) fun q hq => hm q (List.mem_cons_of_mem _ hq)
theorem RL_len (ks : List Int) (st : Option Int) (b : Nat) : (RL ks st b).length ≤ b + 3 := by
  unfold RL
  cases leanB ks st with
  | true => show 3 ≤ b + 3; omega
  | false => exact Nat.le_trans (tot_bd (b := b + 1) _ _ (Nat.zero_le _) fun p hp => (st_bd ks st b p hp).2) (by omega)
/-! ### totals -/
def ctS (R : Nat → List Int) (fd : List Int) (below : Int) (t size : Int) : Int := bif decide (size ≤ below) then t + (bif decide (size % 2 = 1) then 1 else -1) * iget (R below.toNat) size * iget fd (below - size) else t
def ctT (R : Nat → List Int) (fd : List Int) (below : Int) : Int := (irange 1 ((R below.toNat).length : Int)).foldl (ctS R fd below) 0
def ctL (R : Nat → List Int) : Nat → List Int
  | 0 => [1]
  | n + 1 => ctL R n ++ [ctT R (ctL R n) ((n + 1 : Nat) : Int)]
theorem ctL_len (R : Nat → List Int) : ∀ n, (ctL R n).length = n + 1
  | 0 => rfl
  | n + 1 => by rw [ctL, List.length_append, ctL_len R n]; rfl
theorem iget_bd {l : List Int} {n : Int} (h : ∀ x ∈ l, x.natAbs < 2 ^ 60) : (iget l n).natAbs < 2 ^ 60 := by
  unfold iget
  rw [List.getD_eq_getElem?_getD]
  cases e : l[n.toNat]? with
  | none => exact Nat.pow_pos (by decide)
  | some x => exact h x (List.mem_of_getElem? e)
theorem rows_at {R : Nat → List Int} {n : Nat} {b : Int} (h0 : 0 ≤ b) (h1 : b < (n : Int)) : L2.atI (((List.range n).map R).map encI) b = some (encI (R b.toNat)) := by
  unfold L2.atI L2.ixN
  rw [List.length_map, List.length_map, List.length_range, if_pos h0, if_pos h1]
  simp [show b.toNat < n from by omega]
theorem mul60 {s x y : Int} (h1 : s.natAbs ≤ 1) (h2 : x.natAbs < 2 ^ 60) : IntMulOk (s * x) y := mulOk (by
  rw [Int.natAbs_mul]
  exact Nat.lt_of_le_of_lt (Nat.le_trans (Nat.mul_le_mul_right _ h1) (by rw [Nat.one_mul]; exact Nat.le_refl _)) (Nat.lt_trans h2 (by decide)))
theorem leanB_1 {ks : List Int} {st : Option Int} (h : leanB ks st = true) : st = none ∧ leanM ks = true := by
  cases st with
  | none => exact ⟨rfl, h⟩
  | some s => cases h
theorem rl_lean {ks : List Int} {len : Int} (h : leanB ks none = true) (h0 : 0 ≤ len) : (irange 0 (len + 1)).map (sizesM ks) = (List.range (len.toNat + 1)).map (RL ks none) := by
  unfold irange
  rw [List.map_map, show (len + 1 - 0).toNat = len.toNat + 1 from by omega]
  refine List.map_congr_left fun b _ => ?_
  show sizesM ks (0 + (b : Int)) = RL ks none b
  unfold RL
  rw [h, cond_true, Int.zero_add]
theorem rl_rest {ks : List Int} {st : Option Int} {n : Nat} (h : leanB ks st = false) : (List.range n).map (RL ks st) = (List.range n).map (fun b => totM (stM ks st b)) := by
  refine List.map_congr_left fun b _ => ?_
  unfold RL
  rw [h, cond_false]
theorem oki_d (m : Sts) : okI [.dtt (dttE encI m)] = true := by
  show (noTT (dttE encI m) && true) = true
  rw [noTT_ints]
  rfl
theorem noTK_lets : ∀ ks : List Int, noTK (ks.map fun n => ((.inl n : Key), Dt.bl true)) = true
  | [] => rfl
  | k :: ks => noTK_lets ks
theorem noT_opt (st : Option Int) : noT (optD st) = true := by cases st <;> rfl
theorem cat1b (l : List Int) (x : Int) : (l ++ [x]).map Dt.int = l.map Dt.int ++ [Dt.int x] := by rw [List.map_append]; rfl
theorem fstN_step {G : Int → Bool} {l r t : List Int} {x : Int} {k : Nat} (hl : l.length = k + 1) (e : lastsM G l = x :: t) (hr : restM G l x = some r) : fstN G l.length l = fstN G k r ++ [x] := by
  rw [hl]
  show (match lastsM G l with
    | [] => []
    | x :: _ => match restM G l x with
      | none => []
      | some r => fstN G k r ++ [x]) = _
  rw [e]
  simp only [hr]
theorem okis_fur (C : Addr) (ks : List Int) (st : Option Int) (m : Sts) (item : Int) : okIS [some (.d (letsD C ks st)), some (.d (.dtt (dttE encI m))), some (.d (.int item)), some (.p 0), none, none, none, none, none, none] = true := by
  show (noT (letsD C ks st) && (noT (.dtt (dttE encI m)) && true)) = true
  rw [show noT (.dtt (dttE encI m)) = noTT (dttE encI m) from rfl, noTT_ints]
  show ((noTK (heldL ks) && (noT (optD st) && true)) && true) = true
  rw [noT_opt, show noTK (heldL ks) = true from noTK_lets ks]
  rfl
theorem at0 (y : Int) (t : List Int) : L2.atI ((y :: t).map Dt.int) 0 = some (.int y) := by
  rw [atI_g (Int.le_refl 0) (by rw [List.length_cons]; omega)]
  rfl
/-! the law: deeds on rows -/
def chgT (ns : List Int) (st : Option Int) (x y : Int) : Option (List Int) :=
  if (decide (x < y) && inL ns st (y - x - 1)) = true then some [y - 1, x] else if (decide (y < x) && inL ns st (x - y)) = true then some [y, x + 1] else none
theorem chgT_deed {ns : List Int} {st : Option Int} {x y : Int} {l : List Int} (h : chgT ns st x y = some l) (q : List Int) : Deed (inL ns st) (x :: y :: q) (l ++ q) := by
  unfold chgT at h
  by_cases c : (decide (x < y) && inL ns st (y - x - 1)) = true
  · rw [if_pos c] at h
    cases h
    rw [Bool.and_eq_true] at c
    exact .to (g := y - x - 1) c.2 (by omega) (by omega)
  · rw [if_neg c] at h
    by_cases d : (decide (y < x) && inL ns st (x - y)) = true
    · rw [if_pos d] at h
      cases h
      rw [Bool.and_eq_true] at d
      exact .fro (g := x - y) d.2 (by omega) (by omega)
    · rw [if_neg d] at h
      cases h
theorem Deed.pre {G : Int → Bool} (p : List Int) {l m : List Int} (h : Deed G l m) : Deed G (p ++ l) (p ++ m) := by
  induction p with
  | nil => exact h
  | cons a p ih => exact .cons ih
def nearAt (ns : List Int) (st : Option Int) (row : List Int) (n : Int) : Option (List Int) := (chgT ns st (iget row n) (iget row (n + 1))).map fun led => row.take n.toNat ++ led ++ row.drop (n + 2).toNat
def nearM (ns : List Int) (st : Option Int) (row : List Int) : List (List Int) := (irange 0 ((row.length : Int) - 1)).filterMap (nearAt ns st row)
theorem split_two {row : List Int} {n : Int} (h0 : 0 ≤ n) (h1 : n < (row.length : Int) - 1) : row = row.take n.toNat ++ iget row n :: iget row (n + 1) :: row.drop (n + 2).toNat := by
  obtain ⟨k, rfl⟩ := Int.eq_ofNat_of_zero_le h0
  have l0 : k < row.length := by omega
  have l1 : k + 1 < row.length := by omega
  have e0 : iget row (k : Int) = row[k] := by
    unfold iget
    rw [Int.toNat_natCast, List.getD_eq_getElem?_getD, List.getElem?_eq_getElem l0]
    rfl
  have e1 : iget row ((k : Int) + 1) = row[k + 1] := by
    unfold iget
    rw [show ((k : Int) + 1).toNat = k + 1 from by omega, List.getD_eq_getElem?_getD, List.getElem?_eq_getElem l1]
    rfl
  rw [e0, e1, Int.toNat_natCast, show ((k : Int) + 2).toNat = k + 2 from by omega, ← List.drop_eq_getElem_cons l1, ← List.drop_eq_getElem_cons l0, List.take_append_drop]
theorem near_deed {ns : List Int} {st : Option Int} {row r : List Int} (h : r ∈ nearM ns st row) : Deed (inL ns st) row r := by
  obtain ⟨n, hn, e⟩ := List.mem_filterMap.mp h
  have hb := mem_irange.mp hn
  unfold nearAt at e
  obtain ⟨l, e1, rfl⟩ := Option.map_eq_some_iff.mp e
  have q := (chgT_deed e1 (row.drop (n + 2).toNat)).pre (row.take n.toNat)
  rw [← split_two hb.1 hb.2, ← List.append_assoc] at q
  exact q
theorem fm_snoc {α β : Type} {f : α → Option β} {l : List α} {i : Nat} {a : α} (h : l[i]? = some a) : (l.take (i + 1)).filterMap f = (l.take i).filterMap f ++ (f a).toList := by
  rw [List.take_add_one, h, List.filterMap_append]
  congr 1
theorem fm_len {α β : Type} {f : α → Option β} {l : List α} {i : Nat} : ((l.take i).filterMap f).length ≤ l.length :=
  Nat.le_trans (List.length_filterMap_le _ _) (by rw [List.length_take]; omega)
theorem near_sz {ns : List Int} {st : Option Int} {row : List Int} {i : Nat} (h : row.length ≤ 300) : ((((irange 0 ((row.length : Int) - 1)).take i).filterMap (nearAt ns st row)).map encI).length < sizeLine := by
  rw [List.length_map]
  have := fm_len (f := nearAt ns st row) (l := irange 0 ((row.length : Int) - 1)) (i := i)
  rw [irange_length] at this
  exact Nat.lt_of_le_of_lt (show _ ≤ 400 from by omega) (by decide)
theorem at_rows {l : List (List Int)} {v : Int} (h0 : 0 ≤ v) (h1 : v < (l.length : Int)) : ∃ r ∈ l, L2.atI (l.map encI) v = some (encI r) := by
  have hl : v.toNat < l.length := by omega
  refine ⟨l[v.toNat], List.getElem_mem hl, ?_⟩
  unfold L2.atI L2.ixN
  rw [List.length_map, if_pos h0, if_pos h1]
  simp [hl]
theorem two_at {a b : List Int} {v : Int} (h0 : 0 ≤ v) (h1 : v < 2) : L2.atI [encI a, encI b] v = some (encI (if v = 0 then a else b)) := by
  rcases show v = 0 ∨ v = 1 from by omega with e | e <;> subst e <;> rfl
theorem chg_len {ns : List Int} {st : Option Int} {x y : Int} {l : List Int} (h : chgT ns st x y = some l) : l.length = 2 := by
  unfold chgT at h
  split at h
  · cases h; rfl
  · split at h
    · cases h; rfl
    · cases h
theorem cut_sz1 {l : List Int} {n : Int} {a : List Dt} (h : 0 ≤ n) (hl : l.length ≤ 300) (ha : a.length ≤ 300) : (cutD (l.map Dt.int) none (some n)).length + a.length ≤ sizeLine := by
  rw [cut_hi h, List.length_map, List.length_take]
  exact Nat.le_trans (show _ ≤ 1000 from by omega) (by decide)
theorem cut_sz2 {l : List Int} {n m : Int} {a : List Dt} (h : 0 ≤ n) (hm : 0 ≤ m) (hl : l.length ≤ 300) (ha : a.length ≤ 300) : (cutD (l.map Dt.int) none (some n) ++ a).length + (cutD (l.map Dt.int) (some m) none).length ≤ sizeLine := by
  rw [cut_hi h, cut_lo hm, List.length_append, List.length_map, List.length_take, List.length_map, List.length_drop]
  exact Nat.le_trans (show _ ≤ 2000 from by omega) (by decide)
theorem log_of {l : List Int} (h : ∀ (i : Nat) y, l[i]? = some y → 0 ≤ y ∧ y ≤ (i : Int)) : LogF 0 l := by
  have key : ∀ (l : List Int) (k : Nat), (∀ (i : Nat) y, l[i]? = some y → 0 ≤ y ∧ y ≤ (k : Int) + (i : Int)) → LogF k l := fun l => by
    induction l with
    | nil => exact fun k _ => trivial
    | cons a l ih =>
      intro k hk
      have h0 := hk 0 a rfl
      refine ⟨h0.1, by omega, ih (k + 1) fun i y e => ?_⟩
      have := hk (i + 1) y (by simpa using e)
      omega
  exact key l 0 fun i y e => by
    have := h i y e
    omega
theorem log_nn : ∀ {l : List Int} {k : Nat}, LogF k l → NN l
  | [], _, _ => fun x h => by cases h
  | a :: l, k, h => nn_cons.mpr ⟨h.1, log_nn h.2.2⟩
theorem nn_of {l : List Int} {m : Int} (h : ∀ (i : Nat) y, l[i]? = some y → 0 ≤ y ∧ y < m) : NN l := fun x hx => by
  obtain ⟨i, hi⟩ := List.mem_iff_getElem?.mp hx
  exact (h i x hi).1
/-! the good pairs -/
theorem near_enc (a l d : List Int) : a.map Dt.int ++ l.map Dt.int ++ d.map Dt.int = (a ++ l ++ d).map Dt.int := by
  rw [List.map_append, List.map_append]
def goodLs : List (List Int × Option Int) := [([1], none), ([2], none), ([2, 3], none), ([1, 4], none), ([3, 4, 5], none), ([2, 4, 5], none), ([], none), ([], some 1), ([], some 2), ([], some 3), ([1], some 4), ([3], none), ([2, 6, 12, 13], none), ([3, 6, 7, 9, 10, 11], none), ([999], none)]
def goodL (j : Int) : List Int × Option Int := goodLs.getD j.toNat ([], none)
theorem good_at {j : Int} (h0 : 0 ≤ j) (h1 : j < 15) : L2.atI (goodLs.map fun p => Dt.tup [encI p.1, optD p.2]) j = some (Dt.tup [encI (goodL j).1, optD (goodL j).2]) := by
  have hl : j.toNat < goodLs.length := by
    show j.toNat < 15
    omega
  unfold L2.atI L2.ixN goodL
  rw [List.length_map, if_pos h0, if_pos (show j < (goodLs.length : Int) from h1)]
  simp [hl, List.getD]
/-! the law: classes by deeds, found by going through them; logs, parted into classes -/
theorem inL_pos {ns : List Int} {st : Option Int} (hG : GoodF (inL ns st)) {g : Int} (h : inL ns st g = true) : 1 ≤ g := hG.pos g h
theorem deed_split {ns : List Int} {st : Option Int} (hG : GoodF (inL ns st)) {row r : List Int} (h : Deed (inL ns st) row r) : ∃ p x y q led, row = p ++ x :: y :: q ∧ r = p ++ led ++ q ∧ chgT ns st x y = some led := by
  induction h with
  | @to f g t s q h ht hs =>
    refine ⟨[], f, s, q, [t, f], rfl, rfl, ?_⟩
    have hp := hG.pos g h
    unfold chgT
    rw [if_pos (by rw [decide_eq_true (show f < s from by omega), show s - f - 1 = g from by omega, h]; rfl), show s - 1 = t from by omega]
  | @fro f g t s q h ht hs =>
    refine ⟨[], t, f, q, [f, s], rfl, rfl, ?_⟩
    have hp := hG.pos g h
    unfold chgT
    rw [if_neg (by rw [decide_eq_false (show ¬ t < f from by omega)]; exact Bool.false_ne_true), if_pos (by rw [decide_eq_true (show f < t from by omega), show t - f = g from by omega, h]; rfl), show t + 1 = s from by omega]
  | @cons a l m h ih =>
    obtain ⟨p, x, y, q, led, rfl, rfl, e⟩ := ih
    exact ⟨a :: p, x, y, q, led, rfl, rfl, e⟩
theorem deed_near {ns : List Int} {st : Option Int} (hG : GoodF (inL ns st)) {row r : List Int} (h : Deed (inL ns st) row r) : r ∈ nearM ns st row := by
  obtain ⟨p, x, y, q, led, rfl, rfl, e⟩ := deed_split hG h
  have e1 : iget (p ++ x :: y :: q) (p.length : Int) = x := by
    unfold iget
    rw [Int.toNat_natCast, List.getD_eq_getElem?_getD, List.getElem?_append_right (Nat.le_refl _), Nat.sub_self]
    rfl
  have e2 : iget (p ++ x :: y :: q) ((p.length : Int) + 1) = y := by
    unfold iget
    rw [show ((p.length : Int) + 1).toNat = p.length + 1 from by omega, List.getD_eq_getElem?_getD, List.getElem?_append_right (by omega), show p.length + 1 - p.length = 1 from by omega]
    rfl
  refine List.mem_filterMap.mpr ⟨(p.length : Int), mem_irange.mpr ⟨by omega, ?_⟩, ?_⟩
  · rw [List.length_append, List.length_cons, List.length_cons]
    omega
  · unfold nearAt
    rw [e1, e2, e, Int.toNat_natCast, show ((p.length : Int) + 2).toNat = p.length + 2 from by omega, List.take_left, List.drop_append, List.drop_eq_nil_of_le (by omega), show p.length + 2 - p.length = 2 from by omega]
    rfl
structure ClsI (ns : List Int) (st : Option Int) (row : List Int) (lot : List (List Int)) (k : Nat) : Prop where
  nd : lot.Nodup
  jn : ∀ x ∈ lot, Jn (inL ns st) row x
  row : row ∈ lot
  cl : ∀ (i : Nat) r, i < k → lot[i]? = some r → ∀ y ∈ nearM ns st r, y ∈ lot
section
variable {ns : List Int} {st : Option Int} {row r0 y : List Int} {lot : List (List Int)} {k j : Nat}
theorem cls_0 : ClsI ns st row [row] 0 := ⟨by simp, fun x hx => by rw [List.mem_singleton.mp hx]; exact .refl _, List.mem_singleton.mpr rfl, fun i r h => absurd h (Nat.not_lt_zero _)⟩
theorem cls_old (hy : (nearM ns st r0)[j]? = some y) (h : ∀ z ∈ (nearM ns st r0).take j, z ∈ lot) (m : y ∈ lot) : ∀ z ∈ (nearM ns st r0).take (j + 1), z ∈ lot := fun z hz => by
  rw [List.take_add_one, hy] at hz
  rcases List.mem_append.mp hz with hz | hz
  · exact h z hz
  · rw [List.mem_singleton.mp hz]; exact m
theorem cls_new (c : ClsI ns st row lot k) (hk : lot[k]? = some r0) (hy : y ∈ nearM ns st r0) (m : y ∉ lot) : ClsI ns st row (lot ++ [y]) k where
  nd := by
    rw [List.nodup_append]
    refine ⟨c.nd, by simp, fun a ha b hb => ?_⟩
    rw [List.mem_singleton.mp hb]
    rintro rfl
    exact m ha
  jn := fun x hx => by
    rcases List.mem_append.mp hx with hx | hx
    · exact c.jn x hx
    · rw [List.mem_singleton.mp hx]
      exact (c.jn r0 (List.mem_of_getElem? hk)).trans (near_deed hy).jn
  row := List.mem_append_left _ c.row
  cl := fun i r hi hr z hz => by
    have hl := (List.getElem?_eq_some_iff.mp hk).1
    rw [List.getElem?_append_left (by omega)] at hr
    exact List.mem_append_left _ (c.cl i r hi hr z hz)
theorem get_app (hk : lot[k]? = some r0) : (lot ++ [y])[k]? = some r0 := by
  rw [List.getElem?_append_left (List.getElem?_eq_some_iff.mp hk).1]
  exact hk
theorem cls_turn (c : ClsI ns st row lot k) (hk : lot[k]? = some r0) (h : ∀ z ∈ nearM ns st r0, z ∈ lot) : ClsI ns st row lot (k + 1) :=
  ⟨c.nd, c.jn, c.row, fun i r hi hr z hz => by
    by_cases e : i = k
    · subst e
      rw [hk] at hr
      cases hr
      exact h z hz
    · exact c.cl i r (by omega) hr z hz⟩
theorem cls_end (hG : GoodF (inL ns st)) (c : ClsI ns st row lot k) (hk : lot.length ≤ k) (x : List Int) : x ∈ lot ↔ Jn (inL ns st) row x := by
  refine ⟨c.jn x, fun h => ?_⟩
  have key : ∀ {a b : List Int}, Jn (inL ns st) a b → a ∈ lot → b ∈ lot := fun {a b} h => by
    induction h with
    | refl l => exact id
    | step h t ih =>
      intro ha
      obtain ⟨i, hi⟩ := List.getElem?_of_mem ha
      have hl := (List.getElem?_eq_some_iff.mp hi).1
      exact ih (c.cl i _ (by omega) hi _ (deed_near hG h))
  exact key h c.row
end
/-- a dict whose values are all True -/
def setM (l : List (List Int)) : List (List Int × Bool) := l.map fun r => (r, true)
theorem val_set (l : List (List Int)) (r : List Int) : (valM (setM l) r).isSome = decide (r ∈ l) := by
  unfold valM setM
  rw [Option.isSome_map, List.find?_map, Option.isSome_map]
  cases e : (l.find? ((fun p : List Int × Bool => decide (p.1 = r)) ∘ fun r => (r, true))) with
  | none =>
    have h := List.find?_eq_none.mp e
    rw [decide_eq_false fun m => h r m (by simp)]
    rfl
  | some x =>
    have h := List.find?_some e
    have h2 := List.mem_of_find?_eq_some e
    have : x = r := by simpa using h
    subst this
    rw [decide_eq_true h2]
    rfl
theorem put_set {l : List (List Int)} {r : List Int} (h : r ∉ l) : putM (setM l) r true = setM (l ++ [r]) := by
  unfold putM setM
  rw [if_neg ?_, List.map_append]
  · rfl
  · rw [List.any_map]
    simp only [Bool.not_eq_true, List.any_eq_false]
    intro x hx
    simp only [Function.comp]
    exact decide_eq_false fun e => h (by rw [← e]; exact hx)
/-! ### logs -/
def logStep (fd : List (List Int)) (place : Int) : List (List Int) := (irange 0 (place + 1)).flatMap fun item => fd.map fun log => log ++ [item]
def logsU (len : Int) : List (List Int) := (irange 0 len).foldl logStep [[]]
def logsM (len : Int) : List (List Int) := (logsU len).mergeSort leR
def logsN : Nat → List (List Int)
  | 0 => [[]]
  | n + 1 => logStep (logsN n) n
theorem logs_N : ∀ n : Nat, logsU (n : Int) = logsN n
  | 0 => rfl
  | n + 1 => by
    have ih := logs_N n
    unfold logsU at ih ⊢
    rw [show irange 0 ((n + 1 : Nat) : Int) = irange 0 (n : Int) ++ [(n : Int)] from by
      unfold irange
      rw [show (((n + 1 : Nat) : Int) - 0).toNat = ((n : Int) - 0).toNat + 1 from by omega, List.range_succ, List.map_append]
      show _ ++ [0 + ((((n : Int) - 0).toNat : Nat) : Int)] = _
      rw [show (0 : Int) + ((((n : Int) - 0).toNat : Nat) : Int) = (n : Int) from by omega], List.foldl_append, ih]
    rfl
theorem log_snoc : ∀ {x : List Int} {k : Nat} {y : Int}, LogF k (x ++ [y]) ↔ LogF k x ∧ 0 ≤ y ∧ y ≤ (k : Int) + (x.length : Int)
  | [], k, y => by
    show (0 ≤ y ∧ y ≤ (k : Int) ∧ True) ↔ (True ∧ 0 ≤ y ∧ y ≤ (k : Int) + ((0 : Nat) : Int))
    constructor
    · rintro ⟨a, b, _⟩; exact ⟨trivial, a, by omega⟩
    · rintro ⟨_, a, b⟩; exact ⟨a, by omega, trivial⟩
  | a :: x, k, y => by
    show (0 ≤ a ∧ a ≤ (k : Int) ∧ LogF (k + 1) (x ++ [y])) ↔ ((0 ≤ a ∧ a ≤ (k : Int) ∧ LogF (k + 1) x) ∧ 0 ≤ y ∧ y ≤ (k : Int) + ((x.length + 1 : Nat) : Int))
    rw [log_snoc]
    constructor
    · rintro ⟨h1, h2, h3, h4, h5⟩; exact ⟨⟨h1, h2, h3⟩, h4, by omega⟩
    · rintro ⟨⟨h1, h2, h3⟩, h4, h5⟩; exact ⟨h1, h2, h3, h4, by omega⟩
theorem logsN_mem : ∀ (n : Nat) (x : List Int), x ∈ logsN n ↔ LogF 0 x ∧ x.length = n
  | 0, x => by
    show x ∈ [[]] ↔ _
    rw [List.mem_singleton]
    constructor
    · rintro rfl; exact ⟨trivial, rfl⟩
    · rintro ⟨_, h⟩; exact List.eq_nil_of_length_eq_zero h
  | n + 1, x => by
    show x ∈ logStep (logsN n) n ↔ _
    unfold logStep
    rw [List.mem_flatMap]
    constructor
    · rintro ⟨item, hi, hx⟩
      obtain ⟨log, hl, rfl⟩ := List.mem_map.mp hx
      obtain ⟨h1, h2⟩ := (logsN_mem n log).mp hl
      have hb := mem_irange.mp hi
      exact ⟨log_snoc.mpr ⟨h1, hb.1, by omega⟩, by rw [List.length_append, h2]; rfl⟩
    · rintro ⟨h, hl⟩
      rcases snoc_cases x with rfl | ⟨k, y, rfl⟩
      · cases hl
      · rw [List.length_append] at hl
        have hl2 : k.length = n := by simpa using hl
        obtain ⟨h1, h2, h3⟩ := log_snoc.mp h
        exact ⟨y, mem_irange.mpr ⟨h2, by omega⟩, List.mem_map.mpr ⟨k, (logsN_mem n k).mpr ⟨h1, hl2⟩, rfl⟩⟩
theorem irange_nd (a b : Int) : (irange a b).Nodup := by
  unfold irange
  refine List.Pairwise.map _ (fun x y h e => h ?_) List.nodup_range
  have : (x : Int) = (y : Int) := by omega
  omega
theorem logsN_nd : ∀ n : Nat, (logsN n).Nodup
  | 0 => by show [[]].Nodup; simp
  | n + 1 => by
    show (logStep (logsN n) n).Nodup
    unfold logStep List.Nodup
    rw [List.pairwise_flatMap]
    refine ⟨fun item _ => List.Pairwise.map _ (fun x y h e => h (List.append_cancel_right e)) (logsN_nd n), ?_⟩
    refine List.Pairwise.imp ?_ (irange_nd 0 ((n : Int) + 1))
    intro a b hab x hx y hy e
    obtain ⟨k, _, rfl⟩ := List.mem_map.mp hx
    obtain ⟨l, _, rfl⟩ := List.mem_map.mp hy
    exact hab (by simpa using (List.append_inj' e rfl).2)
theorem logsM_mem {len : Int} (h : 0 ≤ len) (x : List Int) : x ∈ logsM len ↔ LogF 0 x ∧ (x.length : Int) = len := by
  unfold logsM
  rw [(List.mergeSort_perm _ _).mem_iff]
  obtain ⟨n, rfl⟩ := Int.eq_ofNat_of_zero_le h
  rw [logs_N, logsN_mem]
  exact ⟨fun ⟨a, b⟩ => ⟨a, by rw [b]⟩, fun ⟨a, b⟩ => ⟨a, Int.ofNat.inj b⟩⟩
theorem logsN_len : (logsN 0).length = 1 ∧ (logsN 1).length = 1 ∧ (logsN 2).length = 2 ∧ (logsN 3).length = 6 ∧ (logsN 4).length = 24 ∧ (logsN 5).length = 120 ∧ (logsN 6).length = 720 := by decide +kernel
theorem logsN_le {n : Nat} (h : n ≤ 6) : (logsN n).length ≤ 720 := by
  obtain ⟨h0, h1, h2, h3, h4, h5, h6⟩ := logsN_len
  rcases (show n = 0 ∨ n = 1 ∨ n = 2 ∨ n = 3 ∨ n = 4 ∨ n = 5 ∨ n = 6 from by omega) with rfl | rfl | rfl | rfl | rfl | rfl | rfl <;> omega
theorem logs_le {l : List (List Int)} {n : Nat} (hn : n ≤ 6) (nd : l.Nodup) (h : ∀ x ∈ l, LogF 0 x ∧ x.length = n) : l.length ≤ 720 :=
  Nat.le_trans (nodup_le nd fun x hx => (logsN_mem n x).mpr (h x hx)) (logsN_le hn)
/-! ### parted -/
structure ParI (ns : List Int) (st : Option Int) (n : Nat) (ls : List (List Int)) (lots : List (List (List Int))) : Prop where
  cls : ∀ lot ∈ lots, ∃ row, LogF 0 row ∧ row.length = n ∧ lot.Nodup ∧ ∀ x, x ∈ lot ↔ Jn (inL ns st) row x
  nd : lots.flatten.Nodup
  all : ∀ x ∈ ls, x ∈ lots.flatten
section
variable {ns : List Int} {st : Option Int} {n i : Nat} {ls : List (List Int)} {lots : List (List (List Int))} {lot : List (List Int)} {log : List Int}
theorem par_0 : ParI ns st n [] [] := ⟨(fun _ h => by cases h), List.nodup_nil, (fun _ h => by cases h)⟩
theorem par_old (p : ParI ns st n (ls.take i) lots) (h : ls[i]? = some log) (m : log ∈ lots.flatten) : ParI ns st n (ls.take (i + 1)) lots :=
  ⟨p.cls, p.nd, fun x hx => by
    rw [List.take_add_one, h] at hx
    rcases List.mem_append.mp hx with hx | hx
    · exact p.all x hx
    · rw [List.mem_singleton.mp hx]; exact m⟩
theorem par_apart (p : ParI ns st n ls lots) (m : log ∉ lots.flatten) (hl : ∀ x, x ∈ lot ↔ Jn (inL ns st) log x) : ∀ x ∈ lot, x ∉ lots.flatten := fun x hx hm => by
  obtain ⟨l2, h2, h3⟩ := List.mem_flatten.mp hm
  obtain ⟨row, _, _, _, h4⟩ := p.cls l2 h2
  exact m (List.mem_flatten.mpr ⟨l2, h2, (h4 log).mpr (((h4 x).mp h3).trans ((hl x).mp hx).symm)⟩)
theorem par_new (p : ParI ns st n (ls.take i) lots) (h : ls[i]? = some log) (m : log ∉ lots.flatten) (nd : lot.Nodup) (hl : ∀ x, x ∈ lot ↔ Jn (inL ns st) log x) (h0 : LogF 0 log) (hn : log.length = n) : ParI ns st n (ls.take (i + 1)) (lots ++ [lot]) where
  cls := fun l hl2 => by
    rcases List.mem_append.mp hl2 with h2 | h2
    · exact p.cls l h2
    · rw [List.mem_singleton.mp h2]
      exact ⟨log, h0, hn, nd, hl⟩
  nd := by
    rw [List.flatten_append, List.nodup_append]
    refine ⟨p.nd, by simpa using nd, fun a ha b hb => ?_⟩
    rintro rfl
    have hb2 : a ∈ lot := by simpa using hb
    exact par_apart p m hl a hb2 ha
  all := fun x hx => by
    rw [List.flatten_append]
    rw [List.take_add_one, h] at hx
    rcases List.mem_append.mp hx with hx | hx
    · exact List.mem_append_left _ (p.all x hx)
    · rw [List.mem_singleton.mp hx]
      exact List.mem_append_right _ (by simpa using (hl log).mpr (.refl _))
end
/-! ### sorted by the row turned about -/
def keyR (r : List Int) : Dt := .tup [encI r.reverse, encI r]
theorem toPy_key (r : List Int) : toPy (keyR r) = .tuple [.list (r.reverse.map .int), .list (r.map .int)] := by
  show PyData.tuple [toPy (encI r.reverse), toPy (encI r)] = _
  rw [toPy_encI, toPy_encI]
def leK (a b : List Int) : Bool := leR a.reverse b.reverse
theorem eqv_ints (a b : List Int) : PyData.eqv (.list (a.map .int)) (.list (b.map .int)) = decide (a = b) := by
  have h := eqD_encI a b
  unfold eqD at h
  rw [toPy_encI, toPy_encI] at h
  exact h
theorem alike_intsL (a b : List Int) : PySem.W.alike (.list (a.map .int)) (.list (b.map .int)) = true := by
  rw [PySem.W.alike, PySem.W.alike_ints]
theorem sortOk_keys (ns : List (List Int)) : SortOk (ns.map keyR) := by
  refine ⟨?_, ?_, ?_⟩
  · rw [okDs_eq, List.all_map, List.all_eq_true]
    intro x _
    show (okDs 58 (x.reverse.map .int) && (okDs 58 (x.map .int) && true)) = true
    rw [okDs_ints, okDs_ints]
    rfl
  · rw [List.map_map]
    refine PySem.W.AllAlike.of fun b b' => ?_
    show PySem.W.alike (toPy (keyR b)) (toPy (keyR b')) = true
    rw [toPy_key, toPy_key]
    simp only [PySem.W.alike, PySem.W.alikeAll, PySem.W.alike_ints, Bool.and_true]
  · rw [List.map_map]
    exact PySem.W.Sortable.tuples fun b => ⟨_, _, toPy_key b⟩
theorem sortD_keys (ns : List (List Int)) : sortD (ns.map keyR) = (ns.mergeSort leK).map keyR := by
  unfold sortD
  symm
  refine List.map_mergeSort fun a _ b _ => ?_
  show leK a b = PySem.W.dataLe false toPy (keyR a) (keyR b)
  rw [PySem.W.dataLe_eq]
  show leK a b = !PySem.W.dataLt (toPy (keyR b)) (toPy (keyR a))
  rw [toPy_key, toPy_key, PySem.W.dataLt_pair (alike_intsL _ _) (alike_intsL _ _), eqv_ints, eqv_ints]
  unfold leK leR
  have lt : ∀ x y : List Int, PySem.W.dataLt (.list (x.map .int)) (.list (y.map .int)) = decide (x < y) := fun x y => by
    rw [PySem.W.dataLt_list]
    exact PySem.W.dataLt_ints x y
  rw [lt, lt]
  by_cases e : b = a
  · subst e
    rw [decide_eq_true (List.le_refl b.reverse)]
    simp
  · have e2 : ¬ b.reverse = a.reverse := fun z => e (List.reverse_inj.mp z)
    rw [decide_eq_false e2]
    simp only [Bool.false_eq_true, if_false]
    by_cases h : b.reverse < a.reverse
    · rw [decide_eq_true h, decide_eq_false (fun r => List.not_lt.mpr r h)]
      rfl
    · rw [decide_eq_false h, decide_eq_true (List.not_lt.mp h)]
      rfl
theorem sort_key {lot : List (List Int)} {f : List Int} (hf : f ∈ lot) (hl : ∀ x ∈ lot, f.reverse ≤ x.reverse) : ∃ t, sortD (lot.map keyR) = keyR f :: t := by
  rw [sortD_keys]
  have hs := List.pairwise_mergeSort (le := leK) (fun a b c h1 h2 => leR_trans _ _ _ h1 h2) (fun a b => leR_total _ _) lot
  have hp := List.mergeSort_perm lot leK
  cases e : lot.mergeSort leK with
  | nil =>
    rw [e] at hp
    have := hp.mem_iff.mpr hf
    cases this
  | cons h t =>
    rw [e] at hs hp
    have hh : h ∈ lot := hp.mem_iff.mp List.mem_cons_self
    have h1 : f.reverse ≤ h.reverse := hl h hh
    have h2 : h.reverse ≤ f.reverse := by
      rcases List.mem_cons.mp (hp.mem_iff.mpr hf) with z | z
      · rw [z]; exact List.le_refl _
      · exact of_decide_eq_true ((List.pairwise_cons.mp hs).1 f z)
    have : h = f := List.reverse_inj.mp (List.le_antisymm h2 h1)
    subst this
    exact ⟨t.map keyR, rfl⟩
/-! ### sizes of the logs -/
theorem logs_bd : ∀ i : Nat, i ≤ 6 → (((irange 0 6).take i).foldl logStep [[]]).length ≤ 720 ∧ (((irange 0 6).take i).foldl logStep [[]]).all (fun o => decide (o.length = i)) = true := by decide +kernel
theorem irange_take {size : Int} {i : Nat} (h1 : 0 ≤ size) (h : size ≤ 6) (hi : (i : Int) ≤ size) : (irange 0 size).take i = (irange 0 6).take i := by
  unfold irange
  rw [← List.map_take, ← List.map_take, List.take_range, List.take_range, Nat.min_eq_left (show i ≤ (size - 0).toNat by omega), Nat.min_eq_left (show i ≤ ((6 : Int) - 0).toNat by omega)]
theorem logs_size {size : Int} {i : Nat} (h1 : 0 ≤ size) (h : size ≤ 6) (hi : (i : Int) ≤ size) : (((irange 0 size).take i).foldl logStep [[]]).length ≤ 720 ∧ ∀ o ∈ ((irange 0 size).take i).foldl logStep [[]], o.length = i := by
  rw [irange_take h1 h hi]
  obtain ⟨h1, h2⟩ := logs_bd i (by omega)
  exact ⟨h1, fun o ho => of_decide_eq_true (List.all_eq_true.mp h2 o ho)⟩
theorem logs_sz {fd : List (List Int)} {j : Nat} {place : Int} {g : List Int → Dt} (h : fd.length ≤ 720) (h0 : 0 ≤ place) (hn : place ≤ 5) : ((((irange 0 (place + 1)).take j).flatMap fun item => fd.map fun log => log ++ [item]).map encI).length + (fd.map g).length ≤ sizeLine := by
  have key : ∀ l : List Int, (l.flatMap fun item => fd.map fun log => log ++ [item]).length = l.length * fd.length := fun l => by
    induction l with
    | nil => simp
    | cons a l ih =>
      rw [List.flatMap_cons, List.length_append, ih, List.length_map, List.length_cons, Nat.succ_mul]
      omega
  rw [List.length_map, key, List.length_map, List.length_take, irange_length]
  have h1 : min j (place + 1 - 0).toNat * fd.length ≤ 6 * 720 := Nat.mul_le_mul (by omega) h
  exact Nat.le_trans (show _ ≤ 8000 from by omega) (by decide)
theorem map_log (item : Int) (fd : List (List Int)) : fd.map (fun log => encI (log ++ [item])) = (fd.map fun log => log ++ [item]).map encI := by rw [List.map_map]; rfl
theorem flat_snoc {α β : Type} {g : α → List β} {l : List α} {i : Nat} {a : α} (h : l[i]? = some a) : (l.take (i + 1)).flatMap g = (l.take i).flatMap g ++ g a := by
  rw [List.take_add_one, h, List.flatMap_append]
  simp
theorem at_get {α : Type} {f : α → Dt} {l : List α} {k : Nat} {a : α} (h : l[k]? = some a) : L2.atI (l.map f) (k : Int) = some (f a) := by
  have hl := (List.getElem?_eq_some_iff.mp h).1
  unfold L2.atI L2.ixN
  rw [List.length_map, if_pos (by omega), if_pos (by omega)]
  simp [h]
theorem at_of {α : Type} {f : α → Dt} {l : List α} {v : Int} (h0 : 0 ≤ v) (h1 : v < (l.length : Int)) : ∃ a ∈ l, L2.atI (l.map f) v = some (f a) := by
  have hl : v.toNat < l.length := by omega
  have := at_get (f := f) (List.getElem?_eq_getElem hl)
  rw [Int.toNat_of_nonneg h0] at this
  exact ⟨_, List.getElem_mem hl, this⟩
theorem at0K {x : Dt} {t : List Dt} : L2.atI (x :: t) 0 = some x := by
  unfold L2.atI L2.ixN
  rw [if_pos (Int.le_refl 0), if_pos (by rw [List.length_cons]; omega)]
  rfl
theorem flat_app {α : Type} (L : List (List α)) (l : List α) : (L ++ [l]).flatten = L.flatten ++ l := by
  rw [List.flatten_append, List.flatten_cons, List.flatten_nil, List.append_nil]
theorem nd_take {α : Type} {l : List α} {j : Nat} {o : α} (nd : l.Nodup) (h : l[j]? = some o) : o ∉ l.take j := fun hm => by
  obtain ⟨i, hi⟩ := List.getElem?_of_mem hm
  have hlt := (List.getElem?_eq_some_iff.mp hi).1
  rw [List.length_take] at hlt
  rw [List.getElem?_take, if_pos (by omega)] at hi
  have h1 := (List.getElem?_eq_some_iff.mp hi)
  have h2 := (List.getElem?_eq_some_iff.mp h)
  obtain ⟨q1, e1⟩ := h1
  obtain ⟨q2, e2⟩ := h2
  rw [List.Nodup, List.pairwise_iff_getElem] at nd
  exact nd i j q1 q2 (by omega) (by rw [e1, e2])
theorem put_next {F lot : List (List Int)} {j : Nat} {o : List Int} (h : lot[j]? = some o) (h1 : o ∉ F) (h2 : o ∉ lot.take j) : putM (setM (F ++ lot.take j)) o true = setM (F ++ lot.take (j + 1)) := by
  rw [put_set (by rw [List.mem_append]; exact fun z => z.elim h1 h2), List.take_add_one, h, List.append_assoc]
  rfl
theorem set_sz {l : List (List Int)} (h : l.length ≤ 2000) : (setM l).length < sizeLine := by
  unfold setM
  rw [List.length_map]
  exact Nat.lt_of_le_of_lt h (by decide)
theorem row_sz {l : List (List Int)} (h : l.length ≤ 2000) : (l.map encI).length < sizeLine := by
  rw [List.length_map]
  exact Nat.lt_of_le_of_lt h (by decide)
theorem par_len {ns : List Int} {st : Option Int} {n : Nat} {ls : List (List Int)} {lots : List (List (List Int))} (p : ParI ns st n ls lots) : lots.length ≤ lots.flatten.length := by
  have key : ∀ L : List (List (List Int)), (∀ l ∈ L, 1 ≤ l.length) → L.length ≤ L.flatten.length := fun L => by
    induction L with
    | nil => intro _; exact Nat.le_refl _
    | cons l L ih =>
      intro h
      have h1 := h l List.mem_cons_self
      have h2 := ih fun x hx => h x (List.mem_cons_of_mem _ hx)
      rw [List.flatten_cons, List.length_append, List.length_cons]
      omega
  refine key lots fun l hl => ?_
  obtain ⟨r, _, _, _, hc⟩ := p.cls l hl
  exact List.length_pos_of_mem ((hc r).mpr (.refl _))
section
variable {ns : List Int} {st : Option Int} {n : Nat} {ls : List (List Int)} {lots : List (List (List Int))} {lot : List (List Int)}
theorem par_log (hG : GoodF (inL ns st)) (p : ParI ns st n ls lots) {x : List Int} (h : lot ∈ lots) (hx : x ∈ lot) : LogF 0 x ∧ x.length = n := by
  obtain ⟨r, h0, hn, _, hc⟩ := p.cls lot h
  have hj := (hc x).mp hx
  exact ⟨hj.log hG 0 h0, by rw [← hj.len, hn]⟩
theorem par_flat (hG : GoodF (inL ns st)) (p : ParI ns st n ls lots) : lots.flatten.length ≤ (logsN n).length := nodup_le p.nd fun x hx => by
  obtain ⟨l, h1, h2⟩ := List.mem_flatten.mp hx
  exact (logsN_mem n x).mpr (par_log hG p h1 h2)
end
/-! lots: last items of a class, taken out one by one -/
def hmL (ks : List Int) (st : Option Int) (len size : Int) : Int := bif decide (size < ((RL ks st len.toNat).length : Int)) then iget (RL ks st len.toNat) size else 0
/-- a lot below a number -/
def LotB (G : Int → Bool) (len : Int) (l : List Int) : Prop := (∀ x ∈ l, 0 ≤ x ∧ x < len) ∧ l.Pairwise (fun x y => x < y ∧ G (y - x - 1) = true)
section
variable {G : Int → Bool}
theorem last_two (hG : GoodF G) {row : List Int} {x y : Int} (hx : x ∈ lastsM G row) (hy : y ∈ lastsM G row) (h : x < y) : G (y - x - 1) = true ∧ ∀ r, restM G row y = some r → x ∈ lastsM G r := by
  obtain ⟨r, hr, hj⟩ := rest_last hG hy
  have e := lasts_jn hG hj
  rw [← e, lasts_snoc, lbh_mem] at hx
  rcases hx with q | ⟨q1, q2, q3⟩ | ⟨q1, q2, q3⟩
  · omega
  · exact ⟨q2, fun r2 h2 => by rw [hr] at h2; cases h2; exact q3⟩
  · omega
theorem last_bd (hG : GoodF G) {row : List Int} {x : Int} (hl : LogF 0 row) (hx : x ∈ lastsM G row) : 0 ≤ x ∧ x < (row.length : Int) := by
  obtain ⟨r, hr, hj⟩ := rest_last hG hx
  have h := hj.log hG 0 hl
  obtain ⟨_, h1, h2⟩ := log_snoc.mp h
  have := hj.len
  rw [List.length_append, List.length_cons, List.length_nil] at this
  omega
theorem lasts_lot (hG : GoodF G) {row : List Int} (hl : LogF 0 row) : LotB G row.length (lastsM G row) := by
  refine ⟨fun x hx => last_bd hG hl hx, ?_⟩
  have h := lasts_asc (G := G) row
  refine List.Pairwise.imp_of_mem ?_ h
  intro a b ha hb hab
  exact ⟨hab, (last_two hG ha hb hab).1⟩
def tkO (G : Int → Bool) (row items : List Int) : Option (List Int) := items.foldl (fun o x => o.bind fun r => restM G r x) (some row)
theorem tkO_cons {row r : List Int} {x : Int} {items : List Int} (h : restM G row x = some r) : tkO G row (x :: items) = tkO G r items := by
  unfold tkO
  rw [List.foldl_cons, Option.bind_some, h]
theorem tkO_none (items : List Int) : items.foldl (fun o x => o.bind fun r => restM G r x) none = none := by
  induction items with
  | nil => rfl
  | cons x l ih => rw [List.foldl_cons]; exact ih
theorem tkO_1 {row t : List Int} {x : Int} {items : List Int} (h : tkO G row (x :: items) = some t) : ∃ r, restM G row x = some r ∧ tkO G r items = some t := by
  cases e : restM G row x with
  | none =>
    unfold tkO at h
    rw [List.foldl_cons, Option.bind_some, e, tkO_none] at h
    cases h
  | some r => exact ⟨r, rfl, by rw [tkO_cons e] at h; exact h⟩
theorem tk_ok (hG : GoodF G) : ∀ (n : Nat) (lot row : List Int), lot.length = n → lot.Pairwise (· < ·) → (∀ x ∈ lot, x ∈ lastsM G row) → ∃ t, tkO G row lot.reverse = some t ∧ Jn G row (t ++ lot)
  | 0, lot, row, hn, _, _ => by
    rw [List.eq_nil_of_length_eq_zero hn]
    exact ⟨row, rfl, by rw [List.append_nil]; exact .refl _⟩
  | n + 1, lot, row, hn, hp, hm => by
    rcases snoc_cases lot with rfl | ⟨l, y, rfl⟩
    · cases hn
    · have hy := hm y (by simp)
      obtain ⟨r, hr, hj⟩ := rest_last hG hy
      rw [List.pairwise_append] at hp
      have hlast : ∀ x ∈ l, x ∈ lastsM G r := fun x hx => (last_two hG (hm x (by simp [hx])) hy (hp.2.2 x hx y (by simp))).2 r hr
      obtain ⟨t, h1, h2⟩ := tk_ok hG n l r (by rw [List.length_append] at hn; simpa using hn) hp.1 hlast
      refine ⟨t, ?_, ?_⟩
      · rw [List.reverse_append]
        show tkO G row (y :: l.reverse) = some t
        rw [tkO_cons hr, h1]
      · rw [← List.append_assoc]
        exact hj.trans ((jn_snoc hG).mpr h2)
theorem jn_snocs (hG : GoodF G) {a b : List Int} : ∀ l : List Int, Jn G (a ++ l) (b ++ l) → Jn G a b := by
  intro l
  induction l generalizing a b with
  | nil => intro h; rw [List.append_nil, List.append_nil] at h; exact h
  | cons x l ih =>
    intro h
    rw [show a ++ x :: l = (a ++ [x]) ++ l from by simp, show b ++ x :: l = (b ++ [x]) ++ l from by simp] at h
    exact (jn_snoc hG).mp (ih h)
/-- the least row of a class -/
noncomputable def lstJ (G : Int → Bool) (row : List Int) : List Int := Classical.epsilon fun s => Jn G row s ∧ ∀ x, Jn G row x → s ≤ x
theorem lstJ_eq {row s : List Int} (h1 : Jn G row s) (h2 : ∀ x, Jn G row x → s ≤ x) : lstJ G row = s := by
  have h := Classical.epsilon_spec (p := fun s => Jn G row s ∧ ∀ x, Jn G row x → s ≤ x) ⟨s, h1, h2⟩
  exact List.le_antisymm (h.2 s h1) (h2 _ h.1)
theorem sort_head {row : List Int} {lot : List (List Int)} (hc : ∀ x, x ∈ lot ↔ Jn G row x) : ∃ t, lot.mergeSort leR = lstJ G row :: t := by
  have hs := List.pairwise_mergeSort leR_trans leR_total lot
  have hp := List.mergeSort_perm lot leR
  cases e : lot.mergeSort leR with
  | nil =>
    rw [e] at hp
    have := hp.mem_iff.mpr ((hc row).mpr (.refl _))
    cases this
  | cons h t =>
    rw [e] at hs hp
    have hh : h ∈ lot := hp.mem_iff.mp List.mem_cons_self
    refine ⟨t, ?_⟩
    rw [lstJ_eq ((hc h).mp hh) fun x hx => ?_]
    rcases List.mem_cons.mp (hp.mem_iff.mpr ((hc x).mpr hx)) with z | z
    · rw [z]; exact List.le_refl _
    · exact of_decide_eq_true ((List.pairwise_cons.mp hs).1 x z)
theorem lstJ_jn {ns : List Int} {st : Option Int} {n : Nat} (hG : GoodF (inL ns st)) {row : List Int} (hl : LogF 0 row) (hn : row.length = n) : Jn (inL ns st) row (lstJ (inL ns st) row) := by
  obtain ⟨t, ht⟩ := sort_head (G := inL ns st) (row := row) (lot := (logsN n).filter fun x => jnB (inL ns st) row x) fun x => by
    rw [List.mem_filter, jnB_iff hG, logsN_mem]
    exact ⟨fun h => h.2, fun h => ⟨⟨h.log hG 0 hl, by rw [← h.len, hn]⟩, h⟩⟩
  have hp := List.mergeSort_perm ((logsN n).filter fun x => jnB (inL ns st) row x) leR
  rw [ht] at hp
  have := hp.mem_iff.mp List.mem_cons_self
  exact (jnB_iff hG).mp (List.mem_filter.mp this).2
end
/-! ### all lots below a number, as the law lists them -/
def lotOk (ns : List Int) (st : Option Int) (item : Int) (lot : List Int) : Bool := decide (lot.filter (fun low => !inL ns st (item - low - 1)) = [])
def lotsS (ns : List Int) (st : Option Int) (fd : List (List Int)) (item : Int) : List (List Int) := fd ++ (fd.filter (lotOk ns st item)).map (· ++ [item])
def lotsT (ns : List Int) (st : Option Int) (len : Int) : List (List Int) := (irange 0 len).foldl (lotsS ns st) [[]]
theorem lots_bd {ns : List Int} {st : Option Int} {f : List Int → Bool} : ∀ (l : List Int) (fd : List (List Int)) (n a : Nat), fd.length ≤ n → (∀ o ∈ fd, o.length ≤ a) → (l.foldl (lotsS ns st) fd).length ≤ n * 2 ^ l.length ∧ ∀ o ∈ l.foldl (lotsS ns st) fd, o.length ≤ a + l.length
  | [], fd, n, a, h, k => ⟨by simpa using h, fun o ho => by have := k o ho; simpa using this⟩
  | x :: l, fd, n, a, h, k => by
    have h1 : (lotsS ns st fd x).length ≤ n * 2 := by
      unfold lotsS
      rw [List.length_append, List.length_map]
      have := List.length_filter_le (lotOk ns st x) fd
      omega
    have h2 : ∀ o ∈ lotsS ns st fd x, o.length ≤ a + 1 := fun o ho => by
      unfold lotsS at ho
      rcases List.mem_append.mp ho with ho | ho
      · have := k o ho; omega
      · obtain ⟨p, hp, rfl⟩ := List.mem_map.mp ho
        have := k p (List.mem_filter.mp hp).1
        rw [List.length_append]
        simpa using this
    obtain ⟨e1, e2⟩ := lots_bd (f := f) l _ (n * 2) (a + 1) h1 h2
    rw [List.foldl_cons, List.length_cons]
    exact ⟨by rw [Nat.pow_succ]; rw [Nat.mul_assoc, Nat.mul_comm 2] at e1; exact e1, fun o ho => by have := e2 o ho; omega⟩
theorem lotT_bd {ns : List Int} {st : Option Int} {len : Int} {i : Nat} (h : len ≤ 6) : (((irange 0 len).take i).foldl (lotsS ns st) [[]]).length ≤ 64 ∧ ∀ o ∈ ((irange 0 len).take i).foldl (lotsS ns st) [[]], o.length ≤ 6 := by
  obtain ⟨h1, h2⟩ := lots_bd (ns := ns) (st := st) (f := fun _ => true) ((irange 0 len).take i) [[]] 1 0 (Nat.le_refl _) (fun o ho => by rw [List.mem_singleton.mp ho]; exact Nat.le_refl _)
  have hl : ((irange 0 len).take i).length ≤ 6 := by rw [List.length_take, irange_length]; omega
  have : 2 ^ ((irange 0 len).take i).length ≤ 2 ^ 6 := Nat.pow_le_pow_right (by decide) hl
  exact ⟨by omega, fun o ho => by have := h2 o ho; omega⟩
theorem lots_enc (ns : List Int) (st : Option Int) (fd : List (List Int)) (item : Int) : fd.map encI ++ (fd.filter (lotOk ns st item)).map (fun lot => encI (lot ++ [item])) = (lotsS ns st fd item).map encI := by
  unfold lotsS
  rw [List.map_append, List.map_map]
  rfl
theorem lot_flt {l : List Int} {len : Int} (h : ∀ x ∈ l, 0 ≤ x ∧ x < len) : l.filter (fun n => !isBetO n 0 (some (len - 1))) = [] := by
  rw [List.filter_eq_nil_iff]
  intro x hx
  have := h x hx
  show ¬ (!(decide (0 ≤ x) && decide (x ≤ len - 1))) = true
  rw [decide_eq_true this.1, decide_eq_true (show x ≤ len - 1 by omega)]
  decide
theorem lot_pre {G : Int → Bool} {l : List Int} {k : Int} (h0 : 0 ≤ k) (h1 : k < (l.length : Int)) (hp : l.Pairwise (fun x y => x < y ∧ G (y - x - 1) = true)) : (l.take k.toNat).filter (fun low => decide (iget l k ≤ low) || !G (iget l k - low - 1)) = [] := by
  rw [List.filter_eq_nil_iff]
  intro x hx
  obtain ⟨i, hi⟩ := List.getElem?_of_mem hx
  have hlt := (List.getElem?_eq_some_iff.mp hi).1
  rw [List.length_take] at hlt
  rw [List.getElem?_take, if_pos (by omega)] at hi
  obtain ⟨q1, q2⟩ := List.getElem?_eq_some_iff.mp hi
  have hk : k.toNat < l.length := by omega
  have e : iget l k = l[k.toNat] := by
    unfold iget
    rw [List.getD_eq_getElem?_getD, List.getElem?_eq_getElem hk]
    rfl
  obtain ⟨p1, p2⟩ := (List.pairwise_iff_getElem.mp hp) i k.toNat q1 hk (by omega)
  rw [q2] at p1 p2
  rw [e, p2, decide_eq_false (by omega)]
  decide
theorem sorted_at {G : Int → Bool} {row : List Int} {lot : List (List Int)} (hc : ∀ x, x ∈ lot ↔ Jn G row x) : L2.atI (sortD (lot.map encI)) 0 = some (encI (lstJ G row)) := by
  rw [sortD_rows]
  obtain ⟨t, ht⟩ := sort_head hc
  rw [ht]
  exact at0K
theorem at_i {α : Type} {f : α → Dt} {l : List α} {v : Int} {a : α} (h0 : 0 ≤ v) (h : l[v.toNat]? = some a) : L2.atI (l.map f) v = some (f a) := by
  have := at_get (f := f) h
  rwa [Int.toNat_of_nonneg h0] at this
theorem head_at {A t : List (List Int)} (h : A = A.headD [] :: t) : L2.atI (A.map encI) 0 = some (encI (A.headD [])) := by
  rw [h]
  exact at0K
theorem cut_loR {α : Type} {f : α → Dt} {l : List α} {n : Int} (h : 0 ≤ n) : cutD (l.map f) (some n) none = (l.drop n.toNat).map f := by
  obtain ⟨k, rfl⟩ := Int.eq_ofNat_of_zero_le h
  unfold cutD
  rw [HT.sIx_none, HT.sIx_nat, Int.toNat_natCast, List.length_map, List.map_drop]
  by_cases c : k ≤ l.length
  · rw [Nat.min_eq_left c, List.take_of_length_le (by rw [List.length_drop, List.length_map]; exact Nat.le_refl _)]
  · rw [Nat.min_eq_right (by omega), Nat.sub_self, List.take_zero, List.drop_eq_nil_of_le (by rw [List.length_map]; omega)]
theorem cut_hiR {α : Type} {f : α → Dt} {l : List α} {n : Int} (h : 0 ≤ n) : cutD (l.map f) none (some n) = (l.take n.toNat).map f := by
  obtain ⟨k, rfl⟩ := Int.eq_ofNat_of_zero_le h
  unfold cutD
  rw [HT.sIx_none, show ((k : Nat) : Int) = (k : Int) from rfl, HT.sIx_nat, List.drop_zero, Nat.sub_zero, Int.toNat_natCast, List.length_map, List.map_take]
  by_cases c : k ≤ l.length
  · rw [Nat.min_eq_left c]
  · rw [Nat.min_eq_right (by omega), List.take_of_length_le (by rw [List.length_map]; exact Nat.le_refl _), List.take_of_length_le (by rw [List.length_map]; omega)]
/-! common beginnings of rows: fronts, heads, the greatest one -/
section
variable {G : Int → Bool}
def exF (G : Int → Bool) (f i : Int) : Option Int := if (decide (f < i) && G (i - f - 1)) = true then some (i - 1) else if (decide (i < f) && G (f - i)) = true then some i else none
def toF (G : Int → Bool) (row : List Int) (n : Nat) : Option Int := (row.take n).reverse.foldl (fun o f => o.bind (exF G f)) row[n]?
theorem toF_succ (a : Int) (w : List Int) (n : Nat) : toF G (a :: w) (n + 1) = (toF G w n).bind (exF G a) := by
  unfold toF
  rw [List.take_succ_cons, List.reverse_cons, List.foldl_append, List.getElem?_cons_succ]
  rfl
def frU (G : Int → Bool) (row : List Int) : List Int := (List.range row.length).filterMap (toF G row)
theorem frU_mem {row : List Int} {x : Int} : x ∈ frU G row ↔ ∃ n, n < row.length ∧ toF G row n = some x := by
  unfold frU
  rw [List.mem_filterMap]
  exact ⟨fun ⟨n, h1, h2⟩ => ⟨n, List.mem_range.mp h1, h2⟩, fun ⟨n, h1, h2⟩ => ⟨n, List.mem_range.mpr h1, h2⟩⟩
theorem frU_cons {a : Int} {w : List Int} {x : Int} : x ∈ frU G (a :: w) ↔ x = a ∨ ∃ i ∈ frU G w, exF G a i = some x := by
  rw [frU_mem]
  constructor
  · rintro ⟨n, h1, h2⟩
    cases n with
    | zero => exact .inl (Option.some.inj h2).symm
    | succ n =>
      rw [toF_succ] at h2
      obtain ⟨i, h3, h4⟩ := Option.bind_eq_some_iff.mp h2
      exact .inr ⟨i, frU_mem.mpr ⟨n, by simpa using h1, h3⟩, h4⟩
  · rintro (rfl | ⟨i, h1, h2⟩)
    · exact ⟨0, by simp, rfl⟩
    · obtain ⟨n, h3, h4⟩ := frU_mem.mp h1
      exact ⟨n + 1, by simpa using h3, by rw [toF_succ, h4]; exact h2⟩
theorem exF_iff {a i x : Int} : exF G a i = some x ↔ (a < i ∧ G (i - a - 1) = true ∧ x = i - 1) ∨ (i < a ∧ G (a - i) = true ∧ x = i) := by
  unfold exF
  by_cases c : (decide (a < i) && G (i - a - 1)) = true
  · rw [if_pos c]
    rw [Bool.and_eq_true, decide_eq_true_eq] at c
    constructor
    · intro h
      exact .inl ⟨c.1, c.2, (Option.some.inj h).symm⟩
    · rintro (⟨_, _, h⟩ | ⟨h, _⟩)
      · rw [h]
      · omega
  · rw [if_neg c]
    by_cases d : (decide (i < a) && G (a - i)) = true
    · rw [if_pos d]
      rw [Bool.and_eq_true, decide_eq_true_eq] at d
      constructor
      · intro h
        exact .inr ⟨d.1, d.2, (Option.some.inj h).symm⟩
      · rintro (⟨h, _⟩ | ⟨_, _, h⟩)
        · omega
        · rw [h]
    · rw [if_neg d]
      constructor
      · intro h; cases h
      · rintro (⟨h1, h2, _⟩ | ⟨h1, h2, _⟩)
        · exact (c (by rw [h2, decide_eq_true h1]; rfl)).elim
        · exact (d (by rw [h2, decide_eq_true h1]; rfl)).elim
theorem fr_iff (hG : GoodF G) : ∀ (row : List Int) (x : Int), x ∈ frU G row ↔ (lft G x row).isSome = true
  | [], x => by simp [frU, lft]
  | a :: w, x => by
    rw [frU_cons]
    rcases Int.lt_trichotomy a x with c | c | c
    · cases g : G (x - a) with
      | true =>
        rw [lft_lo c g, Option.isSome_map, ← fr_iff hG w (x + 1)]
        constructor
        · rintro (h | ⟨i, h1, h2⟩)
          · omega
          · rcases exF_iff.mp h2 with ⟨_, _, h3⟩ | ⟨_, _, h3⟩
            · rw [show x + 1 = i from by omega]; exact h1
            · omega
        · intro h
          exact .inr ⟨x + 1, h, exF_iff.mpr (.inl ⟨by omega, by rw [show x + 1 - a - 1 = x - a from by omega]; exact g, by omega⟩)⟩
      | false =>
        rw [lft_lo_n c g]
        constructor
        · rintro (h | ⟨i, h1, h2⟩)
          · omega
          · rcases exF_iff.mp h2 with ⟨_, h4, h3⟩ | ⟨_, _, h3⟩
            · rw [show i - a - 1 = x - a from by omega, g] at h4; cases h4
            · omega
        · intro h; cases h
    · rw [lft_eq c]
      exact ⟨fun _ => rfl, fun _ => .inl c.symm⟩
    · cases g : G (a - x) with
      | true =>
        rw [lft_hi c g, Option.isSome_map, ← fr_iff hG w x]
        constructor
        · rintro (h | ⟨i, h1, h2⟩)
          · omega
          · rcases exF_iff.mp h2 with ⟨_, _, h3⟩ | ⟨_, _, h3⟩
            · omega
            · rw [h3]; exact h1
        · intro h
          exact .inr ⟨x, h, exF_iff.mpr (.inr ⟨c, g, rfl⟩)⟩
      | false =>
        rw [lft_hi_n c g]
        constructor
        · rintro (h | ⟨i, h1, h2⟩)
          · omega
          · rcases exF_iff.mp h2 with ⟨_, _, h3⟩ | ⟨_, h4, h3⟩
            · omega
            · rw [show a - i = a - x from by omega, g] at h4; cases h4
        · intro h; cases h
def frM (G : Int → Bool) (row : List Int) : List Int := sortI (frU G row)
theorem frM_mem (hG : GoodF G) {row : List Int} {x : Int} : x ∈ frM G row ↔ (lft G x row).isSome = true := by rw [← fr_iff hG row x]; exact (sortI_perm _).mem_iff
theorem frM_asc (row : List Int) : (frM G row).Pairwise (· ≤ ·) := (sortI_sorted _).imp fun h => of_decide_eq_true h
theorem frM_len (row : List Int) : (frM G row).length ≤ row.length := by
  unfold frM frU
  rw [(sortI_perm _).length_eq]
  exact Nat.le_trans (List.length_filterMap_le _ _) (by rw [List.length_range]; exact Nat.le_refl _)
def comF (G : Int → Bool) (l r : List Int) : List Int := (frM G l).filter fun x => decide (x ∈ frM G r)
theorem com_mem (hG : GoodF G) {l r : List Int} {x : Int} : x ∈ comF G l r ↔ (lft G x l).isSome = true ∧ (lft G x r).isSome = true := by
  unfold comF
  rw [List.mem_filter, decide_eq_true_eq, frM_mem hG, frM_mem hG]
theorem asc_head {l t : List Int} {x : Int} (h : l.Pairwise (· ≤ ·)) (e : l = x :: t) : ∀ y ∈ l, x ≤ y := fun y hy => by
  subst e
  rcases List.mem_cons.mp hy with rfl | q
  · exact Int.le_refl _
  · exact (List.pairwise_cons.mp h).1 y q
theorem com_head {l r t : List Int} {x : Int} (e : comF G l r = x :: t) : ∀ y ∈ comF G l r, x ≤ y := asc_head ((frM_asc l).filter _) e
theorem com_swap (hG : GoodF G) {l r t : List Int} {x : Int} (e : comF G l r = x :: t) : ∃ t', comF G r l = x :: t' := by
  have hx : x ∈ comF G r l := (com_mem hG).mpr (And.symm ((com_mem hG).mp (by rw [e]; exact List.mem_cons_self)))
  cases f : comF G r l with
  | nil => rw [f] at hx; cases hx
  | cons y t' =>
    have h1 := com_head f x hx
    have h2 := com_head e y ((com_mem hG).mpr (And.symm ((com_mem hG).mp (by rw [f]; exact List.mem_cons_self))))
    rw [show x = y from by omega]
    exact ⟨t', rfl⟩
theorem com_swap0 (hG : GoodF G) {l r : List Int} (e : comF G l r = []) : comF G r l = [] := List.eq_nil_iff_forall_not_mem.mpr fun x hx => by
  have : x ∈ comF G l r := (com_mem hG).mpr (And.symm ((com_mem hG).mp hx))
  rw [e] at this
  cases this
/-- the greatest common beginning, and what is left of both -/
def grN (G : Int → Bool) : Nat → List Int → List Int → List Int × List Int × List Int
  | 0, l, r => ([], l, r)
  | n + 1, l, r => match comF G l r with
    | [] => ([], l, r)
    | x :: _ => match lft G x l, lft G x r with
      | some a, some b => (x :: (grN G n a b).1, (grN G n a b).2)
      | _, _ => ([], l, r)
theorem grN_nil {n : Nat} {l r : List Int} (e : comF G l r = []) : grN G n l r = ([], l, r) := by
  cases n with
  | zero => rfl
  | succ n => rw [grN, e]
theorem grN_cons {n : Nat} {l r t a b : List Int} {x : Int} (e : comF G l r = x :: t) (h1 : lft G x l = some a) (h2 : lft G x r = some b) : grN G (n + 1) l r = (x :: (grN G n a b).1, (grN G n a b).2) := by
  rw [grN, e]
  simp only [h1, h2]
theorem com_parts (hG : GoodF G) {l r t : List Int} {x : Int} (e : comF G l r = x :: t) : ∃ a b, lft G x l = some a ∧ lft G x r = some b ∧ l.length = a.length + 1 ∧ r.length = b.length + 1 := by
  obtain ⟨h1, h2⟩ := (com_mem hG).mp (show x ∈ comF G l r by rw [e]; exact List.mem_cons_self)
  obtain ⟨a, ha⟩ := Option.isSome_iff_exists.mp h1
  obtain ⟨b, hb⟩ := Option.isSome_iff_exists.mp h2
  exact ⟨a, b, ha, hb, lft_len hG ha, lft_len hG hb⟩
/-- h begins a row joined to row -/
def Hd (G : Int → Bool) (h row : List Int) : Prop := ∃ t, Jn G row (h ++ t)
theorem hd_nil (row : List Int) : Hd G [] row := ⟨row, .refl _⟩
theorem lft_some_jn (hG : GoodF G) {l m a : List Int} {x : Int} (h : Jn G l m) (e : lft G x m = some a) : ∃ b, lft G x l = some b ∧ Jn G b a := by
  have q := lft_of_jn hG h x
  rw [e] at q
  cases f : lft G x l with
  | none => rw [f] at q; exact q.elim
  | some b => rw [f] at q; exact ⟨b, rfl, q⟩
theorem hd_front (hG : GoodF G) {h row : List Int} {a : Int} (k : Hd G (a :: h) row) : ∃ l, lft G a row = some l ∧ Hd G h l := by
  obtain ⟨t, k⟩ := k
  obtain ⟨b, h1, h2⟩ := lft_some_jn hG k (show lft G a (a :: (h ++ t)) = some (h ++ t) from lft_eq rfl)
  exact ⟨b, h1, t, h2⟩
theorem hd_cons (hG : GoodF G) {h row l : List Int} {a : Int} (e : lft G a row = some l) (k : Hd G h l) : Hd G (a :: h) row := by
  obtain ⟨t, k⟩ := k
  exact ⟨t, (lft_jn hG _ _ _ e).trans (k.cons a)⟩
theorem hd_jn {h h2 row : List Int} (j : Jn G h h2) (k : Hd G h row) : Hd G h2 row := by
  obtain ⟨t, k⟩ := k
  exact ⟨t, k.trans (j.app t)⟩
theorem hd_row {h row row2 : List Int} (j : Jn G row row2) (k : Hd G h row) : Hd G h row2 := by
  obtain ⟨t, k⟩ := k
  exact ⟨t, j.symm.trans k⟩
theorem hd_app {h t row : List Int} (k : Hd G (h ++ t) row) : Hd G h row := by
  obtain ⟨u, k⟩ := k
  exact ⟨t ++ u, by rw [← List.append_assoc]; exact k⟩
theorem hd_len {h row : List Int} (k : Hd G h row) : h.length ≤ row.length := by
  obtain ⟨t, k⟩ := k
  rw [k.len, List.length_append]
  omega
theorem hd_trans {h f row : List Int} (k : Hd G h f) (k2 : Hd G f row) : Hd G h row := by
  obtain ⟨t, k⟩ := k
  obtain ⟨u, k2⟩ := k2
  exact ⟨t ++ u, by rw [← List.append_assoc]; exact k2.trans (k.app u)⟩
theorem lby_iff (hG : GoodF G) : ∀ {h row : List Int}, (lby G row h).isSome = true ↔ Hd G h row
  | [], row => ⟨fun _ => hd_nil row, fun _ => rfl⟩
  | a :: h, row => by
    rw [lby_cons]
    cases e : lft G a row with
    | none =>
      refine ⟨fun h => (by cases h), fun k => ?_⟩
      obtain ⟨l, h1, _⟩ := hd_front hG k
      rw [e] at h1
      cases h1
    | some l =>
      show (lby G l h).isSome = true ↔ _
      rw [lby_iff hG]
      refine ⟨fun k => hd_cons hG e k, fun k => ?_⟩
      obtain ⟨l', h1, h2⟩ := hd_front hG k
      rw [e] at h1
      cases h1
      exact h2
theorem two_lo (hG : GoodF G) {row l : List Int} {f a : Int} (hf : (lft G f row).isSome = true) (ha : lft G a row = some l) (c : f < a) : G (a - f) = true ∧ (lft G f l).isSome = true := by
  obtain ⟨b, hb⟩ := Option.isSome_iff_exists.mp hf
  obtain ⟨b', h1, _⟩ := lft_some_jn hG (lft_jn hG _ _ _ ha).symm hb
  cases g : G (a - f) with
  | false => rw [lft_hi_n c g] at h1; cases h1
  | true =>
    rw [lft_hi c g] at h1
    obtain ⟨z, hz, _⟩ := Option.map_eq_some_iff.mp h1
    exact ⟨rfl, by rw [hz]; rfl⟩
theorem two_hi (hG : GoodF G) {row l : List Int} {f a : Int} (hf : (lft G f row).isSome = true) (ha : lft G a row = some l) (c : a < f) : G (f - a) = true ∧ (lft G (f + 1) l).isSome = true := by
  obtain ⟨b, hb⟩ := Option.isSome_iff_exists.mp hf
  obtain ⟨b', h1, _⟩ := lft_some_jn hG (lft_jn hG _ _ _ ha).symm hb
  cases g : G (f - a) with
  | false => rw [lft_lo_n c g] at h1; cases h1
  | true =>
    rw [lft_lo c g] at h1
    obtain ⟨z, hz, _⟩ := Option.map_eq_some_iff.mp h1
    exact ⟨rfl, by rw [hz]; rfl⟩
/-- a front that is none of h's passes h -/
theorem pass (hG : GoodF G) : ∀ (h : List Int) (f : Int) (row : List Int), (lft G f row).isSome = true → Hd G h row → lft G f h = none →
    ∃ hh ff, Jn G (f :: hh) (h ++ [ff]) ∧ ∀ r, (lft G f r).isSome = true → Hd G h r → Hd G (f :: hh) r
  | [], f, row, _, _, _ => ⟨[], f, .refl _, fun r hr _ => by
    obtain ⟨l, hl⟩ := Option.isSome_iff_exists.mp hr
    exact ⟨l, lft_jn hG _ _ _ hl⟩⟩
  | a :: h, f, row, hf, hh, hn => by
    obtain ⟨l, ha, hl⟩ := hd_front hG hh
    rcases Int.lt_trichotomy f a with c | c | c
    · obtain ⟨g, h1⟩ := two_lo hG hf ha c
      rw [lft_hi c g] at hn
      obtain ⟨h2, ff, j, k⟩ := pass hG h f l h1 hl (by
        cases e : lft G f h with
        | none => rfl
        | some z => rw [e] at hn; cases hn)
      have d : Jn G (f :: (a + 1) :: h2) (a :: f :: h2) := (Deed.to g (by omega) (by omega)).jn
      refine ⟨(a + 1) :: h2, ff, d.trans (j.cons a), fun r hr hh => ?_⟩
      obtain ⟨l2, ha2, hl2⟩ := hd_front hG hh
      exact hd_jn d.symm (hd_cons hG ha2 (k l2 (two_lo hG hr ha2 c).2 hl2))
    · rw [lft_eq c.symm] at hn
      cases hn
    · obtain ⟨g, h1⟩ := two_hi hG hf ha c
      rw [lft_lo c g] at hn
      obtain ⟨h2, ff, j, k⟩ := pass hG h (f + 1) l h1 hl (by
        cases e : lft G (f + 1) h with
        | none => rfl
        | some z => rw [e] at hn; cases hn)
      have d : Jn G (f :: a :: h2) (a :: (f + 1) :: h2) := (Deed.fro g (by omega) (by omega)).jn
      refine ⟨a :: h2, ff, d.trans (j.cons a), fun r hr hh => ?_⟩
      obtain ⟨l2, ha2, hl2⟩ := hd_front hG hh
      exact hd_jn d.symm (hd_cons hG ha2 (k l2 (two_hi hG hr ha2 c).2 hl2))
theorem gr_all (hG : GoodF G) : ∀ (n : Nat) (l r h : List Int), l.length ≤ n → Hd G h l → Hd G h r → Hd G h (grN G n l r).1
  | 0, l, r, h, hn, hl, _ => by
    have := hd_len hl
    rw [List.eq_nil_of_length_eq_zero (by omega : h.length = 0)]
    exact hd_nil _
  | n + 1, l, r, h, hn, hl, hr => by
    cases e : comF G l r with
    | nil =>
      cases h with
      | nil => exact hd_nil _
      | cons a h =>
        obtain ⟨l1, h1, _⟩ := hd_front hG hl
        obtain ⟨l2, h2, _⟩ := hd_front hG hr
        have : a ∈ comF G l r := (com_mem hG).mpr ⟨by rw [h1]; rfl, by rw [h2]; rfl⟩
        rw [e] at this
        cases this
    | cons x t =>
      obtain ⟨a, b, ha, hb, la, lb⟩ := com_parts hG e
      rw [grN_cons e ha hb]
      have cut : ∀ {h2 : List Int}, Hd G (x :: h2) l → Hd G (x :: h2) r → Hd G (x :: h2) (x :: (grN G n a b).1) := fun {h2} k1 k2 => by
        obtain ⟨a', h1, k1⟩ := hd_front hG k1
        obtain ⟨b', h2, k2⟩ := hd_front hG k2
        rw [ha] at h1
        rw [hb] at h2
        cases h1
        cases h2
        exact hd_cons hG (lft_eq rfl) (gr_all hG n a b _ (by omega) k1 k2)
      cases f : lft G x h with
      | some h2 =>
        have j := lft_jn hG _ _ _ f
        exact hd_jn j.symm (cut (hd_jn j hl) (hd_jn j hr))
      | none =>
        obtain ⟨hh, ff, j, k⟩ := pass hG h x l (by rw [ha]; rfl) hl f
        exact hd_app (hd_jn j (cut (k l (by rw [ha]; rfl) hl) (k r (by rw [hb]; rfl) hr)))
theorem gr_div (hG : GoodF G) : ∀ (n : Nat) (l r : List Int), lby G l (grN G n l r).1 = some (grN G n l r).2.1 ∧ lby G r (grN G n l r).1 = some (grN G n l r).2.2
  | 0, l, r => ⟨rfl, rfl⟩
  | n + 1, l, r => by
    cases e : comF G l r with
    | nil => rw [grN_nil e]; exact ⟨rfl, rfl⟩
    | cons x t =>
      obtain ⟨a, b, ha, hb, la, lb⟩ := com_parts hG e
      rw [grN_cons e ha hb]
      obtain ⟨h1, h2⟩ := gr_div hG n a b
      rw [lby_cons, lby_cons, ha, hb]
      exact ⟨h1, h2⟩
theorem gr_end (hG : GoodF G) : ∀ (n : Nat) (l r : List Int), l.length ≤ n → comF G (grN G n l r).2.1 (grN G n l r).2.2 = []
  | 0, l, r, hn => by
    rw [List.eq_nil_of_length_eq_zero (by omega : l.length = 0)]
    rfl
  | n + 1, l, r, hn => by
    cases e : comF G l r with
    | nil => rw [grN_nil e]; exact e
    | cons x t =>
      obtain ⟨a, b, ha, hb, la, lb⟩ := com_parts hG e
      rw [grN_cons e ha hb]
      exact gr_end hG n a b (by omega)
theorem gr_len (hG : GoodF G) : ∀ (n : Nat) (l r : List Int), (grN G n l r).1.length + (grN G n l r).2.1.length = l.length ∧ (grN G n l r).1.length + (grN G n l r).2.2.length = r.length
  | 0, l, r => ⟨by simp [grN], by simp [grN]⟩
  | n + 1, l, r => by
    cases e : comF G l r with
    | nil => rw [grN_nil e]; exact ⟨by simp, by simp⟩
    | cons x t =>
      obtain ⟨a, b, ha, hb, la, lb⟩ := com_parts hG e
      rw [grN_cons e ha hb]
      obtain ⟨h1, h2⟩ := gr_len hG n a b
      exact ⟨by show (x :: (grN G n a b).1).length + (grN G n a b).2.1.length = _; rw [List.length_cons]; omega, by show (x :: (grN G n a b).1).length + (grN G n a b).2.2.length = _; rw [List.length_cons]; omega⟩
theorem gr_swap (hG : GoodF G) : ∀ (n : Nat) (l r : List Int), grN G n r l = ((grN G n l r).1, (grN G n l r).2.2, (grN G n l r).2.1)
  | 0, l, r => rfl
  | n + 1, l, r => by
    cases e : comF G l r with
    | nil => rw [grN_nil e, grN_nil (com_swap0 hG e)]
    | cons x t =>
      obtain ⟨a, b, ha, hb, la, lb⟩ := com_parts hG e
      obtain ⟨t', e'⟩ := com_swap hG e
      rw [grN_cons e ha hb, grN_cons e' hb ha, gr_swap hG n a b]
/-- the first row of a class -/
def fsN (G : Int → Bool) : Nat → List Int → List Int
  | 0, _ => []
  | n + 1, l => match frM G l with
    | [] => []
    | x :: _ => match lft G x l with
      | some m => x :: fsN G n m
      | none => []
def fsM (G : Int → Bool) (l : List Int) : List Int := fsN G l.length l
theorem fr_cons (hG : GoodF G) {l : List Int} (h : ¬ l = []) : ∃ x t m, frM G l = x :: t ∧ lft G x l = some m ∧ l.length = m.length + 1 := by
  cases l with
  | nil => exact (h rfl).elim
  | cons a w =>
    have ha : a ∈ frM G (a :: w) := (frM_mem hG).mpr (by rw [lft_eq rfl]; rfl)
    cases e : frM G (a :: w) with
    | nil => rw [e] at ha; cases ha
    | cons x t =>
      obtain ⟨m, hm⟩ := Option.isSome_iff_exists.mp ((frM_mem hG).mp (show x ∈ frM G (a :: w) by rw [e]; exact List.mem_cons_self))
      exact ⟨x, t, m, rfl, hm, lft_len hG hm⟩
theorem fsN_cons {n : Nat} {l t m : List Int} {x : Int} (e : frM G l = x :: t) (h : lft G x l = some m) : fsN G (n + 1) l = x :: fsN G n m := by
  rw [fsN, e]
  simp only [h]
theorem fs_step {l t m : List Int} {x : Int} (e : frM G l = x :: t) (h : lft G x l = some m) (hl : l.length = m.length + 1) : fsM G l = x :: fsM G m := by
  rw [fsM, hl]
  exact fsN_cons e h
theorem fs_jn (hG : GoodF G) : ∀ (n : Nat) (l : List Int), l.length = n → Jn G l (fsM G l)
  | 0, l, hn => by
    rw [List.eq_nil_of_length_eq_zero hn]
    exact .refl _
  | n + 1, l, hn => by
    obtain ⟨x, t, m, e, h, hl⟩ := fr_cons hG (l := l) (by rintro rfl; cases hn)
    rw [fs_step e h hl]
    exact (lft_jn hG _ _ _ h).trans ((fs_jn hG n m (by omega)).cons x)
theorem fs_le (hG : GoodF G) : ∀ (n : Nat) (l s : List Int), l.length = n → Jn G l s → fsM G l ≤ s
  | 0, l, s, hn, _ => by
    rw [List.eq_nil_of_length_eq_zero hn]
    exact List.nil_le s
  | n + 1, l, s, hn, hj => by
    obtain ⟨x, t, m, e, h, hl⟩ := fr_cons hG (l := l) (by rintro rfl; cases hn)
    rw [fs_step e h hl]
    cases s with
    | nil => have := hj.len; rw [hn] at this; cases this
    | cons y s =>
      obtain ⟨b, h1, h2⟩ := lft_some_jn hG hj (show lft G y (y :: s) = some s from lft_eq rfl)
      have hx : x ≤ y := asc_head (frM_asc l) e y ((frM_mem hG).mpr (by rw [h1]; rfl))
      rcases Int.lt_or_eq_of_le hx with q | q
      · exact List.cons_le_cons_iff.mpr (.inl q)
      · subst q
        rw [h] at h1
        cases h1
        exact List.cons_le_cons_iff.mpr (.inr ⟨rfl, fs_le hG n m s (by omega) h2⟩)
theorem gr_first (hG : GoodF G) : ∀ (n : Nat) (l r : List Int), fsM G (grN G n l r).1 = (grN G n l r).1
  | 0, l, r => rfl
  | n + 1, l, r => by
    cases e : comF G l r with
    | nil => rw [grN_nil e]; rfl
    | cons x t =>
      obtain ⟨a, b, ha, hb, la, lb⟩ := com_parts hG e
      obtain ⟨d1, d2⟩ := gr_div hG (n + 1) l r
      have k1 := (lby_iff hG).mp (show (lby G l (grN G (n + 1) l r).1).isSome = true by rw [d1]; rfl)
      have k2 := (lby_iff hG).mp (show (lby G r (grN G (n + 1) l r).1).isSome = true by rw [d2]; rfl)
      rw [grN_cons e ha hb] at k1 k2 ⊢
      obtain ⟨y, u, m, e2, h2, hl⟩ := fr_cons hG (l := x :: (grN G n a b).1) (fun z => by cases z)
      have hyx : y ≤ x := asc_head (frM_asc _) e2 x ((frM_mem hG).mpr (by rw [lft_eq rfl]; rfl))
      have hy : Hd G [y] (x :: (grN G n a b).1) := ⟨m, lft_jn hG _ _ _ h2⟩
      obtain ⟨c1, w1, _⟩ := hd_front hG (hd_trans hy k1)
      obtain ⟨c2, w2, _⟩ := hd_front hG (hd_trans hy k2)
      have hxy := com_head e y ((com_mem hG).mpr ⟨by rw [w1]; rfl, by rw [w2]; rfl⟩)
      obtain rfl : y = x := by omega
      rw [lft_eq rfl] at h2
      cases h2
      rw [fs_step e2 (lft_eq rfl) hl, gr_first hG n a b]
theorem com_self (hG : GoodF G) (l : List Int) : comF G l l = frM G l := List.filter_eq_self.mpr fun x hx => decide_eq_true hx
theorem gr_self (hG : GoodF G) : ∀ (n : Nat) (l : List Int), l.length ≤ n → grN G n l l = (fsM G l, [], [])
  | n, [], _ => by rw [grN_nil (by rw [com_self hG]; rfl)]; rfl
  | 0, a :: l, hn => by cases hn
  | n + 1, a :: l, hn => by
    obtain ⟨x, t, m, e, h, hl⟩ := fr_cons hG (l := a :: l) (fun z => by cases z)
    rw [grN_cons (by rw [com_self hG]; exact e) h h, gr_self hG n m (by simp at hn hl; omega), fs_step e h hl]
theorem gr_none (n : Nat) (l : List Int) : grN G n l [] = ([], l, []) := grN_nil (by
  unfold comF
  exact List.filter_eq_nil_iff.mpr fun x _ => by simp [frM, frU, sortI])
end
/-! k65: mirrors of the program and of the law -/
section
variable {G : Int → Bool}
def exD (G : Int → Bool) (x y : Int) : Dt := if (decide (x < y) && G (y - x - 1)) = true then .tup [.int (y - 1), .int x] else if (decide (y < x) && G (x - y)) = true then .tup [.int y, .int (x + 1)] else .non
theorem exD_none {f i : Int} (h : DL.isNon (.d (exD G f i)) = true) : exF G f i = none := by
  unfold exD at h
  unfold exF
  by_cases c : (decide (f < i) && G (i - f - 1)) = true
  · rw [if_pos c] at h; cases h
  · rw [if_neg c] at h ⊢
    by_cases d : (decide (i < f) && G (f - i)) = true
    · rw [if_pos d] at h; cases h
    · rw [if_neg d]
theorem exD_some {f i : Int} (h : DL.isNon (.d (exD G f i)) = false) : ∃ v w, exD G f i = .tup [.int v, .int w] ∧ exF G f i = some v := by
  unfold exD at h ⊢
  unfold exF
  by_cases c : (decide (f < i) && G (i - f - 1)) = true
  · rw [if_pos c, if_pos c]; exact ⟨_, _, rfl, rfl⟩
  · rw [if_neg c] at h ⊢
    rw [if_neg c]
    by_cases d : (decide (i < f) && G (f - i)) = true
    · rw [if_pos d, if_pos d]; exact ⟨_, _, rfl, rfl⟩
    · rw [if_neg d] at h; cases h
theorem fold_none (l : List Int) : l.foldl (fun o f => o.bind (exF G f)) none = none := by
  induction l with
  | nil => rfl
  | cons a l ih => exact ih
theorem irange_range (n : Nat) : irange 0 (n : Int) = (List.range n).map fun i : Nat => (i : Int) := by
  unfold irange
  rw [show ((n : Int) - 0).toNat = n from by omega]
  exact List.map_congr_left fun i _ => by omega
theorem frU_irange (row : List Int) : (irange 0 (row.length : Int)).filterMap (fun n => toF G row n.toNat) = frU G row := by
  rw [irange_range, List.filterMap_map]
  rfl
theorem fr_enc (row : List Int) : (((irange 0 (row.length : Int)).map fun n => toF G row n.toNat).filter Option.isSome).map optD = (frU G row).map .int := by
  rw [← frU_irange]
  generalize irange 0 (row.length : Int) = l
  induction l with
  | nil => rfl
  | cons a l ih =>
    rw [List.map_cons, List.filter_cons, List.filterMap_cons]
    cases e : toF G row a.toNat with
    | none => exact ih
    | some v =>
      rw [if_pos (by rfl), List.map_cons, List.map_cons, ih]
      rfl
/-- what travels, with what has been passed -/
def lfA (G : Int → Bool) (fd : List Int) (x : Int) (w : List Int) : Option (List Int) := (lft G x w).map (fd ++ ·)
theorem lfA_0 (x : Int) (w : List Int) : lfA G [] x w = lft G x w := by
  unfold lfA
  cases lft G x w <;> rfl
theorem lfA_nil (fd : List Int) (x : Int) : lfA G fd x [] = none := rfl
theorem lfA_eq {fd w : List Int} {x a : Int} (h : a = x) : lfA G fd x (a :: w) = some (fd ++ w) := by
  unfold lfA
  rw [lft_eq h]
  rfl
theorem lfA_lo {fd w : List Int} {x a : Int} (h : ¬ a = x) (d : (decide (a < x) && G (x - a)) = true) : lfA G fd x (a :: w) = lfA G (fd ++ [a]) (x + 1) w := by
  unfold lfA
  rw [Bool.and_eq_true, decide_eq_true_eq] at d
  rw [lft_lo d.1 d.2, Option.map_map]
  cases lft G (x + 1) w with
  | none => rfl
  | some r => simp
theorem lfA_hi {fd w : List Int} {x a : Int} (h : ¬ a = x) (d : (decide (a < x) && G (x - a)) = false) (e : (decide (x < a) && G (a - x)) = true) : lfA G fd x (a :: w) = lfA G (fd ++ [a + 1]) x w := by
  unfold lfA
  rw [Bool.and_eq_true, decide_eq_true_eq] at e
  rw [lft_hi e.1 e.2, Option.map_map]
  cases lft G x w with
  | none => rfl
  | some r => simp
theorem lfA_no {fd w : List Int} {x a : Int} (h : ¬ a = x) (d : (decide (a < x) && G (x - a)) = false) (e : (decide (x < a) && G (a - x)) = false) : lfA G fd x (a :: w) = none := by
  unfold lfA lft
  rw [if_neg h, if_neg (by rw [d]; exact Bool.false_ne_true), if_neg (by rw [e]; exact Bool.false_ne_true)]
  rfl
theorem deed_bd {b : Int} {l m : List Int} (h : Deed G l m) (hG : GoodF G) (k : ∀ x ∈ l, x ≤ b) : ∀ x ∈ m, x ≤ b + 1 := by
  induction h with
  | @to f g t s q hg ht hs =>
    have h1 := k f List.mem_cons_self
    have h2 := k s (List.mem_cons_of_mem _ List.mem_cons_self)
    intro x hx
    simp only [List.mem_cons] at hx
    rcases hx with rfl | rfl | hx
    · omega
    · omega
    · have := k x (List.mem_cons_of_mem _ (List.mem_cons_of_mem _ hx)); omega
  | @fro f g t s q hg ht hs =>
    have h1 := k t List.mem_cons_self
    have h2 := k f (List.mem_cons_of_mem _ List.mem_cons_self)
    intro x hx
    simp only [List.mem_cons] at hx
    rcases hx with rfl | rfl | hx
    · omega
    · omega
    · have := k x (List.mem_cons_of_mem _ (List.mem_cons_of_mem _ hx)); omega
  | @cons a l m h ih =>
    intro x hx
    rcases List.mem_cons.mp hx with rfl | hx
    · have := k x List.mem_cons_self; omega
    · exact ih (fun y hy => k y (List.mem_cons_of_mem _ hy)) x hx
end
theorem chg_exF {ns : List Int} {st : Option Int} {f i : Int} : (chgT ns st f i = none → exF (inL ns st) f i = none) ∧ ∀ l, chgT ns st f i = some l → ∃ v w, l = [v, w] ∧ exF (inL ns st) f i = some v := by
  unfold chgT exF
  by_cases c : (decide (f < i) && inL ns st (i - f - 1)) = true
  · rw [if_pos c, if_pos c]
    exact ⟨fun h => (by cases h), fun l h => by cases h; exact ⟨_, _, rfl, rfl⟩⟩
  · rw [if_neg c, if_neg c]
    by_cases d : (decide (i < f) && inL ns st (f - i)) = true
    · rw [if_pos d, if_pos d]
      exact ⟨fun h => (by cases h), fun l h => by cases h; exact ⟨_, _, rfl, rfl⟩⟩
    · rw [if_neg d, if_neg d]
      exact ⟨fun _ => rfl, fun l h => by cases h⟩
def toldLs : List (List Int × Option Int) := [([1], none), ([2], none), ([3], none), ([2, 3], none), ([3, 4, 5], none), ([1, 4], none), ([2, 4, 5], none), ([], some 1), ([], some 2), ([], some 3), ([2], some 4), ([], none), ([1], none), ([], some 1)]
def toldL (j : Int) : List Int × Option Int := toldLs.getD j.toNat ([], none)
theorem told_at {j : Int} (h0 : 0 ≤ j) (h1 : j < 14) : L2.atI (toldLs.map fun p => Dt.tup [encI p.1, optD p.2]) j = some (Dt.tup [encI (toldL j).1, optD (toldL j).2]) := by
  have h : ∀ k : Nat, k < 14 → L2.atI (toldLs.map fun p => Dt.tup [encI p.1, optD p.2]) (k : Int) = some (Dt.tup [encI (toldL k).1, optD (toldL k).2]) := by
    intro k hk
    rcases k with _ | _ | _ | _ | _ | _ | _ | _ | _ | _ | _ | _ | _ | _ | k <;> first | rfl | omega
  have := h j.toNat (by omega)
  rwa [Int.toNat_of_nonneg h0] at this
/-- the numbers as they are handed in -/
def numsL (ns : List Int) : List Int := if ns.sum % 2 = 1 then ns.reverse ++ ns else ns
theorem numsL_mem {ns : List Int} {x : Int} : x ∈ numsL ns ↔ x ∈ ns := by
  unfold numsL
  split
  · simp
  · rfl
theorem numsL_in (ns : List Int) (st : Option Int) : inL (numsL ns) st = inL ns st := by
  funext x
  unfold inL
  congr 1
  exact decide_eq_decide.mpr numsL_mem
/-- keys of a dict of rows -/
def addS (ks : List (List Int)) (y : List Int) : List (List Int) := if y ∈ ks then ks else ks ++ [y]
theorem addS_mem {ks : List (List Int)} {x y : List Int} : x ∈ addS ks y ↔ x ∈ ks ∨ x = y := by
  unfold addS
  split
  · rename_i h
    exact ⟨.inl, fun z => z.elim id fun e => by rw [e]; exact h⟩
  · simp
theorem addS_len (ks : List (List Int)) (y : List Int) : (addS ks y).length ≤ ks.length + 1 := by
  unfold addS
  split
  · omega
  · simp
theorem put_add (ks : List (List Int)) (y : List Int) : putM (setM ks) y true = setM (addS ks y) := by
  unfold addS
  by_cases h : y ∈ ks
  · rw [if_pos h]
    unfold putM
    have ha : ((setM ks).any fun p => decide (p.1 = y)) = true := List.any_eq_true.mpr ⟨(y, true), List.mem_map.mpr ⟨y, h, rfl⟩, decide_eq_true rfl⟩
    rw [if_pos ha]
    unfold setM
    rw [List.map_map]
    refine List.map_congr_left fun r _ => ?_
    show (if r = y then (r, true) else (r, true)) = (r, true)
    split <;> rfl
  · rw [if_neg h, put_set h]
def hdS (ks : List (List Int)) (there : List Int) (j : Nat) : List (List Int) := ((irange 0 ((there.length : Int) + 1)).take j).foldl (fun ks s => addS ks (there.take s.toNat)) ks
def hdM (ks : List (List Int)) (there : List Int) : List (List Int) := (irange 0 ((there.length : Int) + 1)).foldl (fun ks s => addS ks (there.take s.toNat)) ks
def headsM (known : List (List Int)) : List (List Int) := known.foldl hdM []
theorem fold_addS {there : List Int} : ∀ (l : List Int) (ks : List (List Int)) (h : List Int), h ∈ l.foldl (fun ks s => addS ks (there.take s.toNat)) ks ↔ h ∈ ks ∨ ∃ s ∈ l, h = there.take s.toNat
  | [], ks, h => by simp
  | a :: l, ks, h => by
    rw [List.foldl_cons, fold_addS l, addS_mem]
    constructor
    · rintro ((h1 | h1) | ⟨s, h1, h2⟩)
      · exact .inl h1
      · exact .inr ⟨a, List.mem_cons_self, h1⟩
      · exact .inr ⟨s, List.mem_cons_of_mem _ h1, h2⟩
    · rintro (h1 | ⟨s, h1, h2⟩)
      · exact .inl (.inl h1)
      · rcases List.mem_cons.mp h1 with rfl | h1
        · exact .inl (.inr h2)
        · exact .inr ⟨s, h1, h2⟩
theorem fold_addS_len {there : List Int} : ∀ (l : List Int) (ks : List (List Int)), (l.foldl (fun ks s => addS ks (there.take s.toNat)) ks).length ≤ ks.length + l.length
  | [], ks => Nat.le_refl _
  | a :: l, ks => by
    rw [List.foldl_cons, List.length_cons]
    have h1 := fold_addS_len (there := there) l (addS ks (there.take a.toNat))
    have h2 := addS_len ks (there.take a.toNat)
    omega
theorem hdM_mem {ks : List (List Int)} {there h : List Int} : h ∈ hdM ks there ↔ h ∈ ks ∨ ∃ t, there = h ++ t := by
  unfold hdM
  rw [fold_addS]
  refine or_congr Iff.rfl ⟨?_, ?_⟩
  · rintro ⟨s, _, rfl⟩
    exact ⟨there.drop s.toNat, (List.take_append_drop _ _).symm⟩
  · rintro ⟨t, rfl⟩
    refine ⟨(h.length : Int), mem_irange.mpr ⟨by omega, by rw [List.length_append]; omega⟩, ?_⟩
    rw [Int.toNat_natCast, List.take_left']
    rfl
theorem hdM_len (ks : List (List Int)) (there : List Int) : (hdM ks there).length ≤ ks.length + (there.length + 1) := by
  unfold hdM
  refine Nat.le_trans (fold_addS_len _ _) ?_
  rw [irange_length]
  omega
theorem heads_fold : ∀ (known ks : List (List Int)) (h : List Int), h ∈ known.foldl hdM ks ↔ h ∈ ks ∨ ∃ there ∈ known, ∃ t, there = h ++ t
  | [], ks, h => by simp
  | a :: known, ks, h => by
    rw [List.foldl_cons, heads_fold known, hdM_mem]
    constructor
    · rintro ((h1 | h1) | ⟨s, h1, h2⟩)
      · exact .inl h1
      · exact .inr ⟨a, List.mem_cons_self, h1⟩
      · exact .inr ⟨s, List.mem_cons_of_mem _ h1, h2⟩
    · rintro (h1 | ⟨s, h1, h2⟩)
      · exact .inl (.inl h1)
      · rcases List.mem_cons.mp h1 with rfl | h1
        · exact .inl (.inr h2)
        · exact .inr ⟨s, h1, h2⟩
theorem heads_len {b : Nat} : ∀ (known ks : List (List Int)), (∀ r ∈ known, r.length ≤ b) → (known.foldl hdM ks).length ≤ ks.length + known.length * (b + 1)
  | [], ks, _ => by simp
  | a :: known, ks, h => by
    rw [List.foldl_cons, List.length_cons]
    have h1 := heads_len known (hdM ks a) fun r hr => h r (List.mem_cons_of_mem _ hr)
    have h2 := hdM_len ks a
    have h3 := h a List.mem_cons_self
    have h4 : (known.length + 1) * (b + 1) = known.length * (b + 1) + (b + 1) := Nat.succ_mul _ _
    omega
theorem keys_set (ks : List (List Int)) : (dttE Dt.bl (setM ks)).map (fun p => Dt.lst (p.1.map keyD)) = ks.map encI := by
  unfold setM
  rw [List.map_map, List.map_map]
  refine List.map_congr_left fun l _ => ?_
  show Dt.lst ((l.map .inl).map keyD) = Dt.lst (l.map Dt.int)
  rw [List.map_map]
  rfl
theorem heads_hd {G : Int → Bool} {row : List Int} {lot : List (List Int)} (hc : ∀ x, x ∈ lot ↔ Jn G row x) (h : List Int) : h ∈ headsM lot ↔ Hd G h row := by
  unfold headsM
  rw [heads_fold]
  constructor
  · rintro (h1 | ⟨s, h1, t, h2⟩)
    · cases h1
    · exact ⟨t, by rw [← h2]; exact (hc s).mp h1⟩
  · rintro ⟨t, h1⟩
    exact .inr ⟨h ++ t, (hc _).mpr h1, t, rfl⟩
def encOR : Option (List (List Int)) → Dt
  | none => .non
  | some l => encR l

theorem numsL_eq (ns : List Int) : (bif decide (ns.sum % 2 = 1) then ns.reverse ++ ns else ns) = numsL ns := by
  unfold numsL
  by_cases c : ns.sum % 2 = 1
  · rw [if_pos c, decide_eq_true c]; rfl
  · rw [if_neg c, decide_eq_false c]; rfl
theorem numsL_len (ns : List Int) : (numsL ns).length ≤ 2 * ns.length := by
  unfold numsL
  split
  · rw [List.length_append, List.length_reverse]; omega
  · omega
theorem zip_at {l : List Int} {i : Nat} {p : Int × Nat} (h : l.zipIdx[i]? = some p) : l[i]? = some p.1 ∧ p.2 = i := by
  rw [List.getElem?_zipIdx] at h
  cases e : l[i]? with
  | none => rw [e] at h; cases h
  | some a =>
    rw [e] at h
    cases h
    exact ⟨rfl, by simp⟩
theorem near_len {ns : List Int} {st : Option Int} {row : List Int} (h : row.length ≤ 7) : (nearM ns st row).length ≤ 6 := Nat.le_trans (List.length_filterMap_le _ _) (by rw [irange_length]; omega)
theorem encO_none {o : Option (List Int)} (h : DL.isNon (.d (encO o)) = true) : o = none := by
  cases o with
  | none => rfl
  | some l => cases h
theorem encO_some {o : Option (List Int)} (h : DL.isNon (.d (encO o)) = false) : ∃ l, o = some l := by
  cases o with
  | none => cases h
  | some l => exact ⟨l, rfl⟩
theorem encOR_none {o : Option (List (List Int))} (h : DL.isNon (.d (encOR o)) = true) : o = none := by
  cases o with
  | none => rfl
  | some l => cases h
theorem encOR_some {o : Option (List (List Int))} (h : DL.isNon (.d (encOR o)) = false) : ∃ l, o = some l := by
  cases o with
  | none => cases h
  | some l => exact ⟨l, rfl⟩
theorem optD_none {o : Option Int} (h : DL.isNon (.d (optD o)) = true) : o = none := by
  cases o with
  | none => rfl
  | some l => cases h
theorem optD_some {o : Option Int} (h : DL.isNon (.d (optD o)) = false) : ∃ l, o = some l := by
  cases o with
  | none => cases h
  | some l => exact ⟨l, rfl⟩
theorem atI_last {α : Type} (l : List α) (x : α) : L2.atI (l ++ [x]) (-1) = some x := by
  unfold L2.atI L2.ixN
  have h : (l ++ [x]).length = l.length + 1 := by simp
  rw [h, if_neg (by omega), if_pos (by omega)]
  show (l ++ [x])[(-1 + ((l.length + 1 : Nat) : Int)).toNat]? = some x
  rw [show (-1 + ((l.length + 1 : Nat) : Int)).toNat = l.length from by omega]
  simp
theorem sorted_atM {G : Int → Bool} (hG : GoodF G) {f : List Int} {l0 : List (List Int)} (hfs : fsM G f = f) (hc : ∀ x, x ∈ l0 ↔ Jn G f x) : L2.atI ((l0.mergeSort leR).map encI) 0 = some (encI f) := by
  obtain ⟨t, ht⟩ := sort_head hc
  have e : lstJ G f = f := by
    rw [lstJ_eq (fs_jn hG _ f rfl) (fun x hx => fs_le hG _ f x rfl hx)]
    exact hfs
  rw [ht, e, List.map_cons]
  exact at0K
/-! rows of ints can be shown -/
theorem shown_ints {l : List Int} (h : l.length ≤ 300) (hb : ∀ x ∈ l, x.natAbs < 10 ^ 12) : (toPy (encI l)).showable = true ∧ (toPy (encI l)).shown.length ≤ 4600 := by
  have e : toPy (encI l) = .list (l.map .int) := by
    show PyData.list (toPys (l.map Dt.int)) = _
    rw [toPys_eq, List.map_map]
    rfl
  rw [e]
  constructor
  · show PyData.showableAll (l.map .int) = true
    exact PyData.showableAll_ints l fun n hn => by
      have := hb n hn
      refine Nat.lt_of_not_le fun h2 => ?_
      by_cases z : n.natAbs = 0
      · rw [z] at h2
        exact absurd h2 (by decide)
      have h3 := Nat.pow_le_pow_right (show 0 < 2 from by decide) h2
      have h4 := Nat.log2_self_le z
      have h5 : 2 ^ 1920 < 10 ^ 12 := Nat.lt_of_le_of_lt (Nat.le_trans h3 h4) this
      exact absurd h5 (by decide +kernel)
  · show (listText (PyData.shownAll (l.map .int))).length ≤ 4600
    refine Nat.le_trans (listText_len_le _) ?_
    have key : ∀ l : List Int, (∀ x ∈ l, x.natAbs < 10 ^ 12) → ((PyData.shownAll (l.map .int)).map (·.length)).sum ≤ 13 * l.length := by
      intro l
      induction l with
      | nil => intro _; simp only [List.map_nil, PyData.shownAll_nil, List.sum_nil]; exact Nat.zero_le _
      | cons x l ih =>
        intro hb
        rw [List.map_cons, PyData.shownAll_cons, List.map_cons, List.sum_cons, List.length_cons]
        have h1 := PyData.shown_int_le (hb x List.mem_cons_self)
        have h2 := ih fun y hy => hb y (List.mem_cons_of_mem _ hy)
        omega
    have h1 := key l hb
    rw [PyData.shownAll_length, List.length_map]
    omega
theorem shown_rows {rows : List (List Int)} (hn : rows.length ≤ 1000) (h : ∀ l ∈ rows, l.length ≤ 300 ∧ ∀ x ∈ l, x.natAbs < 10 ^ 12) : (toPy (encR rows)).showable = true ∧ (toPy (encR rows)).shown.length ≤ sizeLine := by
  have e : toPy (encR rows) = .list (rows.map fun l => toPy (encI l)) := by
    show PyData.list (toPys (rows.map encI)) = _
    rw [toPys_eq, List.map_map]
    rfl
  rw [e]
  constructor
  · show PyData.showableAll (rows.map fun l => toPy (encI l)) = true
    have key : ∀ rows : List (List Int), (∀ l ∈ rows, l.length ≤ 300 ∧ ∀ x ∈ l, x.natAbs < 10 ^ 12) → PyData.showableAll (rows.map fun l => toPy (encI l)) = true := by
      intro rows
      induction rows with
      | nil => intro _; rfl
      | cons x l ih =>
        intro hb
        rw [List.map_cons, PyData.showableAll, (shown_ints (hb x List.mem_cons_self).1 (hb x List.mem_cons_self).2).1, ih fun y hy => hb y (List.mem_cons_of_mem _ hy)]
        rfl
    exact key rows h
  · show (listText (PyData.shownAll (rows.map fun l => toPy (encI l)))).length ≤ sizeLine
    refine Nat.le_trans (listText_len_le _) ?_
    have key : ∀ rows : List (List Int), (∀ l ∈ rows, l.length ≤ 300 ∧ ∀ x ∈ l, x.natAbs < 10 ^ 12) → ((PyData.shownAll (rows.map fun l => toPy (encI l))).map (·.length)).sum ≤ 4600 * rows.length := by
      intro rows
      induction rows with
      | nil => intro _; simp only [List.map_nil, PyData.shownAll_nil, List.sum_nil]; exact Nat.zero_le _
      | cons x l ih =>
        intro hb
        rw [List.map_cons, PyData.shownAll_cons, List.map_cons, List.sum_cons, List.length_cons]
        have h1 := (shown_ints (hb x List.mem_cons_self).1 (hb x List.mem_cons_self).2).2
        have h2 := ih fun y hy => hb y (List.mem_cons_of_mem _ hy)
        omega
    have h1 := key rows h
    rw [PyData.shownAll_length, List.length_map]
    exact Nat.le_trans (show _ ≤ 4600 * 1000 + 2003 from by omega) (by decide)

section
variable {P : Program} {w : World} {K : PySem.W.Frag} {mg : Str → Option Value} {base : Heap}
def sp_is_whole (K : PySem.W.Frag) : FS := fun rs ob P => ∃ x, rs = [.d x] ∧ tyOk x = true ∧ P (.d (.bl (isi .int x && !isi .bool x))) ob
theorem f_is_whole (T : Tx K mg) : Fn P w K mg base "is_whole" s_is_whole 1 ["value"] (sp_is_whole K) := by
  refine T.d_is_whole.fn sc_is_whole (fun _ _ _ _ _ _ us hl => match us, hl with | [_], _ => rfl) (fun rs ob P h => by obtain ⟨x, rfl, hx, hP⟩ := h; rfl) fun a cdv A outer s H E ct rs ob P h => ?_
  obtain ⟨x, rfl, hx, hP⟩ := h
  refine wss_one ?_
  refine ws_ret ?_
  refine' we_andV ?_ (fun hh1 => ?_) ?_
  rotate_left 2
  · refine we_isi .int T.z_isinstance T.z_int ?_
    refine we_name 0 rfl ?_
    refine ⟨hx /- s0 -/, ?_⟩
    exact ⟨rfl, rfl⟩
  · refine we_one ?_
    refine we_not ?_
    refine we_isi .bool T.z_isinstance T.z_bool ?_
    refine we_name 0 rfl ?_
    refine ⟨hx /- s1 -/, ?_⟩
    refine ⟨_, rfl, ?_⟩
    exact ⟨rfl, rfl⟩
  exact hP -- ret0
def sp_is_between (K : PySem.W.Frag) : FS := fun rs ob P => ∃ (n lo : Int) (hi : Option Int), rs = [.d (.int n), .d (.int lo), .d (optD hi)] ∧ P (.d (.bl (isBetO n lo hi))) ob
theorem f_is_between (T : Tx K mg) : Fn P w K mg base "is_between" s_is_between 2 ["value", "low", "high"] (sp_is_between K) := by
  refine T.d_is_between.fn sc_is_between (fun _ _ _ _ _ _ us hl => match us, hl with | [_, _, _], _ => rfl) (fun rs ob P h => by obtain ⟨n, lo, hi, rfl, hP⟩ := h; rfl) fun a cdv A outer s H E ct rs ob P h => ?_
  obtain ⟨n, lo, hi, rfl, hP⟩ := h
  cases hi
  · refine wss_cons ?_
    refine ws_if ?_
    refine wt_not ?_
    refine wt_val ?_
    refine we_call false (f_is_whole T) ct (by decide) ?_
    refine wa_cons ?_
    refine we_name 0 rfl ?_
    refine wa_nil ?_
    refine ⟨[_], rfl, ?_⟩
    refine ⟨_, rfl, rfl, ?_⟩
    refine ⟨_, rfl, ?_⟩
    refine ⟨trivial, ?_⟩
    refine ⟨fun hi0t => ?_, fun hi0f => ?_⟩
    · exact (Bool.false_ne_true hi0t).elim
    · refine wss_nil ?_
      refine wss_one ?_
      refine ws_ret ?_
      refine' we_andV ?_ (fun hh1 => ?_) ?_
      rotate_left 2
      · refine' we_orV ?_ (fun hh2 => ?_) ?_
        rotate_left 2
        · refine we_isN ?_
          refine we_name 1 rfl ?_
          exact ⟨rfl, rfl⟩
        · refine we_one ?_
          refine we_ge ?_
          refine we_name 0 rfl ?_
          refine we_name 1 rfl ?_
          refine ⟨_, _, rfl, rfl, ?_⟩
          exact ⟨rfl, rfl⟩
        exact ⟨rfl, rfl⟩
      · refine we_one ?_
        refine' we_orV (c2 := false) ?_ (fun hh3 => ?_) ?_
        rotate_left 1
        · refine we_isN ?_
          refine we_name 2 rfl ?_
          exact ⟨rfl, rfl⟩
        · exact (Bool.false_ne_true hh3.symm).elim
        exact ⟨rfl, rfl⟩
      exact hP -- ret0
  · rename_i h
    refine wss_cons ?_
    refine ws_if ?_
    refine wt_not ?_
    refine wt_val ?_
    refine we_call false (f_is_whole T) ct (by decide) ?_
    refine wa_cons ?_
    refine we_name 0 rfl ?_
    refine wa_nil ?_
    refine ⟨[_], rfl, ?_⟩
    refine ⟨_, rfl, rfl, ?_⟩
    refine ⟨_, rfl, ?_⟩
    refine ⟨trivial, ?_⟩
    refine ⟨fun hi0t => ?_, fun hi0f => ?_⟩
    · exact (Bool.false_ne_true hi0t).elim
    · refine wss_nil ?_
      refine wss_one ?_
      refine ws_ret ?_
      refine' we_andV ?_ (fun hh1 => ?_) ?_
      rotate_left 2
      · refine' we_orV ?_ (fun hh2 => ?_) ?_
        rotate_left 2
        · refine we_isN ?_
          refine we_name 1 rfl ?_
          exact ⟨rfl, rfl⟩
        · refine we_one ?_
          refine we_ge ?_
          refine we_name 0 rfl ?_
          refine we_name 1 rfl ?_
          refine ⟨_, _, rfl, rfl, ?_⟩
          exact ⟨rfl, rfl⟩
        exact ⟨rfl, rfl⟩
      · refine we_one ?_
        refine' we_orV ?_ (fun hh3 => ?_) ?_
        rotate_left 2
        · refine we_isN ?_
          refine we_name 2 rfl ?_
          exact ⟨rfl, rfl⟩
        · refine we_one ?_
          refine we_le ?_
          refine we_name 0 rfl ?_
          refine we_name 2 rfl ?_
          refine ⟨_, _, rfl, rfl, ?_⟩
          exact ⟨rfl, rfl⟩
        exact ⟨rfl, rfl⟩
      exact hP -- ret0
def sp_is_row_list (K : PySem.W.Frag) : FS := fun rs ob P => ∃ l : List Int, rs = [.d (encI l)] ∧ ob = [] ∧ l.length ≤ 200 ∧ NN l ∧ P (.d (.bl true)) []
theorem f_is_row_list (T : Tx K mg) : Fn P w K mg base "is_row_list" s_is_row_list 3 ["value"] (sp_is_row_list K) := by
  refine T.d_is_row_list.fn sc_is_row_list (fun _ _ _ _ _ _ us hl => match us, hl with | [_], _ => rfl) (fun rs ob P h => by obtain ⟨l, rfl, rfl, hl, hnn, hP⟩ := h; rfl) fun a cdv A outer s H E ct rs ob P h => ?_
  obtain ⟨l, rfl, rfl, hl, hnn, hP⟩ := h
  refine wss_cons ?_
  refine ws_if ?_
  refine wt_w ?_
  refine' ww_orV ?_ (fun hh1 => ?_) ?_
  rotate_left 2
  · refine wt_not ?_
    refine wt_val ?_
    refine we_isi .list T.z_isinstance T.z_list ?_
    refine we_name 0 rfl ?_
    refine ⟨rfl /- s0 -/, ?_⟩
    refine ⟨trivial, ?_⟩
    exact ⟨rfl, rfl⟩
  · refine ww_or1 ?_
    refine wt_gt ?_
    refine we_len T.z_len ?_
    refine we_name 0 rfl ?_
    refine T.c_MOST_LENGTH.elim fun _ hg => we_gint hg ?_
    refine ⟨_, _, rfl, rfl, _, rfl, ?_⟩
    exact ⟨rfl, rfl⟩
  refine ⟨fun hi0t => ?_, fun hi0f => ?_⟩
  · have e : decide ((200 : Int) < ((l.map Dt.int).length : Int)) = true := hi0t
    rw [decide_eq_true_iff, List.length_map] at e
    exact absurd e (by omega)
  · refine wss_nil ?_
    refine wss_one ?_
    refine ws_ret ?_
    refine we_eqI ct ?_
    refine we_lcP (own := false) (t := .one 1) (ow := [("item", 1)]) ct (lcP_filter (.int) rfl (fun _ _ _ _ _ => pg_name ct.nd (i := 1) rfl (by first | exact Or.inl rfl | exact Or.inr rfl)) ?_) (blkOk_by (by kernel_rfl))
    refine wi_lst ?_
    refine we_name 0 rfl ?_
    refine ⟨_, rfl, fun hsz => ?_⟩
    refine ⟨hsz, l, fun n => !isBetO n 0 none, .int, rfl, fun a ha => ⟨_, rfl, fun s H C cl fp => ?_, fun hf s H C cl fp => ?_⟩, ?_⟩
    · refine wt_not ?_
      refine wt_val ?_
      refine we_call false (f_is_between T) ct.blk (by decide) ?_
      refine wa_cons ?_
      refine we_name 1 rfl ?_
      refine wa_cons ?_
      refine we_int ?_
      refine wa_cons ?_
      refine we_non ?_
      refine wa_nil ?_
      refine ⟨[_, _, _], rfl, ?_⟩
      refine ⟨_, _, none, rfl, ?_⟩
      refine ⟨_, rfl, ?_⟩
      refine ⟨trivial, ?_⟩
      exact ⟨rfl, rfl⟩
    · refine we_name 1 rfl ?_
      exact ⟨rfl, rfl⟩
    refine we_lst false ?_
    refine wa_nil ?_
    refine ⟨[], rfl, Nat.le_of_ble_eq_true rfl, ?_⟩
    refine ⟨_, [], rfl, rfl, ?_⟩
    rw [filter_nn hnn]
    exact hP -- ret0
def sp_check_row (K : PySem.W.Frag) : FS := fun rs ob P => ∃ l : List Int, rs = [.d (encI l)] ∧ ob = [] ∧ l.length ≤ 200 ∧ NN l ∧ P (.d .non) []
theorem f_check_row (T : Tx K mg) : Fn P w K mg base "check_row" s_check_row 4 ["row"] (sp_check_row K) := by
  refine T.d_check_row.fn sc_check_row (fun _ _ _ _ _ _ us hl => match us, hl with | [_], _ => rfl) (fun rs ob P h => by obtain ⟨l, rfl, rfl, hl, hnn, hP⟩ := h; rfl) fun a cdv A outer s H E ct rs ob P h => ?_
  obtain ⟨l, rfl, rfl, hl, hnn, hP⟩ := h
  refine wss_one ?_
  refine ws_if ?_
  refine wt_not ?_
  refine wt_val ?_
  refine we_call false (f_is_row_list T) ct (by decide) ?_
  refine wa_cons ?_
  refine we_name 0 rfl ?_
  refine wa_nil ?_
  refine ⟨[_], rfl, ?_⟩
  refine ⟨_, rfl, rfl, (by first | assumption | omega | decide) /- s0 -/, (by first | assumption | omega | decide) /- s1 -/, ?_⟩
  refine ⟨_, rfl, ?_⟩
  refine ⟨trivial, ?_⟩
  refine ⟨fun hi0t => ?_, fun hi0f => ?_⟩
  · exact (Bool.false_ne_true hi0t).elim
  · refine wss_nil ?_
    exact hP -- end0
def sp_Lets__fill (K : PySem.W.Frag) : FS := fun rs ob P => ∃ (ns : List Int) (st : Option Int) (fs : List (Str × R)), rs = [.p 0, .d (encI ns), .d (optD st)] ∧ ob = [.ins (He.ga K "Lets") fs] ∧ fs.length < 900 ∧
  ∀ more, P (.d .non) (.ins (He.ga K "Lets") (putR "_start" (.d (optD (fillS ns st).2)) (putR "_held" (.d (.dct (heldL (fillS ns st).1))) fs)) :: more)
theorem m_Lets__fill (T : Tx K mg) : Mt P w K mg base (He.ga K "Lets") "_fill" 1 ["self", "numbers", "start"] (sp_Lets__fill K) := by
  refine T.d_Lets__fill.mt sc_Lets__fill (fun _ _ _ _ _ _ us hl => match us, hl with | [_, _, _], _ => rfl) (fun rs ob P h => by obtain ⟨ns, st, fs, rfl, rfl, hz, hP⟩ := h; rfl) fun a cdv A outer s H E ct rs ob P h => ?_
  obtain ⟨ns, st, fs, rfl, rfl, hz, hP⟩ := h
  cases st
  · refine wss_cons ?_
    refine ws_dcP (own := true) 3 (t := .one 4) (ow := [("number", 4)]) ct (dcP_of (.int) rfl (fun _ _ _ _ _ => pg_name ct.nd (i := 4) rfl (by first | exact Or.inl rfl | exact Or.inr rfl)) ?_) (blkOk_by (by kernel_rfl))
    refine wi_lst ?_
    refine we_name 1 rfl ?_
    refine ⟨_, rfl, fun hsz => ?_⟩
    refine ⟨hsz, ns, fun _ => true, fun n => .inl n, fun _ => .bl true, rfl, fun a ha => ⟨_, rfl, fun s H C cl fp => ?_, fun hf => ⟨fun s H C cl fp => ?_, fun s H C cl fp => ?_⟩⟩, ?_⟩
    · refine wt_w ?_
      refine' ww_orV (c2 := false) ?_ (fun hh1 => ?_) ?_
      rotate_left 1
      · refine wt_isN ?_
        refine we_name 2 rfl ?_
        exact ⟨rfl, rfl⟩
      · exact (Bool.false_ne_true hh1.symm).elim
      exact ⟨rfl, rfl⟩
    · refine we_name 4 rfl ?_
      exact ⟨rfl, rfl⟩
    · refine we_bl ?_
      exact ⟨rfl, rfl⟩
    rw [held_fold, List.filter_eq_self.mpr fun _ _ => rfl]
    refine wss_cons ?_
    refine ws_while ct (fun m ob1 sl1 => ob1 = [.ins (He.ga K "Lets") fs, .dct (heldL (keysOf ns))] ∧ sl1 = [some (.p 0), some (.d (encI ns)), some (.d .non), some (.p 1), none]) 0 ⟨rfl, rfl⟩ fun m ob2 sl2 hW => ?_
    obtain ⟨rfl, rfl⟩ := hW
    refine wt_w ?_
    refine' ww_andV (c2 := false) ?_ (fun hh2 => ?_) ?_
    rotate_left 1
    · refine wt_notN ?_
      refine we_name 2 rfl ?_
      exact ⟨rfl, rfl⟩
    · exact (Bool.false_ne_true hh2).elim
    refine ⟨fun hh3 => ?_, fun hh4 => ?_⟩
    · exact (Bool.false_ne_true hh3).elim
    · refine wss_one ?_
      refine ws_fld2 0 0 T.cls_Lets T.na_Lets__held T.na_Lets__start rfl ?_
      refine wa_cons (we_data ?_)
      refine we_name 3 rfl ?_
      refine wa_cons (we_data ?_)
      refine we_name 2 rfl ?_
      refine wa_nil ?_
      refine ⟨_, _, _, rfl, rfl, (Nat.lt_trans hz (by decide)) /- s0 -/, ?_⟩
      exact hP _ -- end0
  · rename_i t
    refine wss_cons ?_
    refine ws_dcP (own := true) 3 (t := .one 4) (ow := [("number", 4)]) ct (dcP_of (.int) rfl (fun _ _ _ _ _ => pg_name ct.nd (i := 4) rfl (by first | exact Or.inl rfl | exact Or.inr rfl)) ?_) (blkOk_by (by kernel_rfl))
    refine wi_lst ?_
    refine we_name 1 rfl ?_
    refine ⟨_, rfl, fun hsz => ?_⟩
    refine ⟨hsz, ns, fun n => decide (n < t), fun n => .inl n, fun _ => .bl true, rfl, fun a ha => ⟨_, rfl, fun s H C cl fp => ?_, fun hf => ⟨fun s H C cl fp => ?_, fun s H C cl fp => ?_⟩⟩, ?_⟩
    · refine wt_w ?_
      refine' ww_orV ?_ (fun hh1 => ?_) ?_
      rotate_left 2
      · refine wt_isN ?_
        refine we_name 2 rfl ?_
        exact ⟨rfl, rfl⟩
      · refine ww_or1 ?_
        refine wt_lt ?_
        refine we_name 4 rfl ?_
        refine we_name 2 rfl ?_
        refine ⟨_, _, rfl, rfl, _, rfl, ?_⟩
        exact ⟨rfl, rfl⟩
      exact ⟨rfl, rfl⟩
    · refine we_name 4 rfl ?_
      exact ⟨rfl, rfl⟩
    · refine we_bl ?_
      exact ⟨rfl, rfl⟩
    rw [held_fold]
    refine wss_cons ?_
    refine ws_while ct (fun m ob1 sl1 => ∃ ks u, ob1 = [.ins (He.ga K "Lets") fs, .dct (heldL ks)] ∧ sl1 = [some (.p 0), some (.d (encI ns)), some (.d (.int u)), some (.p 1), none] ∧ fillW m ks u = some (fillS ns (some t))) ((keysOf (ns.filter fun n => decide (n < t))).length + 1) ⟨_, _, rfl, rfl, fillS_some ns t⟩ fun m ob2 sl2 hW => ?_
    obtain ⟨ks, u, rfl, rfl, hW⟩ := hW
    refine wt_w ?_
    refine' ww_andV ?_ (fun hh2 => ?_) ?_
    rotate_left 2
    · refine wt_notN ?_
      refine we_name 2 rfl ?_
      exact ⟨rfl, rfl⟩
    · refine ww_and1 ?_
      refine wt_inD ct ?_
      refine we_sub ?_
      refine we_name 2 rfl ?_
      refine we_int ?_
      refine ⟨_, _, rfl, rfl, ?_⟩
      refine we_name 3 rfl ?_
      refine ⟨(.inl _), _, rfl, rfl, _, rfl, ?_⟩
      exact ⟨rfl, rfl⟩
    refine ⟨fun hh3 => ?_, fun hh4 => ?_⟩
    · have e0 : (valD (heldL ks) (.inl (u - 1))).isSome = true := hh3
      have e1 := e0
      rw [held_val, decide_eq_true_iff] at e1
      obtain ⟨m1, rfl, e2⟩ := fillW_step e1 hW
      refine ⟨m1, Nat.lt_succ_self _, ?_⟩
      refine wss_cons ?_
      refine ws_set 2 ?_ ct.nd
      refine we_sub ?_
      refine we_name 2 rfl ?_
      refine we_int ?_
      refine ⟨_, _, rfl, rfl, ?_⟩
      refine wss_one ?_
      refine ws_delD ?_
      refine we_name 3 rfl ?_
      refine we_name 2 rfl ?_
      refine ⟨_, (.inl _), _, rfl, rfl, rfl, e0 /- s0 -/, ?_⟩
      exact ⟨_, _, by rw [held_drop]; rfl, rfl, e2⟩ -- next0
    · have e0 : (valD (heldL ks) (.inl (u - 1))).isSome = false := hh4
      rw [held_val, decide_eq_false_iff_not] at e0
      have e3 := fillW_stop e0 hW
      refine wss_one ?_
      refine ws_fld2 0 0 T.cls_Lets T.na_Lets__held T.na_Lets__start rfl ?_
      refine wa_cons (we_data ?_)
      refine we_name 3 rfl ?_
      refine wa_cons (we_data ?_)
      refine we_name 2 rfl ?_
      refine wa_nil ?_
      refine ⟨_, _, _, rfl, rfl, (Nat.lt_trans hz (by decide)) /- s1 -/, ?_⟩
      rw [e3] at hP; exact hP _ -- end0
def sp_Lets___init__ (K : PySem.W.Frag) : FS := fun rs ob P => ∃ (ns : List Int), rs = [.p 0, .d (encI ns), .d .non] ∧ ob = [.ins (He.ga K "Lets") []] ∧ ns.length ≤ 200 ∧ (∀ n ∈ ns, 1 ≤ n ∧ n ≤ 1000) ∧
  ∀ more, P (.d .non) (.ins (He.ga K "Lets") (lfR (fillS ns none).1 (fillS ns none).2) :: more)
theorem mk_Lets1 (T : Tx K mg) : Maker P w K mg base "Lets" (He.ga K "Lets") 3 ["self", "numbers", "start"] [.non] (sp_Lets___init__ K) := by
  refine T.d_Lets___init__.maker 2 0 [.non] (fun S => (Reps.one (rep_non.mpr rfl))) sc_Lets___init__ (by decide) rfl (fun _ _ _ _ _ _ _ us its hl hi => match us, hl, its, hi with | [_, _], _, [_], _ => ⟨_, rfl, rfl⟩) (fun rs ob P h => by obtain ⟨ns, rfl, rfl, hz, hb, hP⟩ := h; rfl) fun a cdv A outer s H E ct rs ob P h => ?_
  obtain ⟨ns, rfl, rfl, hz, hb, hP⟩ := h
  refine wss_cons ?_
  refine ws_if ?_
  refine wt_w ?_
  refine' ww_orV ?_ (fun hh1 => ?_) ?_
  rotate_left 2
  · refine wt_not ?_
    refine wt_val ?_
    refine we_isi .list T.z_isinstance T.z_list ?_
    refine we_name 1 rfl ?_
    refine ⟨rfl /- s0 -/, ?_⟩
    refine ⟨trivial, ?_⟩
    exact ⟨rfl, rfl⟩
  · refine ww_or1 ?_
    refine wt_gt ?_
    refine we_len T.z_len ?_
    refine we_name 1 rfl ?_
    refine T.c_MOST_NUMBERS.elim fun _ hg => we_gint hg ?_
    refine ⟨_, _, rfl, rfl, _, rfl, ?_⟩
    exact ⟨rfl, rfl⟩
  refine ⟨fun hi0t => ?_, fun hi0f => ?_⟩
  · have e : decide ((200 : Int) < ((ns.map Dt.int).length : Int)) = true := hi0t
    rw [decide_eq_true_iff, List.length_map] at e
    exact absurd e (by omega)
  · refine wss_nil ?_
    refine wss_cons ?_
    refine ws_if ?_
    refine wt_neI ct ?_
    refine we_lcP (own := false) (t := .one 3) (ow := [("number", 3)]) ct (lcP_filter (.int) rfl (fun _ _ _ _ _ => pg_name ct.nd (i := 3) rfl (by first | exact Or.inl rfl | exact Or.inr rfl)) ?_) (blkOk_by (by kernel_rfl))
    refine wi_lst ?_
    refine we_name 1 rfl ?_
    refine ⟨_, rfl, fun hsz => ?_⟩
    refine ⟨hsz, ns, fun n => !isBet n 1 1000, .int, rfl, fun a ha => ⟨_, rfl, fun s H C cl fp => ?_, fun hf s H C cl fp => ?_⟩, ?_⟩
    · refine wt_not ?_
      refine wt_val ?_
      refine we_call false (f_is_between T) ct.blk (by decide) ?_
      refine wa_cons ?_
      refine we_name 3 rfl ?_
      refine wa_cons ?_
      refine we_int ?_
      refine wa_cons ?_
      refine T.c_MOST_COUNT.elim fun _ hg => we_gint hg ?_
      refine wa_nil ?_
      refine ⟨[_, _, _], rfl, ?_⟩
      refine ⟨_, _, some _, rfl, ?_⟩
      refine ⟨_, rfl, ?_⟩
      refine ⟨trivial, ?_⟩
      exact ⟨rfl, rfl⟩
    · refine we_name 3 rfl ?_
      exact ⟨rfl, rfl⟩
    refine we_lst false ?_
    refine wa_nil ?_
    refine ⟨[], rfl, Nat.le_of_ble_eq_true rfl, ?_⟩
    refine ⟨_, [], rfl, rfl, _, rfl, ?_⟩
    refine ⟨fun hi1t => ?_, fun hi1f => ?_⟩
    · have e : (!decide (ns.filter (fun n => !isBet n 1 1000) = [])) = true := hi1t
      rw [filter_bet hb] at e
      exact (Bool.false_ne_true e).elim
    · refine wss_nil ?_
      refine wss_cons ?_
      refine ws_if ?_
      refine wt_w ?_
      refine' ww_andV (c2 := false) ?_ (fun hh2 => ?_) ?_
      rotate_left 1
      · refine wt_notN ?_
        refine we_name 2 rfl ?_
        exact ⟨rfl, rfl⟩
      · exact (Bool.false_ne_true hh2).elim
      refine ⟨fun hi2t => ?_, fun hi2f => ?_⟩
      · exact (Bool.false_ne_true hi2t).elim
      · refine wss_nil ?_
        refine wss_one ?_
        refine ws_expr ?_
        refine we_methO id T.cls_Lets (m_Lets__fill T) ct (by decide) ?_
        refine we_name 0 rfl ?_
        refine ⟨_, _, rfl, rfl, rfl, ?_⟩
        refine wa_cons ?_
        refine we_name 1 rfl ?_
        refine wa_cons ?_
        refine we_name 2 rfl ?_
        refine wa_nil ?_
        refine ⟨[_, _], _, rfl, rfl, rfl, ?_⟩
        refine ⟨_, none, _, rfl, rfl, by decide, fun more => ?_⟩
        refine ⟨_, _, _, rfl, rfl, rfl, ?_⟩
        exact hP _ -- end0
def sp_Lets___init___2 (K : PySem.W.Frag) : FS := fun rs ob P => ∃ (ns : List Int) (st : Option Int), rs = [.p 0, .d (encI ns), .d (optD st)] ∧ ob = [.ins (He.ga K "Lets") []] ∧ ns.length ≤ 200 ∧ (∀ n ∈ ns, 1 ≤ n ∧ n ≤ 1000) ∧ stOk st = true ∧
  ∀ more, P (.d .non) (.ins (He.ga K "Lets") (lfR (fillS ns st).1 (fillS ns st).2) :: more)
theorem mk_Lets2 (T : Tx K mg) : Maker P w K mg base "Lets" (He.ga K "Lets") 3 ["self", "numbers", "start"] [] (sp_Lets___init___2 K) := by
  refine T.d_Lets___init__.maker 3 1 [] (fun S => reps_nil.mpr rfl) sc_Lets___init__ (by decide) rfl (fun _ _ _ _ _ _ _ us its hl hi => match us, hl, its, hi with | [_, _, _], _, [_], _ => ⟨_, rfl, rfl⟩) (fun rs ob P h => by obtain ⟨ns, st, rfl, rfl, hz, hb, hst, hP⟩ := h; rfl) fun a cdv A outer s H E ct rs ob P h => ?_
  obtain ⟨ns, st, rfl, rfl, hz, hb, hst, hP⟩ := h
  cases st
  · refine wss_cons ?_
    refine ws_if ?_
    refine wt_w ?_
    refine' ww_orV ?_ (fun hh1 => ?_) ?_
    rotate_left 2
    · refine wt_not ?_
      refine wt_val ?_
      refine we_isi .list T.z_isinstance T.z_list ?_
      refine we_name 1 rfl ?_
      refine ⟨rfl /- s0 -/, ?_⟩
      refine ⟨trivial, ?_⟩
      exact ⟨rfl, rfl⟩
    · refine ww_or1 ?_
      refine wt_gt ?_
      refine we_len T.z_len ?_
      refine we_name 1 rfl ?_
      refine T.c_MOST_NUMBERS.elim fun _ hg => we_gint hg ?_
      refine ⟨_, _, rfl, rfl, _, rfl, ?_⟩
      exact ⟨rfl, rfl⟩
    refine ⟨fun hi0t => ?_, fun hi0f => ?_⟩
    · have e : decide ((200 : Int) < ((ns.map Dt.int).length : Int)) = true := hi0t
      rw [decide_eq_true_iff, List.length_map] at e
      exact absurd e (by omega)
    · refine wss_nil ?_
      refine wss_cons ?_
      refine ws_if ?_
      refine wt_neI ct ?_
      refine we_lcP (own := false) (t := .one 3) (ow := [("number", 3)]) ct (lcP_filter (.int) rfl (fun _ _ _ _ _ => pg_name ct.nd (i := 3) rfl (by first | exact Or.inl rfl | exact Or.inr rfl)) ?_) (blkOk_by (by kernel_rfl))
      refine wi_lst ?_
      refine we_name 1 rfl ?_
      refine ⟨_, rfl, fun hsz => ?_⟩
      refine ⟨hsz, ns, fun n => !isBet n 1 1000, .int, rfl, fun a ha => ⟨_, rfl, fun s H C cl fp => ?_, fun hf s H C cl fp => ?_⟩, ?_⟩
      · refine wt_not ?_
        refine wt_val ?_
        refine we_call false (f_is_between T) ct.blk (by decide) ?_
        refine wa_cons ?_
        refine we_name 3 rfl ?_
        refine wa_cons ?_
        refine we_int ?_
        refine wa_cons ?_
        refine T.c_MOST_COUNT.elim fun _ hg => we_gint hg ?_
        refine wa_nil ?_
        refine ⟨[_, _, _], rfl, ?_⟩
        refine ⟨_, _, some _, rfl, ?_⟩
        refine ⟨_, rfl, ?_⟩
        refine ⟨trivial, ?_⟩
        exact ⟨rfl, rfl⟩
      · refine we_name 3 rfl ?_
        exact ⟨rfl, rfl⟩
      refine we_lst false ?_
      refine wa_nil ?_
      refine ⟨[], rfl, Nat.le_of_ble_eq_true rfl, ?_⟩
      refine ⟨_, [], rfl, rfl, _, rfl, ?_⟩
      refine ⟨fun hi1t => ?_, fun hi1f => ?_⟩
      · have e : (!decide (ns.filter (fun n => !isBet n 1 1000) = [])) = true := hi1t
        rw [filter_bet hb] at e
        exact (Bool.false_ne_true e).elim
      · refine wss_nil ?_
        refine wss_cons ?_
        refine ws_if ?_
        refine wt_w ?_
        refine' ww_andV (c2 := false) ?_ (fun hh2 => ?_) ?_
        rotate_left 1
        · refine wt_notN ?_
          refine we_name 2 rfl ?_
          exact ⟨rfl, rfl⟩
        · exact (Bool.false_ne_true hh2).elim
        refine ⟨fun hi2t => ?_, fun hi2f => ?_⟩
        · exact (Bool.false_ne_true hi2t).elim
        · refine wss_nil ?_
          refine wss_one ?_
          refine ws_expr ?_
          refine we_methO id T.cls_Lets (m_Lets__fill T) ct (by decide) ?_
          refine we_name 0 rfl ?_
          refine ⟨_, _, rfl, rfl, rfl, ?_⟩
          refine wa_cons ?_
          refine we_name 1 rfl ?_
          refine wa_cons ?_
          refine we_name 2 rfl ?_
          refine wa_nil ?_
          refine ⟨[_, _], _, rfl, rfl, rfl, ?_⟩
          refine ⟨_, none, _, rfl, rfl, by decide, fun more => ?_⟩
          refine ⟨_, _, _, rfl, rfl, rfl, ?_⟩
          exact hP _ -- end0
  · rename_i t
    have ht := stOk_1 hst
    refine wss_cons ?_
    refine ws_if ?_
    refine wt_w ?_
    refine' ww_orV ?_ (fun hh1 => ?_) ?_
    rotate_left 2
    · refine wt_not ?_
      refine wt_val ?_
      refine we_isi .list T.z_isinstance T.z_list ?_
      refine we_name 1 rfl ?_
      refine ⟨rfl /- s0 -/, ?_⟩
      refine ⟨trivial, ?_⟩
      exact ⟨rfl, rfl⟩
    · refine ww_or1 ?_
      refine wt_gt ?_
      refine we_len T.z_len ?_
      refine we_name 1 rfl ?_
      refine T.c_MOST_NUMBERS.elim fun _ hg => we_gint hg ?_
      refine ⟨_, _, rfl, rfl, _, rfl, ?_⟩
      exact ⟨rfl, rfl⟩
    refine ⟨fun hi0t => ?_, fun hi0f => ?_⟩
    · have e : decide ((200 : Int) < ((ns.map Dt.int).length : Int)) = true := hi0t
      rw [decide_eq_true_iff, List.length_map] at e
      exact absurd e (by omega)
    · refine wss_nil ?_
      refine wss_cons ?_
      refine ws_if ?_
      refine wt_neI ct ?_
      refine we_lcP (own := false) (t := .one 3) (ow := [("number", 3)]) ct (lcP_filter (.int) rfl (fun _ _ _ _ _ => pg_name ct.nd (i := 3) rfl (by first | exact Or.inl rfl | exact Or.inr rfl)) ?_) (blkOk_by (by kernel_rfl))
      refine wi_lst ?_
      refine we_name 1 rfl ?_
      refine ⟨_, rfl, fun hsz => ?_⟩
      refine ⟨hsz, ns, fun n => !isBet n 1 1000, .int, rfl, fun a ha => ⟨_, rfl, fun s H C cl fp => ?_, fun hf s H C cl fp => ?_⟩, ?_⟩
      · refine wt_not ?_
        refine wt_val ?_
        refine we_call false (f_is_between T) ct.blk (by decide) ?_
        refine wa_cons ?_
        refine we_name 3 rfl ?_
        refine wa_cons ?_
        refine we_int ?_
        refine wa_cons ?_
        refine T.c_MOST_COUNT.elim fun _ hg => we_gint hg ?_
        refine wa_nil ?_
        refine ⟨[_, _, _], rfl, ?_⟩
        refine ⟨_, _, some _, rfl, ?_⟩
        refine ⟨_, rfl, ?_⟩
        refine ⟨trivial, ?_⟩
        exact ⟨rfl, rfl⟩
      · refine we_name 3 rfl ?_
        exact ⟨rfl, rfl⟩
      refine we_lst false ?_
      refine wa_nil ?_
      refine ⟨[], rfl, Nat.le_of_ble_eq_true rfl, ?_⟩
      refine ⟨_, [], rfl, rfl, _, rfl, ?_⟩
      refine ⟨fun hi1t => ?_, fun hi1f => ?_⟩
      · have e : (!decide (ns.filter (fun n => !isBet n 1 1000) = [])) = true := hi1t
        rw [filter_bet hb] at e
        exact (Bool.false_ne_true e).elim
      · refine wss_nil ?_
        refine wss_cons ?_
        refine ws_if ?_
        refine wt_w ?_
        refine' ww_andV ?_ (fun hh2 => ?_) ?_
        rotate_left 2
        · refine wt_notN ?_
          refine we_name 2 rfl ?_
          exact ⟨rfl, rfl⟩
        · refine ww_and1 ?_
          refine wt_not ?_
          refine wt_val ?_
          refine we_call false (f_is_between T) ct (by decide) ?_
          refine wa_cons ?_
          refine we_name 2 rfl ?_
          refine wa_cons ?_
          refine we_int ?_
          refine wa_cons ?_
          refine T.c_MOST_COUNT.elim fun _ hg => we_gint hg ?_
          refine wa_nil ?_
          refine ⟨[_, _, _], rfl, ?_⟩
          refine ⟨_, _, some _, rfl, ?_⟩
          refine ⟨_, rfl, ?_⟩
          refine ⟨trivial, ?_⟩
          exact ⟨rfl, rfl⟩
        refine ⟨fun hi2t => ?_, fun hi2f => ?_⟩
        · rw [show isBetO t 1 (some 1000) = true from by show isBet t 1 1000 = true; rw [isBet, decide_eq_true ht.1, decide_eq_true ht.2]; rfl] at hi2t
          simp [DL.truD] at hi2t
        · refine wss_nil ?_
          refine wss_one ?_
          refine ws_expr ?_
          refine we_methO id T.cls_Lets (m_Lets__fill T) ct (by decide) ?_
          refine we_name 0 rfl ?_
          refine ⟨_, _, rfl, rfl, rfl, ?_⟩
          refine wa_cons ?_
          refine we_name 1 rfl ?_
          refine wa_cons ?_
          refine we_name 2 rfl ?_
          refine wa_nil ?_
          refine ⟨[_, _], _, rfl, rfl, rfl, ?_⟩
          refine ⟨_, some t, _, rfl, rfl, by decide, fun more => ?_⟩
          refine ⟨_, _, _, rfl, rfl, rfl, ?_⟩
          exact hP _ -- end0
def sp_Lets_numbers (K : PySem.W.Frag) : FS := fun rs ob P => ∃ (ks : List Int) (st : Option Int), rs = [.d (letsD (He.ga K "Lets") ks st)] ∧ ob = [] ∧ P (.p 0) [.lst ((sortI ks).map .int)]
theorem m_Lets_numbers (T : Tx K mg) : Mt P w K mg base (He.ga K "Lets") "numbers" 1 ["self"] (sp_Lets_numbers K) := by
  refine T.d_Lets_numbers.mt sc_Lets_numbers (fun _ _ _ _ _ _ us hl => match us, hl with | [_], _ => rfl) (fun rs ob P h => by obtain ⟨ks, st, rfl, rfl, hP⟩ := h; rfl) fun a cdv A outer s H E ct rs ob P h => ?_
  obtain ⟨ks, st, rfl, rfl, hP⟩ := h
  refine wss_one ?_
  refine ws_ret ?_
  refine we_sorted true ct T.z_sorted ?_
  refine we_listD false ct T.z_list ?_
  refine we_fld T.cls_Lets T.na_Lets__held ?_
  refine we_name 0 rfl ?_
  refine ⟨_, _, rfl, rfl, ?_⟩
  refine ⟨_, rfl, ?_⟩
  rw [held_keys]
  refine ⟨sortOk_ints _ /- s0 -/, ?_⟩
  rw [sortD_ints, mergeI]
  exact hP -- ret0
def sp_Lets_start (K : PySem.W.Frag) : FS := fun rs ob P => ∃ (ks : List Int) (st : Option Int), rs = [.d (letsD (He.ga K "Lets") ks st)] ∧ P (.d (optD st)) ob
theorem m_Lets_start (T : Tx K mg) : Mt P w K mg base (He.ga K "Lets") "start" 1 ["self"] (sp_Lets_start K) := by
  refine T.d_Lets_start.mt sc_Lets_start (fun _ _ _ _ _ _ us hl => match us, hl with | [_], _ => rfl) (fun rs ob P h => by obtain ⟨ks, st, rfl, hP⟩ := h; rfl) fun a cdv A outer s H E ct rs ob P h => ?_
  obtain ⟨ks, st, rfl, hP⟩ := h
  refine wss_one ?_
  refine ws_ret ?_
  refine we_fld T.cls_Lets T.na_Lets__start ?_
  refine we_name 0 rfl ?_
  refine ⟨_, _, rfl, rfl, ?_⟩
  exact hP -- ret0
def sp_Lets___contains__ (K : PySem.W.Frag) : FS := fun rs ob P => ∃ (ks : List Int) (st : Option Int) (x : Int), rs = [.d (letsD (He.ga K "Lets") ks st), .d (.int x)] ∧ P (.d (.bl (inL ks st x))) ob
theorem m_Lets___contains__ (T : Tx K mg) : Mt P w K mg base (He.ga K "Lets") "__contains__" 2 ["self", "value"] (sp_Lets___contains__ K) := by
  refine T.d_Lets___contains__.mt sc_Lets___contains__ (fun _ _ _ _ _ _ us hl => match us, hl with | [_, _], _ => rfl) (fun rs ob P h => by obtain ⟨ks, st, x, rfl, hP⟩ := h; rfl) fun a cdv A outer s H E ct rs ob P h => ?_
  obtain ⟨ks, st, x, rfl, hP⟩ := h
  cases st
  · refine wss_cons ?_
    refine ws_if ?_
    refine wt_not ?_
    refine wt_val ?_
    refine we_call false (f_is_whole T) ct (by decide) ?_
    refine wa_cons ?_
    refine we_name 1 rfl ?_
    refine wa_nil ?_
    refine ⟨[_], rfl, ?_⟩
    refine ⟨_, rfl, rfl, ?_⟩
    refine ⟨_, rfl, ?_⟩
    refine ⟨trivial, ?_⟩
    refine ⟨fun hi0t => ?_, fun hi0f => ?_⟩
    · exact (Bool.false_ne_true hi0t).elim
    · refine wss_nil ?_
      refine wss_one ?_
      refine ws_ret ?_
      refine' we_orV ?_ (fun hh1 => ?_) ?_
      rotate_left 2
      · refine we_inD ct ?_
        refine we_name 1 rfl ?_
        refine we_fld T.cls_Lets T.na_Lets__held ?_
        refine we_name 0 rfl ?_
        refine ⟨_, _, rfl, rfl, ?_⟩
        refine ⟨.inl _, _, rfl, rfl, ?_⟩
        exact ⟨rfl, rfl⟩
      · refine we_one ?_
        refine' we_andV (c2 := false) ?_ (fun hh2 => ?_) ?_
        rotate_left 1
        · refine we_notN ?_
          refine we_fld T.cls_Lets T.na_Lets__start ?_
          refine we_name 0 rfl ?_
          refine ⟨_, _, rfl, rfl, ?_⟩
          exact ⟨rfl, rfl⟩
        · exact (Bool.false_ne_true hh2).elim
        exact ⟨rfl, rfl⟩
      rw [inL, ← held_val] at hP
      exact hP -- ret0
  · rename_i t
    refine wss_cons ?_
    refine ws_if ?_
    refine wt_not ?_
    refine wt_val ?_
    refine we_call false (f_is_whole T) ct (by decide) ?_
    refine wa_cons ?_
    refine we_name 1 rfl ?_
    refine wa_nil ?_
    refine ⟨[_], rfl, ?_⟩
    refine ⟨_, rfl, rfl, ?_⟩
    refine ⟨_, rfl, ?_⟩
    refine ⟨trivial, ?_⟩
    refine ⟨fun hi0t => ?_, fun hi0f => ?_⟩
    · exact (Bool.false_ne_true hi0t).elim
    · refine wss_nil ?_
      refine wss_one ?_
      refine ws_ret ?_
      refine' we_orV ?_ (fun hh1 => ?_) ?_
      rotate_left 2
      · refine we_inD ct ?_
        refine we_name 1 rfl ?_
        refine we_fld T.cls_Lets T.na_Lets__held ?_
        refine we_name 0 rfl ?_
        refine ⟨_, _, rfl, rfl, ?_⟩
        refine ⟨.inl _, _, rfl, rfl, ?_⟩
        exact ⟨rfl, rfl⟩
      · refine we_one ?_
        refine' we_andV ?_ (fun hh2 => ?_) ?_
        rotate_left 2
        · refine we_notN ?_
          refine we_fld T.cls_Lets T.na_Lets__start ?_
          refine we_name 0 rfl ?_
          refine ⟨_, _, rfl, rfl, ?_⟩
          exact ⟨rfl, rfl⟩
        · refine we_one ?_
          refine we_ge ?_
          refine we_name 1 rfl ?_
          refine we_fld T.cls_Lets T.na_Lets__start ?_
          refine we_name 0 rfl ?_
          refine ⟨_, _, rfl, rfl, ?_⟩
          refine ⟨_, _, rfl, rfl, ?_⟩
          exact ⟨rfl, rfl⟩
        exact ⟨rfl, rfl⟩
      rw [inL, ← held_val] at hP
      exact hP -- ret0
def sp_numbers_to (K : PySem.W.Frag) : FS := fun rs ob P => ∃ (ks : List Int) (st : Option Int) (most : Int), rs = [.d (letsD (He.ga K "Lets") ks st), .d (.int most)] ∧ ob = [] ∧ ks.length ≤ 5000 ∧ stOk st = true ∧ -10 ≤ most ∧ most ≤ 10000 ∧ P (.p 0) [.lst ((numsG ks st most).map .int)]
theorem f_numbers_to (T : Tx K mg) : Fn P w K mg base "numbers_to" s_numbers_to 2 ["lets", "most"] (sp_numbers_to K) := by
  refine T.d_numbers_to.fn sc_numbers_to (fun _ _ _ _ _ _ us hl => match us, hl with | [_, _], _ => rfl) (fun rs ob P h => by obtain ⟨ks, st, most, rfl, rfl, hz, hst, q1, q2, hP⟩ := h; rfl) fun a cdv A outer s H E ct rs ob P h => ?_
  obtain ⟨ks, st, most, rfl, rfl, hz, hst, q1, q2, hP⟩ := h
  cases st
  · refine wss_cons ?_
    refine ws_if ?_
    refine wt_isN ?_
    refine we_meth0 false T.cls_Lets (m_Lets_start T) ct (by decide) ?_
    refine we_name 0 rfl ?_
    refine ⟨_, rfl, rfl, ?_⟩
    refine ⟨_, _, rfl, ?_⟩
    refine ⟨_, rfl, ?_⟩
    refine ⟨fun hi0t => ?_, fun hi0f => ?_⟩
    · refine wss_one ?_
      refine ws_ret ?_
      refine we_lcP (own := true) (t := .one 2) (ow := [("number", 2)]) ct (lcP_filter (.int) rfl (fun _ _ _ _ _ => pg_name ct.nd (i := 2) rfl (by first | exact Or.inl rfl | exact Or.inr rfl)) ?_) (blkOk_by (by kernel_rfl))
      refine wi_lst ?_
      refine we_meth0 false T.cls_Lets (m_Lets_numbers T) ct (by decide) ?_
      refine we_name 0 rfl ?_
      refine ⟨_, rfl, rfl, ?_⟩
      refine ⟨_, _, rfl, rfl, ?_⟩
      refine ⟨_, rfl, ?_⟩
      refine ⟨_, rfl, fun hsz => ?_⟩
      refine ⟨hsz, sortI ks, fun n => decide (n ≤ most), .int, rfl, fun a ha => ⟨_, rfl, fun s H C cl fp => ?_, fun hf s H C cl fp => ?_⟩, ?_⟩
      · refine wt_le ?_
        refine we_name 2 rfl ?_
        refine we_name 1 rfl ?_
        refine ⟨_, _, rfl, rfl, _, rfl, ?_⟩
        exact ⟨rfl, rfl⟩
      · refine we_name 2 rfl ?_
        exact ⟨rfl, rfl⟩
      exact hP -- ret0
    · exact (Bool.false_ne_true hi0f.symm).elim
  · rename_i t
    have ht := stOk_1 hst
    refine wss_cons ?_
    refine ws_if ?_
    refine wt_isN ?_
    refine we_meth0 false T.cls_Lets (m_Lets_start T) ct (by decide) ?_
    refine we_name 0 rfl ?_
    refine ⟨_, rfl, rfl, ?_⟩
    refine ⟨_, _, rfl, ?_⟩
    refine ⟨_, rfl, ?_⟩
    refine ⟨fun hi0t => ?_, fun hi0f => ?_⟩
    · exact (Bool.false_ne_true hi0t).elim
    · refine wss_nil ?_
      refine wss_one ?_
      refine ws_ret ?_
      refine we_add true ?_
      refine we_lcP (own := false) (t := .one 2) (ow := [("number", 2)]) ct (lcP_filter (.int) rfl (fun _ _ _ _ _ => pg_name ct.nd (i := 2) rfl (by first | exact Or.inl rfl | exact Or.inr rfl)) ?_) (blkOk_by (by kernel_rfl))
      refine wi_lst ?_
      refine we_meth0 false T.cls_Lets (m_Lets_numbers T) ct (by decide) ?_
      refine we_name 0 rfl ?_
      refine ⟨_, rfl, rfl, ?_⟩
      refine ⟨_, _, rfl, rfl, ?_⟩
      refine ⟨_, rfl, ?_⟩
      refine ⟨_, rfl, fun hsz => ?_⟩
      refine ⟨hsz, sortI ks, fun n => decide (n ≤ most), .int, rfl, fun a ha => ⟨_, rfl, fun s H C cl fp => ?_, fun hf s H C cl fp => ?_⟩, ?_⟩
      · refine wt_le ?_
        refine we_name 2 rfl ?_
        refine we_name 1 rfl ?_
        refine ⟨_, _, rfl, rfl, _, rfl, ?_⟩
        exact ⟨rfl, rfl⟩
      · refine we_name 2 rfl ?_
        exact ⟨rfl, rfl⟩
      refine we_listRg2 false ct T.z_list T.z_range ?_
      refine we_meth0 false T.cls_Lets (m_Lets_start T) ct (by decide) ?_
      refine we_name 0 rfl ?_
      refine ⟨_, rfl, rfl, ?_⟩
      refine ⟨_, _, rfl, ?_⟩
      refine ⟨_, rfl, ?_⟩
      refine we_add false ?_
      refine we_name 1 rfl ?_
      refine we_int ?_
      refine ⟨_, _, rfl, rfl, ⟨by omega, by omega, by omega, by omega⟩ /- s0 -/, ?_⟩
      refine ⟨(nums_sz hz ht.1 q2) /- s1 -/, ?_⟩
      rw [← List.map_append]
      exact hP -- ret0
def sp_bound_of (K : PySem.W.Frag) : FS := fun rs ob P => ∃ (ks : List Int) (st : Option Int), rs = [.d (letsD (He.ga K "Lets") ks st)] ∧ ks.length ≤ 5000 ∧ P (.d (.int (boundG ks st))) ob
theorem f_bound_of (T : Tx K mg) : Fn P w K mg base "bound_of" s_bound_of 2 ["lets"] (sp_bound_of K) := by
  refine T.d_bound_of.fn sc_bound_of (fun _ _ _ _ _ _ us hl => match us, hl with | [_], _ => rfl) (fun rs ob P h => by obtain ⟨ks, st, rfl, hz, hP⟩ := h; rfl) fun a cdv A outer s H E ct rs ob P h => ?_
  obtain ⟨ks, st, rfl, hz, hP⟩ := h
  cases st
  · refine wss_cons ?_
    refine ws_set 1 ?_ ct.nd
    refine' we_ifV (w := 0) (Dt.int) ?_ (fun hh1 => ?_) (fun hh2 => ?_) ?_
    rotate_left 2
    · refine wt_isN ?_
      refine we_meth0 false T.cls_Lets (m_Lets_start T) ct (by decide) ?_
      refine we_name 0 rfl ?_
      refine ⟨_, rfl, rfl, ?_⟩
      refine ⟨_, _, rfl, ?_⟩
      refine ⟨_, rfl, ?_⟩
      exact ⟨rfl, rfl⟩
    · refine we_int ?_
      exact ⟨rfl, rfl⟩
    · exact (Bool.false_ne_true hh2.symm).elim
    refine wss_one ?_
    refine ws_ret ?_
    refine we_maxL ct T.z_max ?_
    refine we_add false ?_
    refine we_meth0 false T.cls_Lets (m_Lets_numbers T) ct (by decide) ?_
    refine we_name 0 rfl ?_
    refine ⟨_, rfl, rfl, ?_⟩
    refine ⟨_, _, rfl, rfl, ?_⟩
    refine ⟨_, rfl, ?_⟩
    refine we_lst false ?_
    refine wa_cons ?_
    refine we_name 1 rfl ?_
    refine wa_nil ?_
    refine ⟨[_], rfl, Nat.le_of_ble_eq_true rfl, ?_⟩
    refine ⟨(by rw [List.length_map, (sortI_perm ks).length_eq]; exact Nat.le_trans (Nat.add_le_add_right hz 1) (by decide)) /- s0 -/, ?_⟩
    rw [show List.map Dt.int (sortI ks) ++ [Dt.int (bif DL.isNon (R.d (optD none)) then 0 else 0)] = (sortI ks ++ [startI none]).map Dt.int from by rw [List.map_append]; rfl]
    refine ⟨_, rfl, (by rw [List.length_append]; exact Nat.succ_pos _) /- s1 -/, fun m hm1 hm2 => ?_⟩
    rw [show boundG ks none = m from (maxOf_eq hm1 hm2).symm] at hP
    exact hP -- ret0
  · rename_i t
    refine wss_cons ?_
    refine ws_set 1 ?_ ct.nd
    refine' we_ifV (u := t) (w := t) (Dt.int) ?_ (fun hh1 => ?_) (fun hh2 => ?_) ?_
    rotate_left 1
    · refine wt_isN ?_
      refine we_meth0 false T.cls_Lets (m_Lets_start T) ct (by decide) ?_
      refine we_name 0 rfl ?_
      refine ⟨_, rfl, rfl, ?_⟩
      refine ⟨_, _, rfl, ?_⟩
      refine ⟨_, rfl, ?_⟩
      exact ⟨rfl, rfl⟩
    · exact (Bool.false_ne_true hh1).elim
    · refine we_meth0 false T.cls_Lets (m_Lets_start T) ct (by decide) ?_
      refine we_name 0 rfl ?_
      refine ⟨_, rfl, rfl, ?_⟩
      refine ⟨_, _, rfl, ?_⟩
      refine ⟨_, rfl, ?_⟩
      exact ⟨rfl, rfl⟩
    refine wss_one ?_
    refine ws_ret ?_
    refine we_maxL ct T.z_max ?_
    refine we_add false ?_
    refine we_meth0 false T.cls_Lets (m_Lets_numbers T) ct (by decide) ?_
    refine we_name 0 rfl ?_
    refine ⟨_, rfl, rfl, ?_⟩
    refine ⟨_, _, rfl, rfl, ?_⟩
    refine ⟨_, rfl, ?_⟩
    refine we_lst false ?_
    refine wa_cons ?_
    refine we_name 1 rfl ?_
    refine wa_nil ?_
    refine ⟨[_], rfl, Nat.le_of_ble_eq_true rfl, ?_⟩
    refine ⟨(by rw [List.length_map, (sortI_perm ks).length_eq]; exact Nat.le_trans (Nat.add_le_add_right hz 1) (by decide)) /- s0 -/, ?_⟩
    rw [show List.map Dt.int (sortI ks) ++ [Dt.int (bif DL.isNon (R.d (optD (some t))) then t else t)] = (sortI ks ++ [startI (some t)]).map Dt.int from by rw [List.map_append]; rfl]
    refine ⟨_, rfl, (by rw [List.length_append]; exact Nat.succ_pos _) /- s1 -/, fun m hm1 hm2 => ?_⟩
    rw [show boundG ks (some t) = m from (maxOf_eq hm1 hm2).symm] at hP
    exact hP -- ret0
def sp_fault_to (K : PySem.W.Frag) : FS := fun rs ob P => ∃ (ks : List Int) (st : Option Int) (most : Int), rs = [.d (letsD (He.ga K "Lets") ks st), .d (.int most)] ∧ ks.length ≤ 5000 ∧ stOk st = true ∧ -10 ≤ most ∧ most ≤ 10000 ∧ P (.d (encF (faultG ks st most))) ob
theorem f_fault_to (T : Tx K mg) : Fn P w K mg base "fault_to" s_fault_to 3 ["lets", "most"] (sp_fault_to K) := by
  refine T.d_fault_to.fn sc_fault_to (fun _ _ _ _ _ _ us hl => match us, hl with | [_, _], _ => rfl) (fun rs ob P h => by obtain ⟨ks, st, most, rfl, hz, hst, z1, z2, hP⟩ := h; rfl) fun a cdv A outer s H E ct rs ob P h => ?_
  obtain ⟨ks, st, most, rfl, hz, hst, z1, z2, hP⟩ := h
  refine wss_cons ?_
  refine ws_par (j := 3) 2 rfl ct.nd ?_ rfl rfl (by decide) (ps_par rfl ct.nd rfl rfl (by decide) rfl rfl pa_wp rfl)
  refine wa_cons ?_
  refine we_call false (f_numbers_to T) ct (by decide) ?_
  refine wa_cons ?_
  refine we_name 0 rfl ?_
  refine wa_cons ?_
  refine we_name 1 rfl ?_
  refine wa_nil ?_
  refine ⟨[_, _], rfl, ?_⟩
  refine ⟨_, _, _, rfl, rfl, (by first | assumption | omega | decide) /- s0 -/, (by first | assumption | omega | decide) /- s1 -/, (by first | assumption | omega | decide) /- s2 -/, (by first | assumption | omega | decide) /- s3 -/, ?_⟩
  refine ⟨_, rfl, ?_⟩
  refine wa_cons ?_
  refine we_non ?_
  refine wa_nil ?_
  refine ⟨_, _, rfl, ?_⟩
  refine wss_cons ?_
  refine ws_for (t := .one 4) ct (pg_name ct.nd (i := 4) rfl (by first | exact Or.inl rfl | exact Or.inr rfl)) ?_
  refine wi_lst ?_
  refine we_name 2 rfl ?_
  refine ⟨_, rfl, fun hsz => ?_⟩
  refine ⟨fun i ob1 sl1 => ob = ob1 ∧ ∃ x y : Option R, sl1 = [some (.d (letsD (He.ga K "Lets") ks st)), some (.d (.int most)), some (.d (encI (numsG ks st most))), some (.d (encF (((numsG ks st most).take i).foldl (fun fo low => (numsG ks st most).foldl (stepG ks st most low) fo) none))), x, y], ⟨rfl, none, none, rfl⟩, fun i d ob2 sl2 hd hJ => ?_, fun ob2 sl2 hJ => ?_⟩
  · obtain ⟨low, hlow, rfl⟩ := get_map hd
    obtain ⟨rfl, x, y, rfl⟩ := hJ
    refine ⟨_, rfl, ?_⟩
    generalize hfo : ((numsG ks st most).take i).foldl (fun fo low => (numsG ks st most).foldl (stepG ks st most low) fo) none = fo
    refine wss_one ?_
    refine ws_for (t := .one 5) ct (pg_name ct.nd (i := 5) rfl (by first | exact Or.inl rfl | exact Or.inr rfl)) ?_
    refine wi_lst ?_
    refine we_name 2 rfl ?_
    refine ⟨_, rfl, fun hsz => ?_⟩
    refine ⟨fun i ob1 sl1 => ob = ob1 ∧ ∃ y : Option R, sl1 = [some (.d (letsD (He.ga K "Lets") ks st)), some (.d (.int most)), some (.d (encI (numsG ks st most))), some (.d (encF (((numsG ks st most).take i).foldl (stepG ks st most low) fo))), some (.d (.int low)), y], ⟨rfl, _, rfl⟩, fun i d ob2 sl2 hd hJ => ?_, fun ob2 sl2 hJ => ?_⟩
    · obtain ⟨high, hhigh, rfl⟩ := get_map hd
      obtain ⟨rfl, y, rfl⟩ := hJ
      refine ⟨_, rfl, ?_⟩
      generalize hf : ((numsG ks st most).take i).foldl (stepG ks st most low) fo = f1
      refine wss_one ?_
      refine ws_if ?_
      refine wt_w ?_
      refine' ww_andV ?_ (fun hh1 => ?_) ?_
      rotate_left 2
      · refine wt_le ?_
        refine we_name 4 rfl ?_
        refine we_name 5 rfl ?_
        refine ⟨_, _, rfl, rfl, _, rfl, ?_⟩
        exact ⟨rfl, rfl⟩
      · refine' ww_andV ?_ (fun hh2 => ?_) ?_
        rotate_left 2
        · refine wt_le ?_
          refine we_add false ?_
          refine we_name 4 rfl ?_
          refine we_name 5 rfl ?_
          refine we_name 1 rfl ?_
          refine ⟨_, _, rfl, rfl, _, rfl, ?_⟩
          exact ⟨rfl, rfl⟩
        · refine ww_and1 ?_
          refine wt_w ?_
          refine' ww_orV (c2 := decide (low + high < sumF f1)) ?_ (fun hh3 => ?_) ?_
          rotate_left 1
          · refine wt_isN ?_
            refine we_name 3 rfl ?_
            exact ⟨rfl, rfl⟩
          · obtain ⟨p, rfl⟩ : ∃ p, f1 = some p := by
              cases f1 with
              | none => exact (Bool.false_ne_true hh3.symm).elim
              | some p => exact ⟨p, rfl⟩
            refine ww_or1 ?_
            refine wt_lt ?_
            refine we_add false ?_
            refine we_name 4 rfl ?_
            refine we_name 5 rfl ?_
            refine we_add false ?_
            refine we_ix ?_
            refine we_name 3 rfl ?_
            refine we_int ?_
            refine ⟨_, rfl, ?_⟩
            refine we_ix ?_
            refine we_name 3 rfl ?_
            refine we_int ?_
            refine ⟨_, rfl, ?_⟩
            refine ⟨_, _, rfl, rfl, _, rfl, ?_⟩
            exact ⟨rfl, rfl⟩
          exact ⟨rfl, rfl⟩
        exact ⟨rfl, rfl⟩
      refine ⟨fun hi0t => ?_, fun hi0f => ?_⟩
      · refine wss_one ?_
        refine ws_if ?_
        refine wt_neB ct ?_
        refine we_inO (m_Lets___contains__ T) ct (by decide) ?_
        refine we_add false ?_
        refine we_name 4 rfl ?_
        refine we_name 5 rfl ?_
        refine we_name 0 rfl ?_
        refine ⟨_, _, rfl, rfl, ?_⟩
        refine ⟨_, _, _, rfl, ?_⟩
        refine ⟨_, rfl, ?_⟩
        refine we_inO (m_Lets___contains__ T) ct (by decide) ?_
        refine we_add false ?_
        refine we_add false ?_
        refine we_name 4 rfl ?_
        refine we_name 5 rfl ?_
        refine we_int ?_
        refine we_name 0 rfl ?_
        refine ⟨_, _, rfl, rfl, ?_⟩
        refine ⟨_, _, _, rfl, ?_⟩
        refine ⟨_, rfl, ?_⟩
        refine ⟨_, _, rfl, rfl, ?_⟩
        refine ⟨fun hi1t => ?_, fun hi1f => ?_⟩
        · refine wss_one ?_
          refine ws_set 3 ?_ ct.nd
          refine we_tup ?_
          refine wa_cons ?_
          refine we_name 4 rfl ?_
          refine wa_cons ?_
          refine we_name 5 rfl ?_
          refine wa_nil ?_
          refine ⟨[_, _], rfl, Nat.le_of_ble_eq_true rfl, ?_⟩
          exact ⟨rfl, some (.d (.int high)), by rw [fold_take hhigh, hf, stepG, if_pos hi0t, if_pos hi1t]; rfl⟩ -- next0
        · refine wss_nil ?_
          exact ⟨rfl, some (.d (.int high)), by rw [fold_take hhigh, hf, stepG, if_pos hi0t, if_neg (by rw [hi1f]; exact Bool.false_ne_true)]; rfl⟩ -- next1
      · refine wss_nil ?_
        exact ⟨rfl, some (.d (.int high)), by rw [fold_take hhigh, hf, stepG, if_neg (by rw [hi0f]; exact Bool.false_ne_true)]; rfl⟩ -- next2
    · obtain ⟨rfl, y, rfl⟩ := hJ
      rw [List.length_map, List.take_length]
      exact ⟨rfl, some (.d (.int low)), y, by rw [fold_take hlow, hfo]⟩ -- next3
  · obtain ⟨rfl, x, y, rfl⟩ := hJ
    rw [List.length_map, List.take_length]
    refine wss_one ?_
    refine ws_ret ?_
    refine we_name 3 rfl ?_
    exact hP -- ret0
def sp_is_good (K : PySem.W.Frag) : FS := fun rs ob P => ∃ (ks : List Int) (st : Option Int), rs = [.d (letsD (He.ga K "Lets") ks st)] ∧ okL ks st = true ∧ P (.d (.bl (DL.isNon (.d (encF (faultB ks st)))))) ob
theorem f_is_good (T : Tx K mg) : Fn P w K mg base "is_good" s_is_good 4 ["lets"] (sp_is_good K) := by
  refine T.d_is_good.fn sc_is_good (fun _ _ _ _ _ _ us hl => match us, hl with | [_], _ => rfl) (fun rs ob P h => by obtain ⟨ks, st, rfl, hok, hP⟩ := h; rfl) fun a cdv A outer s H E ct rs ob P h => ?_
  obtain ⟨ks, st, rfl, hok, hP⟩ := h
  obtain ⟨hz, b1, b2, hst⟩ := okL_1 hok
  refine wss_one ?_
  refine ws_ret ?_
  refine we_isN ?_
  refine we_call false (f_fault_to T) ct (by decide) ?_
  refine wa_cons ?_
  refine we_name 0 rfl ?_
  refine wa_cons ?_
  refine we_call false (f_bound_of T) ct (by decide) ?_
  refine wa_cons ?_
  refine we_name 0 rfl ?_
  refine wa_nil ?_
  refine ⟨[_], rfl, ?_⟩
  refine ⟨_, _, rfl, (by first | assumption | omega | decide) /- s0 -/, ?_⟩
  refine ⟨_, rfl, ?_⟩
  refine wa_nil ?_
  refine ⟨[_, _], rfl, ?_⟩
  refine ⟨_, _, _, rfl, (by first | assumption | omega | decide) /- s1 -/, (by first | assumption | omega | decide) /- s2 -/, (by first | assumption | omega | decide) /- s3 -/, (by first | assumption | omega | decide) /- s4 -/, ?_⟩
  refine ⟨_, rfl, ?_⟩
  exact hP -- ret0
def sp_check_good (K : PySem.W.Frag) : FS := fun rs ob P => ∃ (ks : List Int) (st : Option Int), rs = [.d (letsD (He.ga K "Lets") ks st)] ∧ okL ks st = true ∧ faultB ks st = none ∧ P (.d .non) ob
theorem f_check_good (T : Tx K mg) : Fn P w K mg base "check_good" s_check_good 5 ["lets"] (sp_check_good K) := by
  refine T.d_check_good.fn sc_check_good (fun _ _ _ _ _ _ us hl => match us, hl with | [_], _ => rfl) (fun rs ob P h => by obtain ⟨ks, st, rfl, hok, hf, hP⟩ := h; rfl) fun a cdv A outer s H E ct rs ob P h => ?_
  obtain ⟨ks, st, rfl, hok, hf, hP⟩ := h
  refine wss_one ?_
  refine ws_if ?_
  refine wt_w ?_
  refine' ww_orV ?_ (fun hh1 => ?_) ?_
  rotate_left 2
  · refine wt_not ?_
    refine wt_val ?_
    refine we_isC T.z_isinstance T.isc_Lets T.mg_Lets ?_
    refine we_name 0 rfl ?_
    refine ⟨_, rfl, ?_⟩
    refine ⟨trivial, ?_⟩
    exact ⟨rfl, rfl⟩
  · refine ww_or1 ?_
    refine wt_not ?_
    refine wt_val ?_
    refine we_call false (f_is_good T) ct (by decide) ?_
    refine wa_cons ?_
    refine we_name 0 rfl ?_
    refine wa_nil ?_
    refine ⟨[_], rfl, ?_⟩
    refine ⟨_, _, rfl, (by first | assumption | omega | decide) /- s0 -/, ?_⟩
    refine ⟨_, rfl, ?_⟩
    refine ⟨trivial, ?_⟩
    exact ⟨rfl, rfl⟩
  refine ⟨fun hi0t => ?_, fun hi0f => ?_⟩
  · rw [hf] at hi0t
    exact (Bool.false_ne_true hi0t).elim
  · refine wss_nil ?_
    exact hP -- end0
end

section
variable {P : Program} {w : World} {K : PySem.W.Frag} {mg : Str → Option Value} {base : Heap}
def sp_check_two (K : PySem.W.Frag) : FS := fun rs ob P => ∃ (ks : List Int) (st : Option Int) (a b : List Int), rs = [.d (letsD (He.ga K "Lets") ks st), .d (encI a), .d (encI b)] ∧ ob = [] ∧ okL ks st = true ∧ faultB ks st = none ∧ a.length ≤ 200 ∧ NN a ∧ b.length ≤ 200 ∧ NN b ∧ P (.d .non) []
theorem f_check_two (T : Tx K mg) : Fn P w K mg base "check_two" s_check_two 6 ["lets", "one", "other"] (sp_check_two K) := by
  refine T.d_check_two.fn sc_check_two (fun _ _ _ _ _ _ us hl => match us, hl with | [_, _, _], _ => rfl) (fun rs ob P h => by obtain ⟨ks, st, a, b, rfl, rfl, hok, hf, hl1, hn1, hl2, hn2, hP⟩ := h; rfl) fun a cdv A outer s H E ct rs ob P h => ?_
  obtain ⟨ks, st, a, b, rfl, rfl, hok, hf, hl1, hn1, hl2, hn2, hP⟩ := h
  refine wss_cons ?_
  refine ws_expr ?_
  refine we_call false (f_check_good T) ct (by decide) ?_
  refine wa_cons ?_
  refine we_name 0 rfl ?_
  refine wa_nil ?_
  refine ⟨[_], rfl, ?_⟩
  refine ⟨_, _, rfl, (by first | assumption | omega | decide) /- s0 -/, (by first | assumption | omega | decide) /- s1 -/, ?_⟩
  refine ⟨_, rfl, ?_⟩
  refine wss_cons ?_
  refine ws_expr ?_
  refine we_call false (f_check_row T) ct (by decide) ?_
  refine wa_cons ?_
  refine we_name 1 rfl ?_
  refine wa_nil ?_
  refine ⟨[_], rfl, ?_⟩
  refine ⟨_, rfl, rfl, (by first | assumption | omega | decide) /- s2 -/, (by first | assumption | omega | decide) /- s3 -/, ?_⟩
  refine ⟨_, rfl, ?_⟩
  refine wss_one ?_
  refine ws_expr ?_
  refine we_call false (f_check_row T) ct (by decide) ?_
  refine wa_cons ?_
  refine we_name 2 rfl ?_
  refine wa_nil ?_
  refine ⟨[_], rfl, ?_⟩
  refine ⟨_, rfl, rfl, (by first | assumption | omega | decide) /- s4 -/, (by first | assumption | omega | decide) /- s5 -/, ?_⟩
  refine ⟨_, rfl, ?_⟩
  exact hP -- end0
def sp_exchanged (K : PySem.W.Frag) : FS := fun rs ob P => ∃ (ks : List Int) (st : Option Int) (x y : Int), rs = [.d (letsD (He.ga K "Lets") ks st), .d (.int x), .d (.int y)] ∧ P (.d (exD (inL ks st) x y)) ob
theorem f_exchanged (T : Tx K mg) : Fn P w K mg base "exchanged" s_exchanged 3 ["lets", "first", "second"] (sp_exchanged K) := by
  refine T.d_exchanged.fn sc_exchanged (fun _ _ _ _ _ _ us hl => match us, hl with | [_, _, _], _ => rfl) (fun rs ob P h => by obtain ⟨ks, st, x, y, rfl, hP⟩ := h; rfl) fun a cdv A outer s H E ct rs ob P h => ?_
  obtain ⟨ks, st, x, y, rfl, hP⟩ := h
  refine wss_cons ?_
  refine ws_if ?_
  refine wt_w ?_
  refine' ww_andV ?_ (fun hh1 => ?_) ?_
  rotate_left 2
  · refine wt_gt ?_
    refine we_name 2 rfl ?_
    refine we_name 1 rfl ?_
    refine ⟨_, _, rfl, rfl, _, rfl, ?_⟩
    exact ⟨rfl, rfl⟩
  · refine ww_and1 ?_
    refine wt_inO (m_Lets___contains__ T) ct (by decide) ?_
    refine we_sub ?_
    refine we_sub ?_
    refine we_name 2 rfl ?_
    refine we_name 1 rfl ?_
    refine ⟨_, _, rfl, rfl, ?_⟩
    refine we_int ?_
    refine ⟨_, _, rfl, rfl, ?_⟩
    refine we_name 0 rfl ?_
    refine ⟨_, _, rfl, rfl, ?_⟩
    refine ⟨_, _, _, rfl, ?_⟩
    refine ⟨_, rfl, ?_⟩
    exact ⟨rfl, rfl⟩
  refine ⟨fun hi0t => ?_, fun hi0f => ?_⟩
  · refine wss_one ?_
    refine ws_ret ?_
    refine we_tup ?_
    refine wa_cons ?_
    refine we_sub ?_
    refine we_name 2 rfl ?_
    refine we_int ?_
    refine ⟨_, _, rfl, rfl, ?_⟩
    refine wa_cons ?_
    refine we_name 1 rfl ?_
    refine wa_nil ?_
    refine ⟨[_, _], rfl, Nat.le_of_ble_eq_true rfl, ?_⟩
    rw [exD, if_pos (show (decide (x < y) && inL ks st (y - x - 1)) = true from hi0t)] at hP
    exact hP -- ret0
  · refine wss_nil ?_
    refine wss_cons ?_
    refine ws_if ?_
    refine wt_w ?_
    refine' ww_andV ?_ (fun hh2 => ?_) ?_
    rotate_left 2
    · refine wt_gt ?_
      refine we_name 1 rfl ?_
      refine we_name 2 rfl ?_
      refine ⟨_, _, rfl, rfl, _, rfl, ?_⟩
      exact ⟨rfl, rfl⟩
    · refine ww_and1 ?_
      refine wt_inO (m_Lets___contains__ T) ct (by decide) ?_
      refine we_sub ?_
      refine we_name 1 rfl ?_
      refine we_name 2 rfl ?_
      refine ⟨_, _, rfl, rfl, ?_⟩
      refine we_name 0 rfl ?_
      refine ⟨_, _, rfl, rfl, ?_⟩
      refine ⟨_, _, _, rfl, ?_⟩
      refine ⟨_, rfl, ?_⟩
      exact ⟨rfl, rfl⟩
    refine ⟨fun hi1t => ?_, fun hi1f => ?_⟩
    · refine wss_one ?_
      refine ws_ret ?_
      refine we_tup ?_
      refine wa_cons ?_
      refine we_name 2 rfl ?_
      refine wa_cons ?_
      refine we_add false ?_
      refine we_name 1 rfl ?_
      refine we_int ?_
      refine wa_nil ?_
      refine ⟨[_, _], rfl, Nat.le_of_ble_eq_true rfl, ?_⟩
      rw [exD, if_neg (by rw [show (decide (x < y) && inL ks st (y - x - 1)) = false from hi0f]; exact Bool.false_ne_true), if_pos (show (decide (y < x) && inL ks st (x - y)) = true from hi1t)] at hP
      exact hP -- ret1
    · refine wss_nil ?_
      refine wss_one ?_
      refine ws_ret ?_
      refine we_non ?_
      rw [exD, if_neg (by rw [show (decide (x < y) && inL ks st (y - x - 1)) = false from hi0f]; exact Bool.false_ne_true), if_neg (by rw [show (decide (y < x) && inL ks st (x - y)) = false from hi1f]; exact Bool.false_ne_true)] at hP
      exact hP -- ret2
def sp_journey (K : PySem.W.Frag) : FS := fun rs ob P => ∃ (ks : List Int) (st : Option Int) (row : List Int) (item : Int), rs = [.d (letsD (He.ga K "Lets") ks st), .d (encI row), .d (.int item)] ∧ ob = [] ∧ row.length ≤ 300 ∧ ∀ ob1, P (.d (.tup [encI (jrn (inL ks st) row item []).1, .bl (jrn (inL ks st) row item []).2])) ob1
theorem f_journey (T : Tx K mg) : Fn P w K mg base "journey" s_journey 3 ["lets", "row", "item"] (sp_journey K) := by
  refine T.d_journey.fn sc_journey (fun _ _ _ _ _ _ us hl => match us, hl with | [_, _, _], _ => rfl) (fun rs ob P h => by obtain ⟨ks, st, row, item, rfl, rfl, hl, hP⟩ := h; rfl) fun a cdv A outer s H E ct rs ob P h => ?_
  obtain ⟨ks, st, row, item, rfl, rfl, hl, hP⟩ := h
  refine wss_cons ?_
  refine ws_par (j := 4) 3 rfl ct.nd ?_ rfl rfl (by decide) (ps_par rfl ct.nd rfl rfl (by decide) rfl rfl pa_wp rfl)
  refine wa_cons ?_
  refine we_lst true ?_
  refine wa_nil ?_
  refine ⟨[], rfl, Nat.le_of_ble_eq_true rfl, ?_⟩
  refine wa_cons ?_
  refine we_name 2 rfl ?_
  refine wa_nil ?_
  refine ⟨_, _, rfl, ?_⟩
  refine wss_cons ?_
  refine ws_for (t := .one 5) ct (pg_name ct.nd (i := 5) rfl (by first | exact Or.inl rfl | exact Or.inr rfl)) ?_
  refine wi_lst ?_
  refine we_name 1 rfl ?_
  refine ⟨_, rfl, fun hsz => ?_⟩
  refine ⟨fun i ob1 sl1 => ∃ (fd : List Int) (now : Int) (x : Option R), ob1 = [.lst (fd.map .int)] ∧ sl1 = [some (.d (letsD (He.ga K "Lets") ks st)), some (.d (encI row)), some (.d (.int item)), some (.p 0), some (.d (.int now)), x] ∧ fd.length = i ∧ jrn (inL ks st) (row.drop i) now fd = jrn (inL ks st) row item [], ⟨[], item, none, rfl, rfl, rfl, rfl⟩, fun i d ob2 sl2 hd hJ => ?_, fun ob2 sl2 hJ => ?_⟩
  · obtain ⟨a, ha, rfl⟩ := get_map hd
    have hlt := (List.getElem?_eq_some_iff.mp ha).1
    obtain ⟨fd, now, x, rfl, rfl, hfl, hW⟩ := hJ
    refine ⟨_, rfl, ?_⟩
    rw [drop_at ha, jrn] at hW
    refine wss_cons ?_
    refine ws_if ?_
    refine wt_eq ct ?_
    refine we_name 5 rfl ?_
    refine we_name 4 rfl ?_
    refine ⟨_, rfl, ?_⟩
    refine ⟨fun hi0t => ?_, fun hi0f => ?_⟩
    · refine wss_one ?_
      refine ws_ret ?_
      refine we_tup ?_
      refine wa_cons (we_data ?_)
      refine we_name 3 rfl ?_
      refine wa_cons ?_
      refine we_bl ?_
      refine wa_nil ?_
      refine ⟨[_, _], rfl, Nat.le_of_ble_eq_true rfl, ?_⟩
      rw [if_pos (of_decide_eq_true hi0t)] at hW
      rw [← hW] at hP
      exact hP _ -- ret0
    · refine wss_nil ?_
      refine wss_one ?_
      refine ws_if ?_
      refine wt_w ?_
      refine' ww_andV ?_ (fun hh1 => ?_) ?_
      rotate_left 2
      · refine wt_gt ?_
        refine we_name 4 rfl ?_
        refine we_name 5 rfl ?_
        refine ⟨_, _, rfl, rfl, _, rfl, ?_⟩
        exact ⟨rfl, rfl⟩
      · refine ww_and1 ?_
        refine wt_inO (m_Lets___contains__ T) ct (by decide) ?_
        refine we_sub ?_
        refine we_name 4 rfl ?_
        refine we_name 5 rfl ?_
        refine ⟨_, _, rfl, rfl, ?_⟩
        refine we_name 0 rfl ?_
        refine ⟨_, _, rfl, rfl, ?_⟩
        refine ⟨_, _, _, rfl, ?_⟩
        refine ⟨_, rfl, ?_⟩
        exact ⟨rfl, rfl⟩
      refine ⟨fun hi1t => ?_, fun hi1f => ?_⟩
      · refine wss_cons ?_
        refine ws_expr ?_
        refine we_append ?_
        refine we_name 3 rfl ?_
        refine ⟨_, _, rfl, rfl, ?_⟩
        refine we_name 5 rfl ?_
        refine ⟨_, _, rfl, rfl, (app_sz (by omega)) /- s0 -/, ?_⟩
        refine wss_one ?_
        refine ws_set 4 ?_ ct.nd
        refine we_add false ?_
        refine we_name 4 rfl ?_
        refine we_int ?_
        rw [if_neg (of_decide_eq_false hi0f), if_pos hi1t] at hW
        rw [cat1]
        exact ⟨_, _, _, rfl, rfl, by rw [List.length_append, hfl]; rfl, hW⟩ -- next0
      · refine wss_one ?_
        refine ws_if ?_
        refine wt_w ?_
        refine' ww_andV ?_ (fun hh2 => ?_) ?_
        rotate_left 2
        · refine wt_gt ?_
          refine we_name 5 rfl ?_
          refine we_name 4 rfl ?_
          refine ⟨_, _, rfl, rfl, _, rfl, ?_⟩
          exact ⟨rfl, rfl⟩
        · refine ww_and1 ?_
          refine wt_inO (m_Lets___contains__ T) ct (by decide) ?_
          refine we_sub ?_
          refine we_name 5 rfl ?_
          refine we_name 4 rfl ?_
          refine ⟨_, _, rfl, rfl, ?_⟩
          refine we_name 0 rfl ?_
          refine ⟨_, _, rfl, rfl, ?_⟩
          refine ⟨_, _, _, rfl, ?_⟩
          refine ⟨_, rfl, ?_⟩
          exact ⟨rfl, rfl⟩
        refine ⟨fun hi2t => ?_, fun hi2f => ?_⟩
        · refine wss_one ?_
          refine ws_expr ?_
          refine we_append ?_
          refine we_name 3 rfl ?_
          refine ⟨_, _, rfl, rfl, ?_⟩
          refine we_add false ?_
          refine we_name 5 rfl ?_
          refine we_int ?_
          refine ⟨_, _, rfl, rfl, (app_sz (by omega)) /- s1 -/, ?_⟩
          rw [if_neg (of_decide_eq_false hi0f), if_neg (by rw [show (decide (a < now) && inL ks st (now - a)) = false from hi1f]; exact Bool.false_ne_true), if_pos hi2t] at hW
          rw [cat1]
          exact ⟨_, _, _, rfl, rfl, by rw [List.length_append, hfl]; rfl, hW⟩ -- next1
        · refine wss_one ?_
          refine ws_ret ?_
          refine we_tup ?_
          refine wa_cons (we_data ?_)
          refine we_name 3 rfl ?_
          refine wa_cons ?_
          refine we_bl ?_
          refine wa_nil ?_
          refine ⟨[_, _], rfl, Nat.le_of_ble_eq_true rfl, ?_⟩
          rw [if_neg (of_decide_eq_false hi0f), if_neg (by rw [show (decide (a < now) && inL ks st (now - a)) = false from hi1f]; exact Bool.false_ne_true), if_neg (by rw [show (decide (now < a) && inL ks st (a - now)) = false from hi2f]; exact Bool.false_ne_true)] at hW
          rw [← hW] at hP
          exact hP _ -- ret1
  · obtain ⟨fd, now, x, rfl, rfl, hfl, hW⟩ := hJ
    rw [List.length_map, List.drop_length] at hW
    refine wss_one ?_
    refine ws_ret ?_
    refine we_tup ?_
    refine wa_cons (we_data ?_)
    refine we_name 3 rfl ?_
    refine wa_cons ?_
    refine we_bl ?_
    refine wa_nil ?_
    refine ⟨[_, _], rfl, Nat.le_of_ble_eq_true rfl, ?_⟩
    rw [jrn] at hW
    rw [← hW] at hP
    exact hP _ -- ret2
def sp_left_of (K : PySem.W.Frag) : FS := fun rs ob P => ∃ (ks : List Int) (st : Option Int) (row r : List Int) (item : Int), rs = [.d (letsD (He.ga K "Lets") ks st), .d (encI row), .d (.int item)] ∧ ob = [] ∧ row.length ≤ 300 ∧ lft (inL ks st) item row = some r ∧ ∀ (k : Nat) ob1, ob1[k]? = some (.lst (r.map .int)) → P (.p k) ob1
theorem f_left_of (T : Tx K mg) : Fn P w K mg base "left_of" s_left_of 4 ["lets", "row", "item"] (sp_left_of K) := by
  refine T.d_left_of.fn sc_left_of (fun _ _ _ _ _ _ us hl => match us, hl with | [_, _, _], _ => rfl) (fun rs ob P h => by obtain ⟨ks, st, row, r, item, rfl, rfl, hl, hr, hP⟩ := h; rfl) fun a cdv A outer s H E ct rs ob P h => ?_
  obtain ⟨ks, st, row, r, item, rfl, rfl, hl, hr, hP⟩ := h
  have hjl := jrn_len (inL ks st) row item
  rw [← lft_jrn] at hr
  obtain ⟨hj2, hj3⟩ : (jrn (inL ks st) row item []).2 = true ∧ (jrn (inL ks st) row item []).1 ++ row.drop ((jrn (inL ks st) row item []).1.length + 1) = r := by
    cases e : (jrn (inL ks st) row item []).2 with
    | false => rw [e] at hr; cases hr
    | true => rw [e] at hr; exact ⟨rfl, Option.some.inj hr⟩
  refine wss_cons ?_
  refine ws_bind (t := .many [.one 3, .one 4]) (TG' := gName 0) (pg_tup rfl (pgs_cons (pg_name ct.nd (i := 3) rfl (by first | exact Or.inl rfl | exact Or.inr rfl)) (pgs_cons (pg_name ct.nd (i := 4) rfl (by first | exact Or.inl rfl | exact Or.inr rfl)) (pgs_nil)))) ?_
  refine we_call false (f_journey T) ct (by decide) ?_
  refine wa_cons ?_
  refine we_name 0 rfl ?_
  refine wa_cons ?_
  refine we_name 1 rfl ?_
  refine wa_cons ?_
  refine we_name 2 rfl ?_
  refine wa_nil ?_
  refine ⟨[_, _, _], rfl, ?_⟩
  refine ⟨_, _, _, _, rfl, rfl, (by first | assumption | omega | decide) /- s0 -/, fun ob1 => ?_⟩
  refine ⟨_, rfl, ?_⟩
  refine ⟨_, _, rfl, rfl, ?_⟩
  refine wss_one ?_
  refine ws_ret ?_
  refine we_ifE ?_
  refine wt_val ?_
  refine we_name 4 rfl ?_
  refine ⟨trivial, ?_⟩
  refine ⟨fun hh1 => ?_, fun hh2 => ?_⟩
  rotate_left 1
  · rw [show (jrn (inL ks st) row item []).2 = true from hj2] at hh2
    exact absurd hh2 (by decide)
  refine we_add true ?_
  refine we_name 3 rfl ?_
  refine we_slLo false ?_
  refine we_name 1 rfl ?_
  refine we_add false ?_
  refine we_len T.z_len ?_
  refine we_name 3 rfl ?_
  refine we_int ?_
  refine ⟨_, rfl, (by intro l h; cases h), ?_⟩
  refine ⟨(cat_sz (by rw [List.length_map]; omega) (by rw [List.length_map, cut_lo (show (0 : Int) ≤ (jrn (inL ks st) row item []).1.length + 1 from by omega), List.length_map, List.length_drop]; omega)) /- s1 -/, ?_⟩
  rw [List.length_map, cut_lo (show (0 : Int) ≤ (jrn (inL ks st) row item []).1.length + 1 from by omega), ← List.map_append, show (((jrn (inL ks st) row item []).1.length : Int) + 1).toNat = (jrn (inL ks st) row item []).1.length + 1 from by omega, hj3]
  exact hP _ _ rfl -- ret0
def sp_to_front (K : PySem.W.Frag) : FS := fun rs ob P => ∃ (ks : List Int) (st : Option Int) (row : List Int) (at1 : Int), rs = [.d (letsD (He.ga K "Lets") ks st), .d (encI row), .d (.int at1)] ∧ ob = [] ∧ row.length ≤ 300 ∧ 0 ≤ at1 ∧ at1 < (row.length : Int) ∧ P (.d (optD (toF (inL ks st) row at1.toNat))) []
theorem f_to_front (T : Tx K mg) : Fn P w K mg base "to_front" s_to_front 4 ["lets", "row", "at"] (sp_to_front K) := by
  refine T.d_to_front.fn sc_to_front (fun _ _ _ _ _ _ us hl => match us, hl with | [_, _, _], _ => rfl) (fun rs ob P h => by obtain ⟨ks, st, row, at1, rfl, rfl, hl, q1, q2, hP⟩ := h; rfl) fun a cdv A outer s H E ct rs ob P h => ?_
  obtain ⟨ks, st, row, at1, rfl, rfl, hl, q1, q2, hP⟩ := h
  have hat : row[at1.toNat]? = some (iget row at1) := by
    rw [iget, List.getD_eq_getElem?_getD, List.getElem?_eq_getElem (by omega)]
    rfl
  refine wss_cons ?_
  refine ws_set 3 ?_ ct.nd
  refine we_ix ?_
  refine we_name 1 rfl ?_
  refine we_name 2 rfl ?_
  refine ⟨_, (atI_g q1 q2), ?_⟩
  refine wss_cons ?_
  refine ws_for (t := .one 4) ct (pg_name ct.nd (i := 4) rfl (by first | exact Or.inl rfl | exact Or.inr rfl)) ?_
  refine wi_rev T.z_reversed ?_
  refine we_slHi false ?_
  refine we_name 1 rfl ?_
  refine we_name 2 rfl ?_
  refine ⟨_, rfl, (by intro l h; cases h), ?_⟩
  refine ⟨_, rfl, fun hsz => ?_⟩
  rw [cut_hi q1, rev_enc]
  refine ⟨fun i ob1 sl1 => [] = ob1 ∧ ∃ (it : Int) (x y : Option R), sl1 = [some (.d (letsD (He.ga K "Lets") ks st)), some (.d (encI row)), some (.d (.int at1)), some (.d (.int it)), x, y] ∧ ((row.take at1.toNat).reverse.drop i).foldl (fun o f => o.bind (exF (inL ks st) f)) (some it) = toF (inL ks st) row at1.toNat, ⟨rfl, iget row at1, none, none, rfl, by rw [List.drop_zero, toF, hat]⟩, fun i d ob2 sl2 hd hJ => ?_, fun ob2 sl2 hJ => ?_⟩
  · obtain ⟨f, hf, rfl⟩ := get_map hd
    obtain ⟨rfl, it, x, y, rfl, hW⟩ := hJ
    refine ⟨_, rfl, ?_⟩
    rw [drop_at hf, List.foldl_cons, Option.bind_some] at hW
    refine wss_cons ?_
    refine ws_set 5 ?_ ct.nd
    refine we_call false (f_exchanged T) ct (by decide) ?_
    refine wa_cons ?_
    refine we_name 0 rfl ?_
    refine wa_cons ?_
    refine we_name 4 rfl ?_
    refine wa_cons ?_
    refine we_name 3 rfl ?_
    refine wa_nil ?_
    refine ⟨[_, _, _], rfl, ?_⟩
    refine ⟨_, _, _, _, rfl, ?_⟩
    refine ⟨_, rfl, ?_⟩
    refine wss_cons ?_
    refine ws_if ?_
    refine wt_isN ?_
    refine we_name 5 rfl ?_
    refine ⟨fun hi0t => ?_, fun hi0f => ?_⟩
    · rw [exD_none hi0t, fold_none] at hW
      rw [← hW] at hP
      refine wss_one ?_
      refine ws_ret ?_
      refine we_non ?_
      exact hP -- ret0
    · obtain ⟨v, w, e1, e2⟩ := exD_some hi0f
      rw [e2] at hW
      rw [e1]
      refine wss_nil ?_
      refine wss_one ?_
      refine ws_set 3 ?_ ct.nd
      refine we_ix ?_
      refine we_name 5 rfl ?_
      refine we_int ?_
      refine ⟨_, at0K, ?_⟩
      exact ⟨rfl, _, _, _, rfl, hW⟩ -- next0
  · obtain ⟨rfl, it, x, y, rfl, hW⟩ := hJ
    rw [List.length_map, List.drop_length] at hW
    refine wss_one ?_
    refine ws_ret ?_
    refine we_name 3 rfl ?_
    rw [← hW] at hP
    exact hP -- ret1
def sp_fronts_of (K : PySem.W.Frag) : FS := fun rs ob P => ∃ (ks : List Int) (st : Option Int) (row : List Int), rs = [.d (letsD (He.ga K "Lets") ks st), .d (encI row)] ∧ ob = [] ∧ row.length ≤ 300 ∧ P (.d (encI (frM (inL ks st) row))) []
theorem f_fronts_of (T : Tx K mg) : Fn P w K mg base "fronts_of" s_fronts_of 5 ["lets", "row"] (sp_fronts_of K) := by
  refine T.d_fronts_of.fn sc_fronts_of (fun _ _ _ _ _ _ us hl => match us, hl with | [_, _], _ => rfl) (fun rs ob P h => by obtain ⟨ks, st, row, rfl, rfl, hl, hP⟩ := h; rfl) fun a cdv A outer s H E ct rs ob P h => ?_
  obtain ⟨ks, st, row, rfl, rfl, hl, hP⟩ := h
  refine wss_cons ?_
  refine ws_lcP (own := false) 2 (t := .one 3) (ow := [("at", 3)]) ct (lcP_map (.int) rfl (fun _ _ _ _ _ => pg_name ct.nd (i := 3) rfl (by first | exact Or.inl rfl | exact Or.inr rfl)) ?_) (blkOk_by (by kernel_rfl))
  refine wi_range1 T.z_range ?_
  refine we_len T.z_len ?_
  refine we_name 1 rfl ?_
  refine ⟨_, rfl, (by rw [List.length_map]; exact ⟨by omega, by omega⟩) /- s0 -/, ?_⟩
  refine ⟨(by rw [List.length_map, irange_length, List.length_map]; exact Nat.le_trans (show _ ≤ 1000 from by omega) (by decide)), irange 0 (row.length : Int), fun n => optD (toF (inL ks st) row n.toNat), (by rw [List.length_map]), fun a ha => ⟨_, rfl, fun s H C cl fp => ?_⟩, ?_⟩
  · have hb := mem_irange.mp ha
    refine we_call false (f_to_front T) ct.blk (by decide) ?_
    refine wa_cons ?_
    refine we_name 0 rfl ?_
    refine wa_cons ?_
    refine we_name 1 rfl ?_
    refine wa_cons ?_
    refine we_name 3 rfl ?_
    refine wa_nil ?_
    refine ⟨[_, _, _], rfl, ?_⟩
    refine ⟨_, _, _, _, rfl, rfl, hl, hb.1, hb.2, ?_⟩
    refine ⟨_, rfl, ?_⟩
    exact ⟨rfl, rfl⟩
  refine wss_one ?_
  refine ws_ret ?_
  refine we_sorted false ct T.z_sorted ?_
  refine we_lcP (own := false) (t := .one 4) (ow := [("item", 4)]) ct (lcP_filter (optD) rfl (fun _ _ _ _ _ => pg_name ct.nd (i := 4) rfl (by first | exact Or.inl rfl | exact Or.inr rfl)) ?_) (blkOk_by (by kernel_rfl))
  refine wi_lst ?_
  refine we_name 2 rfl ?_
  refine ⟨_, rfl, fun hsz => ?_⟩
  refine ⟨hsz, (irange 0 (row.length : Int)).map fun n => toF (inL ks st) row n.toNat, Option.isSome, optD, (by rw [List.map_map]; rfl), fun a ha => ⟨_, rfl, fun s H C cl fp => ?_, fun hf s H C cl fp => ?_⟩, ?_⟩
  · refine wt_notN ?_
    refine we_name 4 rfl ?_
    exact ⟨by cases a <;> rfl, rfl⟩
  · refine we_name 4 rfl ?_
    exact ⟨rfl, rfl⟩
  rw [fr_enc]
  refine ⟨sortOk_ints _ /- s1 -/, ?_⟩
  rw [sortD_ints, mergeI]
  exact hP -- ret0
def sp_common_fronts (K : PySem.W.Frag) : FS := fun rs ob P => ∃ (ks : List Int) (st : Option Int) (a b : List Int), rs = [.d (letsD (He.ga K "Lets") ks st), .d (encI a), .d (encI b)] ∧ ob = [] ∧ a.length ≤ 300 ∧ b.length ≤ 300 ∧ ∀ (k : Nat) ob1, ob1[k]? = some (.lst ((comF (inL ks st) a b).map .int)) → P (.p k) ob1
theorem f_common_fronts (T : Tx K mg) : Fn P w K mg base "common_fronts" s_common_fronts 6 ["lets", "one", "other"] (sp_common_fronts K) := by
  refine T.d_common_fronts.fn sc_common_fronts (fun _ _ _ _ _ _ us hl => match us, hl with | [_, _, _], _ => rfl) (fun rs ob P h => by obtain ⟨ks, st, a, b, rfl, rfl, hl1, hl2, hP⟩ := h; rfl) fun a cdv A outer s H E ct rs ob P h => ?_
  obtain ⟨ks, st, a, b, rfl, rfl, hl1, hl2, hP⟩ := h
  refine wss_cons ?_
  refine ws_set 3 ?_ ct.nd
  refine we_call false (f_fronts_of T) ct (by decide) ?_
  refine wa_cons ?_
  refine we_name 0 rfl ?_
  refine wa_cons ?_
  refine we_name 2 rfl ?_
  refine wa_nil ?_
  refine ⟨[_, _], rfl, ?_⟩
  refine ⟨_, _, _, rfl, rfl, (by first | assumption | omega | decide) /- s0 -/, ?_⟩
  refine ⟨_, rfl, ?_⟩
  refine wss_one ?_
  refine ws_ret ?_
  refine we_lcP (own := true) (t := .one 4) (ow := [("item", 4)]) ct (lcP_filter (.int) rfl (fun _ _ _ _ _ => pg_name ct.nd (i := 4) rfl (by first | exact Or.inl rfl | exact Or.inr rfl)) ?_) (blkOk_by (by kernel_rfl))
  refine wi_lst ?_
  refine we_call false (f_fronts_of T) ct (by decide) ?_
  refine wa_cons ?_
  refine we_name 0 rfl ?_
  refine wa_cons ?_
  refine we_name 1 rfl ?_
  refine wa_nil ?_
  refine ⟨[_, _], rfl, ?_⟩
  refine ⟨_, _, _, rfl, rfl, (by first | assumption | omega | decide) /- s1 -/, ?_⟩
  refine ⟨_, rfl, ?_⟩
  refine ⟨_, rfl, fun hsz => ?_⟩
  refine ⟨hsz, frM (inL ks st) a, fun x => decide (x ∈ frM (inL ks st) b), .int, rfl, fun a ha => ⟨_, rfl, fun s H C cl fp => ?_, fun hf s H C cl fp => ?_⟩, ?_⟩
  · refine wt_inI ct.blk ?_
    refine we_name 4 rfl ?_
    refine we_name 3 rfl ?_
    refine ⟨_, _, rfl, rfl, _, rfl, ?_⟩
    exact ⟨rfl, rfl⟩
  · refine we_name 4 rfl ?_
    exact ⟨rfl, rfl⟩
  exact hP _ _ rfl -- ret0
def sp_shared_beginning (K : PySem.W.Frag) : FS := fun rs ob P => ∃ (ks : List Int) (st : Option Int) (a b f l2 r2 : List Int), rs = [.d (letsD (He.ga K "Lets") ks st), .d (encI a), .d (encI b)] ∧ ob = [] ∧ GoodF (inL ks st) ∧ a.length ≤ 200 ∧ b.length ≤ 200 ∧ grN (inL ks st) (a.length + b.length) a b = (f, l2, r2) ∧ ∀ (k i j m : Nat) ob1, ob1[k]? = some (.tpl [.p i, .p j, .p m]) → i ≠ j → i ≠ m → j ≠ m → ob1[i]? = some (.lst (f.map .int)) → ob1[j]? = some (.lst (l2.map .int)) → ob1[m]? = some (.lst (r2.map .int)) → P (.p k) ob1
theorem f_shared_beginning (T : Tx K mg) : Fn P w K mg base "shared_beginning" s_shared_beginning 7 ["lets", "one", "other"] (sp_shared_beginning K) := by
  refine T.d_shared_beginning.fn sc_shared_beginning (fun _ _ _ _ _ _ us hl => match us, hl with | [_, _, _], _ => rfl) (fun rs ob P h => by obtain ⟨ks, st, a, b, f, l2, r2, rfl, rfl, hG, hl1, hl2, hgr, hP⟩ := h; rfl) fun a cdv A outer s H E ct rs ob P h => ?_
  obtain ⟨ks, st, a, b, f, l2, r2, rfl, rfl, hG, hl1, hl2, hgr, hP⟩ := h
  refine wss_cons ?_
  refine ws_par3 3 4 5 ?_ (ps_par3 ct.calm ct.nd rfl rfl rfl (by decide) (by decide) (by decide) rfl rfl rfl pa_wp rfl)
  refine wa_cons ?_
  refine we_lst true ?_
  refine wa_nil ?_
  refine ⟨[], rfl, Nat.le_of_ble_eq_true rfl, ?_⟩
  refine wa_cons ?_
  refine we_list true T.z_list ?_
  refine we_name 1 rfl ?_
  refine wa_cons ?_
  refine we_list true T.z_list ?_
  refine we_name 2 rfl ?_
  refine wa_nil ?_
  refine ⟨_, _, _, rfl, ?_⟩
  refine wss_cons ?_
  refine ws_set 6 ?_ ct.nd
  refine we_callL (f_common_fronts T) ct (by decide) ?_
  refine wa_cons ?_
  refine we_name 0 rfl ?_
  refine wa_cons ?_
  refine we_name 4 rfl ?_
  refine wa_cons ?_
  refine we_name 5 rfl ?_
  refine wa_nil ?_
  refine ⟨[_, _, _], rfl, ?_⟩
  refine ⟨_, _, _, _, rfl, rfl, by omega, by omega, fun k1 o1 hk1 => ?_⟩
  refine .inr (.inl ⟨k1, _, rfl, hk1, allsc_ints _, ?_⟩)
  refine wss_cons ?_
  refine ws_while ct (fun m ob1 sl1 => ∃ (fd lf rt : List Int) (jk : List Ob) (i j c n : Nat), ob1 = .lst (fd.map .int) :: jk ∧ sl1 = [some (.d (letsD (He.ga K "Lets") ks st)), some (.d (encI a)), some (.d (encI b)), some (.p 0), some (.p (i + 1)), some (.p (j + 1)), some (.p (c + 1))] ∧ m = lf.length ∧ i ≠ j ∧ jk[i]? = some (.lst (lf.map .int)) ∧ jk[j]? = some (.lst (rt.map .int)) ∧ jk[c]? = some (.lst ((comF (inL ks st) lf rt).map Dt.int)) ∧ lf.length ≤ n ∧ fd.length + lf.length ≤ 200 ∧ rt.length ≤ 200 ∧ (fd ++ (grN (inL ks st) n lf rt).1, (grN (inL ks st) n lf rt).2) = (f, l2, r2)) a.length ⟨[], a, b, [.lst (a.map .int), .lst (b.map .int), .lst ((comF (inL ks st) a b).map .int)], 0, 1, 2, a.length + b.length, rfl, rfl, rfl, by decide, rfl, rfl, rfl, by omega, by simpa using hl1, hl2, by rw [List.nil_append]; exact hgr⟩ fun m ob2 sl2 hW => ?_
  obtain ⟨fd, lf, rt, jk, i, j, c, n, rfl, rfl, rfl, hij, hi, hj, hc, hln, hlf, hlr, hW⟩ := hW
  refine wt_neI ct ?_
  refine we_name 6 rfl ?_
  refine we_lst false ?_
  refine wa_nil ?_
  refine ⟨[], rfl, Nat.le_of_ble_eq_true rfl, ?_⟩
  refine ⟨(comF (inL ks st) lf rt), [], (dtO_at (show (_ :: jk)[c + 1]? = _ from hc)), rfl, _, rfl, ?_⟩
  refine ⟨fun hh1 => ?_, fun hh2 => ?_⟩
  · have hne : ¬ comF (inL ks st) lf rt = [] := by simpa using hh1
    obtain ⟨x, t, hx⟩ : ∃ x t, comF (inL ks st) lf rt = x :: t := by
      cases e : comF (inL ks st) lf rt with
      | nil => exact (hne e).elim
      | cons x t => exact ⟨x, t, rfl⟩
    obtain ⟨a2, b2, ha2, hb2, la2, lb2⟩ := com_parts hG hx
    rw [hx] at hc
    obtain ⟨n, rfl⟩ : ∃ n2, n = n2 + 1 := ⟨n - 1, by omega⟩
    rw [grN_cons hx ha2 hb2] at hW
    refine ⟨a2.length, (by omega), ?_⟩
    refine wss_cons ?_
    refine ws_expr ?_
    refine we_append ?_
    refine we_name 3 rfl ?_
    refine ⟨_, _, rfl, rfl, ?_⟩
    refine we_ix ?_
    refine we_name 6 rfl ?_
    refine we_int ?_
    refine ixP_at (show (_ :: jk)[c + 1]? = _ from hc) (at0 x t) ?_
    refine ⟨_, _, rfl, rfl, (app_sz (by omega)) /- s0 -/, ?_⟩
    rw [cat1]
    refine wss_cons ?_
    refine ws_par (j := 5) 4 rfl ct.nd ?_ rfl rfl (by decide) (ps_par rfl ct.nd rfl rfl (by decide) rfl rfl pa_wp rfl)
    refine wa_cons ?_
    refine we_callL (f_left_of T) ct (by decide) ?_
    refine wa_cons ?_
    refine we_name 0 rfl ?_
    refine wa_cons ?_
    refine we_name 4 rfl ?_
    refine wa_cons ?_
    refine we_ix ?_
    refine we_name 6 rfl ?_
    refine we_int ?_
    refine ixP_at (show (_ :: jk)[c + 1]? = _ from hc) (at0 x t) ?_
    refine wa_nil ?_
    refine ⟨[_, _, _], (dtLs_d (dtLs_p (dtL_at (show (_ :: jk)[i + 1]? = _ from hi)) (dtLs_d rfl))), ?_⟩
    refine ⟨_, _, _, _, _, rfl, rfl, by omega, ha2, fun k1 o1 hk1 => ?_⟩
    refine .inr (.inl ⟨k1, _, rfl, hk1, allsc_ints _, ?_⟩)
    refine wa_cons ?_
    refine we_callL (f_left_of T) ct (by decide) ?_
    refine wa_cons ?_
    refine we_name 0 rfl ?_
    refine wa_cons ?_
    refine we_name 5 rfl ?_
    refine wa_cons ?_
    refine we_ix ?_
    refine we_name 6 rfl ?_
    refine we_int ?_
    refine ixP_at (app_at (show (_ :: jk)[c + 1]? = _ from hc)) (at0 x t) ?_
    refine wa_nil ?_
    refine ⟨[_, _, _], (dtLs_d (dtLs_p (dtL_at (app_at (show (_ :: jk)[j + 1]? = _ from hj))) (dtLs_d rfl))), ?_⟩
    refine ⟨_, _, _, _, _, rfl, rfl, by omega, hb2, fun k1 o1 hk1 => ?_⟩
    refine .inr (.inl ⟨k1, _, rfl, hk1, allsc_ints _, ?_⟩)
    refine wa_nil ?_
    refine ⟨_, _, rfl, ?_⟩
    refine wss_one ?_
    refine ws_set 6 ?_ ct.nd
    refine we_callL (f_common_fronts T) ct (by decide) ?_
    refine wa_cons ?_
    refine we_name 0 rfl ?_
    refine wa_cons ?_
    refine we_name 4 rfl ?_
    refine wa_cons ?_
    refine we_name 5 rfl ?_
    refine wa_nil ?_
    refine ⟨[_, _, _], (dtLs_d (dtLs_p (dtL_at (app_at app_end)) (dtLs_p (dtL_at app_end) rfl))), ?_⟩
    refine ⟨_, _, _, _, rfl, rfl, by omega, by omega, fun k1 o1 hk1 => ?_⟩
    refine .inr (.inl ⟨k1, _, rfl, hk1, allsc_ints _, ?_⟩)
    exact ⟨fd ++ [x], a2, b2, jk ++ [.lst (a2.map .int)] ++ [.lst (b2.map .int)] ++ [.lst ((comF (inL ks st) a2 b2).map .int)], jk.length, jk.length + 1, jk.length + 2, n, rfl, by simp [obF], rfl, by omega, app_at (app_at app_end), app_at (by rw [show jk.length + 1 = (jk ++ [Ob.lst (a2.map .int)]).length from by simp]; exact app_end), by rw [show jk.length + 2 = (jk ++ [Ob.lst (a2.map .int)] ++ [Ob.lst (b2.map .int)]).length from by simp]; exact app_end, by omega, by rw [List.length_append]; simp only [List.length_cons, List.length_nil]; omega, by omega, by rw [← hW]; simp⟩ -- next0
  · have hne : comF (inL ks st) lf rt = [] := by simpa using hh2
    rw [grN_nil hne, List.append_nil] at hW
    cases hW
    refine wss_one ?_
    refine ws_ret ?_
    refine we_tupO ?_
    refine wa_cons ?_
    refine we_name 3 rfl ?_
    refine wa_cons ?_
    refine we_name 4 rfl ?_
    refine wa_cons ?_
    refine we_name 5 rfl ?_
    refine wa_nil ?_
    refine ⟨Nat.le_of_ble_eq_true rfl, ?_⟩
    exact hP _ _ _ _ _ app_end (by omega) (by omega) (by omega) (app_at rfl) (app_at (show (_ :: jk)[i + 1]? = _ from hi)) (app_at (show (_ :: jk)[j + 1]? = _ from hj)) -- ret0
def sp_greatest_beginning (K : PySem.W.Frag) : FS := fun rs ob P => ∃ (ks : List Int) (st : Option Int) (a b f l2 r2 : List Int), rs = [.d (letsD (He.ga K "Lets") ks st), .d (encI a), .d (encI b)] ∧ ob = [] ∧ okL ks st = true ∧ faultB ks st = none ∧ GoodF (inL ks st) ∧ a.length ≤ 200 ∧ NN a ∧ b.length ≤ 200 ∧ NN b ∧ grN (inL ks st) (a.length + b.length) a b = (f, l2, r2) ∧ ∀ (k : Nat) ob1, ob1[k]? = some (.lst (f.map .int)) → P (.p k) ob1
theorem f_greatest_beginning (T : Tx K mg) : Fn P w K mg base "greatest_beginning" s_greatest_beginning 8 ["lets", "one", "other"] (sp_greatest_beginning K) := by
  refine T.d_greatest_beginning.fn sc_greatest_beginning (fun _ _ _ _ _ _ us hl => match us, hl with | [_, _, _], _ => rfl) (fun rs ob P h => by obtain ⟨ks, st, a, b, f, l2, r2, rfl, rfl, hok, hf, hG, hl1, hn1, hl2, hn2, hgr, hP⟩ := h; rfl) fun a cdv A outer s H E ct rs ob P h => ?_
  obtain ⟨ks, st, a, b, f, l2, r2, rfl, rfl, hok, hf, hG, hl1, hn1, hl2, hn2, hgr, hP⟩ := h
  refine wss_cons ?_
  refine ws_expr ?_
  refine we_call false (f_check_two T) ct (by decide) ?_
  refine wa_cons ?_
  refine we_name 0 rfl ?_
  refine wa_cons ?_
  refine we_name 1 rfl ?_
  refine wa_cons ?_
  refine we_name 2 rfl ?_
  refine wa_nil ?_
  refine ⟨[_, _, _], rfl, ?_⟩
  refine ⟨_, _, _, _, rfl, rfl, hok /- s0 -/, hf /- s1 -/, hl1 /- s2 -/, hn1 /- s3 -/, hl2 /- s4 -/, hn2 /- s5 -/, ?_⟩
  refine ⟨_, rfl, ?_⟩
  refine wss_one ?_
  refine ws_ret ?_
  refine we_ixT ?_
  refine we_callL (f_shared_beginning T) ct (by decide) ?_
  refine wa_cons ?_
  refine we_name 0 rfl ?_
  refine wa_cons ?_
  refine we_name 1 rfl ?_
  refine wa_cons ?_
  refine we_name 2 rfl ?_
  refine wa_nil ?_
  refine ⟨[_, _, _], rfl, ?_⟩
  refine ⟨_, _, _, _, _, _, _, rfl, rfl, hG /- s6 -/, hl1 /- s7 -/, hl2 /- s8 -/, hgr /- s9 -/, fun k i j m ob1 hk hij him hjm hi hj hm => ?_⟩
  refine .inr (.inr (.inr ⟨k, i, j, m, _, _, _, rfl, hk, hij, him, hjm, hi, hj, hm, allsc_ints _, allsc_ints _, allsc_ints _, ?_⟩))
  refine we_int ?_
  refine ⟨_, _, _, _, rfl, rfl, rfl, rfl, ?_⟩
  exact hP _ _ rfl -- ret0
def sp_both_left (K : PySem.W.Frag) : FS := fun rs ob P => ∃ (ks : List Int) (st : Option Int) (a b f l2 r2 : List Int), rs = [.d (letsD (He.ga K "Lets") ks st), .d (encI a), .d (encI b)] ∧ ob = [] ∧ okL ks st = true ∧ faultB ks st = none ∧ GoodF (inL ks st) ∧ a.length ≤ 200 ∧ NN a ∧ b.length ≤ 200 ∧ NN b ∧ grN (inL ks st) (a.length + b.length) a b = (f, l2, r2) ∧ ∀ (k i j : Nat) ob1, ob1[k]? = some (.tpl [.p i, .p j]) → i ≠ j → ob1[i]? = some (.lst (l2.map .int)) → ob1[j]? = some (.lst (r2.map .int)) → P (.p k) ob1
theorem f_both_left (T : Tx K mg) : Fn P w K mg base "both_left" s_both_left 8 ["lets", "one", "other"] (sp_both_left K) := by
  refine T.d_both_left.fn sc_both_left (fun _ _ _ _ _ _ us hl => match us, hl with | [_, _, _], _ => rfl) (fun rs ob P h => by obtain ⟨ks, st, a, b, f, l2, r2, rfl, rfl, hok, hf, hG, hl1, hn1, hl2, hn2, hgr, hP⟩ := h; rfl) fun a cdv A outer s H E ct rs ob P h => ?_
  obtain ⟨ks, st, a, b, f, l2, r2, rfl, rfl, hok, hf, hG, hl1, hn1, hl2, hn2, hgr, hP⟩ := h
  refine wss_cons ?_
  refine ws_expr ?_
  refine we_call false (f_check_two T) ct (by decide) ?_
  refine wa_cons ?_
  refine we_name 0 rfl ?_
  refine wa_cons ?_
  refine we_name 1 rfl ?_
  refine wa_cons ?_
  refine we_name 2 rfl ?_
  refine wa_nil ?_
  refine ⟨[_, _, _], rfl, ?_⟩
  refine ⟨_, _, _, _, rfl, rfl, hok /- s0 -/, hf /- s1 -/, hl1 /- s2 -/, hn1 /- s3 -/, hl2 /- s4 -/, hn2 /- s5 -/, ?_⟩
  refine ⟨_, rfl, ?_⟩
  refine wss_one ?_
  refine ws_ret ?_
  refine we_slT ?_
  refine we_callL (f_shared_beginning T) ct (by decide) ?_
  refine wa_cons ?_
  refine we_name 0 rfl ?_
  refine wa_cons ?_
  refine we_name 1 rfl ?_
  refine wa_cons ?_
  refine we_name 2 rfl ?_
  refine wa_nil ?_
  refine ⟨[_, _, _], rfl, ?_⟩
  refine ⟨_, _, _, _, _, _, _, rfl, rfl, hG /- s6 -/, hl1 /- s7 -/, hl2 /- s8 -/, hgr /- s9 -/, fun k i j m ob1 hk hij him hjm hi hj hm => ?_⟩
  refine .inr (.inr (.inr ⟨k, i, j, m, _, _, _, rfl, hk, hij, him, hjm, hi, hj, hm, allsc_ints _, allsc_ints _, allsc_ints _, ?_⟩))
  refine we_int ?_
  refine ⟨_, _, 1, rfl, rfl, rfl, by decide, by decide, ?_⟩
  exact hP _ _ _ _ rfl (by decide) rfl rfl -- ret0
def sp__law_hash (K : PySem.W.Frag) : FS := fun rs ob P => ∃ seed index : Int, rs = [.d (.int seed), .d (.int index)] ∧ 0 ≤ seed ∧ seed < 2147483648 ∧ 0 ≤ index ∧ index < 274877906944 ∧ ∀ v, 0 ≤ v → v < 2147483647 → P (.d (.int v)) ob
theorem f__law_hash (T : Tx K mg) : Fn P w K mg base "_law_hash" s__law_hash 1 ["seed", "index"] (sp__law_hash K) := by
  refine T.d__law_hash.fn sc__law_hash (fun _ _ _ _ _ _ us hl => match us, hl with | [_, _], _ => rfl) (fun rs ob P h => by obtain ⟨seed, index, rfl, q1, q2, q3, q4, hP⟩ := h; rfl) fun a cdv A outer s H E ct rs ob P h => ?_
  obtain ⟨seed, index, rfl, q1, q2, q3, q4, hP⟩ := h
  refine wss_cons ?_
  refine ws_set 2 ?_ ct.nd
  refine we_modA ?_
  refine we_int1 T.z_int ?_
  refine we_add false ?_
  refine we_add false ?_
  refine we_add false ?_
  refine we_mul false ?_
  refine we_name 0 rfl ?_
  refine we_int ?_
  refine ⟨(by first | decide | exact mulOkI (by omega) (by omega)) /- s0 -/, ?_⟩
  refine we_mul false ?_
  refine we_mul false ?_
  refine we_int ?_
  refine we_name 1 rfl ?_
  refine ⟨(by first | decide | exact mulOkI (by omega) (by omega)) /- s1 -/, ?_⟩
  refine we_name 1 rfl ?_
  refine ⟨(by first | decide | exact mulOkI (by omega) (by omega)) /- s2 -/, ?_⟩
  refine we_mul false ?_
  refine we_int ?_
  refine we_name 1 rfl ?_
  refine ⟨(by first | decide | exact mulOkI (by omega) (by omega)) /- s3 -/, ?_⟩
  refine we_int ?_
  refine ⟨_, rfl, ?_⟩
  refine we_int ?_
  refine ⟨_, _, rfl, rfl, (by first | decide | exact mulOkI (by omega) (by omega)) /- s4 -/, fun m1 hm1a hm1b => ?_⟩
  refine wss_cons ?_
  refine ws_set 2 ?_ ct.nd
  refine we_modA ?_
  refine we_int1 T.z_int ?_
  refine we_add false ?_
  refine we_add false ?_
  refine we_mul false ?_
  refine we_name 2 rfl ?_
  refine we_name 2 rfl ?_
  refine ⟨(by first | decide | exact mulOkI (by omega) (by omega)) /- s5 -/, ?_⟩
  refine we_mul false ?_
  refine we_int ?_
  refine we_name 1 rfl ?_
  refine ⟨(by first | decide | exact mulOkI (by omega) (by omega)) /- s6 -/, ?_⟩
  refine we_int ?_
  refine ⟨_, rfl, ?_⟩
  refine we_int ?_
  refine ⟨_, _, rfl, rfl, (by first | decide | exact mulOkI (by omega) (by omega)) /- s7 -/, fun m2 hm2a hm2b => ?_⟩
  refine wss_one ?_
  refine ws_ret ?_
  refine we_modA ?_
  refine we_int1 T.z_int ?_
  refine we_mul false ?_
  refine we_name 2 rfl ?_
  refine we_int ?_
  refine ⟨(by first | decide | exact mulOkI (by omega) (by omega)) /- s8 -/, ?_⟩
  refine ⟨_, rfl, ?_⟩
  refine we_int ?_
  refine ⟨_, _, rfl, rfl, (by first | decide | exact mulOkI (by omega) (by omega)) /- s9 -/, fun m3 hm3a hm3b => ?_⟩
  exact hP _ hm3a hm3b -- ret0
def sp__law_random (K : PySem.W.Frag) : FS := fun rs ob P => ∃ (n bound : Int) (l : List Dt), rs = [.p 0, .d (.int bound)] ∧ ob = [.lst l] ∧ genI n l ∧ 0 ≤ n ∧ n ≤ 1073741824 ∧ 0 < bound ∧ bound < 576460752303423488 ∧ ∀ v l1, genI (n + 2) l1 → 0 ≤ v → v < bound → P (.d (.int v)) [.lst l1]
theorem f__law_random (T : Tx K mg) : Fn P w K mg base "_law_random" s__law_random 2 ["generator", "bound"] (sp__law_random K) := by
  refine T.d__law_random.fn sc__law_random (fun _ _ _ _ _ _ us hl => match us, hl with | [_, _], _ => rfl) (fun rs ob P h => by obtain ⟨n, bound, l, rfl, rfl, ⟨g0, g1, g2, rfl, q1, q2, q3, q4, q5⟩, p1, p2, p3, p4, hP⟩ := h; rfl) fun a cdv A outer s H E ct rs ob P h => ?_
  obtain ⟨n, bound, l, rfl, rfl, ⟨g0, g1, g2, rfl, q1, q2, q3, q4, q5⟩, p1, p2, p3, p4, hP⟩ := h
  have hbits := bits59 p3 p4
  refine wss_cons ?_
  refine ws_if ?_
  refine wt_gt ?_
  refine we_ix ?_
  refine we_name 0 rfl ?_
  refine we_int ?_
  refine ⟨_, rfl, ?_⟩
  refine we_int ?_
  refine ⟨_, _, rfl, rfl, _, rfl, ?_⟩
  refine ⟨fun hi0t => ?_, fun hi0f => ?_⟩
  · refine wss_cons ?_
    refine ws_set 2 ?_ ct.nd
    refine we_modA ?_
    refine we_int1 T.z_int ?_
    refine we_ix ?_
    refine we_name 0 rfl ?_
    refine we_int ?_
    refine ⟨_, rfl, ?_⟩
    refine ⟨_, rfl, ?_⟩
    refine we_name 1 rfl ?_
    refine ⟨_, _, rfl, rfl, p3 /- s0 -/, fun m1 hm1a hm1b => ?_⟩
    refine wss_cons ?_
    refine ws_setIx ?_
    refine we_fdiv ?_
    refine we_ix ?_
    refine we_name 0 rfl ?_
    refine we_int ?_
    refine ⟨_, rfl, ?_⟩
    refine we_name 1 rfl ?_
    refine ⟨_, _, rfl, rfl, ⟨p3, log2_small p3 p4⟩ /- s1 -/, ?_⟩
    refine ⟨_, rfl, ?_⟩
    refine we_name 0 rfl ?_
    refine ⟨_, rfl, ?_⟩
    refine we_int ?_
    refine ⟨_, _, _, rfl, rfl, rfl, ?_⟩
    refine wss_one ?_
    refine ws_ret ?_
    refine we_name 2 rfl ?_
    exact hP _ _ ⟨_, _, _, rfl, Int.ediv_nonneg q1 (by omega), q2, q3, q4, by omega⟩ hm1a hm1b -- ret0
  · refine wss_nil ?_
    refine wss_cons ?_
    refine ws_set 2 ?_ ct.nd
    refine we_int ?_
    refine wss_cons ?_
    refine ws_for (t := .one 3) ct (pg_name ct.nd (i := 3) rfl (by first | exact Or.inl rfl | exact Or.inr rfl)) ?_
    refine wi_range1 T.z_range ?_
    refine we_add false ?_
    refine we_int ?_
    refine we_fdiv ?_
    refine we_bits ?_
    refine we_name 1 rfl ?_
    refine ⟨_, rfl, ?_⟩
    refine we_int ?_
    refine ⟨_, _, rfl, rfl, ⟨by decide, by decide⟩ /- s2 -/, ?_⟩
    refine ⟨_, rfl, ⟨by omega, by omega⟩ /- s3 -/, ?_⟩
    refine ⟨fun i ob1 sl1 => ∃ (g2 d : Int) (x : Option R), ob1 = [.lst [.int g0, .int g1, .int g2]] ∧ sl1 = [some (.p 0), some (.d (.int bound)), some (.d (.int d)), x] ∧ 0 ≤ g2 ∧ g2 ≤ n + i ∧ 0 ≤ d ∧ (i = 0 → d = 0) ∧ (i ≤ 1 → d < 4294967296), ⟨g2, 0, none, rfl, rfl, q4, by omega, by omega, fun _ => rfl, fun _ => by omega⟩, fun i d ob2 sl2 hd hJ => ?_, fun ob2 sl2 hJ => ?_⟩
    · obtain ⟨tn, hn, rfl⟩ := get_map hd
      have hi : i < 2 := by
        have := (List.getElem?_eq_some_iff.mp hn).1
        rw [irange_length] at this
        omega
      obtain ⟨e2, d, x, rfl, rfl, h1, h2, h3, h4, h5⟩ := hJ
      refine ⟨_, rfl, ?_⟩
      refine wss_cons ?_
      refine ws_setIx ?_
      refine we_add false ?_
      refine we_ix ?_
      refine we_name 0 rfl ?_
      refine we_int ?_
      refine ⟨_, rfl, ?_⟩
      refine we_int ?_
      refine ⟨_, rfl, ?_⟩
      refine we_name 0 rfl ?_
      refine ⟨_, rfl, ?_⟩
      refine we_int ?_
      refine ⟨_, _, _, rfl, rfl, rfl, ?_⟩
      refine wss_one ?_
      refine ws_set 2 ?_ ct.nd
      refine we_add false ?_
      refine we_mul false ?_
      refine we_name 2 rfl ?_
      refine we_int ?_
      refine ⟨(mulOkI h3 (by have := h5 (by omega); omega)) /- s4 -/, ?_⟩
      refine we_call false (f__law_hash T) ct (by decide) ?_
      refine wa_cons ?_
      refine we_ix ?_
      refine we_name 0 rfl ?_
      refine we_int ?_
      refine ⟨_, rfl, ?_⟩
      refine wa_cons ?_
      refine we_ix ?_
      refine we_name 0 rfl ?_
      refine we_int ?_
      refine ⟨_, rfl, ?_⟩
      refine wa_nil ?_
      refine ⟨[_, _], rfl, ?_⟩
      refine ⟨_, _, rfl, q2 /- s5 -/, q3 /- s6 -/, (by omega) /- s7 -/, (by omega) /- s8 -/, fun v hv0 hv1 => ?_⟩
      refine ⟨_, rfl, ?_⟩
      refine ⟨_, _, _, rfl, rfl, by omega, by omega, by omega, fun z => by omega, fun z => ?_⟩
      have z0 := h4 (by omega)
      omega -- next0
    · obtain ⟨e2, d, x, rfl, rfl, h1, h2, h3, h4, h5⟩ := hJ
      rw [List.length_map, irange_length] at h2
      refine wss_one ?_
      refine ws_ret ?_
      refine we_modA ?_
      refine we_int1 T.z_int ?_
      refine we_name 2 rfl ?_
      refine ⟨_, rfl, ?_⟩
      refine we_name 1 rfl ?_
      refine ⟨_, _, rfl, rfl, p3 /- s9 -/, fun m2 hm2a hm2b => ?_⟩
      exact hP _ _ ⟨_, _, _, rfl, q1, q2, q3, h1, by omega⟩ hm2a hm2b -- ret1
def sp__law_cell (K : PySem.W.Frag) : FS := fun rs ob P => ∃ (ns : List Int) (idx : Int), rs = [.p 0, .d (.int idx)] ∧ ob = [.rd (ns.map .int)] ∧ 0 ≤ idx ∧ (∀ z ∈ ns, Builtin.Int.intBits z ≤ 1048576) ∧ ∀ v, Builtin.Int.intBits v ≤ 1048576 → P (.d (.int v)) [.rd (ns.map .int)]
theorem f__law_cell (T : Tx K mg) : Fn P w K mg base "_law_cell" s__law_cell 1 ["script", "index"] (sp__law_cell K) := by
  refine T.d__law_cell.fn sc__law_cell (fun _ _ _ _ _ _ us hl => match us, hl with | [_, _], _ => rfl) (fun rs ob P h => by obtain ⟨ns, idx, rfl, rfl, q1, q2, hP⟩ := h; rfl) fun a cdv A outer s H E ct rs ob P h => ?_
  obtain ⟨ns, idx, rfl, rfl, q1, q2, hP⟩ := h
  refine wss_cons ?_
  refine ws_if ?_
  refine wt_lt ?_
  refine we_name 1 rfl ?_
  refine we_len T.z_len ?_
  refine we_name 0 rfl ?_
  refine ⟨_, _, rfl, rfl, _, rfl, ?_⟩
  refine ⟨fun hi0t => ?_, fun hi0f => ?_⟩
  · have hlt : idx < ((ns.map Dt.int).length : Nat) := of_decide_eq_true hi0t
    rw [List.length_map] at hlt
    obtain ⟨z, hzm, hz⟩ := atI_i q1 hlt
    refine wss_one ?_
    refine ws_ret ?_
    refine we_ix ?_
    refine we_name 0 rfl ?_
    refine we_name 1 rfl ?_
    refine ⟨_, (hz), ?_⟩
    exact hP _ (q2 _ hzm) -- ret0
  · refine wss_nil ?_
    refine wss_one ?_
    refine ws_ret ?_
    refine we_modA ?_
    refine we_sum ct T.z_sum ?_
    refine we_slHi false ?_
    refine we_name 0 rfl ?_
    refine we_int ?_
    refine ⟨_, rfl, (by intro l h; cases h), ?_⟩
    refine ⟨(ns.take 1), (by show some _ = some _; rw [cut1]), ?_⟩
    refine we_int ?_
    refine ⟨_, _, rfl, rfl, (by decide) /- s0 -/, fun m1 hm1a hm1b => ?_⟩
    exact hP _ (bitsM hm1a hm1b) -- ret1
def sp__law_generator (K : PySem.W.Frag) : FS := fun rs ob P => ∃ (ns : List Int) (idx : Int), rs = [.p 0, .d (.int idx)] ∧ ob = [.rd (ns.map .int)] ∧ 0 ≤ idx ∧ idx ≤ 10 ∧ (∀ z ∈ ns, Builtin.Int.intBits z ≤ 1048576) ∧ ∀ l, genI (1000 * idx) l → P (.p 1) [.rd (ns.map .int), .lst l]
theorem f__law_generator (T : Tx K mg) : Fn P w K mg base "_law_generator" s__law_generator 2 ["script", "index"] (sp__law_generator K) := by
  refine T.d__law_generator.fn sc__law_generator (fun _ _ _ _ _ _ us hl => match us, hl with | [_, _], _ => rfl) (fun rs ob P h => by obtain ⟨ns, idx, rfl, rfl, q1, q2, q3, hP⟩ := h; rfl) fun a cdv A outer s H E ct rs ob P h => ?_
  obtain ⟨ns, idx, rfl, rfl, q1, q2, q3, hP⟩ := h
  refine wss_cons ?_
  refine ws_set 2 ?_ ct.nd
  refine we_callO 0 (f__law_cell T) ct (by decide) ?_
  refine wa_cons ?_
  refine we_name 0 rfl ?_
  refine wa_cons ?_
  refine we_name 1 rfl ?_
  refine wa_nil ?_
  refine ⟨_, _, rfl, rfl, rfl, ?_⟩
  refine ⟨_, _, rfl, rfl, q1, q3, fun v hv => ?_⟩
  refine ⟨_, _, _, rfl, rfl, rfl, ?_⟩
  refine wss_one ?_
  refine ws_ret ?_
  refine we_lst true ?_
  refine wa_cons ?_
  refine we_modA ?_
  refine we_int1 T.z_int ?_
  refine we_max2 ct T.z_max ?_
  refine we_sub ?_
  refine we_name 2 rfl ?_
  refine we_powW ?_
  refine we_int ?_
  refine we_int ?_
  refine ⟨_, _, rfl, rfl, (by constructor <;> decide +kernel) /- s0 -/, ?_⟩
  refine ⟨_, _, rfl, rfl, ?_⟩
  refine we_int ?_
  refine ⟨_, _, rfl, rfl, ?_⟩
  refine ⟨_, rfl, ?_⟩
  refine we_powW ?_
  refine we_powW ?_
  refine we_int ?_
  refine we_int ?_
  refine ⟨_, _, rfl, rfl, (by constructor <;> decide +kernel) /- s1 -/, ?_⟩
  refine we_int ?_
  refine ⟨_, _, rfl, rfl, (by constructor <;> decide +kernel) /- s2 -/, ?_⟩
  refine ⟨_, _, rfl, rfl, (by decide +kernel) /- s3 -/, fun m1 hm1a hm1b => ?_⟩
  refine wa_cons ?_
  refine we_modA ?_
  refine we_int1 T.z_int ?_
  refine we_name 2 rfl ?_
  refine ⟨_, rfl, ?_⟩
  refine we_int ?_
  refine ⟨_, _, rfl, rfl, (by decide) /- s4 -/, fun m2 hm2a hm2b => ?_⟩
  refine wa_cons ?_
  refine we_mul false ?_
  refine we_int ?_
  refine we_name 1 rfl ?_
  refine ⟨(mulOk (by decide)) /- s5 -/, ?_⟩
  refine wa_nil ?_
  refine ⟨[_, _, _], rfl, Nat.le_of_ble_eq_true rfl, ?_⟩
  exact hP _ ⟨_, _, _, rfl, hm1a, hm2a, by omega, by omega, Int.le_refl _⟩ -- ret0
def sp__law_told_set (K : PySem.W.Frag) : FS := fun rs ob P => ∃ (n : Int) (l : List Dt), rs = [.p 0] ∧ ob = [.lst l] ∧ genI n l ∧ 0 ≤ n ∧ n ≤ 500000000 ∧ ∀ j l1 ob1, genI (n + 10) l1 → 0 ≤ j → j < 14 → P (.d (.tup [encI (toldL j).1, optD (toldL j).2])) (.lst l1 :: ob1)
theorem f__law_told_set (T : Tx K mg) : Fn P w K mg base "_law_told_set" s__law_told_set 3 ["generator"] (sp__law_told_set K) := by
  refine T.d__law_told_set.fn sc__law_told_set (fun _ _ _ _ _ _ us hl => match us, hl with | [_], _ => rfl) (fun rs ob P h => by obtain ⟨n, l, rfl, rfl, hg, p1, p2, hP⟩ := h; rfl) fun a cdv A outer s H E ct rs ob P h => ?_
  obtain ⟨n, l, rfl, rfl, hg, p1, p2, hP⟩ := h
  refine wss_cons ?_
  refine ws_set 1 ?_ ct.nd
  refine we_lst false ?_
  refine' wa_consV ?_ ?_
  rotate_left 1
  · refine we_tup ?_
    refine wa_cons ?_
    refine we_lst false ?_
    refine wa_cons ?_
    refine we_int ?_
    refine wa_nil ?_
    refine ⟨[_], rfl, Nat.le_of_ble_eq_true rfl, ?_⟩
    refine wa_cons ?_
    refine we_non ?_
    refine wa_nil ?_
    refine ⟨[_, _], rfl, Nat.le_of_ble_eq_true rfl, ?_⟩
    exact ⟨rfl, rfl⟩
  refine' wa_consV ?_ ?_
  rotate_left 1
  · refine we_tup ?_
    refine wa_cons ?_
    refine we_lst false ?_
    refine wa_cons ?_
    refine we_int ?_
    refine wa_nil ?_
    refine ⟨[_], rfl, Nat.le_of_ble_eq_true rfl, ?_⟩
    refine wa_cons ?_
    refine we_non ?_
    refine wa_nil ?_
    refine ⟨[_, _], rfl, Nat.le_of_ble_eq_true rfl, ?_⟩
    exact ⟨rfl, rfl⟩
  refine' wa_consV ?_ ?_
  rotate_left 1
  · refine we_tup ?_
    refine wa_cons ?_
    refine we_lst false ?_
    refine wa_cons ?_
    refine we_int ?_
    refine wa_nil ?_
    refine ⟨[_], rfl, Nat.le_of_ble_eq_true rfl, ?_⟩
    refine wa_cons ?_
    refine we_non ?_
    refine wa_nil ?_
    refine ⟨[_, _], rfl, Nat.le_of_ble_eq_true rfl, ?_⟩
    exact ⟨rfl, rfl⟩
  refine' wa_consV ?_ ?_
  rotate_left 1
  · refine we_tup ?_
    refine wa_cons ?_
    refine we_lst false ?_
    refine wa_cons ?_
    refine we_int ?_
    refine wa_cons ?_
    refine we_int ?_
    refine wa_nil ?_
    refine ⟨[_, _], rfl, Nat.le_of_ble_eq_true rfl, ?_⟩
    refine wa_cons ?_
    refine we_non ?_
    refine wa_nil ?_
    refine ⟨[_, _], rfl, Nat.le_of_ble_eq_true rfl, ?_⟩
    exact ⟨rfl, rfl⟩
  refine' wa_consV ?_ ?_
  rotate_left 1
  · refine we_tup ?_
    refine wa_cons ?_
    refine we_lst false ?_
    refine wa_cons ?_
    refine we_int ?_
    refine wa_cons ?_
    refine we_int ?_
    refine wa_cons ?_
    refine we_int ?_
    refine wa_nil ?_
    refine ⟨[_, _, _], rfl, Nat.le_of_ble_eq_true rfl, ?_⟩
    refine wa_cons ?_
    refine we_non ?_
    refine wa_nil ?_
    refine ⟨[_, _], rfl, Nat.le_of_ble_eq_true rfl, ?_⟩
    exact ⟨rfl, rfl⟩
  refine' wa_consV ?_ ?_
  rotate_left 1
  · refine we_tup ?_
    refine wa_cons ?_
    refine we_lst false ?_
    refine wa_cons ?_
    refine we_int ?_
    refine wa_cons ?_
    refine we_int ?_
    refine wa_nil ?_
    refine ⟨[_, _], rfl, Nat.le_of_ble_eq_true rfl, ?_⟩
    refine wa_cons ?_
    refine we_non ?_
    refine wa_nil ?_
    refine ⟨[_, _], rfl, Nat.le_of_ble_eq_true rfl, ?_⟩
    exact ⟨rfl, rfl⟩
  refine' wa_consV ?_ ?_
  rotate_left 1
  · refine we_tup ?_
    refine wa_cons ?_
    refine we_lst false ?_
    refine wa_cons ?_
    refine we_int ?_
    refine wa_cons ?_
    refine we_int ?_
    refine wa_cons ?_
    refine we_int ?_
    refine wa_nil ?_
    refine ⟨[_, _, _], rfl, Nat.le_of_ble_eq_true rfl, ?_⟩
    refine wa_cons ?_
    refine we_non ?_
    refine wa_nil ?_
    refine ⟨[_, _], rfl, Nat.le_of_ble_eq_true rfl, ?_⟩
    exact ⟨rfl, rfl⟩
  refine wa_nil ?_
  refine ⟨[_, _, _, _, _, _, _], rfl, Nat.le_of_ble_eq_true rfl, ?_⟩
  refine wss_cons ?_
  refine ws_set 1 ?_ ct.nd
  refine we_add false ?_
  refine we_name 1 rfl ?_
  refine we_lst false ?_
  refine' wa_consV ?_ ?_
  rotate_left 1
  · refine we_tup ?_
    refine wa_cons ?_
    refine we_lst false ?_
    refine wa_nil ?_
    refine ⟨[], rfl, Nat.le_of_ble_eq_true rfl, ?_⟩
    refine wa_cons ?_
    refine we_int ?_
    refine wa_nil ?_
    refine ⟨[_, _], rfl, Nat.le_of_ble_eq_true rfl, ?_⟩
    exact ⟨rfl, rfl⟩
  refine' wa_consV ?_ ?_
  rotate_left 1
  · refine we_tup ?_
    refine wa_cons ?_
    refine we_lst false ?_
    refine wa_nil ?_
    refine ⟨[], rfl, Nat.le_of_ble_eq_true rfl, ?_⟩
    refine wa_cons ?_
    refine we_int ?_
    refine wa_nil ?_
    refine ⟨[_, _], rfl, Nat.le_of_ble_eq_true rfl, ?_⟩
    exact ⟨rfl, rfl⟩
  refine' wa_consV ?_ ?_
  rotate_left 1
  · refine we_tup ?_
    refine wa_cons ?_
    refine we_lst false ?_
    refine wa_nil ?_
    refine ⟨[], rfl, Nat.le_of_ble_eq_true rfl, ?_⟩
    refine wa_cons ?_
    refine we_int ?_
    refine wa_nil ?_
    refine ⟨[_, _], rfl, Nat.le_of_ble_eq_true rfl, ?_⟩
    exact ⟨rfl, rfl⟩
  refine' wa_consV ?_ ?_
  rotate_left 1
  · refine we_tup ?_
    refine wa_cons ?_
    refine we_lst false ?_
    refine wa_cons ?_
    refine we_int ?_
    refine wa_nil ?_
    refine ⟨[_], rfl, Nat.le_of_ble_eq_true rfl, ?_⟩
    refine wa_cons ?_
    refine we_int ?_
    refine wa_nil ?_
    refine ⟨[_, _], rfl, Nat.le_of_ble_eq_true rfl, ?_⟩
    exact ⟨rfl, rfl⟩
  refine' wa_consV ?_ ?_
  rotate_left 1
  · refine we_tup ?_
    refine wa_cons ?_
    refine we_lst false ?_
    refine wa_nil ?_
    refine ⟨[], rfl, Nat.le_of_ble_eq_true rfl, ?_⟩
    refine wa_cons ?_
    refine we_non ?_
    refine wa_nil ?_
    refine ⟨[_, _], rfl, Nat.le_of_ble_eq_true rfl, ?_⟩
    exact ⟨rfl, rfl⟩
  refine' wa_consV ?_ ?_
  rotate_left 1
  · refine we_tup ?_
    refine wa_cons ?_
    refine we_lst false ?_
    refine wa_cons ?_
    refine we_int ?_
    refine wa_nil ?_
    refine ⟨[_], rfl, Nat.le_of_ble_eq_true rfl, ?_⟩
    refine wa_cons ?_
    refine we_non ?_
    refine wa_nil ?_
    refine ⟨[_, _], rfl, Nat.le_of_ble_eq_true rfl, ?_⟩
    exact ⟨rfl, rfl⟩
  refine' wa_consV ?_ ?_
  rotate_left 1
  · refine we_tup ?_
    refine wa_cons ?_
    refine we_lst false ?_
    refine wa_nil ?_
    refine ⟨[], rfl, Nat.le_of_ble_eq_true rfl, ?_⟩
    refine wa_cons ?_
    refine we_int ?_
    refine wa_nil ?_
    refine ⟨[_, _], rfl, Nat.le_of_ble_eq_true rfl, ?_⟩
    exact ⟨rfl, rfl⟩
  refine wa_nil ?_
  refine ⟨[_, _, _, _, _, _, _], rfl, Nat.le_of_ble_eq_true rfl, ?_⟩
  refine ⟨(by decide) /- s0 -/, ?_⟩
  skip
  refine wss_one ?_
  refine ws_ret ?_
  refine we_ix ?_
  refine we_name 1 rfl ?_
  refine we_callO 0 (f__law_random T) ct (by decide) ?_
  refine wa_cons ?_
  refine we_name 0 rfl ?_
  refine wa_cons ?_
  refine we_len T.z_len ?_
  refine we_name 1 rfl ?_
  refine wa_nil ?_
  refine ⟨_, _, rfl, rfl, rfl, ?_⟩
  refine ⟨_, _, _, rfl, rfl, hg, by omega, by omega, by decide, by decide, fun v l4 hg3 hv0 hv1 => ?_⟩
  have hv14 : v < 14 := hv1
  refine ⟨_, _, _, rfl, rfl, rfl, ?_⟩
  refine ⟨_, (told_at hv0 hv14), ?_⟩
  exact hP _ _ [] (genI_mono (by omega) hg3) hv0 hv14 -- ret0
def sp__law_in (K : PySem.W.Frag) : FS := fun rs ob P => ∃ (ns : List Int) (st : Option Int) (x : Int), rs = [.d (.tup [encI ns, optD st]), .d (.int x)] ∧ P (.d (.bl (inL ns st x))) ob
theorem f__law_in (T : Tx K mg) : Fn P w K mg base "_law_in" s__law_in 3 ["told", "number"] (sp__law_in K) := by
  refine T.d__law_in.fn sc__law_in (fun _ _ _ _ _ _ us hl => match us, hl with | [_, _], _ => rfl) (fun rs ob P h => by obtain ⟨ns, st, x, rfl, hP⟩ := h; rfl) fun a cdv A outer s H E ct rs ob P h => ?_
  obtain ⟨ns, st, x, rfl, hP⟩ := h
  cases st
  · refine wss_one ?_
    refine ws_ret ?_
    refine' we_orV ?_ (fun hh1 => ?_) ?_
    rotate_left 2
    · refine we_inI ct ?_
      refine we_name 1 rfl ?_
      refine we_ix ?_
      refine we_name 0 rfl ?_
      refine we_int ?_
      refine ⟨_, rfl, ?_⟩
      refine ⟨_, _, rfl, rfl, ?_⟩
      exact ⟨rfl, rfl⟩
    · refine we_one ?_
      refine' we_andV (c2 := false) ?_ (fun hh2 => ?_) ?_
      rotate_left 1
      · refine we_notN ?_
        refine we_ix ?_
        refine we_name 0 rfl ?_
        refine we_int ?_
        refine ⟨_, rfl, ?_⟩
        exact ⟨rfl, rfl⟩
      · exact (Bool.false_ne_true hh2).elim
      exact ⟨rfl, rfl⟩
    exact hP -- ret0
  · rename_i t
    refine wss_one ?_
    refine ws_ret ?_
    refine' we_orV ?_ (fun hh1 => ?_) ?_
    rotate_left 2
    · refine we_inI ct ?_
      refine we_name 1 rfl ?_
      refine we_ix ?_
      refine we_name 0 rfl ?_
      refine we_int ?_
      refine ⟨_, rfl, ?_⟩
      refine ⟨_, _, rfl, rfl, ?_⟩
      exact ⟨rfl, rfl⟩
    · refine we_one ?_
      refine' we_andV ?_ (fun hh2 => ?_) ?_
      rotate_left 2
      · refine we_notN ?_
        refine we_ix ?_
        refine we_name 0 rfl ?_
        refine we_int ?_
        refine ⟨_, rfl, ?_⟩
        exact ⟨rfl, rfl⟩
      · refine we_one ?_
        refine we_ge ?_
        refine we_name 1 rfl ?_
        refine we_ix ?_
        refine we_name 0 rfl ?_
        refine we_int ?_
        refine ⟨_, rfl, ?_⟩
        refine ⟨_, _, rfl, rfl, ?_⟩
        exact ⟨rfl, rfl⟩
      exact ⟨rfl, rfl⟩
    exact hP -- ret0
def sp__law_lets (K : PySem.W.Frag) : FS := fun rs ob P => ∃ (ns : List Int) (st : Option Int), rs = [.d (.tup [encI ns, optD st])] ∧ ob = [] ∧ ns.length ≤ 90 ∧ (∀ n ∈ ns, 1 ≤ n ∧ n ≤ 1000) ∧ stOk st = true ∧ ∀ ob1, P (.d (letsD (He.ga K "Lets") (fillS (numsL ns) st).1 (fillS (numsL ns) st).2)) ob1
theorem f__law_lets (T : Tx K mg) : Fn P w K mg base "_law_lets" s__law_lets 5 ["told"] (sp__law_lets K) := by
  refine T.d__law_lets.fn sc__law_lets (fun _ _ _ _ _ _ us hl => match us, hl with | [_], _ => rfl) (fun rs ob P h => by obtain ⟨ns, st, rfl, rfl, hl, hb, hst, hP⟩ := h; rfl) fun a cdv A outer s H E ct rs ob P h => ?_
  obtain ⟨ns, st, rfl, rfl, hl, hb, hst, hP⟩ := h
  refine wss_cons ?_
  refine ws_set 1 ?_ ct.nd
  refine' we_ifV (u := (ns.reverse ++ ns)) (w := ns) (encI) ?_ (fun hh1 => ?_) (fun hh2 => ?_) ?_
  rotate_left 1
  · refine wt_eq ct ?_
    refine we_mod ?_
    refine we_int1 T.z_int ?_
    refine we_sum ct T.z_sum ?_
    refine we_ix ?_
    refine we_name 0 rfl ?_
    refine we_int ?_
    refine ⟨_, rfl, ?_⟩
    refine ⟨ns, rfl, ?_⟩
    refine ⟨_, rfl, ?_⟩
    refine we_int ?_
    refine ⟨_, _, rfl, rfl, (by decide) /- s0 -/, ?_⟩
    refine we_int ?_
    refine ⟨_, rfl, ?_⟩
    exact ⟨rfl, rfl⟩
  · refine we_add false ?_
    refine we_revL false ?_
    refine we_ix ?_
    refine we_name 0 rfl ?_
    refine we_int ?_
    refine ⟨_, rfl, ?_⟩
    refine we_ix ?_
    refine we_name 0 rfl ?_
    refine we_int ?_
    refine ⟨_, rfl, ?_⟩
    refine ⟨(cat_sz (by rw [List.length_reverse, List.length_map]; omega) (by rw [List.length_map]; omega)) /- s1 -/, ?_⟩
    rw [rev_enc, ← List.map_append]
    exact ⟨rfl, rfl⟩
  · refine we_list false T.z_list ?_
    refine we_ix ?_
    refine we_name 0 rfl ?_
    refine we_int ?_
    refine ⟨_, rfl, ?_⟩
    exact ⟨rfl, rfl⟩
  rw [cond_false, numsL_eq]
  refine wss_one ?_
  refine ws_ret ?_
  refine we_make false (mk_Lets2 T) ct (by decide) ?_
  refine wa_cons ?_
  refine we_name 1 rfl ?_
  refine wa_cons ?_
  refine we_ix ?_
  refine we_name 0 rfl ?_
  refine we_int ?_
  refine ⟨_, rfl, ?_⟩
  refine wa_nil ?_
  refine ⟨[_, _], rfl, ?_⟩
  refine ⟨_, _, rfl, rfl, (by have := numsL_len ns; omega), (fun n hn => hb n (numsL_mem.mp hn)), hst, fun more => ?_⟩
  refine ⟨rfl, [("_held", _), ("_start", _)], _, rfl, ?_⟩
  exact hP _ -- ret0
def sp__law_exchanged (K : PySem.W.Frag) : FS := fun rs ob P => ∃ (ns : List Int) (st : Option Int) (x y : Int), rs = [.d (.tup [encI ns, optD st]), .d (.int x), .d (.int y)] ∧ P (.d (encO (chgT ns st x y))) ob
theorem f__law_exchanged (T : Tx K mg) : Fn P w K mg base "_law_exchanged" s__law_exchanged 4 ["told", "one", "other"] (sp__law_exchanged K) := by
  refine T.d__law_exchanged.fn sc__law_exchanged (fun _ _ _ _ _ _ us hl => match us, hl with | [_, _, _], _ => rfl) (fun rs ob P h => by obtain ⟨ns, st, x, y, rfl, hP⟩ := h; rfl) fun a cdv A outer s H E ct rs ob P h => ?_
  obtain ⟨ns, st, x, y, rfl, hP⟩ := h
  refine wss_cons ?_
  refine ws_if ?_
  refine wt_w ?_
  refine' ww_andV ?_ (fun hh1 => ?_) ?_
  rotate_left 2
  · refine wt_gt ?_
    refine we_name 2 rfl ?_
    refine we_name 1 rfl ?_
    refine ⟨_, _, rfl, rfl, _, rfl, ?_⟩
    exact ⟨rfl, rfl⟩
  · refine ww_and1 ?_
    refine wt_val ?_
    refine we_call false (f__law_in T) ct (by decide) ?_
    refine wa_cons ?_
    refine we_name 0 rfl ?_
    refine wa_cons ?_
    refine we_sub ?_
    refine we_sub ?_
    refine we_name 2 rfl ?_
    refine we_name 1 rfl ?_
    refine ⟨_, _, rfl, rfl, ?_⟩
    refine we_int ?_
    refine ⟨_, _, rfl, rfl, ?_⟩
    refine wa_nil ?_
    refine ⟨[_, _], rfl, ?_⟩
    refine ⟨_, _, _, rfl, ?_⟩
    refine ⟨_, rfl, ?_⟩
    refine ⟨trivial, ?_⟩
    exact ⟨rfl, rfl⟩
  refine ⟨fun hi0t => ?_, fun hi0f => ?_⟩
  · refine wss_one ?_
    refine ws_ret ?_
    refine we_lst false ?_
    refine wa_cons ?_
    refine we_sub ?_
    refine we_name 2 rfl ?_
    refine we_int ?_
    refine ⟨_, _, rfl, rfl, ?_⟩
    refine wa_cons ?_
    refine we_name 1 rfl ?_
    refine wa_nil ?_
    refine ⟨[_, _], rfl, Nat.le_of_ble_eq_true rfl, ?_⟩
    rw [chgT, if_pos (show (decide (x < y) && inL ns st (y - x - 1)) = true from hi0t)] at hP
    exact hP -- ret0
  · refine wss_nil ?_
    refine wss_cons ?_
    refine ws_if ?_
    refine wt_w ?_
    refine' ww_andV ?_ (fun hh2 => ?_) ?_
    rotate_left 2
    · refine wt_gt ?_
      refine we_name 1 rfl ?_
      refine we_name 2 rfl ?_
      refine ⟨_, _, rfl, rfl, _, rfl, ?_⟩
      exact ⟨rfl, rfl⟩
    · refine ww_and1 ?_
      refine wt_val ?_
      refine we_call false (f__law_in T) ct (by decide) ?_
      refine wa_cons ?_
      refine we_name 0 rfl ?_
      refine wa_cons ?_
      refine we_sub ?_
      refine we_name 1 rfl ?_
      refine we_name 2 rfl ?_
      refine ⟨_, _, rfl, rfl, ?_⟩
      refine wa_nil ?_
      refine ⟨[_, _], rfl, ?_⟩
      refine ⟨_, _, _, rfl, ?_⟩
      refine ⟨_, rfl, ?_⟩
      refine ⟨trivial, ?_⟩
      exact ⟨rfl, rfl⟩
    refine ⟨fun hi1t => ?_, fun hi1f => ?_⟩
    · refine wss_one ?_
      refine ws_ret ?_
      refine we_lst false ?_
      refine wa_cons ?_
      refine we_name 2 rfl ?_
      refine wa_cons ?_
      refine we_add false ?_
      refine we_name 1 rfl ?_
      refine we_int ?_
      refine wa_nil ?_
      refine ⟨[_, _], rfl, Nat.le_of_ble_eq_true rfl, ?_⟩
      rw [chgT, if_neg (by rw [show (decide (x < y) && inL ns st (y - x - 1)) = false from hi0f]; exact Bool.false_ne_true), if_pos (show (decide (y < x) && inL ns st (x - y)) = true from hi1t)] at hP
      exact hP -- ret1
    · refine wss_nil ?_
      refine wss_one ?_
      refine ws_ret ?_
      refine we_non ?_
      rw [chgT, if_neg (by rw [show (decide (x < y) && inL ns st (y - x - 1)) = false from hi0f]; exact Bool.false_ne_true), if_neg (by rw [show (decide (y < x) && inL ns st (x - y)) = false from hi1f]; exact Bool.false_ne_true)] at hP
      exact hP -- ret2
def sp__law_near (K : PySem.W.Frag) : FS := fun rs ob P => ∃ (ns : List Int) (st : Option Int) (row : List Int), rs = [.d (.tup [encI ns, optD st]), .d (encI row)] ∧ ob = [] ∧ row.length ≤ 300 ∧ P (.p 0) [.lst ((nearM ns st row).map encI)]
theorem f__law_near (T : Tx K mg) : Fn P w K mg base "_law_near" s__law_near 5 ["told", "row"] (sp__law_near K) := by
  refine T.d__law_near.fn sc__law_near (fun _ _ _ _ _ _ us hl => match us, hl with | [_, _], _ => rfl) (fun rs ob P h => by obtain ⟨ns, st, row, rfl, rfl, hl, hP⟩ := h; rfl) fun a cdv A outer s H E ct rs ob P h => ?_
  obtain ⟨ns, st, row, rfl, rfl, hl, hP⟩ := h
  refine wss_cons ?_
  refine ws_set 2 ?_ ct.nd
  refine we_lst true ?_
  refine wa_nil ?_
  refine ⟨[], rfl, Nat.le_of_ble_eq_true rfl, ?_⟩
  refine wss_cons ?_
  refine ws_for (t := .one 3) ct (pg_name ct.nd (i := 3) rfl (by first | exact Or.inl rfl | exact Or.inr rfl)) ?_
  refine wi_range1 T.z_range ?_
  refine we_sub ?_
  refine we_len T.z_len ?_
  refine we_name 1 rfl ?_
  refine we_int ?_
  refine ⟨_, _, rfl, rfl, ?_⟩
  refine ⟨_, rfl, (by rw [List.length_map]; exact ⟨by omega, by omega⟩) /- s0 -/, ?_⟩
  refine ⟨fun i ob1 sl1 => ∃ x y : Option R, ob1 = [.lst ((((irange 0 ((row.length : Int) - 1)).take i).filterMap (nearAt ns st row)).map encI)] ∧ sl1 = [some (.d (.tup [encI ns, optD st])), some (.d (encI row)), some (.p 0), x, y], ⟨none, none, rfl, rfl⟩, fun i d ob2 sl2 hd hJ => ?_, fun ob2 sl2 hJ => ?_⟩
  · rw [List.length_map] at hd
    obtain ⟨p, hp, rfl⟩ := get_map hd
    have hb := mem_irange.mp (List.mem_of_getElem? hp)
    obtain ⟨x, y, rfl, rfl⟩ := hJ
    refine ⟨_, rfl, ?_⟩
    refine wss_cons ?_
    refine ws_set 4 ?_ ct.nd
    refine we_call false (f__law_exchanged T) ct (by decide) ?_
    refine wa_cons ?_
    refine we_name 0 rfl ?_
    refine wa_cons ?_
    refine we_ix ?_
    refine we_name 1 rfl ?_
    refine we_name 3 rfl ?_
    refine ⟨_, (atI_g (by omega) (by omega)), ?_⟩
    refine wa_cons ?_
    refine we_ix ?_
    refine we_name 1 rfl ?_
    refine we_add false ?_
    refine we_name 3 rfl ?_
    refine we_int ?_
    refine ⟨_, (atI_g (by omega) (by omega)), ?_⟩
    refine wa_nil ?_
    refine ⟨[_, _, _], rfl, ?_⟩
    refine ⟨_, _, _, _, rfl, ?_⟩
    refine ⟨_, rfl, ?_⟩
    refine wss_one ?_
    refine ws_if ?_
    refine wt_notN ?_
    refine we_name 4 rfl ?_
    refine ⟨fun hi0t => ?_, fun hi0f => ?_⟩
    · obtain ⟨led, hled⟩ : ∃ led, chgT ns st (iget row p) (iget row (p + 1)) = some led := by
        rw [isNon_encO] at hi0t
        cases e : chgT ns st (iget row p) (iget row (p + 1)) with
        | none => rw [e] at hi0t; cases hi0t
        | some led => exact ⟨led, rfl⟩
      have hln := chg_len hled
      rw [hled]
      refine wss_one ?_
      refine ws_expr ?_
      refine we_append ?_
      refine we_name 2 rfl ?_
      refine ⟨_, _, rfl, rfl, ?_⟩
      refine we_add false ?_
      refine we_add false ?_
      refine we_slHi false ?_
      refine we_name 1 rfl ?_
      refine we_name 3 rfl ?_
      refine ⟨_, rfl, (by intro l h; cases h), ?_⟩
      refine we_name 4 rfl ?_
      refine ⟨(cut_sz1 (by omega) hl (by rw [List.length_map]; omega)) /- s1 -/, ?_⟩
      skip
      refine we_slLo false ?_
      refine we_name 1 rfl ?_
      refine we_add false ?_
      refine we_name 3 rfl ?_
      refine we_int ?_
      refine ⟨_, rfl, (by intro l h; cases h), ?_⟩
      refine ⟨(cut_sz2 (by omega) (by omega) hl (by rw [List.length_map]; omega)) /- s2 -/, ?_⟩
      rw [cut_hi (by omega), cut_lo (show (0 : Int) ≤ p + 2 from by omega), near_enc]
      refine ⟨_, _, rfl, rfl, (near_sz hl) /- s3 -/, ?_⟩
      refine ⟨_, _, ?_, rfl⟩
      rw [fm_snoc hp, List.map_append (f := encI), show nearAt ns st row p = some (row.take p.toNat ++ led ++ row.drop (p + 2).toNat) from by rw [nearAt, hled]; rfl]
      rfl -- next0
    · have hled : chgT ns st (iget row p) (iget row (p + 1)) = none := by
        rw [isNon_encO] at hi0f
        cases e : chgT ns st (iget row p) (iget row (p + 1)) with
        | none => rfl
        | some led => rw [e] at hi0f; cases hi0f
      refine wss_nil ?_
      refine ⟨_, _, ?_, rfl⟩
      rw [fm_snoc hp, show nearAt ns st row p = none from by rw [nearAt, hled]; rfl, Option.toList_none, List.append_nil] -- next1
  · obtain ⟨x, y, rfl, rfl⟩ := hJ
    rw [List.length_map, List.length_map, List.take_of_length_le (Nat.le_refl _)]
    refine wss_one ?_
    refine ws_ret ?_
    refine we_name 2 rfl ?_
    exact hP -- ret0
def sp__law_class (K : PySem.W.Frag) : FS := fun rs ob P => ∃ (ns : List Int) (st : Option Int) (row : List Int), rs = [.d (.tup [encI ns, optD st]), .d (encI row), .d (.int 300)] ∧ ob = [] ∧ GoodF (inL ns st) ∧ row.length ≤ 7 ∧ ∀ (o : Option (List (List Int))) ob1, (∀ lot, o = some lot → ∃ l0 : List (List Int), lot = l0.mergeSort leR ∧ (∀ x, x ∈ l0 ↔ Jn (inL ns st) row x) ∧ l0.length ≤ 300) → P (.d (encOR o)) ob1
theorem f__law_class (T : Tx K mg) : Fn P w K mg base "_law_class" s__law_class 6 ["told", "row", "most"] (sp__law_class K) := by
  refine T.d__law_class.fn sc__law_class (fun _ _ _ _ _ _ us hl => match us, hl with | [_, _, _], _ => rfl) (fun rs ob P h => by obtain ⟨ns, st, row, rfl, rfl, hG, hl, hP⟩ := h; rfl) fun a cdv A outer s H E ct rs ob P h => ?_
  obtain ⟨ns, st, row, rfl, rfl, hG, hl, hP⟩ := h
  refine wss_cons ?_
  refine ws_par (j := 4) 3 rfl ct.nd ?_ rfl rfl (by decide) (ps_par rfl ct.nd rfl rfl (by decide) rfl rfl pa_wp rfl)
  refine wa_cons ?_
  refine we_dispT1 (Dt.bl) ct ?_
  refine we_tuple T.z_tuple ?_
  refine we_name 1 rfl ?_
  refine ⟨_, rfl, ?_⟩
  refine we_bl ?_
  refine ⟨row, true, rfl, rfl, rfl, ?_⟩
  refine wa_cons ?_
  refine we_lst true ?_
  refine wa_cons ?_
  refine we_list false T.z_list ?_
  refine we_name 1 rfl ?_
  refine wa_nil ?_
  refine ⟨[_], rfl, Nat.le_of_ble_eq_true rfl, ?_⟩
  refine wa_nil ?_
  refine ⟨_, _, rfl, ?_⟩
  refine wss_cons ?_
  refine ws_for (t := .one 5) ct (pg_name ct.nd (i := 5) rfl (by first | exact Or.inl rfl | exact Or.inr rfl)) ?_
  refine wi_range1 T.z_range ?_
  refine we_name 2 rfl ?_
  refine ⟨_, rfl, ⟨by decide, by decide⟩ /- s0 -/, ?_⟩
  refine ⟨fun i ob1 sl1 => ∃ (lot : List (List Int)) (k : Nat) (x y : Option R), ob1 = [.dtt (dttE Dt.bl (setM lot)), .lst (lot.map encI)] ∧ sl1 = [some (.d (.tup [encI ns, optD st])), some (.d (encI row)), some (.d (.int 300)), some (.p 0), some (.p 1), x, y] ∧ ClsI ns st row lot k ∧ (k = i ∨ lot.length ≤ k) ∧ k ≤ i ∧ lot.length ≤ 1 + 6 * i, ⟨[row], 0, none, none, rfl, rfl, cls_0, .inl rfl, Nat.le_refl _, by simp⟩, fun i d ob2 sl2 hd hJ => ?_, fun ob2 sl2 hJ => ?_⟩
  · obtain ⟨t, ht, rfl⟩ := get_map hd
    have hi := (List.getElem?_eq_some_iff.mp ht).1
    rw [irange_length] at hi
    have hti : t = 0 + (i : Int) := irange_get ht
    rw [Int.zero_add] at hti
    subst hti
    obtain ⟨lot, k, x, y, rfl, rfl, hc, hk, hki, hll⟩ := hJ
    refine ⟨_, rfl, ?_⟩
    refine wss_one ?_
    refine ws_if ?_
    refine wt_lt ?_
    refine we_name 5 rfl ?_
    refine we_len T.z_len ?_
    refine we_name 4 rfl ?_
    refine ⟨_, _, rfl, rfl, _, rfl, ?_⟩
    refine ⟨fun hi0t => ?_, fun hi0f => ?_⟩
    · have hkl := of_decide_eq_true hi0t
      rw [List.length_map] at hkl
      obtain rfl : k = i := by omega
      have hk2 : k < lot.length := by omega
      obtain ⟨r0, hr0⟩ : ∃ r, lot[k]? = some r := ⟨_, List.getElem?_eq_getElem hk2⟩
      have hrl := (hc.jn r0 (List.mem_of_getElem? hr0)).len
      have hnl := near_len (ns := ns) (st := st) (row := r0) (by omega)
      refine wss_one ?_
      refine ws_for (t := .one 6) ct (pg_name ct.nd (i := 6) rfl (by first | exact Or.inl rfl | exact Or.inr rfl)) ?_
      refine wi_lst ?_
      refine we_call false (f__law_near T) ct (by decide) ?_
      refine wa_cons ?_
      refine we_name 0 rfl ?_
      refine wa_cons ?_
      refine we_ix ?_
      refine we_name 4 rfl ?_
      refine we_name 5 rfl ?_
      refine ⟨_, (at_get hr0), ?_⟩
      refine wa_nil ?_
      refine ⟨[_, _], rfl, ?_⟩
      refine ⟨_, _, _, rfl, rfl, by omega, ?_⟩
      refine ⟨_, rfl, ?_⟩
      refine ⟨_, rfl, fun hsz => ?_⟩
      refine ⟨fun j ob1 sl1 => ∃ (l2 : List (List Int)) (y : Option R), ob1 = [.dtt (dttE Dt.bl (setM l2)), .lst (l2.map encI)] ∧ sl1 = [some (.d (.tup [encI ns, optD st])), some (.d (encI row)), some (.d (.int 300)), some (.p 0), some (.p 1), some (.d (.int (k : Int))), y] ∧ ClsI ns st row l2 k ∧ l2[k]? = some r0 ∧ (∀ z ∈ (nearM ns st r0).take j, z ∈ l2) ∧ l2.length ≤ 1 + 6 * k + j, ⟨lot, y, rfl, rfl, hc, hr0, (fun z hz => by rw [List.take_zero] at hz; cases hz), by omega⟩, fun j d ob2 sl2 hd hJ => ?_, fun ob2 sl2 hJ => ?_⟩
      · obtain ⟨yy, hy, rfl⟩ := get_map hd
        have hj6 := (List.getElem?_eq_some_iff.mp hy).1
        obtain ⟨l2, y2, rfl, rfl, hc2, hk3, hz2, hl2⟩ := hJ
        refine ⟨_, rfl, ?_⟩
        refine wss_one ?_
        refine ws_if ?_
        refine wt_notInT (Dt.bl) ct ?_
        refine we_tuple T.z_tuple ?_
        refine we_name 6 rfl ?_
        refine ⟨_, rfl, ?_⟩
        refine we_name 3 rfl ?_
        refine ⟨_, _, rfl, rfl, _, rfl, ?_⟩
        refine ⟨fun hi1t => ?_, fun hi1f => ?_⟩
        · have hm : yy ∉ l2 := fun m => by
            have e : (!(valM (setM l2) yy).isSome) = true := hi1t
            rw [val_set, decide_eq_true m] at e
            cases e
          refine wss_cons ?_
          refine ws_putT (Dt.bl) ct ?_
          refine we_bl ?_
          refine ⟨_, rfl, ?_⟩
          refine we_name 3 rfl ?_
          refine we_tuple T.z_tuple ?_
          refine we_name 6 rfl ?_
          refine ⟨_, rfl, ?_⟩
          refine ⟨_, _, _, rfl, rfl, rfl, (set_sz (by omega)) /- s1 -/, ?_⟩
          refine wss_one ?_
          refine ws_expr ?_
          refine we_append ?_
          refine we_name 4 rfl ?_
          refine ⟨_, _, rfl, rfl, ?_⟩
          refine we_name 6 rfl ?_
          refine ⟨_, _, rfl, rfl, (row_sz (by omega)) /- s2 -/, ?_⟩
          exact ⟨l2 ++ [yy], _, by rw [← put_set hm, List.map_append (f := encI)]; rfl, rfl, cls_new hc2 hk3 (List.mem_of_getElem? hy) hm, get_app hk3, cls_old hy (fun z hz => List.mem_append_left _ (hz2 z hz)) (List.mem_append_right _ (List.mem_singleton.mpr rfl)), by rw [List.length_append]; simp only [List.length_cons, List.length_nil]; omega⟩ -- next0
        · have hm : yy ∈ l2 := by
            have e : (!(valM (setM l2) yy).isSome) = false := hi1f
            rw [val_set] at e
            simpa using e
          refine wss_nil ?_
          exact ⟨l2, _, rfl, rfl, hc2, hk3, cls_old hy hz2 hm, by omega⟩ -- next1
      · obtain ⟨l2, y2, rfl, rfl, hc2, hk3, hz2, hl2⟩ := hJ
        rw [List.length_map] at hl2
        rw [List.length_map, List.take_length] at hz2
        exact ⟨l2, k + 1, _, _, rfl, rfl, cls_turn hc2 hk3 hz2, .inl rfl, Nat.le_refl _, by omega⟩ -- next2
    · have hkl := of_decide_eq_false hi0f
      rw [List.length_map] at hkl
      refine wss_nil ?_
      exact ⟨lot, k, _, _, rfl, rfl, hc, .inr (by omega), by omega, by omega⟩ -- next3
  · obtain ⟨lot, k, x, y, rfl, rfl, hc, hk, hki, hll⟩ := hJ
    rw [List.length_map, irange_length] at hk hki hll
    refine wss_one ?_
    refine ws_ret ?_
    refine' we_ifV (u := (some (lot.mergeSort leR))) (w := none) (encOR) ?_ (fun hh1 => ?_) (fun hh2 => ?_) ?_
    rotate_left 1
    · refine wt_le ?_
      refine we_len T.z_len ?_
      refine we_name 4 rfl ?_
      refine we_name 2 rfl ?_
      refine ⟨_, _, rfl, rfl, _, rfl, ?_⟩
      exact ⟨rfl, rfl⟩
    · refine we_sorted false ct T.z_sorted ?_
      refine we_name 4 rfl ?_
      refine ⟨(sortOk_rows _) /- s3 -/, ?_⟩
      rw [sortD_rows]
      exact ⟨rfl, rfl⟩
    · refine we_non ?_
      exact ⟨rfl, rfl⟩
    refine hP _ _ fun l3 e => ?_
    rw [List.length_map] at e
    have e : (bif decide ((lot.length : Int) ≤ 300) then some (lot.mergeSort leR) else none) = some l3 := e
    by_cases c : (lot.length : Int) ≤ 300
    · rw [decide_eq_true c] at e
      exact ⟨lot, (Option.some.inj e).symm, cls_end hG hc (by omega), by omega⟩
    · rw [decide_eq_false c] at e
      cases e -- ret0
def sp__law_left (K : PySem.W.Frag) : FS := fun rs ob P => ∃ (ns : List Int) (st : Option Int) (row : List Int) (item : Int), rs = [.d (.tup [encI ns, optD st]), .d (encI row), .d (.int item)] ∧ ob = [] ∧ row.length ≤ 300 ∧ ∀ ob1, P (.d (encO (lft (inL ns st) item row))) ob1
theorem f__law_left (T : Tx K mg) : Fn P w K mg base "_law_left" s__law_left 4 ["told", "row", "item"] (sp__law_left K) := by
  refine T.d__law_left.fn sc__law_left (fun _ _ _ _ _ _ us hl => match us, hl with | [_, _, _], _ => rfl) (fun rs ob P h => by obtain ⟨ns, st, row, item, rfl, rfl, hl, hP⟩ := h; rfl) fun a cdv A outer s H E ct rs ob P h => ?_
  obtain ⟨ns, st, row, item, rfl, rfl, hl, hP⟩ := h
  refine wss_cons ?_
  refine ws_par (j := 4) 3 rfl ct.nd ?_ rfl rfl (by decide) (ps_par rfl ct.nd rfl rfl (by decide) rfl rfl pa_wp rfl)
  refine wa_cons ?_
  refine we_lst true ?_
  refine wa_nil ?_
  refine ⟨[], rfl, Nat.le_of_ble_eq_true rfl, ?_⟩
  refine wa_cons ?_
  refine we_name 2 rfl ?_
  refine wa_nil ?_
  refine ⟨_, _, rfl, ?_⟩
  refine wss_cons ?_
  refine ws_for (t := .many [.one 5, .one 6]) ct (pg_tup rfl (pgs_cons (pg_name ct.nd (i := 5) rfl (by first | exact Or.inl rfl | exact Or.inr rfl)) (pgs_cons (pg_name ct.nd (i := 6) rfl (by first | exact Or.inl rfl | exact Or.inr rfl)) (pgs_nil)))) ?_
  refine wi_enum T.z_enumerate ?_
  refine we_name 1 rfl ?_
  refine ⟨_, rfl, fun hsz => ?_⟩
  rw [enum_ints]
  refine ⟨fun i ob1 sl1 => ∃ (fd : List Int) (now : Int) (x y : Option R), ob1 = [.lst (fd.map .int)] ∧ sl1 = [some (.d (.tup [encI ns, optD st])), some (.d (encI row)), some (.d (.int item)), some (.p 0), some (.d (.int now)), x, y] ∧ fd.length = i ∧ lfA (inL ns st) fd now (row.drop i) = lft (inL ns st) item row, ⟨[], item, none, none, rfl, rfl, rfl, lfA_0 _ _⟩, fun i d ob2 sl2 hd hJ => ?_, fun ob2 sl2 hJ => ?_⟩
  · obtain ⟨p, hp, rfl⟩ := get_map hd
    obtain ⟨hp1, hp2⟩ := zip_at hp
    have hlt := (List.getElem?_eq_some_iff.mp hp1).1
    obtain ⟨fd, now, x, y, rfl, rfl, hfl, hW⟩ := hJ
    refine ⟨_, rfl, ?_⟩
    rw [drop_at hp1] at hW
    refine wss_cons ?_
    refine ws_if ?_
    refine wt_eq ct ?_
    refine we_name 6 rfl ?_
    refine we_name 4 rfl ?_
    refine ⟨_, rfl, ?_⟩
    refine ⟨fun hi0t => ?_, fun hi0f => ?_⟩
    · refine wss_one ?_
      refine ws_ret ?_
      refine we_add false ?_
      refine we_name 3 rfl ?_
      refine we_slLo false ?_
      refine we_name 1 rfl ?_
      refine we_add false ?_
      refine we_name 5 rfl ?_
      refine we_int ?_
      refine ⟨_, rfl, (by intro l h; cases h), ?_⟩
      refine ⟨(cat_sz (by rw [List.length_map]; omega) (by rw [cut_lo (show (0 : Int) ≤ (p.2 : Int) + 1 from by omega), List.length_map, List.length_drop]; omega)) /- s0 -/, ?_⟩
      rw [cut_lo (show (0 : Int) ≤ (p.2 : Int) + 1 from by omega), ← List.map_append, hp2, show ((i : Int) + 1).toNat = i + 1 from by omega]
      rw [lfA_eq (of_decide_eq_true hi0t)] at hW
      rw [← hW] at hP
      exact hP _ -- ret0
    · refine wss_nil ?_
      refine wss_one ?_
      refine ws_if ?_
      refine wt_w ?_
      refine' ww_andV ?_ (fun hh1 => ?_) ?_
      rotate_left 2
      · refine wt_gt ?_
        refine we_name 4 rfl ?_
        refine we_name 6 rfl ?_
        refine ⟨_, _, rfl, rfl, _, rfl, ?_⟩
        exact ⟨rfl, rfl⟩
      · refine ww_and1 ?_
        refine wt_val ?_
        refine we_call false (f__law_in T) ct (by decide) ?_
        refine wa_cons ?_
        refine we_name 0 rfl ?_
        refine wa_cons ?_
        refine we_sub ?_
        refine we_name 4 rfl ?_
        refine we_name 6 rfl ?_
        refine ⟨_, _, rfl, rfl, ?_⟩
        refine wa_nil ?_
        refine ⟨[_, _], rfl, ?_⟩
        refine ⟨_, _, _, rfl, ?_⟩
        refine ⟨_, rfl, ?_⟩
        refine ⟨trivial, ?_⟩
        exact ⟨rfl, rfl⟩
      refine ⟨fun hi1t => ?_, fun hi1f => ?_⟩
      · refine wss_cons ?_
        refine ws_expr ?_
        refine we_append ?_
        refine we_name 3 rfl ?_
        refine ⟨_, _, rfl, rfl, ?_⟩
        refine we_name 6 rfl ?_
        refine ⟨_, _, rfl, rfl, (app_sz (by omega)) /- s1 -/, ?_⟩
        refine wss_one ?_
        refine ws_set 4 ?_ ct.nd
        refine we_add false ?_
        refine we_name 4 rfl ?_
        refine we_int ?_
        rw [lfA_lo (of_decide_eq_false hi0f) hi1t] at hW
        rw [cat1]
        exact ⟨_, _, _, _, rfl, rfl, by rw [List.length_append, hfl]; rfl, hW⟩ -- next0
      · refine wss_one ?_
        refine ws_if ?_
        refine wt_w ?_
        refine' ww_andV ?_ (fun hh2 => ?_) ?_
        rotate_left 2
        · refine wt_gt ?_
          refine we_name 6 rfl ?_
          refine we_name 4 rfl ?_
          refine ⟨_, _, rfl, rfl, _, rfl, ?_⟩
          exact ⟨rfl, rfl⟩
        · refine ww_and1 ?_
          refine wt_val ?_
          refine we_call false (f__law_in T) ct (by decide) ?_
          refine wa_cons ?_
          refine we_name 0 rfl ?_
          refine wa_cons ?_
          refine we_sub ?_
          refine we_name 6 rfl ?_
          refine we_name 4 rfl ?_
          refine ⟨_, _, rfl, rfl, ?_⟩
          refine wa_nil ?_
          refine ⟨[_, _], rfl, ?_⟩
          refine ⟨_, _, _, rfl, ?_⟩
          refine ⟨_, rfl, ?_⟩
          refine ⟨trivial, ?_⟩
          exact ⟨rfl, rfl⟩
        refine ⟨fun hi2t => ?_, fun hi2f => ?_⟩
        · refine wss_one ?_
          refine ws_expr ?_
          refine we_append ?_
          refine we_name 3 rfl ?_
          refine ⟨_, _, rfl, rfl, ?_⟩
          refine we_add false ?_
          refine we_name 6 rfl ?_
          refine we_int ?_
          refine ⟨_, _, rfl, rfl, (app_sz (by omega)) /- s2 -/, ?_⟩
          rw [lfA_hi (of_decide_eq_false hi0f) hi1f hi2t] at hW
          rw [cat1]
          exact ⟨_, _, _, _, rfl, rfl, by rw [List.length_append, hfl]; rfl, hW⟩ -- next1
        · refine wss_one ?_
          refine ws_ret ?_
          refine we_non ?_
          rw [lfA_no (of_decide_eq_false hi0f) hi1f hi2f] at hW
          rw [← hW] at hP
          exact hP _ -- ret1
  · obtain ⟨fd, now, x, y, rfl, rfl, hfl, hW⟩ := hJ
    rw [List.length_map, List.length_zipIdx, List.drop_length, lfA_nil] at hW
    refine wss_one ?_
    refine ws_ret ?_
    refine we_non ?_
    rw [← hW] at hP
    exact hP _ -- ret2
def sp__law_divided (K : PySem.W.Frag) : FS := fun rs ob P => ∃ (ns : List Int) (st : Option Int) (row items : List Int), rs = [.d (.tup [encI ns, optD st]), .d (encI row), .d (encI items)] ∧ ob = [] ∧ row.length ≤ 300 ∧ ∀ ob1, P (.d (encO (lby (inL ns st) row items))) ob1
theorem f__law_divided (T : Tx K mg) : Fn P w K mg base "_law_divided" s__law_divided 5 ["told", "row", "by"] (sp__law_divided K) := by
  refine T.d__law_divided.fn sc__law_divided (fun _ _ _ _ _ _ us hl => match us, hl with | [_, _, _], _ => rfl) (fun rs ob P h => by obtain ⟨ns, st, row, items, rfl, rfl, hl, hP⟩ := h; rfl) fun a cdv A outer s H E ct rs ob P h => ?_
  obtain ⟨ns, st, row, items, rfl, rfl, hl, hP⟩ := h
  refine wss_cons ?_
  refine ws_set 3 ?_ ct.nd
  refine we_list false T.z_list ?_
  refine we_name 1 rfl ?_
  refine wss_cons ?_
  refine ws_for (t := .one 4) ct (pg_name ct.nd (i := 4) rfl (by first | exact Or.inl rfl | exact Or.inr rfl)) ?_
  refine wi_lst ?_
  refine we_name 2 rfl ?_
  refine ⟨_, rfl, fun hsz => ?_⟩
  refine ⟨fun i ob1 sl1 => ∃ (o : Option (List Int)) (x : Option R), sl1 = [some (.d (.tup [encI ns, optD st])), some (.d (encI row)), some (.d (encI items)), some (.d (encO o)), x] ∧ (∀ l, o = some l → l.length ≤ 300) ∧ (items.drop i).foldl (fun o x => o.bind (lft (inL ns st) x)) o = lby (inL ns st) row items, ⟨some row, none, rfl, (fun l e => by cases e; exact hl), rfl⟩, fun i d ob2 sl2 hd hJ => ?_, fun ob2 sl2 hJ => ?_⟩
  · obtain ⟨a, ha, rfl⟩ := get_map hd
    obtain ⟨o, x, rfl, hz, hW⟩ := hJ
    refine ⟨_, rfl, ?_⟩
    rw [drop_at ha, List.foldl_cons] at hW
    refine wss_one ?_
    refine ws_set 3 ?_ ct.nd
    refine we_ifD (Φ := fun x ob2 => x = encO (o.bind (lft (inL ns st) a))) ?_ (fun x ob2 hx => ?_)
    · refine wt_isN ?_
      refine we_name 3 rfl ?_
      refine ⟨fun hh1 => ?_, fun hh1 => ?_⟩
      · refine we_non ?_
        exact ⟨_, rfl, by rw [encO_none hh1]; rfl⟩
      · obtain ⟨l, rfl⟩ := encO_some hh1
        have hll := hz l rfl
        refine we_call false (f__law_left T) ct (by decide) ?_
        refine wa_cons ?_
        refine we_name 0 rfl ?_
        refine wa_cons ?_
        refine we_name 3 rfl ?_
        refine wa_cons ?_
        refine we_name 4 rfl ?_
        refine wa_nil ?_
        refine ⟨[_, _, _], rfl, ?_⟩
        refine ⟨_, _, _, _, rfl, rfl, (by first | assumption | omega | decide) /- s0 -/, fun ob1 => ?_⟩
        refine ⟨_, rfl, ?_⟩
        exact ⟨_, rfl, rfl⟩
    subst hx
    refine ⟨_, _, rfl, fun l e => ?_, hW⟩
    obtain ⟨w, rfl, e2⟩ := Option.bind_eq_some_iff.mp e
    have := hz w rfl
    have := lft_len2 e2
    omega -- next0
  · obtain ⟨o, x, rfl, hz, hW⟩ := hJ
    rw [List.length_map, List.drop_length, List.foldl_nil] at hW
    refine wss_one ?_
    refine ws_ret ?_
    refine we_name 3 rfl ?_
    rw [← hW] at hP
    exact hP _ -- ret0
def sp__law_stirred (K : PySem.W.Frag) : FS := fun rs ob P => ∃ (n : Int) (l : List Dt) (ns : List Int) (st : Option Int) (row : List Int) (most : Int), rs = [.p 0, .d (.tup [encI ns, optD st]), .d (encI row), .d (.int most)] ∧ ob = [.lst l] ∧ genI n l ∧ 0 ≤ n ∧ n ≤ 500000000 ∧ GoodF (inL ns st) ∧ row.length ≤ 7 ∧ (∀ x ∈ row, x ≤ 6) ∧ 0 ≤ most ∧ most ≤ 10 ∧ ∀ r l1 ob1, genI (n + 20) l1 → Jn (inL ns st) row r → (∀ x ∈ r, x ≤ 16) → P (.d (encI r)) (.lst l1 :: ob1)
theorem f__law_stirred (T : Tx K mg) : Fn P w K mg base "_law_stirred" s__law_stirred 6 ["generator", "told", "row", "most"] (sp__law_stirred K) := by
  refine T.d__law_stirred.fn sc__law_stirred (fun _ _ _ _ _ _ us hl => match us, hl with | [_, _, _, _], _ => rfl) (fun rs ob P h => by obtain ⟨n, l, ns, st, row, most, rfl, rfl, hg, p1, p2, hG, hl, hb, q1, q2, hP⟩ := h; rfl) fun a cdv A outer s H E ct rs ob P h => ?_
  obtain ⟨n, l, ns, st, row, most, rfl, rfl, hg, p1, p2, hG, hl, hb, q1, q2, hP⟩ := h
  refine wss_cons ?_
  refine ws_set 4 ?_ ct.nd
  refine we_list false T.z_list ?_
  refine we_name 2 rfl ?_
  refine wss_cons ?_
  refine ws_for (t := .one 5) ct (pg_name ct.nd (i := 5) rfl (by first | exact Or.inl rfl | exact Or.inr rfl)) ?_
  refine wi_range1 T.z_range ?_
  refine we_name 3 rfl ?_
  refine ⟨_, rfl, ⟨by omega, by omega⟩ /- s0 -/, ?_⟩
  refine ⟨fun i ob1 sl1 => ∃ (r : List Int) (l2 : List Dt) (x y : Option R), ob1 = [.lst l2] ∧ sl1 = [some (.p 0), some (.d (.tup [encI ns, optD st])), some (.d (encI row)), some (.d (.int most)), some (.d (encI r)), x, y] ∧ genI (n + 2 * i) l2 ∧ Jn (inL ns st) row r ∧ ∀ x ∈ r, x ≤ 6 + (i : Int), ⟨row, l, none, none, rfl, rfl, genI_mono (by omega) hg, .refl _, fun x hx => by have := hb x hx; omega⟩, fun i d ob2 sl2 hd hJ => ?_, fun ob2 sl2 hJ => ?_⟩
  · obtain ⟨t, ht, rfl⟩ := get_map hd
    have hi := (List.getElem?_eq_some_iff.mp ht).1
    rw [irange_length] at hi
    obtain ⟨r, l2, x, y, rfl, rfl, hg2, hj, hb2⟩ := hJ
    refine ⟨_, rfl, ?_⟩
    have hrl := hj.len
    refine wss_cons ?_
    refine ws_set 6 ?_ ct.nd
    refine we_call false (f__law_near T) ct (by decide) ?_
    refine wa_cons ?_
    refine we_name 1 rfl ?_
    refine wa_cons ?_
    refine we_name 4 rfl ?_
    refine wa_nil ?_
    refine ⟨[_, _], rfl, ?_⟩
    refine ⟨_, _, _, rfl, rfl, (by first | assumption | omega | decide) /- s1 -/, ?_⟩
    refine ⟨_, rfl, ?_⟩
    refine wss_one ?_
    refine ws_set 4 ?_ ct.nd
    refine we_ifD (Φ := fun x ob2 => ∃ (r2 : List Int) (l4 : List Dt), x = encI r2 ∧ ob2 = [.lst l4] ∧ genI (n + 2 * i + 2) l4 ∧ Jn (inL ns st) row r2 ∧ ∀ x ∈ r2, x ≤ 7 + (i : Int)) ?_ (fun x ob2 hx => ?_)
    · refine wt_neR ct ?_
      refine we_name 6 rfl ?_
      refine we_lst false ?_
      refine wa_nil ?_
      refine ⟨[], rfl, Nat.le_of_ble_eq_true rfl, ?_⟩
      refine ⟨_, [], rfl, rfl, _, rfl, ?_⟩
      refine ⟨fun hh1 => ?_, fun hh1 => ?_⟩
      · have hne : ¬ nearM ns st r = [] := by simpa using hh1
        have hnl := List.length_pos_iff.mpr hne
        have hnl2 := near_len (ns := ns) (st := st) (row := r) (by omega)
        refine we_ix ?_
        refine we_name 6 rfl ?_
        refine we_callO 0 (f__law_random T) ct (by decide) ?_
        refine wa_cons ?_
        refine we_name 0 rfl ?_
        refine wa_cons ?_
        refine we_len T.z_len ?_
        refine we_name 6 rfl ?_
        refine wa_nil ?_
        refine ⟨_, _, rfl, rfl, rfl, ?_⟩
        refine ⟨_, _, _, rfl, rfl, hg2, by omega, by omega, by rw [List.length_map]; omega, by rw [List.length_map]; omega, fun v l4 hg3 hv0 hv1 => ?_⟩
        obtain ⟨r2, hr2, hat⟩ := at_rows hv0 (by rw [List.length_map] at hv1; exact hv1)
        refine ⟨_, _, _, rfl, rfl, rfl, ?_⟩
        refine ⟨_, hat, ?_⟩
        exact ⟨_, rfl, r2, _, rfl, rfl, hg3, hj.trans (near_deed hr2).jn, fun x hx => by have := deed_bd (near_deed hr2) hG hb2 x hx; omega⟩
      · refine we_name 4 rfl ?_
        exact ⟨_, rfl, r, _, rfl, rfl, genI_mono (by omega) hg2, hj, fun x hx => by have := hb2 x hx; omega⟩
    obtain ⟨r2, l4, rfl, rfl, hg3, hj2, hb3⟩ := hx
    exact ⟨r2, _, _, _, rfl, rfl, genI_mono (by omega) hg3, hj2, fun x hx => by have := hb3 x hx; omega⟩ -- next0
  · obtain ⟨r, l2, x, y, rfl, rfl, hg2, hj, hb2⟩ := hJ
    rw [List.length_map, irange_length] at hg2 hb2
    refine wss_one ?_
    refine ws_ret ?_
    refine we_name 4 rfl ?_
    exact hP _ _ [] (genI_mono (by omega) hg2) hj fun x hx => by have := hb2 x hx; omega -- ret0
def sp__law_row (K : PySem.W.Frag) : FS := fun rs ob P => ∃ (n : Int) (l : List Dt) (most high : Int), rs = [.p 0, .d (.int most), .d (.int high)] ∧ ob = [.lst l] ∧ genI n l ∧ 0 ≤ n ∧ n ≤ 500000000 ∧ 0 ≤ most ∧ most ≤ 100 ∧ 0 ≤ high ∧ high ≤ 100 ∧ ∀ r l1 ob1, genI (n + 300) l1 → (r.length : Int) ≤ most → (∀ x ∈ r, 0 ≤ x ∧ x ≤ high) → P (.d (encI r)) (.lst l1 :: ob1)
theorem f__law_row (T : Tx K mg) : Fn P w K mg base "_law_row" s__law_row 3 ["generator", "most", "high"] (sp__law_row K) := by
  refine T.d__law_row.fn sc__law_row (fun _ _ _ _ _ _ us hl => match us, hl with | [_, _, _], _ => rfl) (fun rs ob P h => by obtain ⟨n, l, most, high, rfl, rfl, hg, p1, p2, q1, q2, q3, q4, hP⟩ := h; rfl) fun a cdv A outer s H E ct rs ob P h => ?_
  obtain ⟨n, l, most, high, rfl, rfl, hg, p1, p2, q1, q2, q3, q4, hP⟩ := h
  refine wss_one ?_
  refine ws_ret ?_
  refine we_lcP (own := false) (t := .one 3) (ow := [("turn", 3)]) ct (lcP_mapGI (.int) (Dt.int) (fun (i : Nat) (y : Int) => 0 ≤ y ∧ y ≤ high) (fun i2 ob => ∃ l2, ob = [.lst l2] ∧ genI (n + 2 + 2 * i2) l2) rfl (fun _ _ _ _ _ => pg_name ct.nd (i := 3) rfl (by first | exact Or.inl rfl | exact Or.inr rfl)) ?_) (blkOk_by (by kernel_rfl))
  refine wi_range1 T.z_range ?_
  refine we_callO 0 (f__law_random T) ct (by decide) ?_
  refine wa_cons ?_
  refine we_name 0 rfl ?_
  refine wa_cons ?_
  refine we_add false ?_
  refine we_name 1 rfl ?_
  refine we_int ?_
  refine wa_nil ?_
  refine ⟨_, _, rfl, rfl, rfl, ?_⟩
  refine ⟨_, _, _, rfl, rfl, hg, by omega, by omega, by omega, by omega, fun len l2 hg2 hv0 hv1 => ?_⟩
  refine ⟨_, _, _, rfl, rfl, rfl, ?_⟩
  refine ⟨_, rfl, ⟨by omega, by omega⟩ /- s0 -/, ?_⟩
  refine ⟨(by rw [List.length_map, irange_length]; exact Nat.le_trans (show _ ≤ 300 from by omega) (by decide)), ⟨_, rfl, genI_mono (by omega) hg2⟩, irange 0 len, rfl, fun i a ha => ⟨_, rfl, fun ob2 hg s H C cl fp => ?_⟩, fun l2 ob2 hlen hphi hg => ?_⟩
  · obtain ⟨l3, rfl, hg4⟩ := hg
    have hi := (List.getElem?_eq_some_iff.mp ha).1
    rw [irange_length] at hi
    have hai := irange_get ha
    refine we_callO 0 (f__law_random T) ct.blk (by decide) ?_
    refine wa_cons ?_
    refine we_name 0 rfl ?_
    refine wa_cons ?_
    refine we_add false ?_
    refine we_name 2 rfl ?_
    refine we_int ?_
    refine wa_nil ?_
    refine ⟨_, _, rfl, rfl, rfl, ?_⟩
    refine ⟨_, _, _, rfl, rfl, hg4, by omega, by omega, by omega, by omega, fun w l5 hg5 hw0 hw1 => ?_⟩
    refine ⟨_, _, _, rfl, rfl, rfl, ?_⟩
    exact ⟨w, rfl, ⟨by omega, by omega⟩, _, rfl, genI_mono (by omega) hg5⟩
  obtain ⟨l6, rfl, hg4⟩ := hg
  rw [irange_length] at hlen hg4
  exact hP _ _ [] (genI_mono (by omega) hg4) (by omega) fun x hx => by
    obtain ⟨i, hi⟩ := List.getElem?_of_mem hx
    exact hphi i x hi -- ret0
def sp__law_fronts (K : PySem.W.Frag) : FS := fun rs ob P => ∃ (ns : List Int) (st : Option Int) (row : List Int), rs = [.d (.tup [encI ns, optD st]), .d (encI row)] ∧ ob = [] ∧ row.length ≤ 300 ∧ ∀ ob1, P (.d (encI (frM (inL ns st) row))) ob1
theorem f__law_fronts (T : Tx K mg) : Fn P w K mg base "_law_fronts" s__law_fronts 5 ["told", "row"] (sp__law_fronts K) := by
  refine T.d__law_fronts.fn sc__law_fronts (fun _ _ _ _ _ _ us hl => match us, hl with | [_, _], _ => rfl) (fun rs ob P h => by obtain ⟨ns, st, row, rfl, rfl, hl, hP⟩ := h; rfl) fun a cdv A outer s H E ct rs ob P h => ?_
  obtain ⟨ns, st, row, rfl, rfl, hl, hP⟩ := h
  refine wss_cons ?_
  refine ws_set 2 ?_ ct.nd
  refine we_lst false ?_
  refine wa_nil ?_
  refine ⟨[], rfl, Nat.le_of_ble_eq_true rfl, ?_⟩
  refine wss_cons ?_
  refine ws_for (t := .one 3) ct (pg_name ct.nd (i := 3) rfl (by first | exact Or.inl rfl | exact Or.inr rfl)) ?_
  refine wi_range1 T.z_range ?_
  refine we_len T.z_len ?_
  refine we_name 1 rfl ?_
  refine ⟨_, rfl, (by rw [List.length_map]; exact ⟨by omega, by omega⟩) /- s0 -/, ?_⟩
  refine ⟨fun i ob1 sl1 => ∃ (x y z u v : Option R), sl1 = [some (.d (.tup [encI ns, optD st])), some (.d (encI row)), some (.d (encI (((irange 0 (row.length : Int)).take i).filterMap (fun n : Int => toF (inL ns st) row n.toNat)))), x, y, z, u, v], ⟨none, none, none, none, none, rfl⟩, fun i d ob2 sl2 hd hJ => ?_, fun ob2 sl2 hJ => ?_⟩
  · rw [List.length_map] at hd
    obtain ⟨at1, hat, rfl⟩ := get_map hd
    have hb := mem_irange.mp (List.mem_of_getElem? hat)
    have hiat := irange_get hat
    have hil := (List.getElem?_eq_some_iff.mp hat).1
    rw [irange_length] at hil
    have hat2 : row[at1.toNat]? = some (iget row at1) := by
      rw [iget, List.getD_eq_getElem?_getD, List.getElem?_eq_getElem (by omega)]
      rfl
    have hfl : (((irange 0 (row.length : Int)).take i).filterMap (fun n : Int => toF (inL ns st) row n.toNat)).length ≤ 300 := Nat.le_trans (fm_len) (by rw [irange_length]; omega)
    obtain ⟨x, y, z, u, v, rfl⟩ := hJ
    refine ⟨_, rfl, ?_⟩
    refine wss_cons ?_
    refine ws_par (j := 5) 4 rfl ct.nd ?_ rfl rfl (by decide) (ps_par rfl ct.nd rfl rfl (by decide) rfl rfl pa_wp rfl)
    refine wa_cons ?_
    refine we_slHi false ?_
    refine we_name 1 rfl ?_
    refine we_name 3 rfl ?_
    refine ⟨_, rfl, (by intro l h; cases h), ?_⟩
    refine wa_cons ?_
    refine we_ix ?_
    refine we_name 1 rfl ?_
    refine we_name 3 rfl ?_
    refine ⟨_, (atI_g hb.1 hb.2), ?_⟩
    refine wa_nil ?_
    refine ⟨_, _, rfl, ?_⟩
    refine wss_cons ?_
    refine ws_for (t := .one 6) ct (pg_name ct.nd (i := 6) rfl (by first | exact Or.inl rfl | exact Or.inr rfl)) ?_
    refine wi_lst ?_
    refine we_revL false ?_
    refine we_name 4 rfl ?_
    refine ⟨_, rfl, fun hsz => ?_⟩
    rw [cut_hi hb.1, rev_enc]
    refine ⟨fun j ob1 sl1 => ∃ (it : Option Int) (u v : Option R), sl1 = [some (.d (.tup [encI ns, optD st])), some (.d (encI row)), some (.d (encI (((irange 0 (row.length : Int)).take i).filterMap (fun n : Int => toF (inL ns st) row n.toNat)))), some (.d (.int at1)), some (.d (encI (row.take at1.toNat))), some (.d (optD it)), u, v] ∧ ((row.take at1.toNat).reverse.drop j).foldl (fun o f => o.bind (exF (inL ns st) f)) it = toF (inL ns st) row at1.toNat, ⟨some (iget row at1), u, v, rfl, by rw [List.drop_zero, toF, hat2]⟩, fun j d ob2 sl2 hd hJ => ?_, fun ob2 sl2 hJ => ?_⟩
    · obtain ⟨f, hf, rfl⟩ := get_map hd
      obtain ⟨it, u2, v2, rfl, hW⟩ := hJ
      refine ⟨_, rfl, ?_⟩
      rw [drop_at hf, List.foldl_cons] at hW
      refine wss_cons ?_
      refine ws_set 7 ?_ ct.nd
      refine we_ifD (Φ := fun x ob2 => x = encO (it.bind fun w => chgT ns st f w)) ?_ (fun x ob2 hx => ?_)
      · refine wt_isN ?_
        refine we_name 5 rfl ?_
        refine ⟨fun hh1 => ?_, fun hh1 => ?_⟩
        · refine we_non ?_
          exact ⟨_, rfl, by rw [optD_none hh1]; rfl⟩
        · obtain ⟨w, rfl⟩ := optD_some hh1
          refine we_call false (f__law_exchanged T) ct (by decide) ?_
          refine wa_cons ?_
          refine we_name 0 rfl ?_
          refine wa_cons ?_
          refine we_name 6 rfl ?_
          refine wa_cons ?_
          refine we_name 5 rfl ?_
          refine wa_nil ?_
          refine ⟨[_, _, _], rfl, ?_⟩
          refine ⟨_, _, _, _, rfl, ?_⟩
          refine ⟨_, rfl, ?_⟩
          exact ⟨_, rfl, rfl⟩
      subst hx
      refine wss_one ?_
      refine ws_set 5 ?_ ct.nd
      refine we_ifD (Φ := fun x ob2 => x = optD (it.bind (exF (inL ns st) f))) ?_ (fun x ob2 hx => ?_)
      · refine wt_isN ?_
        refine we_name 7 rfl ?_
        refine ⟨fun hh2 => ?_, fun hh2 => ?_⟩
        · refine we_non ?_
          refine ⟨_, rfl, ?_⟩
          cases it with
          | none => rfl
          | some w =>
            rw [Option.bind_some, chg_exF.1 (encO_none hh2)]
            rfl
        · obtain ⟨pr, hpr⟩ := encO_some hh2
          rw [hpr]
          obtain ⟨w, rfl, hpr2⟩ := Option.bind_eq_some_iff.mp hpr
          obtain ⟨v3, w3, rfl, hex⟩ := chg_exF.2 pr hpr2
          refine we_ix ?_
          refine we_name 7 rfl ?_
          refine we_int ?_
          refine ⟨_, (at0 _ _), ?_⟩
          exact ⟨_, rfl, by rw [Option.bind_some, hex]; rfl⟩
      subst hx
      exact ⟨_, _, _, rfl, hW⟩ -- next0
    · obtain ⟨it, u2, v2, rfl, hW⟩ := hJ
      rw [List.length_map, List.drop_length, List.foldl_nil] at hW
      refine wss_one ?_
      refine ws_set 2 ?_ ct.nd
      refine we_add false ?_
      refine we_name 2 rfl ?_
      refine we_ifD (Φ := fun x ob2 => x = encI it.toList) ?_ (fun x ob2 hx => ?_)
      · refine wt_notN ?_
        refine we_name 5 rfl ?_
        refine ⟨fun hh3 => ?_, fun hh3 => ?_⟩
        · obtain ⟨w, rfl⟩ := optD_some (by simpa using hh3)
          refine we_lst false ?_
          refine wa_cons ?_
          refine we_name 5 rfl ?_
          refine wa_nil ?_
          refine ⟨[_], rfl, Nat.le_of_ble_eq_true rfl, ?_⟩
          exact ⟨_, rfl, rfl⟩
        · obtain rfl := optD_none (by simpa using hh3)
          refine we_lst false ?_
          refine wa_nil ?_
          refine ⟨[], rfl, Nat.le_of_ble_eq_true rfl, ?_⟩
          exact ⟨_, rfl, rfl⟩
      subst hx
      refine ⟨(cat_sz (by rw [List.length_map]; omega) (by cases it <;> simp)) /- s1 -/, ?_⟩
      try rw [← List.map_append]
      exact ⟨some (.d (.int at1)), some (.d (encI (row.take at1.toNat))), some (.d (optD it)), u2, v2, by rw [fm_snoc hat, ← hW]; rfl⟩ -- next1
  · obtain ⟨x, y, z, u, v, rfl⟩ := hJ
    rw [List.length_map, List.length_map, List.take_of_length_le (Nat.le_refl _), frU_irange]
    refine wss_one ?_
    refine ws_ret ?_
    refine we_sorted false ct T.z_sorted ?_
    refine we_name 2 rfl ?_
    refine ⟨sortOk_ints _ /- s2 -/, ?_⟩
    rw [sortD_ints, mergeI]
    exact hP _ -- ret0
def sp__law_first (K : PySem.W.Frag) : FS := fun rs ob P => ∃ (ns : List Int) (st : Option Int) (row : List Int), rs = [.d (.tup [encI ns, optD st]), .d (encI row)] ∧ ob = [] ∧ GoodF (inL ns st) ∧ row.length ≤ 300 ∧ P (.p 0) [.lst ((fsM (inL ns st) row).map .int)]
theorem f__law_first (T : Tx K mg) : Fn P w K mg base "_law_first" s__law_first 6 ["told", "row"] (sp__law_first K) := by
  refine T.d__law_first.fn sc__law_first (fun _ _ _ _ _ _ us hl => match us, hl with | [_, _], _ => rfl) (fun rs ob P h => by obtain ⟨ns, st, row, rfl, rfl, hG, hl, hP⟩ := h; rfl) fun a cdv A outer s H E ct rs ob P h => ?_
  obtain ⟨ns, st, row, rfl, rfl, hG, hl, hP⟩ := h
  refine wss_cons ?_
  refine ws_par (j := 3) 2 rfl ct.nd ?_ rfl rfl (by decide) (ps_par rfl ct.nd rfl rfl (by decide) rfl rfl pa_wp rfl)
  refine wa_cons ?_
  refine we_lst true ?_
  refine wa_nil ?_
  refine ⟨[], rfl, Nat.le_of_ble_eq_true rfl, ?_⟩
  refine wa_cons ?_
  refine we_list false T.z_list ?_
  refine we_name 1 rfl ?_
  refine wa_nil ?_
  refine ⟨_, _, rfl, ?_⟩
  refine wss_cons ?_
  refine ws_while ct (fun m ob1 sl1 => ∃ (fd lf : List Int), ob1 = [.lst (fd.map .int)] ∧ sl1 = [some (.d (.tup [encI ns, optD st])), some (.d (encI row)), some (.p 0), some (.d (encI lf))] ∧ m = lf.length ∧ fd.length + lf.length ≤ 300 ∧ fd ++ fsM (inL ns st) lf = fsM (inL ns st) row) row.length ⟨[], row, rfl, rfl, rfl, by simpa using hl, by rw [List.nil_append]⟩ fun m ob2 sl2 hW => ?_
  obtain ⟨fd, lf, rfl, rfl, rfl, hz, hW⟩ := hW
  refine wt_neI ct ?_
  refine we_name 3 rfl ?_
  refine we_lst false ?_
  refine wa_nil ?_
  refine ⟨[], rfl, Nat.le_of_ble_eq_true rfl, ?_⟩
  refine ⟨lf, [], rfl, rfl, _, rfl, ?_⟩
  refine ⟨fun hh1 => ?_, fun hh2 => ?_⟩
  · have hne : ¬ lf = [] := by simpa using hh1
    obtain ⟨x, t, m2, e0, h0, l0⟩ := fr_cons hG hne
    refine ⟨m2.length, (by omega), ?_⟩
    refine wss_cons ?_
    refine ws_expr ?_
    refine we_append ?_
    refine we_name 2 rfl ?_
    refine ⟨_, _, rfl, rfl, ?_⟩
    refine we_ix ?_
    refine we_call false (f__law_fronts T) ct (by decide) ?_
    refine wa_cons ?_
    refine we_name 0 rfl ?_
    refine wa_cons ?_
    refine we_name 3 rfl ?_
    refine wa_nil ?_
    refine ⟨[_, _], rfl, ?_⟩
    refine ⟨_, _, _, rfl, rfl, by omega, fun ob1 => ?_⟩
    rw [e0]
    refine ⟨_, rfl, ?_⟩
    refine we_int ?_
    refine ⟨_, (at0 x t), ?_⟩
    refine ⟨_, _, rfl, rfl, (app_sz (by omega)) /- s0 -/, ?_⟩
    refine wss_one ?_
    refine ws_set 3 ?_ ct.nd
    refine we_call false (f__law_left T) ct (by decide) ?_
    refine wa_cons ?_
    refine we_name 0 rfl ?_
    refine wa_cons ?_
    refine we_name 3 rfl ?_
    refine wa_cons ?_
    refine we_ix ?_
    refine we_name 2 rfl ?_
    refine we_neg ?_
    refine we_int ?_
    refine ⟨_, rfl, ?_⟩
    refine ⟨_, (atI_last _ _), ?_⟩
    refine wa_nil ?_
    refine ⟨[_, _, _], rfl, ?_⟩
    refine ⟨_, _, _, _, rfl, rfl, by omega, fun ob1 => ?_⟩
    rw [h0]
    refine ⟨_, rfl, ?_⟩
    exact ⟨fd ++ [x], m2, by rw [← cat1]; rfl, rfl, rfl, by rw [List.length_append]; simp only [List.length_cons, List.length_nil]; omega, by rw [← hW, fs_step e0 h0 l0, List.append_assoc]; rfl⟩ -- next0
  · have hne : lf = [] := by simpa using hh2
    subst hne
    refine wss_one ?_
    refine ws_ret ?_
    refine we_name 2 rfl ?_
    rw [show fsM (inL ns st) [] = [] from rfl, List.append_nil] at hW
    rw [hW]
    exact hP -- ret0
def sp__law_heads (K : PySem.W.Frag) : FS := fun rs ob P => ∃ (ns : List Int) (st : Option Int) (row : List Int), rs = [.d (.tup [encI ns, optD st]), .d (encI row)] ∧ ob = [] ∧ GoodF (inL ns st) ∧ row.length ≤ 7 ∧ ∀ (o : Option (List (List Int))) ob1, (∀ hs, o = some hs → (∀ h, h ∈ hs ↔ Hd (inL ns st) h row) ∧ hs.length ≤ 3000) → P (.d (encOR o)) ob1
theorem f__law_heads (T : Tx K mg) : Fn P w K mg base "_law_heads" s__law_heads 7 ["told", "row"] (sp__law_heads K) := by
  refine T.d__law_heads.fn sc__law_heads (fun _ _ _ _ _ _ us hl => match us, hl with | [_, _], _ => rfl) (fun rs ob P h => by obtain ⟨ns, st, row, rfl, rfl, hG, hl, hP⟩ := h; rfl) fun a cdv A outer s H E ct rs ob P h => ?_
  obtain ⟨ns, st, row, rfl, rfl, hG, hl, hP⟩ := h
  refine wss_cons ?_
  refine ws_set 2 ?_ ct.nd
  refine we_call false (f__law_class T) ct (by decide) ?_
  refine wa_cons ?_
  refine we_name 0 rfl ?_
  refine wa_cons ?_
  refine we_name 1 rfl ?_
  refine wa_cons ?_
  refine we_int ?_
  refine wa_nil ?_
  refine ⟨[_, _, _], rfl, ?_⟩
  refine ⟨_, _, _, rfl, rfl, hG, hl, fun o ob1 ho => ?_⟩
  refine ⟨_, rfl, ?_⟩
  refine wss_cons ?_
  refine ws_if ?_
  refine wt_isN ?_
  refine we_name 2 rfl ?_
  refine ⟨fun hi0t => ?_, fun hi0f => ?_⟩
  · obtain rfl := encOR_none hi0t
    refine wss_one ?_
    refine ws_ret ?_
    refine we_non ?_
    exact hP none _ (fun _ e => by cases e) -- ret0
  · obtain ⟨lot, rfl⟩ := encOR_some hi0f
    obtain ⟨l0, rfl, hmem, hlen⟩ := ho lot rfl
    have hms : ∀ x, x ∈ l0.mergeSort leR ↔ Jn (inL ns st) row x := fun x => by rw [(List.mergeSort_perm l0 leR).mem_iff]; exact hmem x
    have hml : (l0.mergeSort leR).length ≤ 300 := by rw [(List.mergeSort_perm l0 leR).length_eq]; exact hlen
    refine wss_nil ?_
    refine wss_cons ?_
    refine ws_set 3 ?_ ct.nd
    refine we_newT ?_
    refine wss_cons ?_
    refine ws_for (t := .one 4) ct (pg_name ct.nd (i := 4) rfl (by first | exact Or.inl rfl | exact Or.inr rfl)) ?_
    refine wi_lst ?_
    refine we_name 2 rfl ?_
    refine ⟨_, rfl, fun hsz => ?_⟩
    refine ⟨fun i ob1 sl1 => ∃ (x y z : Option R), ob1 = [.dtt (dttE Dt.bl (setM (((l0.mergeSort leR).take i).foldl hdM [])))] ∧ sl1 = [some (.d (.tup [encI ns, optD st])), some (.d (encI row)), some (.d (encR (l0.mergeSort leR))), some (.p 0), x, y, z], ⟨none, none, none, rfl, rfl⟩, fun i d ob2 sl2 hd hJ => ?_, fun ob2 sl2 hJ => ?_⟩
    · obtain ⟨there, hth, rfl⟩ := get_map hd
      have htl := ((hms there).mp (List.mem_of_getElem? hth)).len
      have hil := (List.getElem?_eq_some_iff.mp hth).1
      have hkl := heads_len (b := 7) ((l0.mergeSort leR).take i) [] (fun r hr => by have := ((hms r).mp (List.mem_of_mem_take hr)).len; omega)
      rw [List.length_take] at hkl
      obtain ⟨x, y, z, rfl, rfl⟩ := hJ
      refine ⟨_, rfl, ?_⟩
      generalize hks : ((l0.mergeSort leR).take i).foldl hdM [] = ks at hkl ⊢
      have hkl2 : ks.length ≤ 2400 := by
        refine Nat.le_trans hkl ?_
        simp only [List.length_nil]
        omega
      refine wss_one ?_
      refine ws_for (t := .one 5) ct (pg_name ct.nd (i := 5) rfl (by first | exact Or.inl rfl | exact Or.inr rfl)) ?_
      refine wi_range1 T.z_range ?_
      refine we_add false ?_
      refine we_len T.z_len ?_
      refine we_name 4 rfl ?_
      refine we_int ?_
      refine ⟨_, rfl, (by rw [List.length_map]; exact ⟨by omega, by omega⟩) /- s0 -/, ?_⟩
      refine ⟨fun j ob1 sl1 => ∃ (y : Option R), ob1 = [.dtt (dttE Dt.bl (setM (hdS ks there j)))] ∧ sl1 = [some (.d (.tup [encI ns, optD st])), some (.d (encI row)), some (.d (encR (l0.mergeSort leR))), some (.p 0), some (.d (encI there)), y, z], ⟨_, rfl, rfl⟩, fun j d ob2 sl2 hd hJ => ?_, fun ob2 sl2 hJ => ?_⟩
      · rw [List.length_map] at hd
        obtain ⟨sz, hsz2, rfl⟩ := get_map hd
        have hb := mem_irange.mp (List.mem_of_getElem? hsz2)
        have hj := (List.getElem?_eq_some_iff.mp hsz2).1
        rw [irange_length] at hj
        have hdl : (hdS ks there j).length ≤ 2500 := by
          unfold hdS
          refine Nat.le_trans (fold_addS_len _ _) ?_
          rw [List.length_take]
          omega
        obtain ⟨y, rfl, rfl⟩ := hJ
        refine ⟨_, rfl, ?_⟩
        refine wss_one ?_
        refine ws_putT (Dt.bl) ct ?_
        refine we_bl ?_
        refine ⟨true, rfl, ?_⟩
        refine we_name 3 rfl ?_
        refine we_tuple T.z_tuple ?_
        refine we_slHi false ?_
        refine we_name 4 rfl ?_
        refine we_name 5 rfl ?_
        refine ⟨_, rfl, (by intro l h; cases h), ?_⟩
        refine ⟨_, rfl, ?_⟩
        rw [cut_hi hb.1]
        refine ⟨_, _, _, rfl, rfl, rfl, (Nat.lt_of_le_of_lt (show _ ≤ 2500 from by unfold setM; rw [List.length_map]; exact hdl) (by decide)) /- s1 -/, ?_⟩
        exact ⟨_, by rw [put_add]; rw [show hdS ks there (j + 1) = addS (hdS ks there j) (there.take sz.toNat) from by unfold hdS; rw [fold_take hsz2]]; rfl, rfl⟩ -- next0
      · obtain ⟨y, rfl, rfl⟩ := hJ
        rw [List.length_map, List.length_map, hdS, List.take_of_length_le (Nat.le_refl _)]
        exact ⟨_, _, _, by rw [fold_take hth, hks]; rfl, rfl⟩ -- next1
    · obtain ⟨x, y, z, rfl, rfl⟩ := hJ
      rw [List.length_map, List.take_length]
      refine wss_one ?_
      refine ws_ret ?_
      refine we_data ?_
      refine we_keysL 6 ct T.z_list ?_ (blkOk_by (by kernel_rfl)) rfl (Nat.le_of_ble_eq_true rfl) (fun _ _ _ _ _ => pg_name ct.nd (i := 6) rfl (by first | exact Or.inl rfl | exact Or.inr rfl)) (fun _ _ _ _ _ => rfl) (fun _ _ _ _ _ => by first | exact Or.inl rfl | exact Or.inr (Or.inl rfl) | exact Or.inr (Or.inr rfl)) (by decide) (by decide) (fun _ _ _ _ _ => rfl)
      refine we_name 3 rfl ?_
      refine ⟨_, rfl, (by have h := heads_len (b := 7) (l0.mergeSort leR) [] (fun r hr => by have := ((hms r).mp hr).len; omega); simp only [List.length_nil] at h; unfold setM; rw [List.length_map, List.length_map]; exact Nat.le_trans (show _ ≤ 2400 from by omega) (by decide)) /- s2 -/, ?_⟩
      rw [keys_set]
      refine hP (some (headsM (l0.mergeSort leR))) _ fun hs e => ?_
      cases e
      have h := heads_len (b := 7) (l0.mergeSort leR) [] (fun r hr => by have := ((hms r).mp hr).len; omega)
      simp only [List.length_nil] at h
      exact ⟨heads_hd hms, Nat.le_trans h (by omega)⟩ -- ret1
def sp__law_told_right (K : PySem.W.Frag) : FS := fun rs ob P => ∃ (ns : List Int) (st : Option Int) (a b f l2 r2 : List Int), rs = [.d (.tup [encI ns, optD st]), .d (encI a), .d (encI b), .d (encI f), .d (.tup [encI l2, encI r2])] ∧ ob = [] ∧ GoodF (inL ns st) ∧ a.length ≤ 7 ∧ b.length ≤ 7 ∧ grN (inL ns st) (a.length + b.length) a b = (f, l2, r2) ∧ ∀ ob1, P (.d (.bl true)) ob1
theorem f__law_told_right (T : Tx K mg) : Fn P w K mg base "_law_told_right" s__law_told_right 7 ["told", "one", "other", "found", "left"] (sp__law_told_right K) := by
  refine T.d__law_told_right.fn sc__law_told_right (fun _ _ _ _ _ _ us hl => match us, hl with | [_, _, _, _, _], _ => rfl) (fun rs ob P h => by obtain ⟨ns, st, a, b, f, l2, r2, rfl, rfl, hG, hl1, hl2, hgr, hP⟩ := h; rfl) fun a cdv A outer s H E ct rs ob P h => ?_
  obtain ⟨ns, st, a, b, f, l2, r2, rfl, rfl, hG, hl1, hl2, hgr, hP⟩ := h
  obtain ⟨hd1, hd2⟩ := gr_div hG (a.length + b.length) a b
  have hend := gr_end hG (a.length + b.length) a b (by omega)
  obtain ⟨hle1, hle2⟩ := gr_len hG (a.length + b.length) a b
  have hfs := gr_first hG (a.length + b.length) a b
  rw [hgr] at hd1 hd2 hend hle1 hle2 hfs
  simp only at hd1 hd2 hend hle1 hle2 hfs
  refine wss_cons ?_
  refine ws_if ?_
  refine wt_w ?_
  refine' ww_orV ?_ (fun hh1 => ?_) ?_
  rotate_left 2
  · refine wt_not ?_
    refine wt_val ?_
    refine we_isi .list T.z_isinstance T.z_list ?_
    refine we_name 3 rfl ?_
    refine ⟨(by first | assumption | rfl | omega | decide) /- s0 -/, ?_⟩
    refine ⟨trivial, ?_⟩
    exact ⟨rfl, rfl⟩
  · refine' ww_orV ?_ (fun hh2 => ?_) ?_
    rotate_left 2
    · refine wt_not ?_
      refine wt_val ?_
      refine we_isi .tuple T.z_isinstance T.z_tuple ?_
      refine we_name 4 rfl ?_
      refine ⟨(by first | assumption | rfl | omega | decide) /- s1 -/, ?_⟩
      refine ⟨trivial, ?_⟩
      exact ⟨rfl, rfl⟩
    · refine' ww_orV ?_ (fun hh3 => ?_) ?_
      rotate_left 2
      · refine wt_ne ct ?_
        refine we_len T.z_len ?_
        refine we_name 4 rfl ?_
        refine we_int ?_
        refine ⟨_, rfl, ?_⟩
        exact ⟨rfl, rfl⟩
      · refine ww_or1 ?_
        refine wt_eqR ct ?_
        refine we_list false T.z_list ?_
        refine we_name 4 rfl ?_
        refine we_lst false ?_
        refine wa_nil ?_
        refine ⟨[], rfl, Nat.le_of_ble_eq_true rfl, ?_⟩
        refine ⟨[l2, r2], [], rfl, rfl, _, rfl, ?_⟩
        exact ⟨rfl, rfl⟩
      exact ⟨rfl, rfl⟩
    exact ⟨rfl, rfl⟩
  refine ⟨fun hi0t => ?_, fun hi0f => ?_⟩
  · simp [DL.truD] at hi0t
    rcases hi0t with h | h
    · exact Bool.noConfusion (show true = false from h)
    · exact Bool.noConfusion (show true = false from h)
  · refine wss_nil ?_
    refine wss_cons ?_
    refine ws_if ?_
    refine wt_w ?_
    refine' ww_orV ?_ (fun hh4 => ?_) ?_
    rotate_left 2
    · refine wt_neI ct ?_
      refine we_call false (f__law_divided T) ct (by decide) ?_
      refine wa_cons ?_
      refine we_name 0 rfl ?_
      refine wa_cons ?_
      refine we_name 1 rfl ?_
      refine wa_cons ?_
      refine we_name 3 rfl ?_
      refine wa_nil ?_
      refine ⟨[_, _, _], rfl, ?_⟩
      refine ⟨_, _, _, _, rfl, rfl, by omega, fun ob1 => ?_⟩
      rw [hd1]
      refine ⟨_, rfl, ?_⟩
      refine we_ix ?_
      refine we_name 4 rfl ?_
      refine we_int ?_
      refine ⟨_, rfl, ?_⟩
      refine ⟨_, _, rfl, rfl, _, rfl, ?_⟩
      exact ⟨rfl, rfl⟩
    · refine ww_or1 ?_
      refine wt_neI ct ?_
      refine we_call false (f__law_divided T) ct (by decide) ?_
      refine wa_cons ?_
      refine we_name 0 rfl ?_
      refine wa_cons ?_
      refine we_name 2 rfl ?_
      refine wa_cons ?_
      refine we_name 3 rfl ?_
      refine wa_nil ?_
      refine ⟨[_, _, _], rfl, ?_⟩
      refine ⟨_, _, _, _, rfl, rfl, by omega, fun ob1 => ?_⟩
      rw [hd2]
      refine ⟨_, rfl, ?_⟩
      refine we_ix ?_
      refine we_name 4 rfl ?_
      refine we_int ?_
      refine ⟨_, rfl, ?_⟩
      refine ⟨_, _, rfl, rfl, _, rfl, ?_⟩
      exact ⟨rfl, rfl⟩
    refine ⟨fun hi1t => ?_, fun hi1f => ?_⟩
    · simp [DL.truD] at hi1t
    · refine wss_nil ?_
      refine wss_cons ?_
      refine ws_if ?_
      refine wt_neI ct ?_
      refine we_lcP (own := false) (t := .one 5) (ow := [("item", 5)]) ct (lcP_filter (.int) rfl (fun _ _ _ _ _ => pg_name ct.nd (i := 5) rfl (by first | exact Or.inl rfl | exact Or.inr rfl)) ?_) (blkOk_by (by kernel_rfl))
      refine wi_lst ?_
      refine we_call false (f__law_fronts T) ct (by decide) ?_
      refine wa_cons ?_
      refine we_name 0 rfl ?_
      refine wa_cons ?_
      refine we_ix ?_
      refine we_name 4 rfl ?_
      refine we_int ?_
      refine ⟨_, rfl, ?_⟩
      refine wa_nil ?_
      refine ⟨[_, _], rfl, ?_⟩
      refine ⟨_, _, _, rfl, rfl, by omega, fun ob1 => ?_⟩
      refine ⟨_, rfl, ?_⟩
      refine ⟨_, rfl, fun hsz => ?_⟩
      refine ⟨hsz, frM (inL ns st) l2, fun x => decide (x ∈ frM (inL ns st) r2), .int, rfl, fun a ha => ⟨_, rfl, fun s H C cl fp => ?_, fun hf s H C cl fp => ?_⟩, ?_⟩
      · refine wt_inI ct.blk ?_
        refine we_name 5 rfl ?_
        refine we_call false (f__law_fronts T) ct.blk (by decide) ?_
        refine wa_cons ?_
        refine we_name 0 rfl ?_
        refine wa_cons ?_
        refine we_ix ?_
        refine we_name 4 rfl ?_
        refine we_int ?_
        refine ⟨_, rfl, ?_⟩
        refine wa_nil ?_
        refine ⟨[_, _], rfl, ?_⟩
        refine ⟨_, _, _, rfl, rfl, by omega, fun ob1 => ?_⟩
        refine ⟨_, rfl, ?_⟩
        refine ⟨_, _, rfl, rfl, _, rfl, ?_⟩
        exact ⟨rfl, rfl⟩
      · refine we_name 5 rfl ?_
        exact ⟨rfl, rfl⟩
      refine we_lst false ?_
      refine wa_nil ?_
      refine ⟨[], rfl, Nat.le_of_ble_eq_true rfl, ?_⟩
      refine ⟨_, [], rfl, rfl, _, rfl, ?_⟩
      refine ⟨fun hi2t => ?_, fun hi2f => ?_⟩
      · rw [show (frM (inL ns st) l2).filter (fun x => decide (x ∈ frM (inL ns st) r2)) = [] from hend] at hi2t
        simp [DL.truD] at hi2t
      · refine wss_nil ?_
        refine wss_cons ?_
        refine ws_set 6 ?_ ct.nd
        refine we_call false (f__law_class T) ct (by decide) ?_
        refine wa_cons ?_
        refine we_name 0 rfl ?_
        refine wa_cons ?_
        refine we_name 3 rfl ?_
        refine wa_cons ?_
        refine we_int ?_
        refine wa_nil ?_
        refine ⟨[_, _, _], rfl, ?_⟩
        refine ⟨_, _, _, rfl, rfl, hG, by omega, fun o ob1 ho => ?_⟩
        refine ⟨_, rfl, ?_⟩
        refine wss_one ?_
        refine ws_ret ?_
        refine' we_andV ?_ (fun hh5 => ?_) ?_
        rotate_left 2
        · refine we_eqI ct ?_
          refine we_name 3 rfl ?_
          refine we_call false (f__law_first T) ct (by decide) ?_
          refine wa_cons ?_
          refine we_name 0 rfl ?_
          refine wa_cons ?_
          refine we_name 3 rfl ?_
          refine wa_nil ?_
          refine ⟨[_, _], rfl, ?_⟩
          refine ⟨_, _, _, rfl, rfl, hG, by omega, ?_⟩
          rw [hfs]
          refine ⟨_, rfl, ?_⟩
          refine ⟨_, _, rfl, rfl, ?_⟩
          exact ⟨rfl, rfl⟩
        · refine we_one ?_
          refine' we_orV ?_ (fun hh6 => ?_) ?_
          rotate_left 2
          · refine we_isN ?_
            refine we_name 6 rfl ?_
            exact ⟨rfl, rfl⟩
          · obtain ⟨lot, rfl⟩ := encOR_some hh6
            obtain ⟨l0, rfl, hmem, hlen⟩ := ho lot rfl
            refine we_one ?_
            refine we_eqI ct ?_
            refine we_ix ?_
            refine we_name 6 rfl ?_
            refine we_int ?_
            refine ⟨_, (sorted_atM hG hfs hmem), ?_⟩
            refine we_name 3 rfl ?_
            refine ⟨_, _, rfl, rfl, ?_⟩
            exact ⟨rfl, rfl⟩
          exact ⟨rfl, rfl⟩
        refine (show P (.d (.bl (decide (f = f) && (DL.isNon (.d (encOR o)) || decide (f = f))))) _ from ?_)
        rw [decide_eq_true rfl, Bool.or_true]
        exact hP _ -- ret0
end
/-! what a set holds -/
theorem addK_mem {ks : List Int} {n x : Int} : x ∈ addK ks n ↔ x ∈ ks ∨ x = n := by
  unfold addK
  by_cases h : n ∈ ks
  · rw [if_pos h]
    exact ⟨.inl, fun z => z.elim id fun e => e ▸ h⟩
  · rw [if_neg h, List.mem_append, List.mem_singleton]
theorem addK_nd {ks : List Int} {n : Int} (hk : ks.Nodup) : (addK ks n).Nodup := by
  unfold addK
  by_cases h : n ∈ ks
  · rw [if_pos h]; exact hk
  · rw [if_neg h, List.nodup_append]
    refine ⟨hk, by simp, fun a ha b hb => ?_⟩
    rw [List.mem_singleton] at hb
    subst hb
    exact fun e => h (e ▸ ha)
theorem keysOf_ok (ns : List Int) : (keysOf ns).Nodup ∧ ∀ x, x ∈ keysOf ns ↔ x ∈ ns := by
  have key : ∀ (ns ks : List Int), ks.Nodup → (ns.foldl addK ks).Nodup ∧ ∀ x, x ∈ ns.foldl addK ks ↔ x ∈ ks ∨ x ∈ ns := fun ns => by
    induction ns with
    | nil => intro ks hk; exact ⟨hk, fun x => by simp⟩
    | cons n ns ih =>
      intro ks hk
      rw [List.foldl_cons]
      obtain ⟨h1, h2⟩ := ih (addK ks n) (addK_nd hk)
      refine ⟨h1, fun x => ?_⟩
      rw [h2, addK_mem, List.mem_cons, or_assoc]
  obtain ⟨h1, h2⟩ := key ns [] List.nodup_nil
  exact ⟨h1, fun x => by rw [show keysOf ns = ns.foldl addK [] from rfl, h2]; simp⟩
theorem fillW_ok : ∀ (m : Nat) (ks : List Int) (u : Int) (r : List Int × Option Int), fillW m ks u = some r → ks.Nodup → (∀ x ∈ ks, 1 ≤ x ∧ x < u) → 1 ≤ u →
    ∃ u', r.2 = some u' ∧ r.1.Nodup ∧ (∀ x ∈ r.1, 1 ≤ x ∧ x < u') ∧ 1 ≤ u' ∧ u' ≤ u ∧ (∀ x, (x ∈ r.1 ∨ u' ≤ x) ↔ (x ∈ ks ∨ u ≤ x)) ∧ r.1.length ≤ ks.length
  | 0, ks, u, r, h, _, _, _ => by cases h
  | m + 1, ks, u, r, h, hn, hb, hu => by
    unfold fillW at h
    by_cases c : u - 1 ∈ ks
    · rw [if_pos c] at h
      obtain ⟨c1, c2⟩ := hb _ c
      have hb2 : ∀ x ∈ ks.filter (fun n => decide (n ≠ u - 1)), 1 ≤ x ∧ x < u - 1 := fun x hx => by
        obtain ⟨h1, h2⟩ := List.mem_filter.mp hx
        have := hb x h1
        have h3 := of_decide_eq_true h2
        omega
      obtain ⟨u', e1, e2, e3, e4, e5, e6, e7⟩ := fillW_ok m _ (u - 1) r h (hn.filter _) hb2 c1
      refine ⟨u', e1, e2, e3, e4, by omega, fun x => ?_, Nat.le_trans e7 (List.length_filter_le _ _)⟩
      rw [e6, List.mem_filter, decide_eq_true_iff]
      constructor
      · rintro (⟨z, _⟩ | z)
        · exact .inl z
        · by_cases q : x = u - 1
          · exact .inl (q ▸ c)
          · exact .inr (by omega)
      · rintro (z | z)
        · by_cases q : x = u - 1
          · exact .inr (by omega)
          · exact .inl ⟨z, q⟩
        · exact .inr (by omega)
    · rw [if_neg c] at h
      cases h
      exact ⟨u, rfl, hn, hb, hu, Int.le_refl _, fun x => Iff.rfl, Nat.le_refl _⟩
theorem keysOf_len (ns : List Int) : (keysOf ns).length ≤ ns.length := by
  have key : ∀ (ns ks : List Int), (ns.foldl addK ks).length ≤ ks.length + ns.length := fun ns => by
    induction ns with
    | nil => intro ks; exact Nat.le_refl _
    | cons n ns ih =>
      intro ks
      rw [List.foldl_cons, List.length_cons]
      have := ih (addK ks n)
      have h2 : (addK ks n).length ≤ ks.length + 1 := by
        unfold addK
        split
        · omega
        · rw [List.length_append]; exact Nat.le_refl _
      omega
  have := key ns []
  rw [List.length_nil, Nat.zero_add] at this
  exact this
/-- the least form of a set: as the set -/
theorem fill_ok {ns : List Int} {st : Option Int} (hn : ∀ x ∈ ns, 1 ≤ x) (hs : ∀ t, st = some t → 1 ≤ t ∧ t ≤ 1000) : (fillS ns st).1.Nodup ∧ (∀ x ∈ (fillS ns st).1, 1 ≤ x) ∧ stOk (fillS ns st).2 = true ∧ (∀ t, (fillS ns st).2 = some t → ∀ x ∈ (fillS ns st).1, x < t) ∧ (∀ x, inL (fillS ns st).1 (fillS ns st).2 x = inL ns st x) ∧ (fillS ns st).1.length ≤ ns.length := by
  cases st with
  | none =>
    obtain ⟨h1, h2⟩ := keysOf_ok ns
    refine ⟨h1, fun x hx => hn x ((h2 x).mp hx), rfl, fun t e => (by cases e), fun x => ?_, keysOf_len ns⟩
    show (decide (x ∈ keysOf ns) || false) = (decide (x ∈ ns) || false)
    rw [decide_eq_decide.mpr (h2 x)]
  | some t =>
    obtain ⟨t1, t2⟩ := hs t rfl
    obtain ⟨h1, h2⟩ := keysOf_ok (ns.filter fun n => decide (n < t))
    obtain ⟨u', e1, e2, e3, e4, e5, e6, e7⟩ := fillW_ok _ _ t _ (fillS_some ns t) h1 (fun x hx => by
      obtain ⟨h3, h4⟩ := List.mem_filter.mp ((h2 x).mp hx)
      exact ⟨hn x h3, of_decide_eq_true h4⟩) t1
    refine ⟨e2, fun x hx => (e3 x hx).1, ?_, fun v hv x hx => ?_, fun x => ?_, Nat.le_trans e7 (Nat.le_trans (keysOf_len _) (List.length_filter_le _ _))⟩
    · rw [e1]
      show (decide (1 ≤ u') && decide (u' ≤ 1000)) = true
      rw [decide_eq_true e4, decide_eq_true (show u' ≤ 1000 from by omega)]
      rfl
    · rw [e1] at hv
      cases hv
      exact (e3 x hx).2
    · rw [e1]
      show (decide (x ∈ (fillS ns (some t)).1) || decide (u' ≤ x)) = (decide (x ∈ ns) || decide (t ≤ x))
      rw [← Bool.decide_or, ← Bool.decide_or]
      refine decide_eq_decide.mpr ((e6 x).trans ?_)
      rw [h2, List.mem_filter, decide_eq_true_iff]
      constructor
      · rintro (⟨z, _⟩ | z)
        · exact .inl z
        · exact .inr z
      · rintro (z | z)
        · by_cases q : x < t
          · exact .inl ⟨z, q⟩
          · exact .inr (by omega)
        · exact .inr z
theorem st_ok {st : Option Int} (hs : ∀ t, st = some t → 1 ≤ t ∧ t ≤ 1000) : stOk st = true := by
  cases st with
  | none => rfl
  | some t =>
    obtain ⟨h1, h2⟩ := hs t rfl
    show (decide (1 ≤ t) && decide (t ≤ 1000)) = true
    rw [decide_eq_true h1, decide_eq_true h2]
    rfl
structure GoodP (ns : List Int) (st : Option Int) : Prop where
  len : ns.length ≤ 200
  bd : ∀ n ∈ ns, 1 ≤ n ∧ n ≤ 1000
  sb : ∀ t, st = some t → 1 ≤ t ∧ t ≤ 1000
  ok : okL (fillS ns st).1 (fillS ns st).2 = true
  ft : faultB (fillS ns st).1 (fillS ns st).2 = none
  eq : inL (fillS ns st).1 (fillS ns st).2 = inL ns st
  gf : GoodF (inL ns st)
def optI (st : Option Int) (b : Int) : List Int := match st with
  | none => []
  | some t => irange t (b + 1)
def goodC (b : Int) (p : List Int × Option Int) : Bool :=
  (p.1.all fun n => decide (1 ≤ n) && (decide (n ≤ b) && decide (n ≤ 1000))) && (decide (p.1.length ≤ 200) && ((match p.2 with
    | none => true
    | some t => decide (1 ≤ t) && (decide (t ≤ b) && decide (t ≤ 1000))) &&
  (((p.1 ++ optI p.2 b).all fun x => (p.1 ++ optI p.2 b).all fun y => decide (b < x + y) || (inL p.1 p.2 (x + y) == inL p.1 p.2 (x + y + 1))) && (okL (fillS p.1 p.2).1 (fillS p.1 p.2).2 && decide (faultB (fillS p.1 p.2).1 (fillS p.1 p.2).2 = none)))))
theorem goodC_1 {b : Int} {ns : List Int} {st : Option Int} (h : goodC b (ns, st) = true) : GoodP ns st := by
  unfold goodC at h
  simp only [Bool.and_eq_true, decide_eq_true_eq] at h
  obtain ⟨h1, h2, h3, h4, h5, h6⟩ := h
  have hb : ∀ n ∈ ns, 1 ≤ n ∧ n ≤ b ∧ n ≤ 1000 := fun n hn => by
    have := List.all_eq_true.mp h1 n hn
    simpa [Bool.and_eq_true] using this
  have hs : ∀ t, st = some t → 1 ≤ t ∧ t ≤ b ∧ t ≤ 1000 := fun t e => by
    subst e
    simpa [Bool.and_eq_true] using h3
  obtain ⟨_, _, _, _, f5, _⟩ := fill_ok (ns := ns) (st := st) (fun x hx => (hb x hx).1) (fun t e => ⟨(hs t e).1, (hs t e).2.2⟩)
  have inl : ∀ x, inL ns st x = true ↔ x ∈ ns ∨ ∃ t, st = some t ∧ t ≤ x := fun x => by
    unfold inL
    rw [Bool.or_eq_true, decide_eq_true_iff]
    cases st with
    | none => simp
    | some t => simp
  refine ⟨h2, fun n hn => ⟨(hb n hn).1, (hb n hn).2.2⟩, fun t e => ⟨(hs t e).1, (hs t e).2.2⟩, h5, h6, funext f5, ⟨fun x hx => ?_, fun x y hx hy => ?_⟩⟩
  · rcases (inl x).mp hx with z | ⟨t, e, z⟩
    · exact (hb x z).1
    · have := hs t e
      omega
  · have px : 1 ≤ x := by
      rcases (inl x).mp hx with z | ⟨t, e, z⟩
      · exact (hb x z).1
      · have := hs t e
        omega
    have py : 1 ≤ y := by
      rcases (inl y).mp hy with z | ⟨t, e, z⟩
      · exact (hb y z).1
      · have := hs t e
        omega
    by_cases c : b < x + y
    · cases st with
      | none =>
        have key : ∀ z, b < z → inL ns none z = false := fun z hz => by
          cases e : inL ns none z with
          | false => rfl
          | true =>
            rcases (inl z).mp e with q | ⟨t, q, _⟩
            · have := hb z q
              omega
            · cases q
        rw [key _ c, key _ (by omega)]
      | some t =>
        have ht := hs t rfl
        rw [(inl (x + y)).mpr (.inr ⟨t, rfl, by omega⟩), (inl (x + y + 1)).mpr (.inr ⟨t, rfl, by omega⟩)]
    · have mem : ∀ z, inL ns st z = true → z ≤ b → z ∈ ns ++ optI st b := fun z hz hl => by
        rw [List.mem_append]
        rcases (inl z).mp hz with q | ⟨t, rfl, q⟩
        · exact .inl q
        · exact .inr (mem_irange.mpr ⟨q, by omega⟩)
      have q := List.all_eq_true.mp (List.all_eq_true.mp h4 x (mem x hx (by omega))) y (mem y hy (by omega))
      rw [decide_eq_false c, Bool.false_or] at q
      exact eq_of_beq q
theorem good_ok : goodLs.all (fun p => goodC (bif decide (p.1 = [999]) then 999 else 20) p) = true := by decide +kernel
theorem good_1 {j : Int} (h0 : 0 ≤ j) (h1 : j < 15) : GoodP (goodL j).1 (goodL j).2 := by
  have hm : goodL j ∈ goodLs := by
    unfold goodL
    rw [List.getD_eq_getElem?_getD]
    have hl : j.toNat < goodLs.length := by
      show j.toNat < 15
      omega
    rw [List.getElem?_eq_getElem hl]
    exact List.getElem_mem hl
  exact goodC_1 (b := bif decide ((goodL j).1 = [999]) then 999 else 20) (List.all_eq_true.mp good_ok _ hm)
/-! what the law asks -/
section
variable {G : Int → Bool}
theorem last_nn (hG : GoodF G) {row : List Int} {item : Int} (hn : NN row) (h : item ∈ lastsM G row) : 0 ≤ item := by
  have e := rest_isSome hG row item
  rw [decide_eq_true h] at e
  obtain ⟨r, hr⟩ := Option.isSome_iff_exists.mp e
  exact (rest_jn hG hr).nn hG hn item (List.mem_append_right _ List.mem_cons_self)
theorem rest_of_last (hG : GoodF G) {row : List Int} {item : Int} (h : item ∈ lastsM G row) : ∃ r, restM G row item = some r ∧ Jn G row (r ++ [item]) := by
  have e := rest_isSome hG row item
  rw [decide_eq_true h] at e
  obtain ⟨r, hr⟩ := Option.isSome_iff_exists.mp e
  exact ⟨r, hr, rest_jn hG hr⟩
theorem nn_app {l : List Int} {x : Int} : NN (l ++ [x]) ↔ NN l ∧ 0 ≤ x := by
  unfold NN
  constructor
  · exact fun h => ⟨fun y hy => h y (List.mem_append_left _ hy), h x (List.mem_append_right _ List.mem_cons_self)⟩
  · rintro ⟨h1, h2⟩ y hy
    rcases List.mem_append.mp hy with z | z
    · exact h1 y z
    · rw [List.mem_singleton] at z
      subst z
      exact h2
theorem jnB_snoc (hG : GoodF G) (one other : List Int) (x : Int) : jnB G (one ++ [x]) (other ++ [x]) = jnB G one other := by
  apply Bool.eq_iff_iff.mpr
  rw [jnB_iff hG, jnB_iff hG, jn_snoc hG]
theorem jnB_cons (hG : GoodF G) (one other : List Int) (x : Int) : jnB G (x :: one) (x :: other) = jnB G one other := by
  apply Bool.eq_iff_iff.mpr
  rw [jnB_iff hG, jnB_iff hG]
  exact ⟨fun h => jn_cancel hG h, fun h => h.cons x⟩
theorem rest_beq (hG : GoodF G) (row : List Int) (x : Int) : (DL.isNon (.d (encO (restM G row x))) == decide (x ∈ lastsM G row)) = false := by
  rw [isNon_encO, rest_isSome hG]
  cases decide (x ∈ lastsM G row) <;> rfl
end
def greatR : List Int := irangeC 0 2 200
theorem great_ok : (okL (fillS [] (some 1)).1 (fillS [] (some 1)).2 && (decide (faultB (fillS [] (some 1)).1 (fillS [] (some 1)).2 = none) && (okL (fillS [1] none).1 (fillS [1] none).2 && (decide (faultB (fillS [1] none).1 (fillS [1] none).2 = none) && (greatR.all (fun x => decide (0 ≤ x)) && decide (greatR.length = 200)))))) = true := by decide +kernel
theorem great_1 : okL (fillS [] (some 1)).1 (fillS [] (some 1)).2 = true ∧ faultB (fillS [] (some 1)).1 (fillS [] (some 1)).2 = none ∧ okL (fillS [1] none).1 (fillS [1] none).2 = true ∧ faultB (fillS [1] none).1 (fillS [1] none).2 = none ∧ NN greatR ∧ greatR.length ≤ 200 := by
  have h := great_ok
  simp only [Bool.and_eq_true, decide_eq_true_eq, List.all_eq_true] at h
  exact ⟨h.1, h.2.1, h.2.2.1, h.2.2.2.1, h.2.2.2.2.1, Nat.le_of_eq h.2.2.2.2.2⟩
theorem great_lasts : lastsM (inL (fillS [] (some 1)).1 (fillS [] (some 1)).2) greatR = greatR := by decide +kernel
theorem zero_lasts : lastsM (inL (fillS [1] none).1 (fillS [1] none).2) (List.replicate (200 : Int).toNat 0) = [0] := by decide +kernel
theorem great_rest : (restM (inL (fillS [] (some 1)).1 (fillS [] (some 1)).2) greatR 0).map List.length = some 199 := by decide +kernel
theorem great_r : ∃ r, restM (inL (fillS [] (some 1)).1 (fillS [] (some 1)).2) greatR 0 = some r ∧ r.length = 199 := Option.map_eq_some_iff.mp great_rest
theorem rep_row (x : Int) (k : Nat) : (List.replicate k [Dt.int x]).flatten = (List.replicate k x).map Dt.int := by
  induction k with
  | zero => rfl
  | succ k ih => rw [List.replicate_succ, List.flatten_cons, ih]; rfl
/-! k65: the plain law -/
theorem told_ok : toldLs.all (fun p => goodC 20 (numsL p.1, p.2) && (decide (p.1.length ≤ 90) && ((p.1.all fun n => decide (1 ≤ n) && decide (n ≤ 1000)) && stOk p.2))) = true := by decide +kernel
theorem told_1 {j : Int} (h0 : 0 ≤ j) (h1 : j < 14) : (toldL j).1.length ≤ 90 ∧ (∀ n ∈ (toldL j).1, 1 ≤ n ∧ n ≤ 1000) ∧ stOk (toldL j).2 = true ∧ GoodP (numsL (toldL j).1) (toldL j).2 := by
  have hm : toldL j ∈ toldLs := by
    unfold toldL
    rw [List.getD_eq_getElem?_getD, List.getElem?_eq_getElem (show j.toNat < toldLs.length by show j.toNat < 14; omega)]
    exact List.getElem_mem _
  have h := List.all_eq_true.mp told_ok _ hm
  simp only [Bool.and_eq_true, decide_eq_true_eq] at h
  obtain ⟨a, b, c, d⟩ := h
  refine ⟨b, fun n hn => ?_, d, goodC_1 a⟩
  have := List.all_eq_true.mp c n hn
  simpa [Bool.and_eq_true] using this
theorem k65_facts {G : Int → Bool} (hG : GoodF G) {base t1 t2 one other f l2 r2 : List Int} (h1 : Jn G (base ++ t1) one) (h2 : Jn G (base ++ t2) other) (hgr : grN G (one.length + other.length) one other = (f, l2, r2)) :
    f.length + l2.length = one.length ∧ f.length + r2.length = other.length ∧ (∃ bl, lby G f base = some bl) ∧ base.length ≤ f.length ∧ grN G (other.length + one.length) other one = (f, r2, l2) ∧
    (∀ h, Hd G h one → Hd G h other → (∃ t, lby G f h = some t) ∧ h.length ≤ f.length) ∧ Hd G f one ∧ Hd G f other := by
  obtain ⟨e1, e2⟩ := gr_len hG (one.length + other.length) one other
  obtain ⟨d1, d2⟩ := gr_div hG (one.length + other.length) one other
  have hall : ∀ h, Hd G h one → Hd G h other → Hd G h f := fun h k1 k2 => by
    have := gr_all hG (one.length + other.length) one other h (by omega) k1 k2
    rwa [hgr] at this
  have hsw := gr_swap hG (one.length + other.length) one other
  rw [hgr] at e1 e2 d1 d2 hsw
  have all2 : ∀ h, Hd G h one → Hd G h other → (∃ t, lby G f h = some t) ∧ h.length ≤ f.length := fun h k1 k2 =>
    ⟨Option.isSome_iff_exists.mp ((lby_iff hG).mpr (hall h k1 k2)), hd_len (hall h k1 k2)⟩
  obtain ⟨b1, b2⟩ := all2 base ⟨t1, h1.symm⟩ ⟨t2, h2.symm⟩
  exact ⟨e1, e2, b1, b2, by rw [Nat.add_comm]; exact hsw, all2, (lby_iff hG).mp (by rw [d1]; rfl), (lby_iff hG).mp (by rw [d2]; rfl)⟩
theorem lets_1 : GoodP [1] none := goodC_1 (b := 20) (by decide +kernel)
theorem lets_0 : GoodP [] none := goodC_1 (b := 20) (by decide +kernel)
theorem ex_1 : grN (inL (fillS [1] none).1 (fillS [1] none).2) ([2, 1, 0].length + [1, 3, 5].length) [2, 1, 0] [1, 3, 5] = ([1, 3], [0], [5]) := by decide +kernel
theorem ex_2 : grN (inL (fillS [1] none).1 (fillS [1] none).2) ([0].length + [1].length) [0] [1] = ([], [0], [1]) := by decide +kernel
theorem ex_3 : grN (inL (fillS [] none).1 (fillS [] none).2) ([3, 1].length + [3, 2].length) [3, 1] [3, 2] = ([3], [1], [2]) := by decide +kernel

section
variable {P : Program} {w : World} {K : PySem.W.Frag} {mg : Str → Option Value} {base : Heap}
def sp__law_right (K : PySem.W.Frag) : FS := fun rs ob P => ∃ (n : Int) (l : List Dt), rs = [.p 0] ∧ ob = [.lst l] ∧ genI n l ∧ 0 ≤ n ∧ n ≤ 400000000 ∧ ∀ l1 ob1, P (.d (.bl true)) (.lst l1 :: ob1)
theorem f__law_right (T : Tx K mg) : FnG P w K mg base "_law_right" s__law_right 9 ["generator"] (sp__law_right K) := by
  refine T.d__law_right.fnG sc__law_right (fun _ _ _ _ _ _ us hl => match us, hl with | [_], _ => rfl) (fun rs ob P h => by obtain ⟨n, l, rfl, rfl, hg, p1, p2, hP⟩ := h; rfl) fun a cdv A outer s H E ct hgd rs ob P h => ?_
  obtain ⟨n, l, rfl, rfl, hg, p1, p2, hP⟩ := h
  refine wss_cons ?_
  refine ws_set 1 ?_ ct.nd
  refine we_callO 0 (f__law_told_set T) ct (by decide) ?_
  refine wa_cons ?_
  refine we_name 0 rfl ?_
  refine wa_nil ?_
  refine ⟨_, _, rfl, rfl, rfl, ?_⟩
  refine ⟨_, _, rfl, rfl, hg, by omega, by omega, fun j l2 ob1 hg2 hj0 hj1 => ?_⟩
  obtain ⟨t1, t2, t3, hgp⟩ := told_1 hj0 hj1
  generalize (toldL j).1 = ns at t1 t2 t3 hgp ⊢
  generalize (toldL j).2 = st at t1 t2 t3 hgp ⊢
  obtain ⟨g1, g2, g3, g4, g5, g6, g7⟩ := hgp
  rw [numsL_in] at g6 g7
  refine ⟨_, _, _, rfl, rfl, rfl, ?_⟩
  refine wss_cons ?_
  refine ws_par (j := 3) 2 rfl ct.nd ?_ rfl rfl (by decide) (ps_par rfl ct.nd rfl rfl (by decide) rfl rfl pa_wp rfl)
  refine wa_cons ?_
  refine we_call false (f__law_lets T) ct (by decide) ?_
  refine wa_cons ?_
  refine we_name 1 rfl ?_
  refine wa_nil ?_
  refine ⟨[_], rfl, ?_⟩
  refine ⟨_, _, rfl, rfl, t1, t2, t3, fun ob1 => ?_⟩
  refine ⟨_, rfl, ?_⟩
  refine wa_cons ?_
  refine we_callO 0 (f__law_row T) ct (by decide) ?_
  refine wa_cons ?_
  refine we_name 0 rfl ?_
  refine wa_cons ?_
  refine we_int ?_
  refine wa_cons ?_
  refine we_int ?_
  refine wa_nil ?_
  refine ⟨_, _, rfl, rfl, rfl, ?_⟩
  refine ⟨_, _, _, _, rfl, rfl, hg2, by omega, by omega, by omega, by omega, by omega, by omega, fun base l3 ob3 hg3 hbl hbb => ?_⟩
  refine ⟨_, _, _, rfl, rfl, rfl, ?_⟩
  refine wa_nil ?_
  refine ⟨_, _, rfl, ?_⟩
  refine wss_cons ?_
  refine ws_set 4 ?_ ct.nd
  refine we_callO 0 (f__law_stirred T) ct (by decide) ?_
  refine wa_cons ?_
  refine we_name 0 rfl ?_
  refine wa_cons ?_
  refine we_name 1 rfl ?_
  refine wa_cons ?_
  refine we_add false ?_
  refine we_name 3 rfl ?_
  refine we_callO 0 (f__law_row T) ct (by decide) ?_
  refine wa_cons ?_
  refine we_name 0 rfl ?_
  refine wa_cons ?_
  refine we_int ?_
  refine wa_cons ?_
  refine we_int ?_
  refine wa_nil ?_
  refine ⟨_, _, rfl, rfl, rfl, ?_⟩
  refine ⟨_, _, _, _, rfl, rfl, hg3, by omega, by omega, by omega, by omega, by omega, by omega, fun u1 l4 ob4 hg4 hu1l hu1b => ?_⟩
  refine ⟨_, _, _, rfl, rfl, rfl, ?_⟩
  refine ⟨(cat_sz (by rw [List.length_map] <;> omega) (by rw [List.length_map] <;> omega)) /- s0 -/, ?_⟩
  try rw [← List.map_append]
  refine wa_cons ?_
  refine we_callO 0 (f__law_random T) ct (by decide) ?_
  refine wa_cons ?_
  refine we_name 0 rfl ?_
  refine wa_cons ?_
  refine we_int ?_
  refine wa_nil ?_
  refine ⟨_, _, rfl, rfl, rfl, ?_⟩
  refine ⟨_, _, _, rfl, rfl, hg4, by omega, by omega, by omega, by omega, fun w1 l5 hg5 hw10 hw11 => ?_⟩
  refine ⟨_, _, _, rfl, rfl, rfl, ?_⟩
  refine wa_nil ?_
  refine ⟨_, _, rfl, rfl, rfl, ?_⟩
  refine ⟨_, _, _, _, _, _, rfl, rfl, hg5, by omega, by omega, g7, (by rw [List.length_append]; omega), (fun x hx => by
    rcases List.mem_append.mp hx with h | h
    · have := hbb x h; omega
    · have := hu1b x h; omega), by omega, by omega, fun one l6 ob6 hg6 hj1 hob1 => ?_⟩
  refine ⟨_, _, _, rfl, rfl, rfl, ?_⟩
  refine wss_cons ?_
  refine ws_set 5 ?_ ct.nd
  refine we_callO 0 (f__law_stirred T) ct (by decide) ?_
  refine wa_cons ?_
  refine we_name 0 rfl ?_
  refine wa_cons ?_
  refine we_name 1 rfl ?_
  refine wa_cons ?_
  refine we_add false ?_
  refine we_name 3 rfl ?_
  refine we_callO 0 (f__law_row T) ct (by decide) ?_
  refine wa_cons ?_
  refine we_name 0 rfl ?_
  refine wa_cons ?_
  refine we_int ?_
  refine wa_cons ?_
  refine we_int ?_
  refine wa_nil ?_
  refine ⟨_, _, rfl, rfl, rfl, ?_⟩
  refine ⟨_, _, _, _, rfl, rfl, hg6, by omega, by omega, by omega, by omega, by omega, by omega, fun u2 l7 ob7 hg7 hu2l hu2b => ?_⟩
  refine ⟨_, _, _, rfl, rfl, rfl, ?_⟩
  refine ⟨(cat_sz (by rw [List.length_map] <;> omega) (by rw [List.length_map] <;> omega)) /- s1 -/, ?_⟩
  try rw [← List.map_append]
  refine wa_cons ?_
  refine we_callO 0 (f__law_random T) ct (by decide) ?_
  refine wa_cons ?_
  refine we_name 0 rfl ?_
  refine wa_cons ?_
  refine we_int ?_
  refine wa_nil ?_
  refine ⟨_, _, rfl, rfl, rfl, ?_⟩
  refine ⟨_, _, _, rfl, rfl, hg7, by omega, by omega, by omega, by omega, fun w2 l8 hg8 hw20 hw21 => ?_⟩
  refine ⟨_, _, _, rfl, rfl, rfl, ?_⟩
  refine wa_nil ?_
  refine ⟨_, _, rfl, rfl, rfl, ?_⟩
  refine ⟨_, _, _, _, _, _, rfl, rfl, hg8, by omega, by omega, g7, (by rw [List.length_append]; omega), (fun x hx => by
    rcases List.mem_append.mp hx with h | h
    · have := hbb x h; omega
    · have := hu2b x h; omega), by omega, by omega, fun other l9 ob9 hg9 hj2 hob2 => ?_⟩
  have hn1 : NN one := hj1.nn g7 (fun x hx => by
    rcases List.mem_append.mp hx with h | h
    · exact (hbb x h).1
    · exact (hu1b x h).1)
  have hn2 : NN other := hj2.nn g7 (fun x hx => by
    rcases List.mem_append.mp hx with h | h
    · exact (hbb x h).1
    · exact (hu2b x h).1)
  have hone := hj1.len
  have hoth := hj2.len
  rw [List.length_append] at hone hoth
  have hsh := shown_rows (rows := [one, other]) (by simp) (fun l hl => by
    simp only [List.mem_cons, List.not_mem_nil, or_false] at hl
    rcases hl with rfl | rfl
    · exact ⟨by omega, fun x hx => by have := hob1 x hx; have := hn1 x hx; omega⟩
    · exact ⟨by omega, fun x hx => by have := hob2 x hx; have := hn2 x hx; omega⟩)
  obtain ⟨⟨f, l2, r2⟩, hgr⟩ : ∃ q, grN (inL ns st) (one.length + other.length) one other = q := ⟨_, rfl⟩
  obtain ⟨e1, e2, ⟨bl1, hbd⟩, hbf, hsw, hall, hf1, hf2⟩ := k65_facts g7 hj1 hj2 hgr
  have hself := gr_self g7 (one.length + one.length) one (by omega)
  refine ⟨_, _, _, rfl, rfl, rfl, ?_⟩
  refine wss_cons ?_
  refine ws_set 6 ?_ ct.nd
  refine we_reprD hgd ct T.z_repr ?_
  refine we_lst false ?_
  refine wa_cons ?_
  refine we_name 4 rfl ?_
  refine wa_cons ?_
  refine we_name 5 rfl ?_
  refine wa_nil ?_
  refine ⟨[_, _], rfl, Nat.le_of_ble_eq_true rfl, ?_⟩
  refine ⟨_, rfl, rfl, (okD_encR 58 [one, other]) /- s2 -/, hsh.1 /- s3 -/, hsh.2 /- s4 -/, ?_⟩
  refine wss_cons ?_
  refine ws_names [7, 8] (pg_tup rfl (pgs_cons (pg_name ct.nd (i := 7) rfl (by first | exact Or.inl rfl | exact Or.inr rfl)) (pgs_cons (pg_name ct.nd (i := 8) rfl (by first | exact Or.inl rfl | exact Or.inr rfl)) (pgs_nil)))) ?_
  refine wa_cons ?_
  refine we_callL (f_greatest_beginning T) ct (by decide) ?_
  refine wa_cons ?_
  refine we_name 2 rfl ?_
  refine wa_cons ?_
  refine we_name 4 rfl ?_
  refine wa_cons ?_
  refine we_name 5 rfl ?_
  refine wa_nil ?_
  refine ⟨[_, _, _], rfl, ?_⟩
  refine ⟨_, _, _, _, f, l2, r2, rfl, rfl, g4, g5, (by rw [g6]; exact g7), by omega, hn1, by omega, hn2, (by rw [g6]; exact hgr), fun k o hk => ?_⟩
  refine .inr (.inl ⟨k, _, rfl, hk, allsc_ints _, ?_⟩)
  refine wa_cons ?_
  refine we_callL (f_both_left T) ct (by decide) ?_
  refine wa_cons ?_
  refine we_name 2 rfl ?_
  refine wa_cons ?_
  refine we_name 4 rfl ?_
  refine wa_cons ?_
  refine we_name 5 rfl ?_
  refine wa_nil ?_
  refine ⟨[_, _, _], rfl, ?_⟩
  refine ⟨_, _, _, _, f, l2, r2, rfl, rfl, g4, g5, (by rw [g6]; exact g7), by omega, hn1, by omega, hn2, (by rw [g6]; exact hgr), fun k i j o hk hij hi hj => ?_⟩
  refine .inr (.inr (.inl ⟨k, i, j, _, _, rfl, hk, hij, hi, hj, allsc_ints _, allsc_ints _, ?_⟩))
  refine wa_nil ?_
  refine ⟨rfl, Nat.le_of_ble_eq_true rfl, ?_⟩
  refine wss_cons ?_
  refine ws_if ?_
  refine wt_w ?_
  refine ww_or ?_
  refine wt_not ?_
  refine wt_val ?_
  refine we_callL (f__law_told_right T) ct (by decide) ?_
  refine wa_cons ?_
  refine we_name 1 rfl ?_
  refine wa_cons ?_
  refine we_name 4 rfl ?_
  refine wa_cons ?_
  refine we_name 5 rfl ?_
  refine wa_cons ?_
  refine we_name 7 rfl ?_
  refine wa_cons ?_
  refine we_name 8 rfl ?_
  refine wa_nil ?_
  refine ⟨[_, _, _, _, _], rfl, ?_⟩
  refine ⟨_, _, _, _, _, _, _, rfl, rfl, g7, by omega, by omega, hgr, fun ob1 => ?_⟩
  refine .inl ⟨_, rfl, rfl, ?_⟩
  refine ⟨trivial, ?_⟩
  refine ⟨fun hh1 => ?_, fun hh1 => ?_⟩
  rotate_left 1
  · simp [DL.truD] at hh1
  refine ww_or ?_
  refine wt_lt ?_
  refine we_len T.z_len ?_
  refine we_name 7 rfl ?_
  refine we_len T.z_len ?_
  refine we_name 3 rfl ?_
  refine ⟨_, _, rfl, rfl, _, rfl, ?_⟩
  refine ⟨fun hh2 => ?_, fun hh2 => ?_⟩
  rotate_left 1
  · have e := of_decide_eq_true hh2
    rw [List.length_map, List.length_map] at e
    omega
  refine ww_or1 ?_
  refine wt_isN ?_
  refine we_callX (f__law_divided T) ct (by decide) ?_
  refine wa_cons ?_
  refine we_name 1 rfl ?_
  refine wa_cons ?_
  refine we_name 7 rfl ?_
  refine wa_cons ?_
  refine we_name 3 rfl ?_
  refine wa_nil ?_
  refine ⟨[_, _, _], rfl, ?_⟩
  refine ⟨_, _, _, _, rfl, rfl, by omega, fun ob1 => ?_⟩
  rw [hbd]
  refine .inr ⟨_, rfl, fun ad => ?_⟩
  refine ⟨fun hi0t => ?_, fun hi0f => ?_⟩
  · cases hi0t
  · refine wss_nil ?_
    refine wss_cons ?_
    refine ws_if ?_
    refine wt_w ?_
    refine ww_or ?_
    refine wt_neI ct ?_
    refine we_callFK (ks := ["other", "one", "lets"]) (fun l => l.reverse) (f_greatest_beginning T) ct (by decide) (fun _ _ _ _ _ _ us hl => match us, hl with | [_, _, _], _ => rfl) (fun _ z => vals_rev z) (fun _ z => z.reverse) ?_
    refine wk_cons ?_
    refine we_name 5 rfl ?_
    refine wk_cons ?_
    refine we_name 4 rfl ?_
    refine wk_cons ?_
    refine we_name 2 rfl ?_
    refine wk_nil ?_
    refine ⟨[_, _, _], rfl, rfl, ?_⟩
    refine ⟨_, _, _, _, f, l2, r2, rfl, rfl, g4, g5, (by rw [g6]; exact g7), by omega, hn1, by omega, hn2, (by rw [g6]; exact hgr), fun k o hk => ?_⟩
    refine ⟨_, dtL_at hk, ?_⟩
    refine we_name 7 rfl ?_
    refine ⟨f, f, rfl, rfl, _, rfl, ?_⟩
    refine ⟨fun hh3 => ?_, fun hh3 => ?_⟩
    rotate_left 1
    · simp at hh3
    refine ww_or1 ?_
    refine wt_neL ct ?_
    refine we_callFK (ks := ["other", "one", "lets"]) (fun l => l.reverse) (f_both_left T) ct (by decide) (fun _ _ _ _ _ _ us hl => match us, hl with | [_, _, _], _ => rfl) (fun _ z => vals_rev z) (fun _ z => z.reverse) ?_
    refine wk_cons ?_
    refine we_name 5 rfl ?_
    refine wk_cons ?_
    refine we_name 4 rfl ?_
    refine wk_cons ?_
    refine we_name 2 rfl ?_
    refine wk_nil ?_
    refine ⟨[_, _, _], rfl, rfl, ?_⟩
    refine ⟨_, _, _, _, f, l2, r2, rfl, rfl, g4, g5, (by rw [g6]; exact g7), by omega, hn1, by omega, hn2, (by rw [g6]; exact hgr), fun k i j o hk hij hi hj => ?_⟩
    refine ⟨_, dtL_two hk hi hj, ?_⟩
    refine we_name 8 rfl ?_
    refine ⟨_, _, rfl, rfl, (okD_pair l2 r2) /- s5 -/, (okD_pair l2 r2) /- s6 -/, _, rfl, ?_⟩
    refine ⟨fun hi1t => ?_, fun hi1f => ?_⟩
    · exact absurd hi1t (by rw [show eqD _ _ = true from eqD_pair l2 r2]; decide)
    · refine wss_nil ?_
      refine wss_cons ?_
      refine ws_if ?_
      refine wt_w ?_
      refine ww_or ?_
      refine wt_neI ct ?_
      refine we_callF (f_greatest_beginning T) ct (by decide) ?_
      refine wa_cons ?_
      refine we_name 2 rfl ?_
      refine wa_cons ?_
      refine we_name 5 rfl ?_
      refine wa_cons ?_
      refine we_name 4 rfl ?_
      refine wa_nil ?_
      refine ⟨[_, _, _], rfl, ?_⟩
      refine ⟨_, _, _, _, f, r2, l2, rfl, rfl, g4, g5, (by rw [g6]; exact g7), by omega, hn2, by omega, hn1, (by rw [g6]; exact hsw), fun k o hk => ?_⟩
      refine ⟨_, dtL_at hk, ?_⟩
      refine we_name 7 rfl ?_
      refine ⟨f, f, rfl, rfl, _, rfl, ?_⟩
      refine ⟨fun hh4 => ?_, fun hh4 => ?_⟩
      rotate_left 1
      · simp at hh4
      refine ww_or1 ?_
      refine wt_neL ct ?_
      refine we_callF (f_both_left T) ct (by decide) ?_
      refine wa_cons ?_
      refine we_name 2 rfl ?_
      refine wa_cons ?_
      refine we_name 5 rfl ?_
      refine wa_cons ?_
      refine we_name 4 rfl ?_
      refine wa_nil ?_
      refine ⟨[_, _, _], rfl, ?_⟩
      refine ⟨_, _, _, _, f, r2, l2, rfl, rfl, g4, g5, (by rw [g6]; exact g7), by omega, hn2, by omega, hn1, (by rw [g6]; exact hsw), fun k i j o hk hij hi hj => ?_⟩
      refine ⟨_, dtL_two hk hi hj, ?_⟩
      refine we_tupO ?_
      refine wa_cons ?_
      refine we_ixT ?_
      refine we_name 8 rfl ?_
      refine we_int ?_
      refine ⟨_, _, _, _, rfl, rfl, rfl, rfl, ?_⟩
      refine wa_cons ?_
      refine we_ixT ?_
      refine we_name 8 rfl ?_
      refine we_int ?_
      refine ⟨_, _, _, _, rfl, rfl, rfl, rfl, ?_⟩
      refine wa_nil ?_
      refine ⟨Nat.le_of_ble_eq_true rfl, ?_⟩
      refine ⟨_, _, rfl, rfl, (okD_pair r2 l2) /- s7 -/, (okD_pair r2 l2) /- s8 -/, _, rfl, ?_⟩
      refine ⟨fun hi2t => ?_, fun hi2f => ?_⟩
      · exact absurd hi2t (by rw [show eqD _ _ = true from eqD_pair r2 l2]; decide)
      · refine wss_nil ?_
        refine wss_cons ?_
        refine ws_names [9, 10] (pg_tup rfl (pgs_cons (pg_name ct.nd (i := 9) rfl (by first | exact Or.inl rfl | exact Or.inr rfl)) (pgs_cons (pg_name ct.nd (i := 10) rfl (by first | exact Or.inl rfl | exact Or.inr rfl)) (pgs_nil)))) ?_
        refine wa_cons ?_
        refine we_call false (f__law_heads T) ct (by decide) ?_
        refine wa_cons ?_
        refine we_name 1 rfl ?_
        refine wa_cons ?_
        refine we_name 4 rfl ?_
        refine wa_nil ?_
        refine ⟨[_, _], rfl, ?_⟩
        refine ⟨_, _, _, rfl, rfl, g7, by omega, fun o1 ob1 ho1 => ?_⟩
        refine ⟨_, rfl, ?_⟩
        refine wa_cons ?_
        refine we_call false (f__law_heads T) ct (by decide) ?_
        refine wa_cons ?_
        refine we_name 1 rfl ?_
        refine wa_cons ?_
        refine we_name 5 rfl ?_
        refine wa_nil ?_
        refine ⟨[_, _], rfl, ?_⟩
        refine ⟨_, _, _, rfl, rfl, g7, by omega, fun o2 ob1 ho2 => ?_⟩
        refine ⟨_, rfl, ?_⟩
        refine wa_nil ?_
        refine ⟨rfl, Nat.le_of_ble_eq_true rfl, ?_⟩
        refine wss_cons ?_
        refine ws_ifJ (J := fun ob2 sl2 => ob2 = [.lst l9, .lst (f.map .int), .lst (l2.map .int), .lst (r2.map .int), .tpl [.p 2, .p 3], .tpl [.p 3, .p 2]] ∧ ∃ x : Option R, sl2 = [some (.p 0), some (.d (.tup [encI ns, optD st])), some (.d (letsD (He.ga K "Lets") (fillS (numsL ns) st).1 (fillS (numsL ns) st).2)), some (.d (encI base)), some (.d (encI one)), some (.d (encI other)), some (.d (.str (toPy (encR [one, other])).shown)), some (.p 1), some (.p 4), some (.d (encOR o1)), some (.d (encOR o2)), x, none, none]) ?_ (fun ob2 sl2 hJ => ?_)
        · refine wt_w ?_
          refine' ww_andV ?_ (fun hh5 => ?_) ?_
          rotate_left 2
          · refine wt_notN ?_
            refine we_name 9 rfl ?_
            exact ⟨rfl, rfl⟩
          · refine ww_and1 ?_
            refine wt_notN ?_
            refine we_name 10 rfl ?_
            exact ⟨rfl, rfl⟩
          refine ⟨fun hi3t => ?_, fun hi3f => ?_⟩
          · rw [Bool.and_eq_true] at hi3t
            obtain ⟨h1, rfl⟩ := encOR_some (by simpa using hi3t.1)
            obtain ⟨h2, rfl⟩ := encOR_some (by simpa using hi3t.2)
            obtain ⟨hk1, hz1⟩ := ho1 h1 rfl
            obtain ⟨hk2, hz2⟩ := ho2 h2 rfl
            have hF : ∀ h ∈ (h1.filter fun h => decide (h ∈ h2)), (∃ t, lby (inL ns st) f h = some t) ∧ h.length ≤ f.length := fun h hh => by
              rw [List.mem_filter, decide_eq_true_eq] at hh
              exact hall h ((hk1 h).mp hh.1) ((hk2 h).mp hh.2)
            have hfin : f ∈ (h1.filter fun h => decide (h ∈ h2)) := List.mem_filter.mpr ⟨(hk1 f).mpr hf1, decide_eq_true ((hk2 f).mpr hf2)⟩
            refine wss_cons ?_
            refine ws_lcP (own := false) 11 (t := .one 12) (ow := [("head", 12)]) ct (lcP_filter (encI) rfl (fun _ _ _ _ _ => pg_name ct.nd (i := 12) rfl (by first | exact Or.inl rfl | exact Or.inr rfl)) ?_) (blkOk_by (by kernel_rfl))
            refine wi_lst ?_
            refine we_name 9 rfl ?_
            refine ⟨_, rfl, fun hsz => ?_⟩
            refine ⟨hsz, h1, fun h => decide (h ∈ h2), encI, rfl, fun a ha => ⟨_, rfl, fun s H C cl fp => ?_, fun hf s H C cl fp => ?_⟩, ?_⟩
            · refine wt_inR ct.blk ?_
              refine we_name 12 rfl ?_
              refine we_name 10 rfl ?_
              refine ⟨_, h2, rfl, rfl, _, rfl, ?_⟩
              exact ⟨by simp, rfl⟩
            · refine we_name 12 rfl ?_
              exact ⟨rfl, rfl⟩
            refine wss_one ?_
            refine ws_if ?_
            refine wt_w ?_
            refine ww_or ?_
            refine wt_neR ct ?_
            refine we_lcP (own := false) (t := .one 12) (ow := [("head", 12)]) ct (lcP_filter (encI) rfl (fun _ _ _ _ _ => pg_name ct.nd (i := 12) rfl (by first | exact Or.inl rfl | exact Or.inr rfl)) ?_) (blkOk_by (by kernel_rfl))
            refine wi_lst ?_
            refine we_name 11 rfl ?_
            refine ⟨_, rfl, fun hsz => ?_⟩
            refine ⟨hsz, (h1.filter fun h => decide (h ∈ h2)), fun _ => false, encI, rfl, fun a ha => ⟨_, rfl, fun s H C cl fp => ?_, fun hf s H C cl fp => ?_⟩, ?_⟩
            · obtain ⟨⟨tl, hdv⟩, _⟩ := hF a ha
              refine wt_isN ?_
              refine we_callX (f__law_divided T) ct.blk (by decide) ?_
              refine wa_cons ?_
              refine we_name 1 rfl ?_
              refine wa_cons ?_
              refine we_name 7 rfl ?_
              refine wa_cons ?_
              refine we_name 12 rfl ?_
              refine wa_nil ?_
              refine ⟨[_, _, _], rfl, ?_⟩
              refine ⟨_, _, _, _, rfl, rfl, by omega, fun ob1 => ?_⟩
              rw [hdv]
              refine .inr ⟨_, rfl, fun ad => ?_⟩
              exact ⟨rfl, rfl⟩
            · obtain ⟨⟨tl, hdv⟩, _⟩ := hF a ha
              refine we_name 12 rfl ?_
              exact ⟨rfl, rfl⟩
            refine we_lst false ?_
            refine wa_nil ?_
            refine ⟨[], rfl, Nat.le_of_ble_eq_true rfl, ?_⟩
            refine ⟨((h1.filter fun h => decide (h ∈ h2)).filter fun _ => false), [], rfl, rfl, _, rfl, ?_⟩
            refine ⟨fun hh6 => ?_, fun hh6 => ?_⟩
            rotate_left 1
            · simp at hh6
            refine ww_or1 ?_
            refine wt_ne ct ?_
            refine we_maxL ct T.z_max ?_
            refine we_lcP (own := false) (t := .one 12) (ow := [("head", 12)]) ct (lcP_map (encI) rfl (fun _ _ _ _ _ => pg_name ct.nd (i := 12) rfl (by first | exact Or.inl rfl | exact Or.inr rfl)) ?_) (blkOk_by (by kernel_rfl))
            refine wi_lst ?_
            refine we_name 11 rfl ?_
            refine ⟨_, rfl, fun hsz => ?_⟩
            refine ⟨hsz, (h1.filter fun h => decide (h ∈ h2)), fun h => .int (h.length : Int), rfl, fun a ha => ⟨_, rfl, fun s H C cl fp => ?_⟩, ?_⟩
            · refine we_len T.z_len ?_
              refine we_name 12 rfl ?_
              exact ⟨by rw [List.length_map], rfl⟩
            refine ⟨((h1.filter fun h => decide (h ∈ h2)).map fun h => (h.length : Int)), (by show some _ = some _; rw [List.map_map]; rfl), (by rw [List.length_map]; exact List.length_pos_of_mem hfin) /- s9 -/, fun m hm1 hm2 => ?_⟩
            refine we_len T.z_len ?_
            refine we_name 7 rfl ?_
            refine ⟨_, rfl, ?_⟩
            refine ⟨fun hi4t => ?_, fun hi4f => ?_⟩
            · have e : m = (f.length : Int) := by
                obtain ⟨h, hh, rfl⟩ := List.mem_map.mp hm1
                have v1 := (hF h hh).2
                have v2 := hm2 _ (List.mem_map.mpr ⟨f, hfin, rfl⟩)
                omega
              rw [List.length_map, e] at hi4t
              simp at hi4t
            · refine wss_nil ?_
              exact ⟨rfl, _, rfl⟩
          · refine wss_nil ?_
            exact ⟨rfl, none, rfl⟩
        obtain ⟨rfl, x, rfl⟩ := hJ
        refine wss_cons ?_
        refine ws_expr ?_
        refine we_append ?_
        refine we_name 7 rfl ?_
        refine ⟨_, _, rfl, rfl, ?_⟩
        refine we_non ?_
        refine ⟨_, _, rfl, rfl, (app_sz (by omega)) /- s10 -/, ?_⟩
        refine wss_cons ?_
        refine ws_expr ?_
        refine we_append ?_
        refine we_ixT ?_
        refine we_name 8 rfl ?_
        refine we_int ?_
        refine ⟨_, _, _, _, rfl, rfl, rfl, rfl, ?_⟩
        refine ⟨_, _, rfl, rfl, ?_⟩
        refine we_non ?_
        refine ⟨_, _, rfl, rfl, (app_sz (by omega)) /- s11 -/, ?_⟩
        refine wss_cons ?_
        refine ws_expr ?_
        refine we_append ?_
        refine we_ixT ?_
        refine we_name 8 rfl ?_
        refine we_int ?_
        refine ⟨_, _, _, _, rfl, rfl, rfl, rfl, ?_⟩
        refine ⟨_, _, rfl, rfl, ?_⟩
        refine we_non ?_
        refine ⟨_, _, rfl, rfl, (app_sz (by omega)) /- s12 -/, ?_⟩
        refine wss_cons ?_
        refine ws_if ?_
        refine wt_w ?_
        refine ww_or ?_
        refine wt_neS ?_
        refine we_reprD hgd ct T.z_repr ?_
        refine we_lst false ?_
        refine wa_cons ?_
        refine we_name 4 rfl ?_
        refine wa_cons ?_
        refine we_name 5 rfl ?_
        refine wa_nil ?_
        refine ⟨[_, _], rfl, Nat.le_of_ble_eq_true rfl, ?_⟩
        refine ⟨_, rfl, rfl, (okD_encR 58 [one, other]) /- s13 -/, hsh.1 /- s14 -/, hsh.2 /- s15 -/, ?_⟩
        refine we_name 6 rfl ?_
        refine ⟨_, _, rfl, rfl, ?_⟩
        refine ⟨fun hh7 => ?_, fun hh7 => ?_⟩
        rotate_left 1
        · have e : (!decide ((toPy (encR [one, other])).shown = (toPy (encR [one, other])).shown)) = true := hh7
          simp at e
        refine ww_or ?_
        refine wt_eqL ct ?_
        refine we_callF (f_greatest_beginning T) ct (by decide) ?_
        refine wa_cons ?_
        refine we_name 2 rfl ?_
        refine wa_cons ?_
        refine we_name 4 rfl ?_
        refine wa_cons ?_
        refine we_name 5 rfl ?_
        refine wa_nil ?_
        refine ⟨[_, _, _], rfl, ?_⟩
        refine ⟨_, _, _, _, f, l2, r2, rfl, rfl, g4, g5, (by rw [g6]; exact g7), by omega, hn1, by omega, hn2, (by rw [g6]; exact hgr), fun k o hk => ?_⟩
        refine ⟨_, dtL_at hk, ?_⟩
        refine we_name 7 rfl ?_
        refine ⟨_, _, rfl, rfl, (okD_encI 63 f) /- s16 -/, (okD_more f) /- s17 -/, _, rfl, ?_⟩
        refine ⟨fun hh8 => ?_, fun hh8 => ?_⟩
        rotate_left 1
        · exact (Bool.false_ne_true ((eqD_more f).symm.trans hh8)).elim
        refine ww_or1 ?_
        refine wt_not ?_
        refine wt_val ?_
        refine we_callL (f__law_told_right T) ct (by decide) ?_
        refine wa_cons ?_
        refine we_name 1 rfl ?_
        refine wa_cons ?_
        refine we_name 4 rfl ?_
        refine wa_cons ?_
        refine we_name 5 rfl ?_
        refine wa_cons ?_
        refine we_callF (f_greatest_beginning T) ct (by decide) ?_
        refine wa_cons ?_
        refine we_name 2 rfl ?_
        refine wa_cons ?_
        refine we_name 4 rfl ?_
        refine wa_cons ?_
        refine we_name 5 rfl ?_
        refine wa_nil ?_
        refine ⟨[_, _, _], rfl, ?_⟩
        refine ⟨_, _, _, _, f, l2, r2, rfl, rfl, g4, g5, (by rw [g6]; exact g7), by omega, hn1, by omega, hn2, (by rw [g6]; exact hgr), fun k o hk => ?_⟩
        refine ⟨_, dtL_at hk, ?_⟩
        refine wa_cons ?_
        refine we_callF (f_both_left T) ct (by decide) ?_
        refine wa_cons ?_
        refine we_name 2 rfl ?_
        refine wa_cons ?_
        refine we_name 4 rfl ?_
        refine wa_cons ?_
        refine we_name 5 rfl ?_
        refine wa_nil ?_
        refine ⟨[_, _, _], rfl, ?_⟩
        refine ⟨_, _, _, _, f, l2, r2, rfl, rfl, g4, g5, (by rw [g6]; exact g7), by omega, hn1, by omega, hn2, (by rw [g6]; exact hgr), fun k i j o hk hij hi hj => ?_⟩
        refine ⟨_, dtL_two hk hi hj, ?_⟩
        refine wa_nil ?_
        refine ⟨[_, _, _, _, _], rfl, ?_⟩
        refine ⟨_, _, _, _, _, _, _, rfl, rfl, g7, by omega, by omega, hgr, fun ob1 => ?_⟩
        refine .inl ⟨_, rfl, rfl, ?_⟩
        refine ⟨trivial, ?_⟩
        refine ⟨fun hi5t => ?_, fun hi5f => ?_⟩
        · simp [DL.truD] at hi5t
        · refine wss_nil ?_
          refine wss_cons ?_
          refine ws_set 13 ?_ ct.nd
          refine we_list false T.z_list ?_
          refine we_name 4 rfl ?_
          refine wss_cons ?_
          refine ws_if ?_
          refine wt_w ?_
          refine ww_or ?_
          refine wt_neI ct ?_
          refine we_callF (f_greatest_beginning T) ct (by decide) ?_
          refine wa_cons ?_
          refine we_name 2 rfl ?_
          refine wa_cons ?_
          refine we_name 13 rfl ?_
          refine wa_cons ?_
          refine we_name 13 rfl ?_
          refine wa_nil ?_
          refine ⟨[_, _, _], rfl, ?_⟩
          refine ⟨_, _, _, _, (fsM (inL ns st) one), [], [], rfl, rfl, g4, g5, (by rw [g6]; exact g7), by omega, hn1, by omega, hn1, (by rw [g6]; exact hself), fun k o hk => ?_⟩
          refine ⟨_, dtL_at hk, ?_⟩
          refine we_call false (f__law_first T) ct (by decide) ?_
          refine wa_cons ?_
          refine we_name 1 rfl ?_
          refine wa_cons ?_
          refine we_name 4 rfl ?_
          refine wa_nil ?_
          refine ⟨[_, _], rfl, ?_⟩
          refine ⟨_, _, _, rfl, rfl, g7, by omega, ?_⟩
          refine ⟨_, rfl, ?_⟩
          refine ⟨(fsM (inL ns st) one), (fsM (inL ns st) one), rfl, rfl, _, rfl, ?_⟩
          refine ⟨fun hh9 => ?_, fun hh9 => ?_⟩
          rotate_left 1
          · simp at hh9
          refine ww_or1 ?_
          refine wt_neI ct ?_
          refine we_name 13 rfl ?_
          refine we_name 4 rfl ?_
          refine ⟨one, one, rfl, rfl, _, rfl, ?_⟩
          refine ⟨fun hi6t => ?_, fun hi6f => ?_⟩
          · simp at hi6t
          · refine wss_nil ?_
            refine wss_cons ?_
            refine ws_set 8 ?_ ct.nd
            refine we_callL (f_both_left T) ct (by decide) ?_
            refine wa_cons ?_
            refine we_name 2 rfl ?_
            refine wa_cons ?_
            refine we_name 13 rfl ?_
            refine wa_cons ?_
            refine we_name 13 rfl ?_
            refine wa_nil ?_
            refine ⟨[_, _, _], rfl, ?_⟩
            refine ⟨_, _, _, _, (fsM (inL ns st) one), [], [], rfl, rfl, g4, g5, (by rw [g6]; exact g7), by omega, hn1, by omega, hn1, (by rw [g6]; exact hself), fun k i j o hk hij hi hj => ?_⟩
            refine .inr (.inr (.inl ⟨k, i, j, _, _, rfl, hk, hij, hi, hj, allsc_ints _, allsc_ints _, ?_⟩))
            refine wss_cons ?_
            refine ws_expr ?_
            refine we_append ?_
            refine we_ixT ?_
            refine we_name 8 rfl ?_
            refine we_int ?_
            refine ⟨_, _, _, _, rfl, rfl, rfl, rfl, ?_⟩
            refine ⟨_, _, rfl, rfl, ?_⟩
            refine we_non ?_
            refine ⟨_, _, rfl, rfl, (by decide) /- s18 -/, ?_⟩
            refine wss_cons ?_
            refine ws_if ?_
            refine wt_neL ct ?_
            refine we_name 8 rfl ?_
            refine we_tup ?_
            refine wa_cons ?_
            refine we_lst false ?_
            refine wa_cons ?_
            refine we_non ?_
            refine wa_nil ?_
            refine ⟨[_], rfl, Nat.le_of_ble_eq_true rfl, ?_⟩
            refine wa_cons ?_
            refine we_lst false ?_
            refine wa_nil ?_
            refine ⟨[], rfl, Nat.le_of_ble_eq_true rfl, ?_⟩
            refine wa_nil ?_
            refine ⟨[_, _], rfl, Nat.le_of_ble_eq_true rfl, ?_⟩
            refine ⟨_, _, rfl, rfl, rfl /- s19 -/, rfl /- s20 -/, _, rfl, ?_⟩
            refine ⟨fun hi7t => ?_, fun hi7f => ?_⟩
            · simp [eqD, toPy, toPys, PyData.eqv, PyData.eqvAll] at hi7t
            · refine wss_nil ?_
              refine wss_one ?_
              refine ws_ret ?_
              refine' we_andV ?_ (fun hh10 => ?_) ?_
              rotate_left 2
              · refine we_eqI ct ?_
                refine we_callF (f_greatest_beginning T) ct (by decide) ?_
                refine wa_cons ?_
                refine we_name 2 rfl ?_
                refine wa_cons ?_
                refine we_name 4 rfl ?_
                refine wa_cons ?_
                refine we_name 4 rfl ?_
                refine wa_nil ?_
                refine ⟨[_, _, _], rfl, ?_⟩
                refine ⟨_, _, _, _, (fsM (inL ns st) one), [], [], rfl, rfl, g4, g5, (by rw [g6]; exact g7), by omega, hn1, by omega, hn1, (by rw [g6]; exact hself), fun k o hk => ?_⟩
                refine ⟨_, dtL_at hk, ?_⟩
                refine we_call false (f__law_first T) ct (by decide) ?_
                refine wa_cons ?_
                refine we_name 1 rfl ?_
                refine wa_cons ?_
                refine we_name 4 rfl ?_
                refine wa_nil ?_
                refine ⟨[_, _], rfl, ?_⟩
                refine ⟨_, _, _, rfl, rfl, g7, by omega, ?_⟩
                refine ⟨_, rfl, ?_⟩
                refine ⟨(fsM (inL ns st) one), (fsM (inL ns st) one), rfl, rfl, ?_⟩
                exact ⟨rfl, rfl⟩
              · refine we_one ?_
                refine we_eqL ct ?_
                refine we_callF (f_both_left T) ct (by decide) ?_
                refine wa_cons ?_
                refine we_name 2 rfl ?_
                refine wa_cons ?_
                refine we_name 4 rfl ?_
                refine wa_cons ?_
                refine we_lst false ?_
                refine wa_nil ?_
                refine ⟨[], rfl, Nat.le_of_ble_eq_true rfl, ?_⟩
                refine wa_nil ?_
                refine ⟨[_, _, _], rfl, ?_⟩
                refine ⟨_, _, one, [], [], one, [], rfl, rfl, g4, g5, (by rw [g6]; exact g7), by omega, hn1, by decide, (fun x hx => by cases hx), (by rw [g6]; exact gr_none _ _), fun k i j o hk hij hi hj => ?_⟩
                refine ⟨_, dtL_two hk hi hj, ?_⟩
                refine we_tup ?_
                refine wa_cons ?_
                refine we_name 4 rfl ?_
                refine wa_cons ?_
                refine we_lst false ?_
                refine wa_nil ?_
                refine ⟨[], rfl, Nat.le_of_ble_eq_true rfl, ?_⟩
                refine wa_nil ?_
                refine ⟨[_, _], rfl, Nat.le_of_ble_eq_true rfl, ?_⟩
                refine ⟨_, _, rfl, rfl, (okD_pair one []) /- s21 -/, (okD_pair one []) /- s22 -/, ?_⟩
                exact ⟨rfl, rfl⟩
              refine (show P (.d (.bl (decide (fsM (inL ns st) one = fsM (inL ns st) one) && eqD (.tup [encI one, encI []]) (.tup [encI one, encI []])))) _ from ?_)
              rw [decide_eq_true rfl, eqD_pair]
              exact hP _ _ -- ret0
def sp_law (K : PySem.W.Frag) : FS := lawF
theorem f_law (T : Tx K mg) : FnG P w K mg base "law" s_law 10 ["script"] (sp_law K) := by
  refine T.d_law.fnG sc_law (fun _ _ _ _ _ _ us hl => match us, hl with | [_], _ => rfl) (fun rs ob P h => by obtain ⟨ns, rfl, rfl, hl, hb, hP⟩ := h; rfl) fun a cdv A outer s H E ct hgd rs ob P h => ?_
  obtain ⟨ns, rfl, rfl, hl, hb, hP⟩ := h
  refine wss_cons ?_
  refine ws_for (t := .one 1) ct (pg_name ct.nd (i := 1) rfl (by first | exact Or.inl rfl | exact Or.inr rfl)) ?_
  refine wi_range1 T.z_range ?_
  refine we_int ?_
  refine ⟨_, rfl, ⟨by omega, by omega⟩ /- s0 -/, ?_⟩
  refine ⟨fun i ob1 sl1 => ∃ (more : List Ob) (x : Option R), ob1 = .rd (ns.map .int) :: more ∧ sl1 = [some (.p 0), x, none], ⟨[], none, rfl, rfl⟩, fun i d ob2 sl2 hd hJ => ?_, fun ob2 sl2 hJ => ?_⟩
  · obtain ⟨idx, hidx, rfl⟩ := get_map hd
    have hi := mem_irange.mp (List.mem_of_getElem? hidx)
    obtain ⟨more, x, rfl, rfl⟩ := hJ
    refine ⟨_, rfl, ?_⟩
    refine wss_one ?_
    refine ws_if ?_
    refine wt_not ?_
    refine wt_val ?_
    refine we_callOG (more.length + 1) hgd (f__law_right T) ct (by decide) ?_
    refine wa_cons ?_
    refine we_callOL 0 (f__law_generator T) ct (by decide) ?_
    refine wa_cons ?_
    refine we_name 0 rfl ?_
    refine wa_cons ?_
    refine we_name 1 rfl ?_
    refine wa_nil ?_
    refine ⟨_, _, rfl, rfl, rfl, ?_⟩
    refine ⟨_, _, rfl, rfl, hi.1, by omega, hb, fun l hg => ?_⟩
    refine ⟨_, _, _, rfl, rfl, rfl, ?_⟩
    refine wa_nil ?_
    refine ⟨[.p 0], .lst l, (by simp [asOs, asO]), (by simp), rfl, ?_⟩
    refine ⟨_, _, rfl, rfl, hg, by omega, by omega, fun l9 ob9 => ?_⟩
    refine ⟨_, _, _, rfl, rfl, rfl, ?_⟩
    refine ⟨trivial, ?_⟩
    refine ⟨fun hi0t => ?_, fun hi0f => ?_⟩
    · exact (Bool.false_ne_true hi0t).elim
    · refine wss_nil ?_
      exact ⟨_, _, rfl, rfl⟩ -- next0
  · obtain ⟨more, x, rfl, rfl⟩ := hJ
    refine wss_cons ?_
    refine ws_set 2 ?_ ct.nd
    refine we_make false (mk_Lets1 T) ct (by decide) ?_
    refine wa_cons ?_
    refine we_lst false ?_
    refine wa_cons ?_
    refine we_int ?_
    refine wa_nil ?_
    refine ⟨[_], rfl, Nat.le_of_ble_eq_true rfl, ?_⟩
    refine wa_nil ?_
    refine ⟨[_], rfl, ?_⟩
    refine ⟨[1], rfl, rfl, by decide, by decide, fun more2 => ?_⟩
    refine ⟨rfl, [("_held", _), ("_start", _)], _, rfl, ?_⟩
    refine wss_cons ?_
    refine ws_if ?_
    refine wt_w ?_
    refine ww_or ?_
    refine wt_neI ct ?_
    refine we_callF (f_greatest_beginning T) ct (by decide) ?_
    refine wa_cons ?_
    refine we_name 2 rfl ?_
    refine wa_cons ?_
    refine we_lst false ?_
    refine wa_cons ?_
    refine we_int ?_
    refine wa_cons ?_
    refine we_int ?_
    refine wa_cons ?_
    refine we_int ?_
    refine wa_nil ?_
    refine ⟨[_, _, _], rfl, Nat.le_of_ble_eq_true rfl, ?_⟩
    refine wa_cons ?_
    refine we_lst false ?_
    refine wa_cons ?_
    refine we_int ?_
    refine wa_cons ?_
    refine we_int ?_
    refine wa_cons ?_
    refine we_int ?_
    refine wa_nil ?_
    refine ⟨[_, _, _], rfl, Nat.le_of_ble_eq_true rfl, ?_⟩
    refine wa_nil ?_
    refine ⟨[_, _, _], rfl, ?_⟩
    refine ⟨_, _, [2, 1, 0], [1, 3, 5], [1, 3], [0], [5], rfl, rfl, lets_1.ok, lets_1.ft, (by rw [lets_1.eq]; exact lets_1.gf), by decide, (by unfold NN; decide), by decide, (by unfold NN; decide), ex_1, fun k o hk => ?_⟩
    refine ⟨_, dtL_at hk, ?_⟩
    refine we_lst false ?_
    refine wa_cons ?_
    refine we_int ?_
    refine wa_cons ?_
    refine we_int ?_
    refine wa_nil ?_
    refine ⟨[_, _], rfl, Nat.le_of_ble_eq_true rfl, ?_⟩
    refine ⟨[1, 3], [1, 3], rfl, rfl, _, rfl, ?_⟩
    refine ⟨fun hh1 => ?_, fun hh1 => ?_⟩
    rotate_left 1
    · simp at hh1
    refine ww_or1 ?_
    refine wt_neL ct ?_
    refine we_callF (f_both_left T) ct (by decide) ?_
    refine wa_cons ?_
    refine we_name 2 rfl ?_
    refine wa_cons ?_
    refine we_lst false ?_
    refine wa_cons ?_
    refine we_int ?_
    refine wa_cons ?_
    refine we_int ?_
    refine wa_cons ?_
    refine we_int ?_
    refine wa_nil ?_
    refine ⟨[_, _, _], rfl, Nat.le_of_ble_eq_true rfl, ?_⟩
    refine wa_cons ?_
    refine we_lst false ?_
    refine wa_cons ?_
    refine we_int ?_
    refine wa_cons ?_
    refine we_int ?_
    refine wa_cons ?_
    refine we_int ?_
    refine wa_nil ?_
    refine ⟨[_, _, _], rfl, Nat.le_of_ble_eq_true rfl, ?_⟩
    refine wa_nil ?_
    refine ⟨[_, _, _], rfl, ?_⟩
    refine ⟨_, _, [2, 1, 0], [1, 3, 5], [1, 3], [0], [5], rfl, rfl, lets_1.ok, lets_1.ft, (by rw [lets_1.eq]; exact lets_1.gf), by decide, (by unfold NN; decide), by decide, (by unfold NN; decide), ex_1, fun k i j o hk hij hi hj => ?_⟩
    refine ⟨_, dtL_two hk hi hj, ?_⟩
    refine we_tup ?_
    refine wa_cons ?_
    refine we_lst false ?_
    refine wa_cons ?_
    refine we_int ?_
    refine wa_nil ?_
    refine ⟨[_], rfl, Nat.le_of_ble_eq_true rfl, ?_⟩
    refine wa_cons ?_
    refine we_lst false ?_
    refine wa_cons ?_
    refine we_int ?_
    refine wa_nil ?_
    refine ⟨[_], rfl, Nat.le_of_ble_eq_true rfl, ?_⟩
    refine wa_nil ?_
    refine ⟨[_, _], rfl, Nat.le_of_ble_eq_true rfl, ?_⟩
    refine ⟨_, _, rfl, rfl, (okD_pair [0] [5]) /- s1 -/, (okD_pair [0] [5]) /- s2 -/, _, rfl, ?_⟩
    refine ⟨fun hi1t => ?_, fun hi1f => ?_⟩
    · exact absurd hi1t (show ¬ (!eqD (.tup [encI [0], encI [5]]) (.tup [encI [0], encI [5]])) = true from by rw [eqD_pair]; decide)
    · refine wss_nil ?_
      refine wss_one ?_
      refine ws_ret ?_
      refine' we_andV ?_ (fun hh2 => ?_) ?_
      rotate_left 2
      · refine we_eqI ct ?_
        refine we_callF (f_greatest_beginning T) ct (by decide) ?_
        refine wa_cons ?_
        refine we_name 2 rfl ?_
        refine wa_cons ?_
        refine we_lst false ?_
        refine wa_cons ?_
        refine we_int ?_
        refine wa_nil ?_
        refine ⟨[_], rfl, Nat.le_of_ble_eq_true rfl, ?_⟩
        refine wa_cons ?_
        refine we_lst false ?_
        refine wa_cons ?_
        refine we_int ?_
        refine wa_nil ?_
        refine ⟨[_], rfl, Nat.le_of_ble_eq_true rfl, ?_⟩
        refine wa_nil ?_
        refine ⟨[_, _, _], rfl, ?_⟩
        refine ⟨_, _, [0], [1], [], [0], [1], rfl, rfl, lets_1.ok, lets_1.ft, (by rw [lets_1.eq]; exact lets_1.gf), by decide, (by unfold NN; decide), by decide, (by unfold NN; decide), ex_2, fun k o hk => ?_⟩
        refine ⟨_, dtL_at hk, ?_⟩
        refine we_lst false ?_
        refine wa_nil ?_
        refine ⟨[], rfl, Nat.le_of_ble_eq_true rfl, ?_⟩
        refine ⟨[], [], rfl, rfl, ?_⟩
        exact ⟨rfl, rfl⟩
      · refine' we_andV ?_ (fun hh3 => ?_) ?_
        rotate_left 2
        · refine we_eqL ct ?_
          refine we_callF (f_both_left T) ct (by decide) ?_
          refine wa_cons ?_
          refine we_name 2 rfl ?_
          refine wa_cons ?_
          refine we_lst false ?_
          refine wa_nil ?_
          refine ⟨[], rfl, Nat.le_of_ble_eq_true rfl, ?_⟩
          refine wa_cons ?_
          refine we_lst false ?_
          refine wa_nil ?_
          refine ⟨[], rfl, Nat.le_of_ble_eq_true rfl, ?_⟩
          refine wa_nil ?_
          refine ⟨[_, _, _], rfl, ?_⟩
          refine ⟨_, _, [], [], [], [], [], rfl, rfl, lets_1.ok, lets_1.ft, (by rw [lets_1.eq]; exact lets_1.gf), by decide, (by unfold NN; decide), by decide, (by unfold NN; decide), (gr_none _ _), fun k i j o hk hij hi hj => ?_⟩
          refine ⟨_, dtL_two hk hi hj, ?_⟩
          refine we_tup ?_
          refine wa_cons ?_
          refine we_lst false ?_
          refine wa_nil ?_
          refine ⟨[], rfl, Nat.le_of_ble_eq_true rfl, ?_⟩
          refine wa_cons ?_
          refine we_lst false ?_
          refine wa_nil ?_
          refine ⟨[], rfl, Nat.le_of_ble_eq_true rfl, ?_⟩
          refine wa_nil ?_
          refine ⟨[_, _], rfl, Nat.le_of_ble_eq_true rfl, ?_⟩
          refine ⟨_, _, rfl, rfl, (okD_pair [] []) /- s3 -/, (okD_pair [] []) /- s4 -/, ?_⟩
          exact ⟨rfl, rfl⟩
        · refine we_one ?_
          refine we_eqI ct ?_
          refine we_callF (f_greatest_beginning T) ct (by decide) ?_
          refine wa_cons ?_
          refine we_make false (mk_Lets1 T) ct (by decide) ?_
          refine wa_cons ?_
          refine we_lst false ?_
          refine wa_nil ?_
          refine ⟨[], rfl, Nat.le_of_ble_eq_true rfl, ?_⟩
          refine wa_nil ?_
          refine ⟨[_], rfl, ?_⟩
          refine ⟨[], rfl, rfl, by decide, by decide, fun more2 => ?_⟩
          refine ⟨rfl, [("_held", _), ("_start", _)], _, rfl, ?_⟩
          refine wa_cons ?_
          refine we_lst false ?_
          refine wa_cons ?_
          refine we_int ?_
          refine wa_cons ?_
          refine we_int ?_
          refine wa_nil ?_
          refine ⟨[_, _], rfl, Nat.le_of_ble_eq_true rfl, ?_⟩
          refine wa_cons ?_
          refine we_lst false ?_
          refine wa_cons ?_
          refine we_int ?_
          refine wa_cons ?_
          refine we_int ?_
          refine wa_nil ?_
          refine ⟨[_, _], rfl, Nat.le_of_ble_eq_true rfl, ?_⟩
          refine wa_nil ?_
          refine ⟨[_, _, _], rfl, ?_⟩
          refine ⟨_, _, [3, 1], [3, 2], [3], [1], [2], rfl, rfl, lets_0.ok, lets_0.ft, (by rw [lets_0.eq]; exact lets_0.gf), by decide, (by unfold NN; decide), by decide, (by unfold NN; decide), ex_3, fun k o hk => ?_⟩
          refine ⟨_, dtL_at hk, ?_⟩
          refine we_lst false ?_
          refine wa_cons ?_
          refine we_int ?_
          refine wa_nil ?_
          refine ⟨[_], rfl, Nat.le_of_ble_eq_true rfl, ?_⟩
          refine ⟨[3], [3], rfl, rfl, ?_⟩
          exact ⟨rfl, rfl⟩
        exact ⟨rfl, rfl⟩
      refine (show P (.d (.bl (decide (([] : List Int) = []) && (eqD (.tup [encI [], encI []]) (.tup [encI [], encI []]) && decide (([3] : List Int) = [3]))))) _ from ?_)
      rw [eqD_pair]
      exact hP _ -- ret0
end
def fd_is_whole : He.DefD := ⟨("is_whole", none), "is_whole", "is_whole", defArgs s_is_whole, defBody s_is_whole, defScope s_is_whole, [], []⟩
def fd_is_between : He.DefD := ⟨("is_between", none), "is_between", "is_between", defArgs s_is_between, defBody s_is_between, defScope s_is_between, [], []⟩
def fd_is_row_list : He.DefD := ⟨("is_row_list", none), "is_row_list", "is_row_list", defArgs s_is_row_list, defBody s_is_row_list, defScope s_is_row_list, [], []⟩
def fd_check_row : He.DefD := ⟨("check_row", none), "check_row", "check_row", defArgs s_check_row, defBody s_check_row, defScope s_check_row, [], []⟩
def fd_Lets___init__ : He.DefD := ⟨("Lets", some "__init__"), "__init__", "Lets.__init__", defArgs s_Lets___init__, defBody s_Lets___init__, defScope s_Lets___init__, [.non], []⟩
def fd_Lets__fill : He.DefD := ⟨("Lets", some "_fill"), "_fill", "Lets._fill", defArgs s_Lets__fill, defBody s_Lets__fill, defScope s_Lets__fill, [], []⟩
def fd_Lets_numbers : He.DefD := ⟨("Lets", some "numbers"), "numbers", "Lets.numbers", defArgs s_Lets_numbers, defBody s_Lets_numbers, defScope s_Lets_numbers, [], []⟩
def fd_Lets_start : He.DefD := ⟨("Lets", some "start"), "start", "Lets.start", defArgs s_Lets_start, defBody s_Lets_start, defScope s_Lets_start, [], []⟩
def fd_Lets___contains__ : He.DefD := ⟨("Lets", some "__contains__"), "__contains__", "Lets.__contains__", defArgs s_Lets___contains__, defBody s_Lets___contains__, defScope s_Lets___contains__, [], []⟩
def fd_Lets___eq__ : He.DefD := ⟨("Lets", some "__eq__"), "__eq__", "Lets.__eq__", defArgs s_Lets___eq__, defBody s_Lets___eq__, defScope s_Lets___eq__, [], []⟩
def fd_numbers_to : He.DefD := ⟨("numbers_to", none), "numbers_to", "numbers_to", defArgs s_numbers_to, defBody s_numbers_to, defScope s_numbers_to, [], []⟩
def fd_bound_of : He.DefD := ⟨("bound_of", none), "bound_of", "bound_of", defArgs s_bound_of, defBody s_bound_of, defScope s_bound_of, [], []⟩
def fd_fault_to : He.DefD := ⟨("fault_to", none), "fault_to", "fault_to", defArgs s_fault_to, defBody s_fault_to, defScope s_fault_to, [], []⟩
def fd_is_good : He.DefD := ⟨("is_good", none), "is_good", "is_good", defArgs s_is_good, defBody s_is_good, defScope s_is_good, [], []⟩
def fd_check_good : He.DefD := ⟨("check_good", none), "check_good", "check_good", defArgs s_check_good, defBody s_check_good, defScope s_check_good, [], []⟩
def fd_check_two : He.DefD := ⟨("check_two", none), "check_two", "check_two", defArgs s_check_two, defBody s_check_two, defScope s_check_two, [], []⟩
def fd_exchanged : He.DefD := ⟨("exchanged", none), "exchanged", "exchanged", defArgs s_exchanged, defBody s_exchanged, defScope s_exchanged, [], []⟩
def fd_journey : He.DefD := ⟨("journey", none), "journey", "journey", defArgs s_journey, defBody s_journey, defScope s_journey, [], []⟩
def fd_left_of : He.DefD := ⟨("left_of", none), "left_of", "left_of", defArgs s_left_of, defBody s_left_of, defScope s_left_of, [], []⟩
def fd_to_front : He.DefD := ⟨("to_front", none), "to_front", "to_front", defArgs s_to_front, defBody s_to_front, defScope s_to_front, [], []⟩
def fd_fronts_of : He.DefD := ⟨("fronts_of", none), "fronts_of", "fronts_of", defArgs s_fronts_of, defBody s_fronts_of, defScope s_fronts_of, [], []⟩
def fd_common_fronts : He.DefD := ⟨("common_fronts", none), "common_fronts", "common_fronts", defArgs s_common_fronts, defBody s_common_fronts, defScope s_common_fronts, [], []⟩
def fd_shared_beginning : He.DefD := ⟨("shared_beginning", none), "shared_beginning", "shared_beginning", defArgs s_shared_beginning, defBody s_shared_beginning, defScope s_shared_beginning, [], []⟩
def fd_greatest_beginning : He.DefD := ⟨("greatest_beginning", none), "greatest_beginning", "greatest_beginning", defArgs s_greatest_beginning, defBody s_greatest_beginning, defScope s_greatest_beginning, [], []⟩
def fd_both_left : He.DefD := ⟨("both_left", none), "both_left", "both_left", defArgs s_both_left, defBody s_both_left, defScope s_both_left, [], []⟩
def fd__law_hash : He.DefD := ⟨("_law_hash", none), "_law_hash", "_law_hash", defArgs s__law_hash, defBody s__law_hash, defScope s__law_hash, [], []⟩
def fd__law_random : He.DefD := ⟨("_law_random", none), "_law_random", "_law_random", defArgs s__law_random, defBody s__law_random, defScope s__law_random, [], []⟩
def fd__law_cell : He.DefD := ⟨("_law_cell", none), "_law_cell", "_law_cell", defArgs s__law_cell, defBody s__law_cell, defScope s__law_cell, [], []⟩
def fd__law_generator : He.DefD := ⟨("_law_generator", none), "_law_generator", "_law_generator", defArgs s__law_generator, defBody s__law_generator, defScope s__law_generator, [], []⟩
def fd__law_told_set : He.DefD := ⟨("_law_told_set", none), "_law_told_set", "_law_told_set", defArgs s__law_told_set, defBody s__law_told_set, defScope s__law_told_set, [], []⟩
def fd__law_in : He.DefD := ⟨("_law_in", none), "_law_in", "_law_in", defArgs s__law_in, defBody s__law_in, defScope s__law_in, [], []⟩
def fd__law_lets : He.DefD := ⟨("_law_lets", none), "_law_lets", "_law_lets", defArgs s__law_lets, defBody s__law_lets, defScope s__law_lets, [], []⟩
def fd__law_exchanged : He.DefD := ⟨("_law_exchanged", none), "_law_exchanged", "_law_exchanged", defArgs s__law_exchanged, defBody s__law_exchanged, defScope s__law_exchanged, [], []⟩
def fd__law_near : He.DefD := ⟨("_law_near", none), "_law_near", "_law_near", defArgs s__law_near, defBody s__law_near, defScope s__law_near, [], []⟩
def fd__law_class : He.DefD := ⟨("_law_class", none), "_law_class", "_law_class", defArgs s__law_class, defBody s__law_class, defScope s__law_class, [], []⟩
def fd__law_left : He.DefD := ⟨("_law_left", none), "_law_left", "_law_left", defArgs s__law_left, defBody s__law_left, defScope s__law_left, [], []⟩
def fd__law_divided : He.DefD := ⟨("_law_divided", none), "_law_divided", "_law_divided", defArgs s__law_divided, defBody s__law_divided, defScope s__law_divided, [], []⟩
def fd__law_stirred : He.DefD := ⟨("_law_stirred", none), "_law_stirred", "_law_stirred", defArgs s__law_stirred, defBody s__law_stirred, defScope s__law_stirred, [], []⟩
def fd__law_row : He.DefD := ⟨("_law_row", none), "_law_row", "_law_row", defArgs s__law_row, defBody s__law_row, defScope s__law_row, [], []⟩
def fd__law_fronts : He.DefD := ⟨("_law_fronts", none), "_law_fronts", "_law_fronts", defArgs s__law_fronts, defBody s__law_fronts, defScope s__law_fronts, [], []⟩
def fd__law_first : He.DefD := ⟨("_law_first", none), "_law_first", "_law_first", defArgs s__law_first, defBody s__law_first, defScope s__law_first, [], []⟩
def fd__law_heads : He.DefD := ⟨("_law_heads", none), "_law_heads", "_law_heads", defArgs s__law_heads, defBody s__law_heads, defScope s__law_heads, [], []⟩
def fd__law_told_right : He.DefD := ⟨("_law_told_right", none), "_law_told_right", "_law_told_right", defArgs s__law_told_right, defBody s__law_told_right, defScope s__law_told_right, [], []⟩
def fd__law_right : He.DefD := ⟨("_law_right", none), "_law_right", "_law_right", defArgs s__law_right, defBody s__law_right, defScope s__law_right, [], []⟩
def fd_law : He.DefD := ⟨("law", none), "law", "law", defArgs s_law, defBody s_law, defScope s_law, [], []⟩
def fn : List He.DefD := [fd_is_whole, fd_is_between, fd_is_row_list, fd_check_row, fd_Lets___init__, fd_Lets__fill, fd_Lets_numbers, fd_Lets_start, fd_Lets___contains__, fd_Lets___eq__, fd_numbers_to, fd_bound_of, fd_fault_to, fd_is_good, fd_check_good, fd_check_two, fd_exchanged, fd_journey, fd_left_of, fd_to_front, fd_fronts_of, fd_common_fronts, fd_shared_beginning, fd_greatest_beginning, fd_both_left, fd__law_hash, fd__law_random, fd__law_cell, fd__law_generator, fd__law_told_set, fd__law_in, fd__law_lets, fd__law_exchanged, fd__law_near, fd__law_class, fd__law_left, fd__law_divided, fd__law_stirred, fd__law_row, fd__law_fronts, fd__law_first, fd__law_heads, fd__law_told_right, fd__law_right, fd_law]
def fa : List He.Fa := [.free "bool", .free "enumerate", .free "int", .free "isinstance", .free "len", .free "list", .free "max", .free "range", .free "repr", .free "reversed", .free "sorted", .free "sum", .free "tuple", .int "MOST_COUNT" 1000, .int "MOST_LENGTH" 200, .int "MOST_NUMBERS" 200, .glo "Lets", .cls "Lets", .noat "Lets" "_held", .noat "Lets" "_start", .glo "is_whole", .glo "is_between", .glo "is_row_list", .glo "check_row", .mkr "Lets", .meth "Lets" "_fill", .meth "Lets" "numbers", .meth "Lets" "start", .meth "Lets" "__contains__", .meth "Lets" "__eq__", .glo "numbers_to", .glo "bound_of", .glo "fault_to", .glo "is_good", .glo "check_good", .glo "check_two", .glo "exchanged", .glo "journey", .glo "left_of", .glo "to_front", .glo "fronts_of", .glo "common_fronts", .glo "shared_beginning", .glo "greatest_beginning", .glo "both_left", .glo "_law_hash", .glo "_law_random", .glo "_law_cell", .glo "_law_generator", .glo "_law_told_set", .glo "_law_in", .glo "_law_lets", .glo "_law_exchanged", .glo "_law_near", .glo "_law_class", .glo "_law_left", .glo "_law_divided", .glo "_law_stirred", .glo "_law_row", .glo "_law_fronts", .glo "_law_first", .glo "_law_heads", .glo "_law_told_right", .glo "_law_right", .glo "law"]
def fx : List (PySem.W.Frag → Bool) := [insB "Lets"]
theorem tx_of {K : PySem.W.Frag} {h : Heap} {mg : Str → Option Value} (X : K.In h) (G : h.Ns mainGlobals mg) (c : He.SaysD fa fn K) (cx : (fx.all fun f => f K) = true) : Tx K mg :=
  ⟨He.free_ok X G (c.fact 0 (f := .free "bool") rfl),
   He.free_ok X G (c.fact 1 (f := .free "enumerate") rfl),
   He.free_ok X G (c.fact 2 (f := .free "int") rfl),
   He.free_ok X G (c.fact 3 (f := .free "isinstance") rfl),
   He.free_ok X G (c.fact 4 (f := .free "len") rfl),
   He.free_ok X G (c.fact 5 (f := .free "list") rfl),
   He.free_ok X G (c.fact 6 (f := .free "max") rfl),
   He.free_ok X G (c.fact 7 (f := .free "range") rfl),
   He.free_ok X G (c.fact 8 (f := .free "repr") rfl),
   He.free_ok X G (c.fact 9 (f := .free "reversed") rfl),
   He.free_ok X G (c.fact 10 (f := .free "sorted") rfl),
   He.free_ok X G (c.fact 11 (f := .free "sum") rfl),
   He.free_ok X G (c.fact 12 (f := .free "tuple") rfl),
   He.int_ok X G (c.fact 13 (f := .int "MOST_COUNT" 1000) rfl),
   He.int_ok X G (c.fact 14 (f := .int "MOST_LENGTH" 200) rfl),
   He.int_ok X G (c.fact 15 (f := .int "MOST_NUMBERS" 200) rfl),
   He.glo_ok X G (c.fact 16 (f := .glo "Lets") rfl),
   He.cls_ok (c.fact 17 (f := .cls "Lets") rfl),
   insB_ok (fx_at cx 0 (f := insB "Lets") rfl),
   He.noat_ok (c.fact 18 (f := .noat "Lets" "_held") rfl),
   He.noat_ok (c.fact 19 (f := .noat "Lets" "_start") rfl),
   (let ⟨fd, F⟩ := c.def_ 0 (d := fd_is_whole) rfl; ⟨_, fd, He.glo_ok X G (c.fact 20 (f := .glo "is_whole") rfl), toFun F⟩),
   (let ⟨fd, F⟩ := c.def_ 1 (d := fd_is_between) rfl; ⟨_, fd, He.glo_ok X G (c.fact 21 (f := .glo "is_between") rfl), toFun F⟩),
   (let ⟨fd, F⟩ := c.def_ 2 (d := fd_is_row_list) rfl; ⟨_, fd, He.glo_ok X G (c.fact 22 (f := .glo "is_row_list") rfl), toFun F⟩),
   (let ⟨fd, F⟩ := c.def_ 3 (d := fd_check_row) rfl; ⟨_, fd, He.glo_ok X G (c.fact 23 (f := .glo "check_row") rfl), toFun F⟩),
   (let ⟨fd, F⟩ := c.def_ 4 (d := fd_Lets___init__) rfl; ⟨_, fd, He.glo_ok X G (c.fact 16 (f := .glo "Lets") rfl), He.mkr_ok (c.fact 24 (f := .mkr "Lets") rfl), F⟩),
   (let ⟨fd, F⟩ := c.def_ 5 (d := fd_Lets__fill) rfl; ⟨_, fd, He.meth_ok (c.fact 25 (f := .meth "Lets" "_fill") rfl), F⟩),
   (let ⟨fd, F⟩ := c.def_ 6 (d := fd_Lets_numbers) rfl; ⟨_, fd, He.meth_ok (c.fact 26 (f := .meth "Lets" "numbers") rfl), F⟩),
   (let ⟨fd, F⟩ := c.def_ 7 (d := fd_Lets_start) rfl; ⟨_, fd, He.meth_ok (c.fact 27 (f := .meth "Lets" "start") rfl), F⟩),
   (let ⟨fd, F⟩ := c.def_ 8 (d := fd_Lets___contains__) rfl; ⟨_, fd, He.meth_ok (c.fact 28 (f := .meth "Lets" "__contains__") rfl), F⟩),
   (let ⟨fd, F⟩ := c.def_ 9 (d := fd_Lets___eq__) rfl; ⟨_, fd, He.meth_ok (c.fact 29 (f := .meth "Lets" "__eq__") rfl), F⟩),
   (let ⟨fd, F⟩ := c.def_ 10 (d := fd_numbers_to) rfl; ⟨_, fd, He.glo_ok X G (c.fact 30 (f := .glo "numbers_to") rfl), toFun F⟩),
   (let ⟨fd, F⟩ := c.def_ 11 (d := fd_bound_of) rfl; ⟨_, fd, He.glo_ok X G (c.fact 31 (f := .glo "bound_of") rfl), toFun F⟩),
   (let ⟨fd, F⟩ := c.def_ 12 (d := fd_fault_to) rfl; ⟨_, fd, He.glo_ok X G (c.fact 32 (f := .glo "fault_to") rfl), toFun F⟩),
   (let ⟨fd, F⟩ := c.def_ 13 (d := fd_is_good) rfl; ⟨_, fd, He.glo_ok X G (c.fact 33 (f := .glo "is_good") rfl), toFun F⟩),
   (let ⟨fd, F⟩ := c.def_ 14 (d := fd_check_good) rfl; ⟨_, fd, He.glo_ok X G (c.fact 34 (f := .glo "check_good") rfl), toFun F⟩),
   (let ⟨fd, F⟩ := c.def_ 15 (d := fd_check_two) rfl; ⟨_, fd, He.glo_ok X G (c.fact 35 (f := .glo "check_two") rfl), toFun F⟩),
   (let ⟨fd, F⟩ := c.def_ 16 (d := fd_exchanged) rfl; ⟨_, fd, He.glo_ok X G (c.fact 36 (f := .glo "exchanged") rfl), toFun F⟩),
   (let ⟨fd, F⟩ := c.def_ 17 (d := fd_journey) rfl; ⟨_, fd, He.glo_ok X G (c.fact 37 (f := .glo "journey") rfl), toFun F⟩),
   (let ⟨fd, F⟩ := c.def_ 18 (d := fd_left_of) rfl; ⟨_, fd, He.glo_ok X G (c.fact 38 (f := .glo "left_of") rfl), toFun F⟩),
   (let ⟨fd, F⟩ := c.def_ 19 (d := fd_to_front) rfl; ⟨_, fd, He.glo_ok X G (c.fact 39 (f := .glo "to_front") rfl), toFun F⟩),
   (let ⟨fd, F⟩ := c.def_ 20 (d := fd_fronts_of) rfl; ⟨_, fd, He.glo_ok X G (c.fact 40 (f := .glo "fronts_of") rfl), toFun F⟩),
   (let ⟨fd, F⟩ := c.def_ 21 (d := fd_common_fronts) rfl; ⟨_, fd, He.glo_ok X G (c.fact 41 (f := .glo "common_fronts") rfl), toFun F⟩),
   (let ⟨fd, F⟩ := c.def_ 22 (d := fd_shared_beginning) rfl; ⟨_, fd, He.glo_ok X G (c.fact 42 (f := .glo "shared_beginning") rfl), toFun F⟩),
   (let ⟨fd, F⟩ := c.def_ 23 (d := fd_greatest_beginning) rfl; ⟨_, fd, He.glo_ok X G (c.fact 43 (f := .glo "greatest_beginning") rfl), toFun F⟩),
   (let ⟨fd, F⟩ := c.def_ 24 (d := fd_both_left) rfl; ⟨_, fd, He.glo_ok X G (c.fact 44 (f := .glo "both_left") rfl), toFun F⟩),
   (let ⟨fd, F⟩ := c.def_ 25 (d := fd__law_hash) rfl; ⟨_, fd, He.glo_ok X G (c.fact 45 (f := .glo "_law_hash") rfl), toFun F⟩),
   (let ⟨fd, F⟩ := c.def_ 26 (d := fd__law_random) rfl; ⟨_, fd, He.glo_ok X G (c.fact 46 (f := .glo "_law_random") rfl), toFun F⟩),
   (let ⟨fd, F⟩ := c.def_ 27 (d := fd__law_cell) rfl; ⟨_, fd, He.glo_ok X G (c.fact 47 (f := .glo "_law_cell") rfl), toFun F⟩),
   (let ⟨fd, F⟩ := c.def_ 28 (d := fd__law_generator) rfl; ⟨_, fd, He.glo_ok X G (c.fact 48 (f := .glo "_law_generator") rfl), toFun F⟩),
   (let ⟨fd, F⟩ := c.def_ 29 (d := fd__law_told_set) rfl; ⟨_, fd, He.glo_ok X G (c.fact 49 (f := .glo "_law_told_set") rfl), toFun F⟩),
   (let ⟨fd, F⟩ := c.def_ 30 (d := fd__law_in) rfl; ⟨_, fd, He.glo_ok X G (c.fact 50 (f := .glo "_law_in") rfl), toFun F⟩),
   (let ⟨fd, F⟩ := c.def_ 31 (d := fd__law_lets) rfl; ⟨_, fd, He.glo_ok X G (c.fact 51 (f := .glo "_law_lets") rfl), toFun F⟩),
   (let ⟨fd, F⟩ := c.def_ 32 (d := fd__law_exchanged) rfl; ⟨_, fd, He.glo_ok X G (c.fact 52 (f := .glo "_law_exchanged") rfl), toFun F⟩),
   (let ⟨fd, F⟩ := c.def_ 33 (d := fd__law_near) rfl; ⟨_, fd, He.glo_ok X G (c.fact 53 (f := .glo "_law_near") rfl), toFun F⟩),
   (let ⟨fd, F⟩ := c.def_ 34 (d := fd__law_class) rfl; ⟨_, fd, He.glo_ok X G (c.fact 54 (f := .glo "_law_class") rfl), toFun F⟩),
   (let ⟨fd, F⟩ := c.def_ 35 (d := fd__law_left) rfl; ⟨_, fd, He.glo_ok X G (c.fact 55 (f := .glo "_law_left") rfl), toFun F⟩),
   (let ⟨fd, F⟩ := c.def_ 36 (d := fd__law_divided) rfl; ⟨_, fd, He.glo_ok X G (c.fact 56 (f := .glo "_law_divided") rfl), toFun F⟩),
   (let ⟨fd, F⟩ := c.def_ 37 (d := fd__law_stirred) rfl; ⟨_, fd, He.glo_ok X G (c.fact 57 (f := .glo "_law_stirred") rfl), toFun F⟩),
   (let ⟨fd, F⟩ := c.def_ 38 (d := fd__law_row) rfl; ⟨_, fd, He.glo_ok X G (c.fact 58 (f := .glo "_law_row") rfl), toFun F⟩),
   (let ⟨fd, F⟩ := c.def_ 39 (d := fd__law_fronts) rfl; ⟨_, fd, He.glo_ok X G (c.fact 59 (f := .glo "_law_fronts") rfl), toFun F⟩),
   (let ⟨fd, F⟩ := c.def_ 40 (d := fd__law_first) rfl; ⟨_, fd, He.glo_ok X G (c.fact 60 (f := .glo "_law_first") rfl), toFun F⟩),
   (let ⟨fd, F⟩ := c.def_ 41 (d := fd__law_heads) rfl; ⟨_, fd, He.glo_ok X G (c.fact 61 (f := .glo "_law_heads") rfl), toFun F⟩),
   (let ⟨fd, F⟩ := c.def_ 42 (d := fd__law_told_right) rfl; ⟨_, fd, He.glo_ok X G (c.fact 62 (f := .glo "_law_told_right") rfl), toFun F⟩),
   (let ⟨fd, F⟩ := c.def_ 43 (d := fd__law_right) rfl; ⟨_, fd, He.glo_ok X G (c.fact 63 (f := .glo "_law_right") rfl), toFun F⟩),
   (let ⟨fd, F⟩ := c.def_ 44 (d := fd_law) rfl; ⟨_, fd, He.glo_ok X G (c.fact 64 (f := .glo "law") rfl), toFun F⟩)⟩
def loose0 : List Str := ["GapError", "InvalidNumber", "InvalidRow", "InvalidLets", "InvalidList", "MOST_LENGTH", "is_whole", "is_between", "is_row_list", "check_row", "MOST_NUMBERS", "MOST_COUNT", "Lets", "numbers_to", "bound_of", "fault_to", "is_good", "check_good", "check_two", "exchanged", "journey", "left_of", "to_front", "fronts_of", "common_fronts", "shared_beginning", "greatest_beginning", "both_left", "_law_hash", "_law_random"]
def loose1 : List Str := ["_law_cell", "_law_generator", "_law_told_set", "_law_in", "_law_lets", "_law_exchanged", "_law_near", "_law_class", "_law_left", "_law_divided", "_law_stirred", "_law_row", "_law_fronts", "_law_first", "_law_heads", "_law_told_right", "_law_right"]
def loose : List Str := loose0 ++ loose1
abbrev Rw : PySem.W.OpenRow := PySem.W.OpenLaw.row PySem.Challenge.rw_voicerows_k65_whole_greatest_beginnings
abbrev hk : PySem.W.Hook := hookL 6 fa fx fn
def ob (s : PySem.W.SharedT) : AlX := obsL 6 fa fx fn (HandSHeadRun.getT s)
theorem ob_eq (s : PySem.W.SharedT) : ob s = hk.obs s.abs := obsL_eq (HandSHeadRun.getT_eq s)
theorem run (w : World) : HandSHeadRun.RunEq Rw (PySem.W.view Rw.prog [55]) hk ob 8000 loose w := by
  intro os
  kernel_rfl
/- law_end -/
end K65
open PySem PySem.W PySem.Calls PyProof.Rows
set_option maxHeartbeats 0 in
theorem PySem.Challenge.cw_voicerows_k65_whole_greatest_beginnings_holds : PySem.Challenge.rw_voicerows_k65_whole_greatest_beginnings.Holds := by
  w_on; o_law
  refine HandSHeadRun.head_any (r := OpenLaw.row PySem.Challenge.rw_voicerows_k65_whole_greatest_beginnings) (q := view (OpenLaw.row PySem.Challenge.rw_voicerows_k65_whole_greatest_beginnings).prog [55]) (H := K65.hk) (ob := K65.ob) (M := 8000) (loose := K65.loose) (d := HandSHeadRun.topDef (OpenLaw.row PySem.Challenge.rw_voicerows_k65_whole_greatest_beginnings).prog 55) (kwd := []) K65.ob_eq
    (by kernel_rfl) (fun s => by kernel_rfl) K65.run (by kernel_rfl) (by kernel_rfl) (by kernel_rfl) (by rfl) (by first | assumption | decide +kernel) (by decide +kernel) ⟨rfl, rfl, rfl, rfl, rfl, by decide +kernel⟩ ?hw ?hc
  case hw => w_witness2
  case hc =>
    refine DL.walk_ofLG (l := PySem.Challenge.rw_voicerows_k65_whole_greatest_beginnings) (k := 10) (x := "script") rfl (by kernel_rfl) ⟨rfl, by decide, by decide⟩ ?F
    intro w mg fo h K KX c cx G hmg0
    have hmg : mg ("law" : PySem.Str) = some (.ref fo) := by
      have e : (HandSHeadRun.topDef (OpenLaw.row PySem.Challenge.rw_voicerows_k65_whole_greatest_beginnings).prog 55).name = ("law" : PySem.Str) := by kernel_rfl
      rw [← e]
      exact hmg0
    have T := K65.tx_of KX G c cx
    obtain ⟨fd, hb, hF⟩ := DL.law_fnG (P := (PySem.Challenge.rw_voicerows_k65_whole_greatest_beginnings).prog) (w := w) T.d_law (fun _ _ _ _ _ _ us hl => match us, hl with | [_], _ => rfl) (fun base => K65.f_law T) hmg
    exact ⟨fd, hb, fun base _ _ => hF base⟩
