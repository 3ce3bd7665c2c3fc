import PyProof.Rows.All
import Wide.All
import OpenK.AllK
import Wide.FinOn
import HandS.ForMost
import HandS.Deep
import KE.SortData
import HandS.TupAny
import HandS.TupMul
import HandS.IsInst
import HandS.Style
import KE.OsSorts
import HandS.Iter
import HandS.Comp
import HandS.Small
import HandS.SetFor
import HandS.Strs
import HandS.Defaults
import HandS.Words
import HandS.Head0
import HandS.Head1
import HandS.Head2
import HandS.HeadEnd
import HandS.HeadHook1
import HandS.HeadHook2
import HandS.HeadHook4
import HandS.Exc
import HandS.ExcOwn
import HandS.ExcIs
import HandS.WordsExc
import HandS.Ends
import HandS.More
import HandS.HeadWalk
import PySem.Challenge.RW_everyknower_k79_rounds_with_losses_told
import PyProof.P3Eq
section
set_option Elab.async false
set_option linter.all false
set_option maxRecDepth 100000
namespace Pz
open PySem PySem.Spec PyProof.Rows L2

/-! ### heaps: parts that are hidden -/
def Sub (A B : Hp) : Prop := ∀ a o, A a = some o → B a = some o
theorem Sub.refl {A : Hp} : Sub A A := fun _ _ h => h
theorem Sub.trans {A B C : Hp} (h : Sub A B) (g : Sub B C) : Sub A C := fun a o e => g a o (h a o e)
open Classical in
noncomputable def hide (H : Hp) (O : Addr → Prop) : Hp := fun a => if O a then none else H a
theorem hide_of {H : Hp} {O : Addr → Prop} {a : Addr} {o : HO} (n : ¬ O a) (h : H a = some o) : hide H O a = some o := by
  unfold hide; rw [if_neg n]; exact h
theorem of_hide {H : Hp} {O : Addr → Prop} {a : Addr} {o : HO} (h : hide H O a = some o) : ¬ O a ∧ H a = some o := by
  unfold hide at h
  by_cases c : O a
  · rw [if_pos c] at h; cases h
  · rw [if_neg c] at h; exact ⟨c, h⟩
theorem hide_sub {H : Hp} {O : Addr → Prop} : Sub (hide H O) H := fun _ _ h => (of_hide h).2
theorem hide_mono {H H' : Hp} {O O' : Addr → Prop} (h : ∀ a o, ¬ O a → H a = some o → H' a = some o) (g : ∀ a o, ¬ O a → H a = some o → O' a → False) : Sub (hide H O) (hide H' O') := fun a o e => by
  obtain ⟨n, e⟩ := of_hide e
  exact hide_of (fun z => g a o n e z) (h a o n e)

/-! ### data that stand in the heap -/
def KeyIs : PyData → Key → Prop
  | .int i, k => k = .inl i
  | .str s, k => k = .inr s
  | _, _ => False
/-- a range object, told as data: no dict of the program's has such keys -/
def rngOf : List (PyData × PyData) → Option (Int × Int)
  | [(.none, .int lo), (.none, .int hi)] => some (lo, hi)
  | _ => none
/-! the script: a list of ints that nobody may change, told as data -/
def intsK : List (PyData × PyData) → Option (List Int)
  | [] => some []
  | (.none, .int n) :: r => (intsK r).map (n :: ·)
  | _ => none
def frzOf : List (PyData × PyData) → Option (List Int)
  | (.none, .none) :: r => intsK r
  | _ => none
def frzD (ns : List Int) : PyData := .dict ((.none, .none) :: ns.map fun n => (.none, .int n))
theorem intsK_map : ∀ ns : List Int, intsK (ns.map fun n => (PyData.none, PyData.int n)) = some ns
  | [] => rfl
  | n :: ns => by simp only [List.map_cons, intsK, intsK_map ns, Option.map_some]
theorem frzOf_frz (ns : List Int) : frzOf ((.none, .none) :: ns.map fun n => (.none, .int n)) = some ns := intsK_map ns
mutual
def Rep (K : PySem.W.Frag) (H : Hp) : PyData → V → Prop
  | .none, v => v = .non
  | .bool b, v => v = .bl b
  | .int i, v => v = .int i
  | .str s, v => v = .str s
  | .list ds, v => ∃ a xs, v = .ref a ∧ H a = some (.lst xs) ∧ Reps K H ds xs
  | .tuple ds, v => ∃ a xs, v = .ref a ∧ SqT K H a xs ∧ Reps K H ds xs
  | .dict kvs, v => match rngOf kvs with
    | some p => ∃ a, v = .ref a ∧ H a = some (.rng p.1 p.2)
    | none => match frzOf kvs with
      | some ns => ∃ a, v = .ref a ∧ SqL K H a (ns.map V.int)
      | none => ∃ a ps, v = .ref a ∧ H a = some (.dK ps) ∧ RepKs K H kvs ps
def Reps (K : PySem.W.Frag) (H : Hp) : List PyData → List V → Prop
  | [], xs => xs = []
  | d :: ds, xs => ∃ x r, xs = x :: r ∧ Rep K H d x ∧ Reps K H ds r
def RepKs (K : PySem.W.Frag) (H : Hp) : List (PyData × PyData) → List (Key × V) → Prop
  | [], ps => ps = []
  | (k, d) :: r, ps => ∃ kk x r', ps = (kk, x) :: r' ∧ KeyIs k kk ∧ Rep K H d x ∧ RepKs K H r r'
end

theorem Rd.mono {H H' : Hp} (h : Sub H H') {a : Addr} {u : HO} (r : Rd H a u) : Rd H' a u := by
  rcases r with r | ⟨o, r⟩
  · exact .inl (h _ _ r)
  · exact .inr ⟨o, h _ _ r⟩
theorem SqL.mono {K : PySem.W.Frag} {H H' : Hp} (h : Sub H H') {a : Addr} {xs : List V} (r : SqL K H a xs) : SqL K H' a xs := by
  rcases r with r | r
  · exact .inl (Rd.mono h r)
  · exact .inr r
theorem SqT.mono {K : PySem.W.Frag} {H H' : Hp} (h : Sub H H') {a : Addr} {xs : List V} (r : SqT K H a xs) : SqT K H' a xs := by
  rcases r with r | r
  · exact .inl (Rd.mono h r)
  · exact .inr r
mutual
theorem Rep.mono {K : PySem.W.Frag} {H H' : Hp} (h : Sub H H') : ∀ (d : PyData) (v : V), Rep K H d v → Rep K H' d v
  | .none, v, r => by simpa only [Rep] using r
  | .bool b, v, r => by simpa only [Rep] using r
  | .int i, v, r => by simpa only [Rep] using r
  | .str s, v, r => by simpa only [Rep] using r
  | .list ds, v, r => by
    simp only [Rep] at r ⊢
    obtain ⟨a, xs, e, q, t⟩ := r
    exact ⟨a, xs, e, h _ _ q, Reps.mono h ds xs t⟩
  | .tuple ds, v, r => by
    simp only [Rep] at r ⊢
    obtain ⟨a, xs, e, q, t⟩ := r
    exact ⟨a, xs, e, SqT.mono h q, Reps.mono h ds xs t⟩
  | .dict ds, v, r => by
    simp only [Rep] at r ⊢
    cases q : rngOf ds with
    | some p =>
      rw [q] at r
      obtain ⟨a, e, q⟩ := r
      exact ⟨a, e, h _ _ q⟩
    | none =>
      rw [q] at r
      cases q2 : frzOf ds with
      | some p =>
        simp only [q2] at r ⊢
        obtain ⟨a, e, q⟩ := r
        exact ⟨a, e, SqL.mono h q⟩
      | none =>
        simp only [q2] at r ⊢
        obtain ⟨a, xs, e, q, t⟩ := r
        exact ⟨a, xs, e, h _ _ q, RepKs.mono h ds xs t⟩
theorem Reps.mono {K : PySem.W.Frag} {H H' : Hp} (h : Sub H H') : ∀ (ds : List PyData) (xs : List V), Reps K H ds xs → Reps K H' ds xs
  | [], xs, r => by simpa only [Reps] using r
  | d :: ds, xs, r => by
    simp only [Reps] at r ⊢
    obtain ⟨x, y, e, p, q⟩ := r
    exact ⟨x, y, e, Rep.mono h d x p, Reps.mono h ds y q⟩
theorem RepKs.mono {K : PySem.W.Frag} {H H' : Hp} (h : Sub H H') : ∀ (ds : List (PyData × PyData)) (xs : List (Key × V)), RepKs K H ds xs → RepKs K H' ds xs
  | [], xs, r => by simpa only [RepKs] using r
  | (k, d) :: ds, xs, r => by
    simp only [RepKs] at r ⊢
    obtain ⟨kk, x, y, e, c, p, q⟩ := r
    exact ⟨kk, x, y, e, c, Rep.mono h d x p, RepKs.mono h ds y q⟩
end
theorem RepKs.rng {K : PySem.W.Frag} {H : Hp} : ∀ {ds : List (PyData × PyData)} {xs : List (Key × V)}, RepKs K H ds xs → rngOf ds = none
  | [], _, _ => rfl
  | (k, d) :: ds, xs, r => by
    simp only [RepKs] at r
    obtain ⟨kk, x, y, e, c, p, q⟩ := r
    cases k <;> first | exact c.elim | rfl
theorem RepKs.frz {K : PySem.W.Frag} {H : Hp} : ∀ {ds : List (PyData × PyData)} {xs : List (Key × V)}, RepKs K H ds xs → frzOf ds = none
  | [], _, _ => rfl
  | (k, d) :: ds, xs, r => by
    simp only [RepKs] at r
    obtain ⟨kk, x, y, e, c, p, q⟩ := r
    cases k <;> first | exact c.elim | rfl
theorem Reps.length {K : PySem.W.Frag} {H : Hp} : ∀ {ds : List PyData} {xs : List V}, Reps K H ds xs → xs.length = ds.length
  | [], xs, r => by simp only [Reps] at r; subst r; rfl
  | d :: ds, xs, r => by
    simp only [Reps] at r
    obtain ⟨x, y, rfl, p, q⟩ := r
    simp [Reps.length q]
theorem Reps.get {K : PySem.W.Frag} {H : Hp} : ∀ {ds : List PyData} {xs : List V} {i : Nat} {d : PyData}, Reps K H ds xs → ds[i]? = some d → ∃ x, xs[i]? = some x ∧ Rep K H d x
  | [], xs, i, d, r, e => by simp at e
  | d :: ds, xs, 0, d', r, e => by
    simp only [Reps] at r
    obtain ⟨x, y, rfl, p, q⟩ := r
    simp at e; subst e
    exact ⟨x, rfl, p⟩
  | d :: ds, xs, i + 1, d', r, e => by
    simp only [Reps] at r
    obtain ⟨x, y, rfl, p, q⟩ := r
    obtain ⟨z, h1, h2⟩ := Reps.get (i := i) q (by simpa using e)
    exact ⟨z, by simpa using h1, h2⟩
theorem Reps.append {K : PySem.W.Frag} {H : Hp} : ∀ {ds es : List PyData} {xs ys : List V}, Reps K H ds xs → Reps K H es ys → Reps K H (ds ++ es) (xs ++ ys)
  | [], es, xs, ys, r, s => by simp only [Reps] at r; subst r; exact s
  | d :: ds, es, xs, ys, r, s => by
    simp only [Reps] at r
    obtain ⟨x, y, rfl, p, q⟩ := r
    show Reps K H (d :: (ds ++ es)) _
    simp only [Reps]
    exact ⟨x, y ++ ys, rfl, p, Reps.append q s⟩
theorem Reps.one {K : PySem.W.Frag} {H : Hp} {d : PyData} {x : V} (r : Rep K H d x) : Reps K H [d] [x] := by
  simp only [Reps]
  exact ⟨x, [], rfl, r, rfl⟩
theorem Reps.nil {K : PySem.W.Frag} {H : Hp} : Reps K H [] [] := by simp only [Reps]
theorem Reps.cons {K : PySem.W.Frag} {H : Hp} {d : PyData} {ds : List PyData} {x : V} {xs : List V} (r : Rep K H d x) (s : Reps K H ds xs) : Reps K H (d :: ds) (x :: xs) := by
  simp only [Reps]
  exact ⟨x, xs, rfl, r, s⟩
theorem Reps.take {K : PySem.W.Frag} {H : Hp} : ∀ {ds : List PyData} {xs : List V} (n : Nat), Reps K H ds xs → Reps K H (ds.take n) (xs.take n)
  | _, _, 0, _ => by simp only [List.take_zero, Reps]
  | [], xs, n + 1, r => by simp only [Reps] at r; subst r; simp only [List.take_nil, Reps]
  | d :: ds, xs, n + 1, r => by
    simp only [Reps] at r
    obtain ⟨x, y, rfl, p, q⟩ := r
    exact Reps.cons p (Reps.take n q)
theorem Reps.drop {K : PySem.W.Frag} {H : Hp} : ∀ {ds : List PyData} {xs : List V} (n : Nat), Reps K H ds xs → Reps K H (ds.drop n) (xs.drop n)
  | _, _, 0, r => r
  | [], xs, n + 1, r => by simp only [Reps] at r; subst r; simp only [List.drop_nil, Reps]
  | d :: ds, xs, n + 1, r => by
    simp only [Reps] at r
    obtain ⟨x, y, rfl, p, q⟩ := r
    exact Reps.drop n q
theorem Reps.reverse {K : PySem.W.Frag} {H : Hp} : ∀ {ds : List PyData} {xs : List V}, Reps K H ds xs → Reps K H ds.reverse xs.reverse
  | [], xs, r => by simp only [Reps] at r; subst r; simp only [List.reverse_nil, Reps]
  | d :: ds, xs, r => by
    simp only [Reps] at r
    obtain ⟨x, y, rfl, p, q⟩ := r
    simp only [List.reverse_cons]
    exact Reps.append (Reps.reverse q) (Reps.one p)
theorem Reps.set {K : PySem.W.Frag} {H : Hp} {d : PyData} {x : V} (r : Rep K H d x) : ∀ {ds : List PyData} {xs : List V} (n : Nat), Reps K H ds xs → Reps K H (ds.set n d) (xs.set n x)
  | [], xs, n, q => by simp only [Reps] at q; subst q; simp only [List.set_nil, Reps]
  | e :: ds, xs, 0, q => by
    simp only [Reps] at q
    obtain ⟨y, z, rfl, p, q⟩ := q
    exact Reps.cons r q
  | e :: ds, xs, n + 1, q => by
    simp only [Reps] at q
    obtain ⟨y, z, rfl, p, q⟩ := q
    exact Reps.cons p (Reps.set r n q)
theorem Reps.ints {K : PySem.W.Frag} {H : Hp} : ∀ {ns : List Int} {xs : List V}, Reps K H (ns.map .int) xs → xs = ns.map V.int
  | [], xs, r => by simpa only [List.map_nil, Reps] using r
  | n :: ns, xs, r => by
    simp only [List.map_cons, Reps, Rep] at r
    obtain ⟨x, y, rfl, rfl, q⟩ := r
    rw [Reps.ints q]; rfl
theorem Reps.of_ints {K : PySem.W.Frag} {H : Hp} : ∀ {ns : List Int}, Reps K H (ns.map .int) (ns.map V.int)
  | [] => by simp only [List.map_nil, Reps]
  | n :: ns => Reps.cons (by simp only [Rep]) Reps.of_ints
theorem Reps.bools {K : PySem.W.Frag} {H : Hp} : ∀ {ns : List Bool} {xs : List V}, Reps K H (ns.map .bool) xs → xs = ns.map V.bl
  | [], xs, r => by simpa only [List.map_nil, Reps] using r
  | n :: ns, xs, r => by
    simp only [List.map_cons, Reps, Rep] at r
    obtain ⟨x, y, rfl, rfl, q⟩ := r
    rw [Reps.bools q]; rfl

/-! to the library's reading of data (no dicts) -/
mutual
def noDict : PyData → Bool
  | .list ds => noDicts ds
  | .tuple ds => noDicts ds
  | .dict _ => false
  | _ => true
def noDicts : List PyData → Bool
  | [] => true
  | d :: ds => noDict d && noDicts ds
end
mutual
theorem Rep.dp {K : PySem.W.Frag} {H : Hp} : ∀ (d : PyData) (v : V), noDict d = true → Rep K H d v → Dp K H v d
  | .none, v, _, r => by simp only [Rep] at r; subst r; exact .non
  | .bool b, v, _, r => by simp only [Rep] at r; subst r; exact .bl b
  | .int i, v, _, r => by simp only [Rep] at r; subst r; exact .int i
  | .str s, v, _, r => by simp only [Rep] at r; subst r; exact .str s
  | .list ds, v, n, r => by
    simp only [Rep] at r
    obtain ⟨a, xs, rfl, q, t⟩ := r
    exact .lst (SqL.of q) (Reps.dp ds xs (by simpa only [noDict] using n) t)
  | .tuple ds, v, n, r => by
    simp only [Rep] at r
    obtain ⟨a, xs, rfl, q, t⟩ := r
    exact .tup q (Reps.dp ds xs (by simpa only [noDict] using n) t)
  | .dict ds, v, n, r => by simp only [noDict] at n; cases n
theorem Reps.dp {K : PySem.W.Frag} {H : Hp} : ∀ (ds : List PyData) (xs : List V), noDicts ds = true → Reps K H ds xs → DpAll K H xs ds
  | [], xs, _, r => by simp only [Reps] at r; subst r; exact .nil
  | d :: ds, xs, n, r => by
    simp only [Reps] at r
    obtain ⟨x, y, rfl, p, q⟩ := r
    simp only [noDicts, Bool.and_eq_true] at n
    exact .cons (Rep.dp d x n.1 p) (Reps.dp ds y n.2 q)
end
mutual
theorem noDict_of_lay : ∀ d : PyData, d.canLay0 = true → noDict d = true
  | .none, _ => rfl
  | .bool b, _ => rfl
  | .int i, _ => rfl
  | .str s, _ => rfl
  | .list ds, h => by simp only [PyData.canLay0] at h; simp only [noDict]; exact noDicts_of_lay ds h
  | .tuple ds, h => by simp only [PyData.canLay0] at h; simp only [noDict]; exact noDicts_of_lay ds h
  | .dict ds, h => by simp [PyData.canLay0] at h
theorem noDicts_of_lay : ∀ d : List PyData, PyData.canLayAll0 d = true → noDicts d = true
  | [], _ => rfl
  | d :: ds, h => by
    simp only [PyData.canLayAll0, Bool.and_eq_true] at h
    simp only [noDicts, noDict_of_lay d h.1, noDicts_of_lay ds h.2, Bool.and_self]
end
/-! no list or dict within -/
mutual
def fixd : PyData → Bool
  | .list _ => false
  | .tuple ds => fixds ds
  | .dict _ => false
  | _ => true
def fixds : List PyData → Bool
  | [] => true
  | d :: ds => fixd d && fixds ds
end
mutual
theorem Rep.hidden {K : PySem.W.Frag} {H H' : Hp} (h : ∀ a xs, Rd H a (.tup xs) → Rd H' a (.tup xs)) : ∀ (d : PyData) (v : V), fixd d = true → Rep K H d v → Rep K H' d v
  | .none, v, _, r => by simpa only [Rep] using r
  | .bool b, v, _, r => by simpa only [Rep] using r
  | .int i, v, _, r => by simpa only [Rep] using r
  | .str s, v, _, r => by simpa only [Rep] using r
  | .list ds, v, n, r => by simp only [fixd] at n; cases n
  | .tuple ds, v, n, r => by
    simp only [Rep] at r ⊢
    obtain ⟨a, xs, e, q, t⟩ := r
    refine ⟨a, xs, e, ?_, Reps.hidden h ds xs (by simpa only [fixd] using n) t⟩
    rcases q with q | q
    · exact .inl (h _ _ q)
    · exact .inr q
  | .dict ds, v, n, r => by simp only [fixd] at n; cases n
theorem Reps.hidden {K : PySem.W.Frag} {H H' : Hp} (h : ∀ a xs, Rd H a (.tup xs) → Rd H' a (.tup xs)) : ∀ (ds : List PyData) (xs : List V), fixds ds = true → Reps K H ds xs → Reps K H' ds xs
  | [], xs, _, r => by simpa only [Reps] using r
  | d :: ds, xs, n, r => by
    simp only [Reps] at r ⊢
    obtain ⟨x, y, e, p, q⟩ := r
    simp only [fixds, Bool.and_eq_true] at n
    exact ⟨x, y, e, Rep.hidden h d x n.1 p, Reps.hidden h ds y n.2 q⟩
end
end Pz
end
section
set_option Elab.async false
set_option linter.all false
set_option maxRecDepth 100000
namespace Pz
open PySem PySem.Spec PyProof.Rows L2

inductive PSlot where
  | un | val (d : PyData) | own (d : PyData)
abbrev PEnv := List PSlot
/-- what an expression gives: a value; the list or dict that a slot owns; a new list or dict that nobody else has -/
inductive RV where
  | val (d : PyData) | loc (i : Nat) | tmp (d : PyData)

structure PCtx where
  K : PySem.W.Frag
  O : Addr → Prop
  H0 : Hp
  io : Option (Nat × Addr)

def OA (σ : L2.St) (ρ : PEnv) : Addr → Prop := fun a => ∃ (i : Nat) (d : PyData), ρ[i]? = some (.own d) ∧ σ[i]? = some (some (.ref a))
def Hid (C : PCtx) (σ : L2.St) (ρ : PEnv) (Z : Addr → Prop) : Addr → Prop := fun a => C.O a ∨ OA σ ρ a ∨ Z a
noncomputable abbrev vis (C : PCtx) (Z : Addr → Prop) (H : Hp) (σ : L2.St) (ρ : PEnv) : Hp := hide H (Hid C σ ρ Z)
def PTop (K : PySem.W.Frag) (H Hh : Hp) (a : Addr) : PyData → Prop
  | .list ds => ∃ xs, H a = some (.lst xs) ∧ Reps K Hh ds xs
  | .dict kvs => ∃ ps, H a = some (.dK ps) ∧ RepKs K Hh kvs ps
  | _ => False
theorem PTop.ne {K : PySem.W.Frag} {H Hh : Hp} {a : Addr} {d : PyData} (t : PTop K H Hh a d) : H a ≠ none := by
  cases d with
  | list ds => obtain ⟨xs, e, _⟩ := t; rw [e]; exact fun z => nomatch z
  | dict ds => obtain ⟨xs, e, _⟩ := t; rw [e]; exact fun z => nomatch z
  | _ => exact t.elim
theorem PTop.mono {K : PySem.W.Frag} {H H' Hh Hh' : Hp} {a : Addr} (e : H' a = H a) (h : Sub Hh Hh') : ∀ {d : PyData}, PTop K H Hh a d → PTop K H' Hh' a d
  | .list ds, ⟨xs, q, r⟩ => ⟨xs, e.trans q, Reps.mono h _ _ r⟩
  | .dict ds, ⟨xs, q, r⟩ => ⟨xs, e.trans q, RepKs.mono h _ _ r⟩
/-- visible now: a value -/
theorem PTop.rep {K : PySem.W.Frag} {H Hh Hh' : Hp} {a : Addr} (h : Sub Hh Hh') (e : ∀ o, H a = some o → Hh' a = some o) : ∀ {d : PyData}, PTop K H Hh a d → Rep K Hh' d (.ref a)
  | .list ds, ⟨xs, q, r⟩ => by simp only [Rep]; exact ⟨a, xs, rfl, e _ q, Reps.mono h _ _ r⟩
  | .dict ds, ⟨xs, q, r⟩ => by
    simp only [Rep, RepKs.rng r, RepKs.frz r]
    exact ⟨a, xs, rfl, e _ q, RepKs.mono h _ _ r⟩

structure Cor (C : PCtx) (Z : Addr → Prop) (H : Hp) (σ : L2.St) (ρ : PEnv) : Prop where
  len : σ.length = ρ.length
  val : ∀ (i : Nat) (d : PyData), ρ[i]? = some (.val d) → ∃ v, σ[i]? = some (some v) ∧ Rep C.K (vis C Z H σ ρ) d v
  own : ∀ (i : Nat) (d : PyData), ρ[i]? = some (.own d) → ∃ a, σ[i]? = some (some (.ref a)) ∧ PTop C.K H (vis C Z H σ ρ) a d
  inj : ∀ (i j : Nat) (d e : PyData) (a : Addr), ρ[i]? = some (.own d) → ρ[j]? = some (.own e) → σ[i]? = some (some (.ref a)) → σ[j]? = some (some (.ref a)) → i = j
  sep : ∀ (i : Nat) (d : PyData) (a : Addr), ρ[i]? = some (.own d) → σ[i]? = some (some (.ref a)) → C.io = some (i, a) ∨ (¬ C.O a ∧ C.H0 a = none)
  iok : ∀ (i : Nat) (a : Addr), C.io = some (i, a) → (∃ d, ρ[i]? = some (.own d)) ∧ σ[i]? = some (some (.ref a)) ∧ C.O a
  frm : ∀ (a : Addr) (o : HO), C.H0 a = some o → (∀ i, C.io ≠ some (i, a)) → H a = some o
  live : ∀ a, C.O a → H a ≠ none
  zs : ∀ a, Z a → ¬ OA σ ρ a ∧ ¬ C.O a ∧ C.H0 a = none ∧ H a ≠ none

section
variable {C : PCtx} {Z Z' : Addr → Prop} {H H' : Hp} {σ : L2.St} {ρ : PEnv} {i : Nat} {a p : Addr} {d : PyData} {v : V} {o : HO}
theorem Cor.fresh (c : Cor C Z H σ ρ) (n : H p = none) : ¬ Hid C σ ρ Z p ∧ C.H0 p = none := by
  refine ⟨fun h => ?_, ?_⟩
  · rcases h with h | ⟨i, d, h1, h2⟩ | h
    · exact c.live p h n
    · obtain ⟨b, h3, t⟩ := c.own i d h1
      rw [h2] at h3; cases h3
      exact t.ne n
    · exact (c.zs p h).2.2.2 n
  · cases e : C.H0 p with
    | none => rfl
    | some o =>
      by_cases q : ∃ i, C.io = some (i, p)
      · obtain ⟨i, q⟩ := q
        exact absurd n (c.live p (c.iok i p q).2.2)
      · have := c.frm p o e fun i z => q ⟨i, z⟩
        rw [n] at this; cases this
/-- the heap grows by what is visible -/
theorem Cor.grow (c : Cor C Z H σ ρ) (h : Sub H H') : Cor C Z H' σ ρ ∧ Sub (vis C Z H σ ρ) (vis C Z H' σ ρ) := by
  have s : Sub (vis C Z H σ ρ) (vis C Z H' σ ρ) := hide_mono (fun a o _ e => h a o e) fun a o n _ z => n z
  have keep : ∀ a, H a ≠ none → H' a = H a := fun a n => by
    cases e : H a with
    | none => exact absurd e n
    | some o => exact h a o e
  refine ⟨⟨c.len, fun i d e => ?_, fun i d e => ?_, c.inj, c.sep, c.iok, fun a o e n => h _ _ (c.frm a o e n), fun a q => ?_, fun a q => ?_⟩, s⟩
  · obtain ⟨v, h1, h2⟩ := c.val i d e
    exact ⟨v, h1, Rep.mono s _ _ h2⟩
  · obtain ⟨b, h1, h2⟩ := c.own i d e
    exact ⟨b, h1, h2.mono (keep b h2.ne) s⟩
  · rw [keep a (c.live a q)]; exact c.live a q
  · obtain ⟨z1, z2, z3, z4⟩ := c.zs a q
    exact ⟨z1, z2, z3, by rw [keep a z4]; exact z4⟩
theorem sub_upd (n : H p = none) : Sub H (upd H p o) := fun b u e => by
  rw [upd_ne (ne_of_none e n)]; exact e
/-- one more hidden object that is new -/
theorem Cor.temp (c : Cor C Z H σ ρ) (n : H p = none) (o : HO) : Cor C (fun a => Z a ∨ a = p) (upd H p o) σ ρ ∧ Sub (vis C Z H σ ρ) (vis C (fun a => Z a ∨ a = p) (upd H p o) σ ρ) := by
  obtain ⟨f1, f2⟩ := c.fresh n
  have s : Sub (vis C Z H σ ρ) (vis C (fun a => Z a ∨ a = p) (upd H p o) σ ρ) := hide_mono (fun a u _ e => sub_upd n a u e) fun a u m e z => by
    rcases z with z | z | z | z
    · exact m (.inl z)
    · exact m (.inr (.inl z))
    · exact m (.inr (.inr z))
    · subst z; rw [n] at e; cases e
  have ne : ∀ b, H b ≠ none → b ≠ p := fun b h z => h (z ▸ n)
  refine ⟨⟨c.len, fun i d e => ?_, fun i d e => ?_, c.inj, c.sep, c.iok, fun a u e m => sub_upd n _ _ (c.frm a u e m), fun a q => ?_, fun a q => ?_⟩, s⟩
  · obtain ⟨v, h1, h2⟩ := c.val i d e
    exact ⟨v, h1, Rep.mono s _ _ h2⟩
  · obtain ⟨b, h1, h2⟩ := c.own i d e
    exact ⟨b, h1, h2.mono (upd_ne (ne b h2.ne)) s⟩
  · rw [upd_ne (ne a (c.live a q))]; exact c.live a q
  · rcases q with q | q
    · obtain ⟨z1, z2, z3, z4⟩ := c.zs a q
      exact ⟨z1, z2, z3, by rw [upd_ne (ne a z4)]; exact z4⟩
    · subst q
      exact ⟨fun z => f1 (.inr (.inl z)), fun z => f1 (.inl z), f2, by rw [upd_same]; exact fun z => nomatch z⟩
/-- a hidden one is shown -/
theorem Cor.show_ (c : Cor C Z H σ ρ) (h : ∀ a, Z' a → Z a) : Cor C Z' H σ ρ ∧ Sub (vis C Z H σ ρ) (vis C Z' H σ ρ) := by
  have s : Sub (vis C Z H σ ρ) (vis C Z' H σ ρ) := hide_mono (fun a u _ e => e) fun a u m e z => by
    rcases z with z | z | z
    · exact m (.inl z)
    · exact m (.inr (.inl z))
    · exact m (.inr (.inr (h a z)))
  refine ⟨⟨c.len, fun i d e => ?_, fun i d e => ?_, c.inj, c.sep, c.iok, c.frm, c.live, fun a q => c.zs a (h a q)⟩, s⟩
  · obtain ⟨v, h1, h2⟩ := c.val i d e
    exact ⟨v, h1, Rep.mono s _ _ h2⟩
  · obtain ⟨b, h1, h2⟩ := c.own i d e
    exact ⟨b, h1, h2.mono rfl s⟩
/-- the object of a hidden temporary is changed -/
theorem Cor.tempSet (c : Cor C Z H σ ρ) (z : Z p) (o : HO) : Cor C Z (upd H p o) σ ρ ∧ Sub (vis C Z H σ ρ) (vis C Z (upd H p o) σ ρ) := by
  obtain ⟨z1, z2, z3, z4⟩ := c.zs p z
  have s : Sub (vis C Z H σ ρ) (vis C Z (upd H p o) σ ρ) := hide_mono (fun a u m e => by
    rw [upd_ne (fun (q : a = p) => m (.inr (.inr (by rw [q]; exact z))))]; exact e) fun a u m e y => m y
  refine ⟨⟨c.len, fun i d e => ?_, fun i d e => ?_, c.inj, c.sep, c.iok, fun a u e m => ?_, fun a q => ?_, fun a q => ?_⟩, s⟩
  · obtain ⟨v, h1, h2⟩ := c.val i d e
    exact ⟨v, h1, Rep.mono s _ _ h2⟩
  · obtain ⟨b, h1, h2⟩ := c.own i d e
    exact ⟨b, h1, h2.mono (upd_ne fun (q : b = p) => z1 ⟨i, d, e, by rw [← q]; exact h1⟩) s⟩
  · rw [upd_ne (fun (q : a = p) => by rw [q, z3] at e; cases e)]; exact c.frm a u e m
  · rw [upd_ne (fun (q' : a = p) => z2 (by rw [← q']; exact q))]; exact c.live a q
  · obtain ⟨y1, y2, y3, y4⟩ := c.zs a q
    refine ⟨y1, y2, y3, ?_⟩
    by_cases e : a = p
    · subst e; rw [upd_same]; exact fun z => nomatch z
    · rw [upd_ne e]; exact y4
end

theorem getElem?_set_cases {α : Type} {l : List α} {i j : Nat} {x y : α} (h : (l.set i x)[j]? = some y) : (i = j ∧ y = x ∧ i < l.length) ∨ (i ≠ j ∧ l[j]? = some y) := by
  by_cases e : i = j
  · subst e
    by_cases hl : i < l.length
    · rw [List.getElem?_set_self hl] at h
      exact .inl ⟨rfl, (Option.some.inj h).symm, hl⟩
    · rw [List.getElem?_eq_none (by simpa using hl)] at h; cases h
  · rw [List.getElem?_set_ne e] at h
    exact .inr ⟨e, h⟩
theorem lt_of_get {α : Type} {l : List α} {i : Nat} {x : α} (h : l[i]? = some x) : i < l.length := (List.getElem?_eq_some_iff.mp h).1

section
variable {C : PCtx} {Z Z' : Addr → Prop} {H H' : Hp} {σ : L2.St} {ρ : PEnv} {i : Nat} {a p : Addr} {d d' : PyData} {v : V} {o : HO}
/-- what a slot owns is changed -/
theorem Cor.mutate (c : Cor C Z H σ ρ) (hi : ρ[i]? = some (.own d)) (ha : σ[i]? = some (some (.ref a)))
    (t : ∀ Hh : Hp, Sub (vis C Z H σ ρ) Hh → PTop C.K (upd H a o) Hh a d') :
    Cor C Z (upd H a o) σ (ρ.set i (.own d')) ∧ Sub (vis C Z H σ ρ) (vis C Z (upd H a o) σ (ρ.set i (.own d'))) := by
  have oa : ∀ b, OA σ (ρ.set i (.own d')) b ↔ OA σ ρ b := fun b => by
    constructor
    · rintro ⟨j, e, h1, h2⟩
      rcases getElem?_set_cases h1 with ⟨rfl, _, _⟩ | ⟨_, h1⟩
      · exact ⟨i, d, hi, h2⟩
      · exact ⟨j, e, h1, h2⟩
    · rintro ⟨j, e, h1, h2⟩
      by_cases q : i = j
      · subst q; exact ⟨i, d', List.getElem?_set_self (lt_of_get hi), h2⟩
      · exact ⟨j, e, by rw [List.getElem?_set_ne q]; exact h1, h2⟩
  have hid : ∀ b, Hid C σ (ρ.set i (.own d')) Z b → Hid C σ ρ Z b := fun b q => by
    rcases q with q | q | q
    · exact .inl q
    · exact .inr (.inl ((oa b).mp q))
    · exact .inr (.inr q)
  have s : Sub (vis C Z H σ ρ) (vis C Z (upd H a o) σ (ρ.set i (.own d'))) := hide_mono (fun b u m e => by
    rw [upd_ne (fun (q : b = a) => m (.inr (.inl ⟨i, d, hi, by rw [q]; exact ha⟩)))]; exact e) fun b u m e z => m (hid b z)
  refine ⟨⟨by rw [List.length_set]; exact c.len, fun j e h => ?_, fun j e h => ?_, fun j k e f b h1 h2 h3 h4 => ?_, fun j e b h1 h2 => ?_, fun j b h => ?_, fun b u e m => ?_, fun b q => ?_, fun b q => ?_⟩, s⟩
  · rcases getElem?_set_cases h with ⟨_, q, _⟩ | ⟨_, h⟩
    · cases q
    · obtain ⟨v, h1, h2⟩ := c.val j e h
      exact ⟨v, h1, Rep.mono s _ _ h2⟩
  · rcases getElem?_set_cases h with ⟨rfl, q, _⟩ | ⟨nj, h⟩
    · cases q
      exact ⟨a, ha, t _ s⟩
    · obtain ⟨b, h1, h2⟩ := c.own j e h
      refine ⟨b, h1, h2.mono (upd_ne fun q => nj ?_) s⟩
      subst q
      exact c.inj i j d e b hi h ha h1
  · have get : ∀ (j : Nat) (e : PyData), (ρ.set i (.own d'))[j]? = some (.own e) → ∃ e', ρ[j]? = some (.own e') := fun j e h => by
      rcases getElem?_set_cases h with ⟨rfl, _, _⟩ | ⟨_, h⟩
      · exact ⟨d, hi⟩
      · exact ⟨e, h⟩
    obtain ⟨e', h1⟩ := get j e h1
    obtain ⟨f', h2⟩ := get k f h2
    exact c.inj j k e' f' b h1 h2 h3 h4
  · rcases getElem?_set_cases h1 with ⟨rfl, _, _⟩ | ⟨_, h1⟩
    · exact c.sep i d b hi h2
    · exact c.sep j e b h1 h2
  · obtain ⟨⟨e, h1⟩, h2, h3⟩ := c.iok j b h
    refine ⟨?_, h2, h3⟩
    by_cases q : i = j
    · subst q; exact ⟨d', List.getElem?_set_self (lt_of_get hi)⟩
    · exact ⟨e, by rw [List.getElem?_set_ne q]; exact h1⟩
  · by_cases q : b = a
    · subst q
      rcases c.sep i d b hi ha with z | ⟨_, z⟩
      · exact absurd z (m i)
      · rw [z] at e; cases e
    · rw [upd_ne q]; exact c.frm b u e m
  · by_cases z : b = a
    · subst z; rw [upd_same]; exact fun z => nomatch z
    · rw [upd_ne z]; exact c.live b q
  · obtain ⟨z1, z2, z3, z4⟩ := c.zs b q
    refine ⟨fun z => z1 ((oa b).mp z), z2, z3, ?_⟩
    rw [upd_ne (fun (z : b = a) => z1 ⟨i, d, hi, by rw [z]; exact ha⟩)]; exact z4
/-- a slot is given a value; what it owned is shown (not the one that is lent by the caller) -/
theorem Cor.assign (c : Cor C Z H σ ρ) (hi : i < ρ.length) (hn : ∀ b, C.io ≠ some (i, b)) (r : Rep C.K (vis C Z H σ ρ) d v) :
    Cor C Z H (σ.set i (some v)) (ρ.set i (.val d)) ∧ Sub (vis C Z H σ ρ) (vis C Z H (σ.set i (some v)) (ρ.set i (.val d))) := by
  have hiσ : i < σ.length := by rw [c.len]; exact hi
  have oa : ∀ b, OA (σ.set i (some v)) (ρ.set i (.val d)) b → OA σ ρ b := by
    rintro b ⟨j, e, h1, h2⟩
    rcases getElem?_set_cases h1 with ⟨_, q, _⟩ | ⟨nj, h1⟩
    · cases q
    · rw [List.getElem?_set_ne nj] at h2
      exact ⟨j, e, h1, h2⟩
  have s : Sub (vis C Z H σ ρ) (vis C Z H (σ.set i (some v)) (ρ.set i (.val d))) := hide_mono (fun b u m e => e) fun b u m e z => by
    rcases z with z | z | z
    · exact m (.inl z)
    · exact m (.inr (.inl (oa b z)))
    · exact m (.inr (.inr z))
  refine ⟨⟨by rw [List.length_set, List.length_set]; exact c.len, fun j e h => ?_, fun j e h => ?_, fun j k e f b h1 h2 h3 h4 => ?_, fun j e b h1 h2 => ?_, fun j b h => ?_, c.frm, c.live, fun b q => ?_⟩, s⟩
  · rcases getElem?_set_cases h with ⟨rfl, q, _⟩ | ⟨nj, h⟩
    · cases q
      exact ⟨v, List.getElem?_set_self hiσ, Rep.mono s _ _ r⟩
    · obtain ⟨w, h1, h2⟩ := c.val j e h
      exact ⟨w, by rw [List.getElem?_set_ne nj]; exact h1, Rep.mono s _ _ h2⟩
  · rcases getElem?_set_cases h with ⟨_, q, _⟩ | ⟨nj, h⟩
    · cases q
    · obtain ⟨w, h1, h2⟩ := c.own j e h
      exact ⟨w, by rw [List.getElem?_set_ne nj]; exact h1, h2.mono rfl s⟩
  · rcases getElem?_set_cases h1 with ⟨_, q, _⟩ | ⟨nj, h1⟩
    · cases q
    · rcases getElem?_set_cases h2 with ⟨_, q, _⟩ | ⟨nk, h2⟩
      · cases q
      · rw [List.getElem?_set_ne nj] at h3
        rw [List.getElem?_set_ne nk] at h4
        exact c.inj j k e f b h1 h2 h3 h4
  · rcases getElem?_set_cases h1 with ⟨_, q, _⟩ | ⟨nj, h1⟩
    · cases q
    · rw [List.getElem?_set_ne nj] at h2
      exact c.sep j e b h1 h2
  · have nj : i ≠ j := fun q => hn b (q ▸ h)
    rw [List.getElem?_set_ne nj, List.getElem?_set_ne nj]
    exact c.iok j b h
  · obtain ⟨z1, z2⟩ := c.zs b q
    exact ⟨fun z => z1 (oa b z), z2⟩
/-- a slot takes a new object for its own -/
theorem Cor.take (c : Cor C Z H σ ρ) (hi : i < ρ.length) (hn : ∀ b, C.io ≠ some (i, b)) (z : Z p) (hz : ∀ b, Z' b → Z b ∧ b ≠ p) (t : PTop C.K H (vis C Z H σ ρ) p d) :
    Cor C Z' H (σ.set i (some (.ref p))) (ρ.set i (.own d)) ∧ Sub (vis C Z H σ ρ) (vis C Z' H (σ.set i (some (.ref p))) (ρ.set i (.own d))) := by
  have hiσ : i < σ.length := by rw [c.len]; exact hi
  obtain ⟨y1, y2, y3, y4⟩ := c.zs p z
  have oa : ∀ b, OA (σ.set i (some (.ref p))) (ρ.set i (.own d)) b → b = p ∨ OA σ ρ b := by
    rintro b ⟨j, e, h1, h2⟩
    rcases getElem?_set_cases h1 with ⟨rfl, q, _⟩ | ⟨nj, h1⟩
    · rw [List.getElem?_set_self hiσ] at h2; cases h2; exact .inl rfl
    · rw [List.getElem?_set_ne nj] at h2
      exact .inr ⟨j, e, h1, h2⟩
  have s : Sub (vis C Z H σ ρ) (vis C Z' H (σ.set i (some (.ref p))) (ρ.set i (.own d))) := hide_mono (fun b u m e => e) fun b u m e q => by
    rcases q with q | q | q
    · exact m (.inl q)
    · rcases oa b q with rfl | q
      · exact m (.inr (.inr z))
      · exact m (.inr (.inl q))
    · exact m (.inr (.inr (hz b q).1))
  refine ⟨⟨by rw [List.length_set, List.length_set]; exact c.len, fun j e h => ?_, fun j e h => ?_, fun j k e f b h1 h2 h3 h4 => ?_, fun j e b h1 h2 => ?_, fun j b h => ?_, c.frm, c.live, fun b q => ?_⟩, s⟩
  · rcases getElem?_set_cases h with ⟨_, q, _⟩ | ⟨nj, h⟩
    · cases q
    · obtain ⟨w, h1, h2⟩ := c.val j e h
      exact ⟨w, by rw [List.getElem?_set_ne nj]; exact h1, Rep.mono s _ _ h2⟩
  · rcases getElem?_set_cases h with ⟨rfl, q, _⟩ | ⟨nj, h⟩
    · cases q
      exact ⟨p, List.getElem?_set_self hiσ, t.mono rfl s⟩
    · obtain ⟨w, h1, h2⟩ := c.own j e h
      exact ⟨w, by rw [List.getElem?_set_ne nj]; exact h1, h2.mono rfl s⟩
  · have get : ∀ (j : Nat) (e : PyData), (ρ.set i (.own d))[j]? = some (.own e) → (σ.set i (some (V.ref p)))[j]? = some (some (V.ref b)) → (i = j ∧ b = p) ∨ (i ≠ j ∧ ρ[j]? = some (.own e) ∧ σ[j]? = some (some (V.ref b))) := fun j e h1 h2 => by
      rcases getElem?_set_cases h1 with ⟨rfl, q, _⟩ | ⟨nj, h1⟩
      · rw [List.getElem?_set_self hiσ] at h2; cases h2; exact .inl ⟨rfl, rfl⟩
      · rw [List.getElem?_set_ne nj] at h2
        exact .inr ⟨nj, h1, h2⟩
    rcases get j e h1 h3 with ⟨rfl, rfl⟩ | ⟨nj, g1, g2⟩
    · rcases get k f h2 h4 with ⟨rfl, _⟩ | ⟨nk, g1, g2⟩
      · rfl
      · exact absurd ⟨k, f, g1, g2⟩ y1
    · rcases get k f h2 h4 with ⟨rfl, rfl⟩ | ⟨nk, g3, g4⟩
      · exact absurd ⟨j, e, g1, g2⟩ y1
      · exact c.inj j k e f b g1 g3 g2 g4
  · rcases getElem?_set_cases h1 with ⟨rfl, q, _⟩ | ⟨nj, h1⟩
    · rw [List.getElem?_set_self hiσ] at h2; cases h2
      exact .inr ⟨y2, y3⟩
    · rw [List.getElem?_set_ne nj] at h2
      exact c.sep j e b h1 h2
  · have nj : i ≠ j := fun q => hn b (q ▸ h)
    rw [List.getElem?_set_ne nj, List.getElem?_set_ne nj]
    exact c.iok j b h
  · obtain ⟨q1, q2⟩ := hz b q
    obtain ⟨z1, z2⟩ := c.zs b q1
    refine ⟨fun z => ?_, z2⟩
    rcases oa b z with z | z
    · exact q2 z
    · exact z1 z
/-- what a slot owns is shown: it is a value from now on -/
theorem Cor.demote (c : Cor C Z H σ ρ) (hi : ρ[i]? = some (.own d)) (hn : ∀ b, C.io ≠ some (i, b)) :
    Cor C Z H σ (ρ.set i (.val d)) ∧ Sub (vis C Z H σ ρ) (vis C Z H σ (ρ.set i (.val d))) := by
  obtain ⟨a, ha, t⟩ := c.own i d hi
  have oa : ∀ b, OA σ (ρ.set i (.val d)) b → OA σ ρ b ∧ b ≠ a := by
    rintro b ⟨j, e, h1, h2⟩
    rcases getElem?_set_cases h1 with ⟨_, q, _⟩ | ⟨nj, h1⟩
    · cases q
    · refine ⟨⟨j, e, h1, h2⟩, fun q => nj ?_⟩
      subst q
      exact c.inj i j d e b hi h1 ha h2
  have s : Sub (vis C Z H σ ρ) (vis C Z H σ (ρ.set i (.val d))) := hide_mono (fun b u m e => e) fun b u m e z => by
    rcases z with z | z | z
    · exact m (.inl z)
    · exact m (.inr (.inl (oa b z).1))
    · exact m (.inr (.inr z))
  have na : ¬ Hid C σ (ρ.set i (.val d)) Z a := fun z => by
    rcases z with z | z | z
    · rcases c.sep i d a hi ha with q | ⟨q, _⟩
      · exact hn a q
      · exact q z
    · exact (oa a z).2 rfl
    · exact (c.zs a z).1 ⟨i, d, hi, ha⟩
  refine ⟨⟨by rw [List.length_set]; exact c.len, fun j e h => ?_, fun j e h => ?_, fun j k e f b h1 h2 h3 h4 => ?_, fun j e b h1 h2 => ?_, fun j b h => ?_, c.frm, c.live, fun b q => ?_⟩, s⟩
  · rcases getElem?_set_cases h with ⟨rfl, q, _⟩ | ⟨nj, h⟩
    · cases q
      exact ⟨.ref a, ha, t.rep s fun o e => hide_of na e⟩
    · obtain ⟨w, h1, h2⟩ := c.val j e h
      exact ⟨w, h1, Rep.mono s _ _ h2⟩
  · rcases getElem?_set_cases h with ⟨_, q, _⟩ | ⟨nj, h⟩
    · cases q
    · obtain ⟨w, h1, h2⟩ := c.own j e h
      exact ⟨w, h1, h2.mono rfl s⟩
  · rcases getElem?_set_cases h1 with ⟨_, q, _⟩ | ⟨nj, h1⟩
    · cases q
    · rcases getElem?_set_cases h2 with ⟨_, q, _⟩ | ⟨nk, h2⟩
      · cases q
      · exact c.inj j k e f b h1 h2 h3 h4
  · rcases getElem?_set_cases h1 with ⟨_, q, _⟩ | ⟨nj, h1⟩
    · cases q
    · exact c.sep j e b h1 h2
  · have nj : i ≠ j := fun q => hn b (q ▸ h)
    rw [List.getElem?_set_ne nj]
    exact c.iok j b h
  · obtain ⟨z1, z2⟩ := c.zs b q
    exact ⟨fun z => z1 (oa b z).1, z2⟩
/-- a slot is forgotten -/
theorem Cor.forget (c : Cor C Z H σ ρ) (hn : ∀ b, C.io ≠ some (i, b)) (w : Option V) :
    Cor C Z H (σ.set i w) (ρ.set i .un) ∧ Sub (vis C Z H σ ρ) (vis C Z H (σ.set i w) (ρ.set i .un)) := by
  have oa : ∀ b, OA (σ.set i w) (ρ.set i .un) b → OA σ ρ b := by
    rintro b ⟨j, e, h1, h2⟩
    rcases getElem?_set_cases h1 with ⟨_, q, _⟩ | ⟨nj, h1⟩
    · cases q
    · rw [List.getElem?_set_ne nj] at h2
      exact ⟨j, e, h1, h2⟩
  have s : Sub (vis C Z H σ ρ) (vis C Z H (σ.set i w) (ρ.set i .un)) := hide_mono (fun b u m e => e) fun b u m e z => by
    rcases z with z | z | z
    · exact m (.inl z)
    · exact m (.inr (.inl (oa b z)))
    · exact m (.inr (.inr z))
  refine ⟨⟨by rw [List.length_set, List.length_set]; exact c.len, fun j e h => ?_, fun j e h => ?_, fun j k e f b h1 h2 h3 h4 => ?_, fun j e b h1 h2 => ?_, fun j b h => ?_, c.frm, c.live, fun b q => ?_⟩, s⟩
  · rcases getElem?_set_cases h with ⟨rfl, q, _⟩ | ⟨nj, h⟩
    · cases q
    · obtain ⟨w, h1, h2⟩ := c.val j e h
      exact ⟨w, by rw [List.getElem?_set_ne nj]; exact h1, Rep.mono s _ _ h2⟩
  · rcases getElem?_set_cases h with ⟨_, q, _⟩ | ⟨nj, h⟩
    · cases q
    · obtain ⟨w, h1, h2⟩ := c.own j e h
      exact ⟨w, by rw [List.getElem?_set_ne nj]; exact h1, h2.mono rfl s⟩
  · rcases getElem?_set_cases h1 with ⟨_, q, _⟩ | ⟨nj, h1⟩
    · cases q
    · rcases getElem?_set_cases h2 with ⟨_, q, _⟩ | ⟨nk, h2⟩
      · cases q
      · rw [List.getElem?_set_ne nj] at h3
        rw [List.getElem?_set_ne nk] at h4
        exact c.inj j k e f b h1 h2 h3 h4
  · rcases getElem?_set_cases h1 with ⟨_, q, _⟩ | ⟨nj, h1⟩
    · cases q
    · rw [List.getElem?_set_ne nj] at h2
      exact c.sep j e b h1 h2
  · have nj : i ≠ j := fun q => hn b (q ▸ h)
    rw [List.getElem?_set_ne nj, List.getElem?_set_ne nj]
    exact c.iok j b h
  · obtain ⟨z1, z2⟩ := c.zs b q
    exact ⟨fun z => z1 (oa b z), z2⟩
end
end Pz
end
section
set_option Elab.async false
set_option linter.all false
set_option maxRecDepth 100000
namespace Pz
open PySem PySem.Spec PyProof.Rows L2

inductive BOp where | add | sub | mul | fdiv | mod | pow
  deriving DecidableEq
inductive COp where | eq | ne | lt | le | gt | ge | isN | notN | isin | notin
  deriving DecidableEq
inductive Bf where | len | tuple | list | sorted | all | any | abs | int | sum | max | min
  deriving DecidableEq
inductive PT_ where | nm (i : Nat) | tp (is : List Nat)
mutual
inductive PExp where
  | v (i : Nat) | non | bl (b : Bool) | int (i : Int) | str (s : String)
  | glob (x : String)
  | tup (es : PExps) | lst (es : PExps)
  | bin (op : BOp) (a b : PExp) | neg (a : PExp) | not (a : PExp)
  | cmp (op : COp) (a b : PExp) | chain (o1 o2 : COp) (a b c : PExp)
  | and (es : PExps) | or (es : PExps) | ife (c a b : PExp)
  | idx (a b : PExp) | slice (a : PExp) (lo hi : PExpO) | revs (a : PExp)
  | call (f : String) (es : PExps) | blt (f : Bf) (es : PExps)
  | rngv (a : PExp) | rtup (s : PSrc) | rlst (s : PSrc) | sset (a : PExp) | lset (a : PExp)
  | app (i : Nat) (e : PExp) | ext (i : Nat) (e : PExp) | pop (i : Nat) | rev (i : Nat)
  | index (a b : PExp) | count (a b : PExp) | get (a b c : PExp)
  | isi (a : PExp) (t : String)
  | comp (own : List Nat) (t : PT_) (s : PSrc) (c : PExpO) (e : PExp)
  | comp2 (own own2 : List Nat) (t : PT_) (s : PSrc) (c : PExpO) (t2 : PT_) (s2 : PSrc) (c2 : PExpO) (e : PExp)
  | dnew
  | dcomp (own : List Nat) (t : PT_) (s : PSrc) (c : PExpO) (k e : PExp)
inductive PExps where
  | nil | cons (e : PExp) (r : PExps)
inductive PExpO where
  | no | yes (e : PExp)
inductive PSrc where
  | of (e : PExp) | r1 (a : PExp) | r2 (a b : PExp) | r3 (a b c : PExp)
end
mutual
inductive PStm where
  | asg (i : Nat) (e : PExp) | asgT (is : List Nat) (e : PExp) | aug (i : Nat) (op : BOp) (e : PExp)
  | setI (i : Nat) (k e : PExp) | ex (e : PExp) | ite (c : PExp) (a b : PStms)
  | for_ (t : PT_) (s : PSrc) (b : PStms) (kill : List Nat)
  | while_ (c : PExp) (b : PStms) (kill : List Nat)
  | ret (e : PExp) | retN | pass | brk | cont | raise_
inductive PStms where
  | nil | cons (s : PStm) (r : PStms)
end

structure FnSem where
  io : Option Nat
  fresh : Bool
  run : List PyData → Option (PyData × PyData)
inductive Flw where
  | next | brk | cont | ret (d : PyData) (fresh : Bool)

/-! ### values -/
def lim : Nat := 16777216
def small64 (i : Int) : Bool := decide (-(2 ^ 64) < i) && decide (i < 2 ^ 64)
def bopD : BOp → PyData → PyData → Option RV
  | .add, .int i, .int j => some (.val (.int (i + j)))
  | .add, .tuple xs, .tuple ys => if xs.length + ys.length ≤ lim then some (.val (.tuple (xs ++ ys))) else none
  | .add, .list xs, .list ys => if xs.length + ys.length ≤ lim then some (.tmp (.list (xs ++ ys))) else none
  | .sub, .int i, .int j => some (.val (.int (i - j)))
  | .mul, .int i, .int j => if small64 i || small64 j then some (.val (.int (i * j))) else none
  | .mul, .tuple xs, .int k => if !xs.isEmpty && decide (2 ≤ k) && decide (k ≤ 1000) && decide (xs.length ≤ 1000) then some (.val (.tuple (List.replicate k.toNat xs).flatten)) else none
  | .mul, .list xs, .int k => if decide (0 ≤ k) && decide (k ≤ 1000) && decide (xs.length ≤ 1000) then some (.tmp (.list (List.replicate k.toNat xs).flatten)) else none
  | .fdiv, .int i, .int j => if decide (0 < j) && decide (j < 1073741824) then some (.val (.int (i / j))) else none
  | .mod, .int i, .int j => if 0 < j then some (.val (.int (i % j))) else none
  | .pow, .int i, .int j => if decide (0 ≤ j) && decide (j ≤ 1000000) && decide (i.natAbs < 2 ^ 64) then some (.val (.int (i ^ j.toNat))) else none
  | _, _, _ => none
def shp (d : PyData) : Bool := SeqAt.shaped d
def intsOf : List PyData → Option (List Int)
  | [] => some []
  | .int i :: r => (intsOf r).map (i :: ·)
  | _ :: _ => none
def boolsOf : List PyData → Option (List Bool)
  | [] => some []
  | .bool i :: r => (boolsOf r).map (i :: ·)
  | _ :: _ => none
def cmpD : COp → PyData → PyData → Option Bool
  | .isN, d, .none => some (match d with | .none => true | _ => false)
  | .notN, d, .none => some (match d with | .none => false | _ => true)
  | .eq, a, b => if shp a && shp b then some (PyData.eqv a b) else none
  | .ne, a, b => if shp a && shp b then some (!PyData.eqv a b) else none
  | .lt, .int i, .int j => some (decide (i < j))
  | .le, .int i, .int j => some (decide (i ≤ j))
  | .gt, .int i, .int j => some (decide (j < i))
  | .ge, .int i, .int j => some (decide (j ≤ i))
  | .lt, .tuple xs, .tuple ys => match intsOf xs, intsOf ys with
    | some ns, some ms => some (HT.lexLt ns ms)
    | _, _ => none
  | .isin, a, .list ds => if shp a && shp (.list ds) then some (ds.any fun z => PyData.eqv z a) else none
  | .notin, a, .list ds => if shp a && shp (.list ds) then some (!ds.any fun z => PyData.eqv z a) else none
  | .isin, a, .tuple ds => if shp a && shp (.tuple ds) then some (ds.any fun z => PyData.eqv z a) else none
  | .notin, a, .tuple ds => if shp a && shp (.tuple ds) then some (!ds.any fun z => PyData.eqv z a) else none
  | _, _, _ => none
def keyEq : PyData → PyData → Bool
  | .int i, .int j => decide (i = j)
  | .str s, .str t => decide (s = t)
  | _, _ => false
def isKey : PyData → Bool
  | .int _ => true
  | .str _ => true
  | _ => false
def dLook (k : PyData) : List (PyData × PyData) → Option PyData
  | [] => none
  | (q, d) :: r => if keyEq q k then some d else dLook k r
def dPut (k d : PyData) (kvs : List (PyData × PyData)) : List (PyData × PyData) :=
  if kvs.any fun p => keyEq p.1 k then kvs.map fun p => if keyEq p.1 k then (p.1, d) else p else kvs ++ [(k, d)]
def idxD : PyData → PyData → Option PyData
  | .list ds, .int i => atI ds i
  | .tuple ds, .int i => atI ds i
  | .dict kvs, k => match frzOf kvs, k with
    | some ns, .int i => (atI ns i).map .int
    | _, k => if isKey k then dLook k kvs else none
  | _, _ => none
def cutD (ds : List PyData) (lo hi : Option Int) : List PyData := (ds.drop (HT.sIx ds.length 0 lo)).take (HT.sIx ds.length ds.length hi - HT.sIx ds.length 0 lo)
def sliceD : PyData → Option Int → Option Int → Option RV
  | .list ds, lo, hi => some (.tmp (.list (cutD ds lo hi)))
  | .tuple ds, lo, hi => some (.val (.tuple (cutD ds lo hi)))
  | _, _, _ => none
def revD : PyData → Option RV
  | .list ds => some (.tmp (.list ds.reverse))
  | .tuple ds => some (.val (.tuple ds.reverse))
  | _ => none
def insU (i : Int) : List Int → List Int
  | [] => [i]
  | j :: r => if i < j then i :: j :: r else if i = j then j :: r else j :: insU i r
def sortU (l : List Int) : List Int := l.foldr insU []
/-! sorting of data that are alike -/
def leD (a b : PyData) : Bool := !PySem.W.dataLt b a
def insD (a : PyData) : List PyData → List PyData
  | [] => [a]
  | b :: r => if leD a b then a :: b :: r else b :: insD a r
def isortD (l : List PyData) : List PyData := l.foldr insD []
def isTup : PyData → Bool
  | .tuple _ => true
  | _ => false
def isNon : PyData → Bool
  | .none => true
  | _ => false
def sortOk (ds : List PyData) : Bool := (ds.all fun x => ds.all fun y => PySem.W.alike x y) && (ds.all isTup || ds.all fun x => !isTup x && !isNon x) && ds.all fun x => decide (x.depth ≤ 64)
def seqOf : PyData → Option (List PyData)
  | .list ds => some ds
  | .tuple ds => some ds
  | _ => none
def listOf : PyData → Option (List PyData)
  | .list ds => some ds
  | _ => none
def maxI : Int → List Int → Int
  | m, [] => m
  | m, i :: r => maxI (if i > m then i else m) r
def minI : Int → List Int → Int
  | m, [] => m
  | m, i :: r => minI (if i < m then i else m) r
def bfD : Bf → List PyData → Option RV
  | .len, [.list ds] => some (.val (.int ds.length))
  | .len, [.tuple ds] => some (.val (.int ds.length))
  | .len, [.dict ds] => match frzOf ds with
    | some ns => some (.val (.int ns.length))
    | none => none
  | .tuple, [.list ds] => some (.val (.tuple ds))
  | .tuple, [.tuple ds] => some (.val (.tuple ds))
  | .list, [.list ds] => some (.tmp (.list ds))
  | .list, [.tuple ds] => some (.tmp (.list ds))
  | .sorted, [.list ds] => if sortOk ds then some (.tmp (.list (isortD ds))) else none
  | .sorted, [.tuple ds] => if sortOk ds then some (.tmp (.list (isortD ds))) else none
  | .all, [.list ds] => (boolsOf ds).map fun bs => .val (.bool (bs.all id))
  | .any, [.list ds] => (boolsOf ds).map fun bs => .val (.bool (bs.any id))
  | .abs, [.int i] => some (.val (.int (if i < 0 then -i else i)))
  | .int, [.int i] => some (.val (.int i))
  | .int, [.bool b] => some (.val (.int (if b then 1 else 0)))
  | .sum, [.list ds] => (intsOf ds).map fun ns => .val (.int ns.sum)
  | .max, [.int i, .int j] => some (.val (.int (if j > i then j else i)))
  | .min, [.int i, .int j] => some (.val (.int (if j < i then j else i)))
  | .max, [.list ds] => match intsOf ds with
    | some (i :: r) => some (.val (.int (maxI i r)))
    | _ => none
  | .min, [.list ds] => match intsOf ds with
    | some (i :: r) => some (.val (.int (minI i r)))
    | _ => none
  | _, _ => none
def isiD : PyData → String → Option Bool
  | .dict _, _ => none
  | d, "bool" => some (match d with | .bool _ => true | _ => false)
  | d, "int" => some (match d with | .bool _ => true | .int _ => true | _ => false)
  | d, "str" => some (match d with | .str _ => true | _ => false)
  | d, "tuple" => some (match d with | .tuple _ => true | _ => false)
  | d, "list" => some (match d with | .list _ => true | _ => false)
  | _, _ => none
def idxOf (a : PyData) : List PyData → Nat → Option Nat
  | [], _ => none
  | d :: r, n => if PyData.eqv d a then some n else idxOf a r (n + 1)
def rangeD (lo hi : Int) : List PyData := (List.range (hi - lo).toNat).map fun k => .int (lo + (k : Nat))
/-- downward by one -/
def rangeDn (lo hi : Int) : List PyData := (List.range (lo - hi).toNat).map fun k => .int (lo - (k : Nat))
def small62 (i : Int) : Bool := decide (-(2 ^ 62) ≤ i) && decide (i < 2 ^ 62)

/-! ### slots -/
def peek : RV → PEnv → Option PyData
  | .val d, _ => some d
  | .tmp d, _ => some d
  | .loc i, ρ => match ρ[i]? with
    | some (.own d) => some d
    | some (.val (.list ds)) => some (.list ds)
    | _ => none
def settle (io : Option Nat) : RV → PEnv → Option (PyData × PEnv)
  | .val d, ρ => some (d, ρ)
  | .tmp d, ρ => some (d, ρ)
  | .loc i, ρ => match ρ[i]? with
    | some (.own d) => if io = some i then none else some (d, ρ.set i (.val d))
    | some (.val (.list ds)) => some (.list ds, ρ)
    | _ => none
def settles (io : Option Nat) : List RV → PEnv → Option (List PyData × PEnv)
  | [], ρ => some ([], ρ)
  | r :: rs, ρ => (settle io r ρ).bind fun p => (settles io rs p.2).bind fun q => some (p.1 :: q.1, q.2)
def peeks : List RV → PEnv → Option (List PyData)
  | [], _ => some []
  | r :: rs, ρ => (peek r ρ).bind fun d => (peeks rs ρ).bind fun ds => some (d :: ds)
def setV (io : Option Nat) (ρ : PEnv) (i : Nat) (d : PyData) : Option PEnv := if io = some i then none else if i < ρ.length then some (ρ.set i (.val d)) else none
def setO (io : Option Nat) (ρ : PEnv) (i : Nat) (d : PyData) : Option PEnv := if io = some i then none else if i < ρ.length then some (ρ.set i (.own d)) else none
def setVs (io : Option Nat) : PEnv → List Nat → List PyData → Option PEnv
  | ρ, [], [] => some ρ
  | ρ, i :: is, d :: ds => (setV io ρ i d).bind fun ρ' => setVs io ρ' is ds
  | _, _, _ => none
def assignT (io : Option Nat) : PT_ → PyData → PEnv → Option PEnv
  | .nm i, d, ρ => setV io ρ i d
  | .tp is, .tuple ds, ρ => setVs io ρ is ds
  | _, _, _ => none
def killS (io : Option Nat) : List Nat → PEnv → Option PEnv
  | [], ρ => some ρ
  | i :: is, ρ => if io = some i then none else killS io is (ρ.set i .un)
/-- the slots of a comprehension's own names: forgotten within; none of them may own -/
def notOwn : Option PSlot → Bool
  | some (.own _) => false
  | _ => true
def wipeE : List Nat → PEnv → Option PEnv
  | [], ρ => some ρ
  | i :: is, ρ => if notOwn ρ[i]? then (wipeE is ρ).map fun ρ' => ρ'.set i .un else none
def unE : List Nat → PEnv → PEnv
  | [], ρ => ρ
  | i :: is, ρ => (unE is ρ).set i .un
/-- behind it: as they were -/
def backE : List Nat → PEnv → PEnv → PEnv
  | [], _, ρ' => ρ'
  | i :: is, ρ, ρ' => (backE is ρ ρ').set i (match ρ[i]? with | some (.val d) => .val d | _ => .un)
def locs : List RV → List Nat
  | [] => []
  | .loc i :: r => i :: locs r
  | _ :: r => locs r

/-! ### loops -/
mutual
def sameD : PyData → PyData → Bool
  | .none, .none => true
  | .bool a, .bool b => a == b
  | .int a, .int b => a == b
  | .str a, .str b => a == b
  | .list a, .list b => sameL a b
  | .tuple a, .tuple b => sameL a b
  | .dict a, .dict b => sameK a b
  | _, _ => false
def sameL : List PyData → List PyData → Bool
  | [], [] => true
  | a :: as, b :: bs => sameD a b && sameL as bs
  | _, _ => false
def sameK : List (PyData × PyData) → List (PyData × PyData) → Bool
  | [], [] => true
  | (k, a) :: as, (l, b) :: bs => sameD k l && (sameD a b && sameK as bs)
  | _, _ => false
end
mutual
theorem sameD_refl : ∀ a : PyData, sameD a a = true
  | .none => rfl
  | .bool a => by simp [sameD]
  | .int a => by simp [sameD]
  | .str a => by simp [sameD]
  | .list a => by simp only [sameD]; exact sameL_refl a
  | .tuple a => by simp only [sameD]; exact sameL_refl a
  | .dict a => by simp only [sameD]; exact sameK_refl a
theorem sameL_refl : ∀ a : List PyData, sameL a a = true
  | [] => rfl
  | a :: as => by simp only [sameL, sameD_refl a, sameL_refl as, Bool.and_self]
theorem sameK_refl : ∀ a : List (PyData × PyData), sameK a a = true
  | [] => rfl
  | (k, a) :: as => by simp only [sameK, sameD_refl k, sameD_refl a, sameK_refl as, Bool.and_self]
end
mutual
theorem sameD_eq : ∀ a b : PyData, sameD a b = true → a = b
  | .none, b, h => by cases b <;> first | rfl | cases h
  | .bool a, b, h => by
    cases b <;> first | (simp only [sameD, beq_iff_eq] at h; rw [h]) | cases h
  | .int a, b, h => by
    cases b <;> first | (simp only [sameD, beq_iff_eq] at h; rw [h]) | cases h
  | .str a, b, h => by
    cases b <;> first | (simp only [sameD, beq_iff_eq] at h; rw [h]) | cases h
  | .list a, b, h => by
    cases b <;> first | (simp only [sameD] at h; rw [sameL_eq a _ h]) | cases h
  | .tuple a, b, h => by
    cases b <;> first | (simp only [sameD] at h; rw [sameL_eq a _ h]) | cases h
  | .dict a, b, h => by
    cases b <;> first | (simp only [sameD] at h; rw [sameK_eq a _ h]) | cases h
theorem sameL_eq : ∀ a b : List PyData, sameL a b = true → a = b
  | [], [], _ => rfl
  | [], _ :: _, h => by cases h
  | _ :: _, [], h => by cases h
  | a :: as, b :: bs, h => by
    simp only [sameL, Bool.and_eq_true] at h
    rw [sameD_eq a b h.1, sameL_eq as bs h.2]
theorem sameK_eq : ∀ a b : List (PyData × PyData), sameK a b = true → a = b
  | [], [], _ => rfl
  | [], _ :: _, h => by cases h
  | _ :: _, [], h => by cases h
  | (k, a) :: as, (l, b) :: bs, h => by
    simp only [sameK, Bool.and_eq_true] at h
    rw [sameD_eq k l h.1, sameD_eq a b h.2.1, sameK_eq as bs h.2.2]
end
/-- what a loop walks: the items; a slot that owns them, which stays as it is -/
structure Items where
  ds : List PyData
  at_ : Option Nat
def guardOk (g : Items) (ρ : PEnv) : Bool := match g.at_ with
  | none => true
  | some i => match ρ[i]? with
    | some (.own (.list ds)) => sameL ds g.ds
    | some (.val (.list ds)) => sameL ds g.ds
    | _ => false
def evFor (g : Items) (f : PyData → PEnv → Option (Flw × PEnv)) : List PyData → PEnv → Option (Flw × PEnv)
  | [], ρ => if guardOk g ρ then some (.next, ρ) else none
  | d :: ds, ρ => if guardOk g ρ then (f d ρ).bind fun p => match p.1 with
      | .next => evFor g f ds p.2
      | .cont => evFor g f ds p.2
      | .brk => some (.next, p.2)
      | .ret d fr => some (.ret d fr, p.2)
    else none
def evComp (g : Items) (f : PyData → PEnv → Option (List PyData × PEnv)) : List PyData → PEnv → Option (List PyData × PEnv)
  | [], ρ => if guardOk g ρ then some ([], ρ) else none
  | d :: ds, ρ => if guardOk g ρ then (f d ρ).bind fun p => (evComp g f ds p.2).bind fun q => some (p.1 ++ q.1, q.2) else none
def evDc (g : Items) (f : PyData → PEnv → Option (Option (PyData × PyData) × PEnv)) : List PyData → List (PyData × PyData) → PEnv → Option (List (PyData × PyData) × PEnv)
  | [], acc, ρ => if guardOk g ρ then some (acc, ρ) else none
  | d :: ds, acc, ρ => if guardOk g ρ then (f d ρ).bind fun p => evDc g f ds (match p.1 with | some kd => dPut kd.1 kd.2 acc | none => acc) p.2 else none
def evWhile (c : PEnv → Option (Bool × PEnv)) (f : PEnv → Option (Flw × PEnv)) : Nat → PEnv → Option (Flw × PEnv)
  | 0, _ => none
  | n + 1, ρ => (c ρ).bind fun b => if b.1 then (f b.2).bind fun p => match p.1 with
      | .next => evWhile c f n p.2
      | .cont => evWhile c f n p.2
      | .brk => some (.next, p.2)
      | .ret d fr => some (.ret d fr, p.2)
    else some (.next, b.2)

/-! ### the evaluator -/
structure EvG where
  fns : String → Option FnSem
  con : String → Option PyData
  io : Option Nat
  fuel : Nat
def lendAll (io : Option Nat) : List Nat → PEnv → Option PEnv
  | [], ρ => some ρ
  | i :: is, ρ => match ρ[i]? with
    | some (.own d) => if io = some i then none else lendAll io is (ρ.set i (.val d))
    | some (.val (.list _)) => lendAll io is ρ
    | _ => none
def fixdIn : PyData → Bool
  | .list ds => fixds ds
  | _ => false
def resRV (fresh : Bool) (d : PyData) : RV := if fresh then .tmp d else .val d
def evCall (G : EvG) (fs : FnSem) (rs : List RV) (ρ : PEnv) : Option (RV × PEnv) :=
  (peeks rs ρ).bind fun ds => (fs.run ds).bind fun out =>
    match fs.io with
    | none => if fixd out.1 || (locs rs).isEmpty then some (resRV fs.fresh out.1, ρ)
        else (lendAll G.io (locs rs) ρ).bind fun ρ' => some (resRV fs.fresh out.1, ρ')
    | some k => match rs[k]? with
      | some (.loc i) => match ρ[i]? with
        | some (.own _) => if !(locs (rs.eraseIdx k)).contains i && ((locs (rs.eraseIdx k)).isEmpty || (fixd out.1 && fixdIn out.2)) then some (resRV fs.fresh out.1, ρ.set i (.own out.2)) else none
        | _ => none
      | _ => none
def toInt : PyData → Option Int
  | .int i => some i
  | _ => none
def toBool : PyData → Option Bool
  | .bool i => some i
  | _ => none
mutual
def evE (G : EvG) : PExp → PEnv → Option (RV × PEnv)
  | .v i, ρ => match ρ[i]? with
    | some (.val d) => some (.val d, ρ)
    | some (.own _) => some (.loc i, ρ)
    | _ => none
  | .non, ρ => some (.val .none, ρ)
  | .bl b, ρ => some (.val (.bool b), ρ)
  | .int i, ρ => some (.val (.int i), ρ)
  | .str s, ρ => some (.val (.str (Str.ofString s)), ρ)
  | .glob x, ρ => (G.con x).bind fun d => some (.val d, ρ)
  | .tup es, ρ => (evEs G es ρ).bind fun p => (settles G.io p.1 p.2).bind fun q => if q.1.length ≤ lim then some (.val (.tuple q.1), q.2) else none
  | .lst es, ρ => (evEs G es ρ).bind fun p => (settles G.io p.1 p.2).bind fun q => if q.1.length ≤ lim then some (.tmp (.list q.1), q.2) else none
  | .bin op a b, ρ => (evE G a ρ).bind fun p => (evE G b p.2).bind fun q => (peek p.1 q.2).bind fun x => (peek q.1 q.2).bind fun y => (bopD op x y).bind fun r => some (r, q.2)
  | .neg a, ρ => (evE G a ρ).bind fun p => (peek p.1 p.2).bind fun x => (toInt x).bind fun i => some (.val (.int (-i)), p.2)
  | .not a, ρ => (evE G a ρ).bind fun p => (peek p.1 p.2).bind fun x => (toBool x).bind fun b => some (.val (.bool (!b)), p.2)
  | .cmp op a b, ρ => (evE G a ρ).bind fun p => (evE G b p.2).bind fun q => (peek p.1 q.2).bind fun x => (peek q.1 q.2).bind fun y => (cmpD op x y).bind fun r => some (.val (.bool r), q.2)
  | .chain o1 o2 a b c, ρ => (evE G a ρ).bind fun p => (evE G b p.2).bind fun q => (peek p.1 q.2).bind fun x => (peek q.1 q.2).bind fun y => (cmpD o1 x y).bind fun r =>
      if r then (evE G c q.2).bind fun t => (peek q.1 t.2).bind fun y' => (peek t.1 t.2).bind fun z => (cmpD o2 y' z).bind fun r' => some (.val (.bool r'), t.2) else some (.val (.bool false), q.2)
  | .and es, ρ => evAnd G es ρ
  | .or es, ρ => evOr G es ρ
  | .ife c a b, ρ => (evE G c ρ).bind fun p => (peek p.1 p.2).bind fun x => (toBool x).bind fun k => if k then evE G a p.2 else evE G b p.2
  | .idx a b, ρ => (evE G a ρ).bind fun p => (evE G b p.2).bind fun q => (peek p.1 q.2).bind fun x => (peek q.1 q.2).bind fun y => (idxD x y).bind fun r => some (.val r, q.2)
  | .slice a lo hi, ρ => (evE G a ρ).bind fun p => (evO G lo p.2).bind fun l => (evO G hi l.2).bind fun h => (peek p.1 h.2).bind fun x => (sliceD x l.1 h.1).bind fun r => some (r, h.2)
  | .revs a, ρ => (evE G a ρ).bind fun p => (peek p.1 p.2).bind fun x => (revD x).bind fun r => some (r, p.2)
  | .call f es, ρ => (G.fns f).bind fun fs => (evEs G es ρ).bind fun p => evCall G fs p.1 p.2
  | .blt f es, ρ => (evEs G es ρ).bind fun p => (peeks p.1 p.2).bind fun ds => (bfD f ds).bind fun r => some (r, p.2)
  | .rngv a, ρ => (evE G a ρ).bind fun p => (peek p.1 p.2).bind fun x => (toInt x).bind fun j => if small62 j then some (.val (.dict [(.none, .int 0), (.none, .int j)]), p.2) else none
  | .rtup s, ρ => (evR G s ρ).bind fun p => if p.1.length ≤ lim then some (.val (.tuple p.1), p.2) else none
  | .rlst s, ρ => (evR G s ρ).bind fun p => if p.1.length ≤ lim then some (.tmp (.list p.1), p.2) else none
  | .sset a, ρ => (evE G a ρ).bind fun p => (peek p.1 p.2).bind fun x => (listOf x).bind fun ds => (intsOf ds).bind fun ns => if ns.length ≤ 4000 && (sortU ns).length < 64 then some (.tmp (.list ((sortU ns).map .int)), p.2) else none
  | .lset a, ρ => (evE G a ρ).bind fun p => (peek p.1 p.2).bind fun x => (seqOf x).bind fun ds => (intsOf ds).bind fun ns => if ns.length ≤ 4000 then some (.val (.int (sortU ns).length), p.2) else none
  | .app i e, ρ => match ρ[i]? with
    | some (.own (.list _)) => (evE G e ρ).bind fun p => (settle G.io p.1 p.2).bind fun q => match q.2[i]? with
      | some (.own (.list ds)) => if ds.length < lim then some (.val .none, q.2.set i (.own (.list (ds ++ [q.1])))) else none
      | _ => none
    | _ => none
  | .ext i e, ρ => match ρ[i]? with
    | some (.own (.list _)) => (evE G e ρ).bind fun p => (settle G.io p.1 p.2).bind fun q => match q.1, q.2[i]? with
      | .list es, some (.own (.list ds)) => if ds.length + es.length ≤ lim then some (.val .none, q.2.set i (.own (.list (ds ++ es)))) else none
      | _, _ => none
    | _ => none
  | .pop i, ρ => match ρ[i]? with
    | some (.own (.list ds)) => ds.getLast?.bind fun d => some (.val d, ρ.set i (.own (.list ds.dropLast)))
    | _ => none
  | .rev i, ρ => match ρ[i]? with
    | some (.own (.list ds)) => some (.val .none, ρ.set i (.own (.list ds.reverse)))
    | _ => none
  | .index a b, ρ => (evE G a ρ).bind fun p => (peek p.1 p.2).bind fun x0 => (listOf x0).bind fun _ => (evE G b p.2).bind fun q => (peek p.1 q.2).bind fun x => (peek q.1 q.2).bind fun y => (listOf x).bind fun ds => if shp x && shp y then (idxOf y ds 0).bind fun n => some (.val (.int (n : Nat)), q.2) else none
  | .count a b, ρ => (evE G a ρ).bind fun p => (evE G b p.2).bind fun q => (peek p.1 q.2).bind fun x => (peek q.1 q.2).bind fun y => (seqOf x).bind fun ds => if shp x && shp y then some (.val (.int (ds.countP fun z => PyData.eqv z y : Nat)), q.2) else none
  | .get a b c, ρ => (evE G a ρ).bind fun p => (evE G b p.2).bind fun q => (evE G c q.2).bind fun t => (peek p.1 t.2).bind fun x => (peek q.1 t.2).bind fun k => (peek t.1 t.2).bind fun d => match x with
    | .dict kvs => if isKey k then (match t.1 with | .loc _ => none | _ => some (.val ((dLook k kvs).getD d), t.2)) else none
    | _ => none
  | .isi a t, ρ => (evE G a ρ).bind fun p => (peek p.1 p.2).bind fun x => (isiD x t).bind fun b => some (.val (.bool b), p.2)
  | .comp own t s c e, ρ => (evS G s ρ).bind fun p => (wipeE own p.2).bind fun ρ1 =>
      (evComp p.1 (fun d ρ2 => (assignT G.io t d ρ2).bind fun ρ3 => (evC G c ρ3).bind fun k => if k.1 then (evE G e k.2).bind fun r => (settle G.io r.1 r.2).bind fun q => some ([q.1], unE own q.2) else some ([], unE own k.2)) p.1.ds ρ1).bind fun q =>
        if q.1.length ≤ lim then some (.tmp (.list q.1), backE own p.2 q.2) else none
  | .comp2 own own2 t s c t2 s2 c2 e, ρ => (evS G s ρ).bind fun p => (wipeE own p.2).bind fun ρ1 =>
      (evComp p.1 (fun d ρ2 => (assignT G.io t d ρ2).bind fun ρ3 => (evC G c ρ3).bind fun k => if k.1 then
          (evS G s2 k.2).bind fun p2 => (evComp p2.1 (fun d' ρ4 => (assignT G.io t2 d' ρ4).bind fun ρ5 => (evC G c2 ρ5).bind fun k2 => if k2.1 then (evE G e k2.2).bind fun r => (settle G.io r.1 r.2).bind fun q => some ([q.1], unE own2 q.2) else some ([], unE own2 k2.2)) p2.1.ds (unE own2 p2.2)).bind fun q => some (q.1, unE own q.2)
        else some ([], unE own k.2)) p.1.ds ρ1).bind fun q =>
        if q.1.length ≤ lim then some (.tmp (.list q.1), backE own p.2 q.2) else none
  | .dnew, ρ => some (.tmp (.dict []), ρ)
  | .dcomp own t s c k e, ρ => (evS G s ρ).bind fun p => (wipeE own p.2).bind fun ρ1 =>
      (evDc p.1 (fun d ρ2 => (assignT G.io t d ρ2).bind fun ρ3 => (evC G c ρ3).bind fun b => if b.1 then
          (evE G k b.2).bind fun r => (settle G.io r.1 r.2).bind fun x => if isKey x.1 then (evE G e x.2).bind fun r' => (settle G.io r'.1 r'.2).bind fun y => some (some (x.1, y.1), unE own y.2) else none
        else some (none, unE own b.2)) p.1.ds [] ρ1).bind fun q =>
        if p.1.ds.length ≤ lim then some (.tmp (.dict q.1), backE own p.2 q.2) else none
def evEs (G : EvG) : PExps → PEnv → Option (List RV × PEnv)
  | .nil, ρ => some ([], ρ)
  | .cons e r, ρ => (evE G e ρ).bind fun p => (evEs G r p.2).bind fun q => some (p.1 :: q.1, q.2)
def evAnd (G : EvG) : PExps → PEnv → Option (RV × PEnv)
  | .nil, _ => none
  | .cons e .nil, ρ => (evE G e ρ).bind fun p => (peek p.1 p.2).bind fun x => (toBool x).bind fun b => some (.val (.bool b), p.2)
  | .cons e (.cons e' r), ρ => (evE G e ρ).bind fun p => (peek p.1 p.2).bind fun x => (toBool x).bind fun b => if b then evAnd G (.cons e' r) p.2 else some (.val (.bool false), p.2)
def evOr (G : EvG) : PExps → PEnv → Option (RV × PEnv)
  | .nil, _ => none
  | .cons e .nil, ρ => (evE G e ρ).bind fun p => (peek p.1 p.2).bind fun x => (toBool x).bind fun b => some (.val (.bool b), p.2)
  | .cons e (.cons e' r), ρ => (evE G e ρ).bind fun p => (peek p.1 p.2).bind fun x => (toBool x).bind fun b => if b then some (.val (.bool true), p.2) else evOr G (.cons e' r) p.2
def evO (G : EvG) : PExpO → PEnv → Option (Option Int × PEnv)
  | .no, ρ => some (none, ρ)
  | .yes e, ρ => (evE G e ρ).bind fun p => (peek p.1 p.2).bind fun x => (toInt x).bind fun i => some (some i, p.2)
def evC (G : EvG) : PExpO → PEnv → Option (Bool × PEnv)
  | .no, ρ => some (true, ρ)
  | .yes e, ρ => (evE G e ρ).bind fun p => (peek p.1 p.2).bind fun x => (toBool x).bind fun i => some (i, p.2)
def evR (G : EvG) : PSrc → PEnv → Option (List PyData × PEnv)
  | .of _, _ => none
  | .r1 a, ρ => (evE G a ρ).bind fun p => (peek p.1 p.2).bind fun x => (toInt x).bind fun j => if small62 j then some (rangeD 0 j, p.2) else none
  | .r2 a b, ρ => (evE G a ρ).bind fun p => (evE G b p.2).bind fun q => (peek p.1 q.2).bind fun x => (peek q.1 q.2).bind fun y => (toInt x).bind fun i => (toInt y).bind fun j => if small62 i && small62 j then some (rangeD i j, q.2) else none
  | .r3 a b c, ρ => (evE G a ρ).bind fun p => (evE G b p.2).bind fun q => (evE G c q.2).bind fun t => (peek p.1 t.2).bind fun x => (peek q.1 t.2).bind fun y => (peek t.1 t.2).bind fun z => (toInt x).bind fun i => (toInt y).bind fun j => (toInt z).bind fun k =>
      if small62 i && small62 j && decide (k = -1) then some (rangeDn i j, t.2) else none
def evS (G : EvG) : PSrc → PEnv → Option (Items × PEnv)
  | .of e, ρ => (evE G e ρ).bind fun p => match p.1 with
    | .val (.list ds) => some (⟨ds, none⟩, p.2)
    | .val (.tuple ds) => some (⟨ds, none⟩, p.2)
    | .tmp (.list ds) => some (⟨ds, none⟩, p.2)
    | .val (.dict kvs) => match rngOf kvs, frzOf kvs with
      | some (lo, hi), _ => if small62 lo && small62 hi then some (⟨rangeD lo hi, none⟩, p.2) else none
      | none, some ns => some (⟨ns.map .int, none⟩, p.2)
      | none, none => none
    | .loc i => match p.2[i]? with
      | some (.own (.list ds)) => some (⟨ds, some i⟩, p.2)
      | some (.val (.list ds)) => some (⟨ds, some i⟩, p.2)
      | _ => none
    | _ => none
  | .r1 a, ρ => (evE G a ρ).bind fun p => (peek p.1 p.2).bind fun x => (toInt x).bind fun j => if small62 j then some (⟨rangeD 0 j, none⟩, p.2) else none
  | .r2 a b, ρ => (evE G a ρ).bind fun p => (evE G b p.2).bind fun q => (peek p.1 q.2).bind fun x => (peek q.1 q.2).bind fun y => (toInt x).bind fun i => (toInt y).bind fun j => if small62 i && small62 j then some (⟨rangeD i j, none⟩, q.2) else none
  | .r3 a b c, ρ => (evE G a ρ).bind fun p => (evE G b p.2).bind fun q => (evE G c q.2).bind fun t => (peek p.1 t.2).bind fun x => (peek q.1 t.2).bind fun y => (peek t.1 t.2).bind fun z => (toInt x).bind fun i => (toInt y).bind fun j => (toInt z).bind fun k =>
      if small62 i && small62 j && decide (k = -1) then some (⟨rangeDn i j, none⟩, t.2) else none
end
/-- a slot's own list that is walked is a value from there on -/
def given (io : Option Nat) (p : Items × PEnv) : Option (Items × PEnv) := match p.1.at_ with
  | none => some p
  | some i => (settle io (.loc i) p.2).bind fun q => match q.1 with
    | .list ds => if sameL ds p.1.ds then some (⟨p.1.ds, none⟩, q.2) else none
    | _ => none
/-- a turn's end -/
def turnK (io : Option Nat) (kill : List Nat) (q : Flw × PEnv) : Option (Flw × PEnv) := match q.1 with
  | .next => (killS io kill q.2).bind fun ρ' => some (.next, ρ')
  | f => some (f, q.2)
def retOf (G : EvG) (r : RV) (ρ : PEnv) : Option (Flw × PEnv) := match r with
  | .val d => some (.ret d false, ρ)
  | .tmp d => some (.ret d true, ρ)
  | .loc i => if G.io = some i then none else match ρ[i]? with
    | some (.own d) => some (.ret d true, ρ)
    | some (.val d) => some (.ret d false, ρ)
    | _ => none
mutual
def evSt (G : EvG) : PStm → PEnv → Option (Flw × PEnv)
  | .asg i e, ρ => (evE G e ρ).bind fun p => match p.1 with
    | .tmp d => (setO G.io p.2 i d).bind fun ρ' => some (.next, ρ')
    | r => (settle G.io r p.2).bind fun q => (setV G.io q.2 i q.1).bind fun ρ' => some (.next, ρ')
  | .asgT is e, ρ => (evE G e ρ).bind fun p => (settle G.io p.1 p.2).bind fun q => match q.1 with
    | .tuple ds => (setVs G.io q.2 is ds).bind fun ρ' => some (.next, ρ')
    | _ => none
  | .aug i op e, ρ => match ρ[i]? with
    | some (.val (.int n)) => (evE G e ρ).bind fun p => (peek p.1 p.2).bind fun x => (toInt x).bind fun m => match op with
      | .add => (setV G.io p.2 i (.int (n + m))).bind fun ρ' => some (.next, ρ')
      | .sub => (setV G.io p.2 i (.int (n - m))).bind fun ρ' => some (.next, ρ')
      | _ => none
    | _ => none
  | .setI i k e, ρ => (evE G e ρ).bind fun p => (settle G.io p.1 p.2).bind fun q => if notOwn q.2[i]? then none else (evE G k q.2).bind fun r => (peek r.1 r.2).bind fun x => match r.2[i]?, x with
    | some (.own (.list ds)), .int j => (ixN ds.length j).bind fun n => some (.next, r.2.set i (.own (.list (ds.set n q.1))))
    | some (.own (.dict kvs)), x => if isKey x && decide (kvs.length < lim) then some (.next, r.2.set i (.own (.dict (dPut x q.1 kvs)))) else none
    | _, _ => none
  | .ex e, ρ => (evE G e ρ).bind fun p => some (.next, p.2)
  | .ite c a b, ρ => (evE G c ρ).bind fun p => (peek p.1 p.2).bind fun x => (toBool x).bind fun k => if k then evSs G a p.2 else evSs G b p.2
  | .for_ t s b kill, ρ => (evS G s ρ).bind fun p0 => (given G.io p0).bind fun p => (killS G.io kill p.2).bind fun ρ0 => (evFor p.1 (fun d ρ2 => (assignT G.io t d ρ2).bind fun ρ3 => (evSs G b ρ3).bind (turnK G.io kill)) p.1.ds ρ0)
  | .while_ c b kill, ρ => (killS G.io kill ρ).bind fun ρ0 => evWhile (fun ρ => (evE G c ρ).bind fun p => (peek p.1 p.2).bind fun x => (toBool x).bind fun k => some (k, p.2)) (fun ρ => (evSs G b ρ).bind (turnK G.io kill)) G.fuel ρ0
  | .ret e, ρ => (evE G e ρ).bind fun p => retOf G p.1 p.2
  | .retN, ρ => some (.ret .none false, ρ)
  | .pass, ρ => some (.next, ρ)
  | .brk, ρ => some (.brk, ρ)
  | .cont, ρ => some (.cont, ρ)
  | .raise_, _ => none
def evSs (G : EvG) : PStms → PEnv → Option (Flw × PEnv)
  | .nil, ρ => some (.next, ρ)
  | .cons s r, ρ => (evSt G s ρ).bind fun p => match p.1 with
    | .next => evSs G r p.2
    | f => some (f, p.2)
end
/-- the slots at a def's entry -/
def startE (n : Nat) (io : Option Nat) (ds : List PyData) : PEnv :=
  (match io with
    | none => ds.map .val
    | some k => (ds.map .val).set k (.own (ds.getD k .none))) ++ List.replicate (n - ds.length) .un
/-- a def's body at arguments -/
def evDef (G : EvG) (n : Nat) (b : PStms) (ds : List PyData) : Option (PyData × Bool × PyData) :=
  (evSs G b (startE n G.io ds)).bind fun p =>
    let o : Option PyData := match G.io with
      | none => some PyData.none
      | some k => match p.2[k]? with
        | some (.own d) => some d
        | _ => none
    o.bind fun o => match p.1 with
      | .ret d f => some (d, f, o)
      | .next => some (.none, false, o)
      | _ => none
/-! ### a program -/
structure DefI where
  np : Nat
  n : Nat
  io : Option Nat
  fresh : Bool
  body : PStms
structure ProgI where
  defs : List (String × DefI)
  con : List (String × PyData)
  fuel : Nat
  ext : (String → Option FnSem) → String → Option FnSem
/-- a def that looks whether another one raises, by the test that the other one makes -/
def refSem (fs : FnSem) : FnSem := ⟨none, false, fun ds => match ds with
  | [_, _] => (fs.run ds).bind fun r => match r.1 with | .bool b => some (.bool (!b), .none) | _ => none
  | _ => none⟩
def refExt (rows : List (String × String)) (T : String → Option FnSem) (f : String) : Option FnSem := match rows.lookup f with
  | some t => (T t).bind fun fs => if fs.io.isNone && !fs.fresh then some (refSem fs) else none
  | none => none
def semOf (G : EvG) (d : DefI) : FnSem := ⟨d.io, d.fresh, fun ds => if ds.length ≠ d.np then none else (evDef G d.n d.body ds).bind fun r => if d.fresh && !r.2.1 then none else some (r.1, r.2.2)⟩
def tbl (P : ProgI) : Nat → String → Option FnSem
  | 0, _ => none
  | k + 1, f => match P.defs.lookup f with
    | some d => some (semOf ⟨tbl P k, fun x => P.con.lookup x, d.io, P.fuel⟩ d)
    | none => P.ext (tbl P k) f
end Pz
end
section
set_option Elab.async false
set_option linter.all false
set_option maxRecDepth 100000
set_option maxHeartbeats 4000000
namespace Pz
open PySem PySem.Spec PyProof.Rows L2

/-! ### what is read: the contents are values -/
def Seen (K : PySem.W.Frag) (H Hv : Hp) : PyData → V → Prop
  | .list ds, v => ∃ a xs, v = .ref a ∧ H a = some (.lst xs) ∧ Reps K Hv ds xs
  | .dict kvs, v => match rngOf kvs with
    | some p => ∃ a, v = .ref a ∧ H a = some (.rng p.1 p.2)
    | none => match frzOf kvs with
      | some ns => ∃ a, v = .ref a ∧ SqL K H a (ns.map V.int)
      | none => ∃ a ps, v = .ref a ∧ H a = some (.dK ps) ∧ RepKs K Hv kvs ps
  | d, v => Rep K Hv d v
theorem Rep.seen {K : PySem.W.Frag} {H Hv : Hp} (h : Sub Hv H) : ∀ {d : PyData} {v : V}, Rep K Hv d v → Seen K H Hv d v
  | .none, _, r => r
  | .bool _, _, r => r
  | .int _, _, r => r
  | .str _, _, r => r
  | .tuple _, _, r => r
  | .list ds, v, r => by
    simp only [Rep] at r
    obtain ⟨a, xs, e, q, t⟩ := r
    exact ⟨a, xs, e, h _ _ q, t⟩
  | .dict ds, v, r => by
    simp only [Rep] at r
    simp only [Seen]
    cases q : rngOf ds with
    | some p =>
      rw [q] at r
      obtain ⟨a, e, q⟩ := r
      exact ⟨a, e, h _ _ q⟩
    | none =>
      rw [q] at r
      cases q2 : frzOf ds with
      | some p =>
        simp only [q2] at r ⊢
        obtain ⟨a, e, q⟩ := r
        exact ⟨a, e, SqL.mono h q⟩
      | none =>
        simp only [q2] at r ⊢
        obtain ⟨a, xs, e, q, t⟩ := r
        exact ⟨a, xs, e, h _ _ q, t⟩
theorem Seen.dp {K : PySem.W.Frag} {H Hv : Hp} (h : Sub Hv H) : ∀ {d : PyData} {v : V}, noDict d = true → Seen K H Hv d v → Dp K H v d
  | .none, v, n, r => Rep.dp _ v n (Rep.mono h _ _ r)
  | .bool _, v, n, r => Rep.dp _ v n (Rep.mono h _ _ r)
  | .int _, v, n, r => Rep.dp _ v n (Rep.mono h _ _ r)
  | .str _, v, n, r => Rep.dp _ v n (Rep.mono h _ _ r)
  | .tuple _, v, n, r => Rep.dp _ v n (Rep.mono h _ _ r)
  | .list ds, v, n, r => by
    obtain ⟨a, xs, rfl, q, t⟩ := r
    exact .lst (SqL.of q) (Reps.dp ds xs (by simpa only [noDict] using n) (Reps.mono h ds xs t))
  | .dict ds, v, n, r => by simp only [noDict] at n; cases n
theorem Seen.int {K : PySem.W.Frag} {H Hv : Hp} {i : Int} {v : V} (r : Seen K H Hv (.int i) v) : v = .int i := by simpa only [Seen, Rep] using r
theorem Seen.bool {K : PySem.W.Frag} {H Hv : Hp} {i : Bool} {v : V} (r : Seen K H Hv (.bool i) v) : v = .bl i := by simpa only [Seen, Rep] using r
theorem Seen.none {K : PySem.W.Frag} {H Hv : Hp} {v : V} (r : Seen K H Hv .none v) : v = .non := by simpa only [Seen, Rep] using r
theorem Seen.str {K : PySem.W.Frag} {H Hv : Hp} {i : Str} {v : V} (r : Seen K H Hv (.str i) v) : v = .str i := by simpa only [Seen, Rep] using r
theorem Seen.tuple {K : PySem.W.Frag} {H Hv : Hp} {ds : List PyData} {v : V} (r : Seen K H Hv (.tuple ds) v) : ∃ a xs, v = .ref a ∧ SqT K Hv a xs ∧ Reps K Hv ds xs := by simpa only [Seen, Rep] using r
theorem Seen.list {K : PySem.W.Frag} {H Hv : Hp} {ds : List PyData} {v : V} (r : Seen K H Hv (.list ds) v) : ∃ a xs, v = .ref a ∧ H a = some (.lst xs) ∧ Reps K Hv ds xs := r

/-- what is made: an old value; a new tuple; a new list -/
inductive NewV (K : PySem.W.Frag) (H Hv : Hp) : RV → V → Hp → Prop where
  | same {d : PyData} {v : V} (r : Rep K Hv d v) : NewV K H Hv (.val d) v H
  | tup {p : Addr} {ds : List PyData} {xs : List V} (n : H p = none) (r : Reps K Hv ds xs) : NewV K H Hv (.val (.tuple ds)) (.ref p) (upd H p (.tup xs))
  | lst {p : Addr} {ds : List PyData} {xs : List V} (n : H p = none) (r : Reps K Hv ds xs) : NewV K H Hv (.tmp (.list ds)) (.ref p) (upd H p (.lst xs))
  | dct {p : Addr} (n : H p = none) : NewV K H Hv (.tmp (.dict [])) (.ref p) (upd H p (.dK []))
  | rng {p : Addr} {i j : Int} (n : H p = none) : NewV K H Hv (.val (.dict [(.none, .int i), (.none, .int j)])) (.ref p) (upd H p (.rng i j))
theorem NewV.int {K : PySem.W.Frag} {H Hv : Hp} {i : Int} : NewV K H Hv (.val (.int i)) (.int i) H := .same (by simp only [Rep])
theorem NewV.bool {K : PySem.W.Frag} {H Hv : Hp} {i : Bool} : NewV K H Hv (.val (.bool i)) (.bl i) H := .same (by simp only [Rep])

theorem lim_eq : lim = sizeLine := by rw [sizeLine_eq]; rfl

/-! ### operators -/
def bopIs : BOp → Operator → Bool
  | .add, .Add => true
  | .sub, .Sub => true
  | .mul, .Mult => true
  | .fdiv, .FloorDiv => true
  | .mod, .Mod => true
  | .pow, .Pow => true
  | _, _ => false
def RB (K : PySem.W.Frag) (op : BOp) : R2 := fun x y H Q => ∃ Hv dx dy r, Sub Hv H ∧ Seen K H Hv dx x ∧ Seen K H Hv dy y ∧ bopD op dx dy = some r ∧ ∀ v H', NewV K H Hv r v H' → Q v H'

theorem b_and {a b : Bool} (h : (a && b) = true) : a = true ∧ b = true := Bool.and_eq_true_iff.mp h
theorem Reps.rep {K : PySem.W.Frag} {H : Hp} {ds : List PyData} {xs : List V} (r : Reps K H ds xs) : ∀ n : Nat, Reps K H (List.replicate n ds).flatten (List.replicate n xs).flatten
  | 0 => Reps.nil
  | n + 1 => by
    rw [List.replicate_succ, List.replicate_succ, List.flatten_cons, List.flatten_cons]
    exact Reps.append r (Reps.rep r n)
theorem Reps.isNil {K : PySem.W.Frag} {H : Hp} {ds : List PyData} {xs : List V} (r : Reps K H ds xs) (h : (!ds.isEmpty) = true) : xs ≠ [] := by
  rintro rfl
  have := r.length
  cases ds with
  | nil => cases h
  | cons d ds => cases this
section
variable {X : Cx}
theorem small_cmul {i j : Int} (h : (small64 i || small64 j) = true) : CMul i j := by
  rcases Bool.or_eq_true_iff.mp h with h | h
  · obtain ⟨a, b⟩ := b_and h; exact .inl ⟨of_decide_eq_true a, of_decide_eq_true b⟩
  · obtain ⟨a, b⟩ := b_and h; exact .inr ⟨of_decide_eq_true a, of_decide_eq_true b⟩
theorem rule_bop (op : BOp) (o : Operator) (h : bopIs op o = true) : OpR X (binaryOp o) (RB X.K op) := by
  intro pins s σ H x y v u Q I rx ry hr
  obtain ⟨Hv, dx, dy, r, hs, sx, sy, e, q⟩ := hr
  cases op <;> cases o <;> first | (cases h; done) | skip
  · -- add
    cases dx <;> cases dy <;> first | (simp [bopD] at e; done) | skip
    · cases sx.int; cases sy.int
      simp only [bopD, Option.some.injEq] at e; subst e
      exact op_add pins s σ H _ _ v u Q I rx ry ⟨_, _, rfl, rfl, q _ _ .int⟩
    · obtain ⟨a, xs, rfl, h1, r1⟩ := sx.list
      obtain ⟨b, ys, rfl, h2, r2⟩ := sy.list
      simp only [bopD] at e
      split at e
      · rename_i hl
        simp only [Option.some.injEq] at e; subst e
        rw [lim_eq] at hl
        exact op_cat pins s σ H _ _ v u Q I rx ry ⟨a, b, xs, ys, rfl, rfl, h1, h2, by rw [r1.length, r2.length]; exact hl, fun p n => q _ _ (.lst n (Reps.append r1 r2))⟩
      · cases e
    · obtain ⟨a, xs, rfl, h1, r1⟩ := sx.tuple
      obtain ⟨b, ys, rfl, h2, r2⟩ := sy.tuple
      simp only [bopD] at e
      split at e
      · rename_i hl
        simp only [Option.some.injEq] at e; subst e
        rw [lim_eq] at hl
        refine op_catA pins s σ H _ _ v u Q I rx ry ⟨a, b, xs, ys, rfl, rfl, SqT.mono hs h1, SqT.mono hs h2, by rw [r1.length, r2.length]; exact hl, fun z => ?_, fun _ z => ?_, fun _ _ p n => q _ _ (.tup n (Reps.append r1 r2))⟩
        · subst z
          refine q _ _ (.same ?_)
          simp only [Rep]
          exact ⟨b, ys, rfl, h2, by have := Reps.append r1 r2; simpa using this⟩
        · subst z
          refine q _ _ (.same ?_)
          simp only [Rep]
          exact ⟨a, xs, rfl, h1, by have := Reps.append r1 r2; simpa using this⟩
      · cases e
  · -- sub
    cases dx <;> cases dy <;> first | (simp [bopD] at e; done) | skip
    cases sx.int; cases sy.int
    simp only [bopD, Option.some.injEq] at e; subst e
    exact op_sub pins s σ H _ _ v u Q I rx ry ⟨_, _, rfl, rfl, q _ _ .int⟩
  · -- mul
    cases dx <;> cases dy <;> first | (simp [bopD] at e; done) | skip
    · cases sx.int; cases sy.int
      simp only [bopD] at e
      split at e
      · rename_i hl
        simp only [Option.some.injEq] at e; subst e
        exact op_mul pins s σ H _ _ v u Q I rx ry ⟨_, _, rfl, rfl, small_cmul hl, q _ _ .int⟩
      · cases e
    · obtain ⟨a, xs, rfl, h1, r1⟩ := sx.list
      cases sy.int
      simp only [bopD] at e
      split at e
      · rename_i k hl
        simp only [Option.some.injEq] at e; subst e
        obtain ⟨hl, h4⟩ := b_and hl
        obtain ⟨h2, h3⟩ := b_and hl
        have h2 := of_decide_eq_true h2
        have h3 := of_decide_eq_true h3
        have h4 := of_decide_eq_true h4
        refine op_rep pins s σ H _ _ v u Q I rx ry ⟨a, k, xs, rfl, rfl, h1, by omega, by omega, ?_, fun p n => q _ _ (.lst n (Reps.rep r1 _))⟩
        have z : xs.length * k.toNat ≤ 1000 * 1000 := Nat.mul_le_mul (by rw [r1.length]; exact h4) (by omega)
        rw [sizeLine_eq]
        omega
      · cases e
    · obtain ⟨a, xs, rfl, h1, r1⟩ := sx.tuple
      cases sy.int
      simp only [bopD] at e
      split at e
      · rename_i k hl
        simp only [Option.some.injEq] at e; subst e
        obtain ⟨hl, h4⟩ := b_and hl
        obtain ⟨hl, h3⟩ := b_and hl
        obtain ⟨h0, h2⟩ := b_and hl
        exact op_repT pins s σ H _ _ v u Q I rx ry ⟨a, k, xs, rfl, rfl, SqT.mono hs h1, Reps.isNil r1 h0, of_decide_eq_true h2, of_decide_eq_true h3, by rw [r1.length]; exact of_decide_eq_true h4, fun p n => q _ _ (.tup n (Reps.rep r1 _))⟩
      · cases e
  · -- fdiv
    cases dx <;> cases dy <;> first | (simp [bopD] at e; done) | skip
    cases sx.int; cases sy.int
    simp only [bopD] at e
    split at e
    · rename_i hl
      simp only [Option.some.injEq] at e; subst e
      obtain ⟨h1, h2⟩ := b_and hl
      exact op_fdiv pins s σ H _ _ v u Q I rx ry ⟨_, _, rfl, rfl, ⟨of_decide_eq_true h1, of_decide_eq_true h2⟩, q _ _ .int⟩
    · cases e
  · -- mod
    cases dx <;> cases dy <;> first | (simp [bopD] at e; done) | skip
    cases sx.int; cases sy.int
    simp only [bopD] at e
    split at e
    · rename_i hl
      simp only [Option.some.injEq] at e; subst e
      exact op_mod pins s σ H _ _ v u Q I rx ry ⟨_, _, rfl, rfl, hl, q _ _ .int⟩
    · cases e
  · -- pow
    cases dx <;> cases dy <;> first | (simp [bopD] at e; done) | skip
    cases sx.int; cases sy.int
    simp only [bopD] at e
    split at e
    · rename_i hl
      simp only [Option.some.injEq] at e; subst e
      obtain ⟨hl, h3⟩ := b_and hl
      obtain ⟨h1, h2⟩ := b_and hl
      exact op_pow pins s σ H _ _ v u Q I rx ry ⟨_, _, rfl, rfl, ⟨of_decide_eq_true h1, of_decide_eq_true h2, of_decide_eq_true h3⟩, q _ _ .int⟩
    · cases e

/-! ### comparisons -/
def copIs : COp → CmpOp → Bool
  | .eq, .Eq => true
  | .ne, .NotEq => true
  | .lt, .Lt => true
  | .le, .LtE => true
  | .gt, .Gt => true
  | .ge, .GtE => true
  | .isN, .Is => true
  | .notN, .IsNot => true
  | .isin, .In => true
  | .notin, .NotIn => true
  | _, _ => false
def RC (K : PySem.W.Frag) (op : COp) : R2 := fun x y H Q => ∃ Hv dx dy r, Sub Hv H ∧ Seen K H Hv dx x ∧ Seen K H Hv dy y ∧ cmpD op dx dy = some r ∧ Q (.bl r) H
theorem intsOf_eq : ∀ {ds : List PyData} {ns : List Int}, intsOf ds = some ns → ds = ns.map .int
  | [], ns, h => by simp only [intsOf, Option.some.injEq] at h; subst h; rfl
  | d :: ds, ns, h => by
    cases d <;> first | (simp [intsOf] at h; done) | skip
    simp only [intsOf, Option.map_eq_some_iff] at h
    obtain ⟨r, h1, rfl⟩ := h
    rw [intsOf_eq h1]; rfl
theorem boolsOf_eq : ∀ {ds : List PyData} {ns : List Bool}, boolsOf ds = some ns → ds = ns.map .bool
  | [], ns, h => by simp only [boolsOf, Option.some.injEq] at h; subst h; rfl
  | d :: ds, ns, h => by
    cases d <;> first | (simp [boolsOf] at h; done) | skip
    simp only [boolsOf, Option.map_eq_some_iff] at h
    obtain ⟨r, h1, rfl⟩ := h
    rw [boolsOf_eq h1]; rfl
theorem Reps.ints' {K : PySem.W.Frag} {H : Hp} {ds : List PyData} {ns : List Int} {xs : List V} (h : intsOf ds = some ns) (r : Reps K H ds xs) : xs = ns.map V.int := by
  rw [intsOf_eq h] at r
  exact Reps.ints r
theorem Reps.bools' {K : PySem.W.Frag} {H : Hp} {ds : List PyData} {ns : List Bool} {xs : List V} (h : boolsOf ds = some ns) (r : Reps K H ds xs) : xs = ns.map V.bl := by
  rw [boolsOf_eq h] at r
  exact Reps.bools r
theorem shp_lay {d : PyData} (h : shp d = true) : d.canLay0 = true := SeqAt.canLay_of_shaped h
theorem shp_nd {d : PyData} (h : shp d = true) : noDict d = true := noDict_of_lay d (shp_lay h)
theorem rule_cop (hu : X.A.units + 65 < cLine) (op : COp) (o : CmpOp) (h : copIs op o = true) : OpR X (compareOp o) (RC X.K op) := by
  intro pins s σ H x y v u Q I rx ry hr
  obtain ⟨Hv, dx, dy, r, hs, sx, sy, e, q⟩ := hr
  cases op <;> cases o <;> first | (cases h; done) | skip
  · -- eq
    simp only [cmpD] at e
    split at e
    · rename_i hl
      simp only [Option.some.injEq] at e; subst e
      obtain ⟨h1, h2⟩ := b_and hl
      exact op_eqD (by omega) pins s σ H x y v u Q I rx ry ⟨dx, dy, sx.dp hs (shp_nd h1), sy.dp hs (shp_nd h2), h1, h2, q⟩
    · cases e
  · -- ne
    simp only [cmpD] at e
    split at e
    · rename_i hl
      simp only [Option.some.injEq] at e; subst e
      obtain ⟨h1, h2⟩ := b_and hl
      exact op_neD (by omega) pins s σ H x y v u Q I rx ry ⟨dx, dy, sx.dp hs (shp_nd h1), sy.dp hs (shp_nd h2), h1, h2, q⟩
    · cases e
  · -- lt
    cases dx <;> cases dy <;> first | (simp [cmpD] at e; done) | skip
    · cases sx.int; cases sy.int
      simp only [cmpD, Option.some.injEq] at e; subst e
      exact op_lt pins s σ H _ _ v u Q I rx ry ⟨_, _, rfl, rfl, q⟩
    · obtain ⟨a, xs, rfl, h1, r1⟩ := sx.tuple
      obtain ⟨b, ys, rfl, h2, r2⟩ := sy.tuple
      simp only [cmpD] at e
      split at e
      · rename_i ns ms e1 e2
        simp only [Option.some.injEq] at e; subst e
        rw [Reps.ints' e1 r1] at h1
        rw [Reps.ints' e2 r2] at h2
        exact op_ltT (by omega) pins s σ H _ _ v u Q I rx ry ⟨a, b, ns, ms, rfl, rfl, SqT.mono hs h1, SqT.mono hs h2, q⟩
      · cases e
  · cases dx <;> cases dy <;> first | (simp [cmpD] at e; done) | skip
    cases sx.int; cases sy.int
    simp only [cmpD, Option.some.injEq] at e; subst e
    exact op_le pins s σ H _ _ v u Q I rx ry ⟨_, _, rfl, rfl, q⟩
  · cases dx <;> cases dy <;> first | (simp [cmpD] at e; done) | skip
    cases sx.int; cases sy.int
    simp only [cmpD, Option.some.injEq] at e; subst e
    exact op_gt pins s σ H _ _ v u Q I rx ry ⟨_, _, rfl, rfl, q⟩
  · cases dx <;> cases dy <;> first | (simp [cmpD] at e; done) | skip
    cases sx.int; cases sy.int
    simp only [cmpD, Option.some.injEq] at e; subst e
    exact op_ge pins s σ H _ _ v u Q I rx ry ⟨_, _, rfl, rfl, q⟩
  · -- is None
    cases dy <;> first | (simp [cmpD] at e; done) | skip
    cases sy.none
    simp only [cmpD, Option.some.injEq] at e
    refine op_isN pins s σ H _ _ v u Q I rx ry ⟨rfl, ?_⟩
    have z : decide (x = V.non) = r := by
      rw [← e]
      cases dx with
      | none => cases sx.none; rfl
      | bool b => cases sx.bool; rfl
      | int b => cases sx.int; rfl
      | str b => cases sx.str; rfl
      | list b => obtain ⟨a, xs, rfl, _⟩ := sx.list; rfl
      | tuple b => obtain ⟨a, xs, rfl, _⟩ := sx.tuple; rfl
      | dict b =>
        have : ∃ a, x = .ref a := by
          simp only [Seen] at sx
          split at sx
          · obtain ⟨a, h, _⟩ := sx; exact ⟨a, h⟩
          · split at sx
            · obtain ⟨a, h, _⟩ := sx; exact ⟨a, h⟩
            · obtain ⟨a, ps, h, _⟩ := sx; exact ⟨a, h⟩
        obtain ⟨a, rfl⟩ := this
        rfl
    rw [z]; exact q
  · cases dy <;> first | (simp [cmpD] at e; done) | skip
    cases sy.none
    simp only [cmpD, Option.some.injEq] at e
    refine op_notN pins s σ H _ _ v u Q I rx ry ⟨rfl, ?_⟩
    have z : (!decide (x = V.non)) = r := by
      rw [← e]
      cases dx with
      | none => cases sx.none; rfl
      | bool b => cases sx.bool; rfl
      | int b => cases sx.int; rfl
      | str b => cases sx.str; rfl
      | list b => obtain ⟨a, xs, rfl, _⟩ := sx.list; rfl
      | tuple b => obtain ⟨a, xs, rfl, _⟩ := sx.tuple; rfl
      | dict b =>
        have : ∃ a, x = .ref a := by
          simp only [Seen] at sx
          split at sx
          · obtain ⟨a, h, _⟩ := sx; exact ⟨a, h⟩
          · split at sx
            · obtain ⟨a, h, _⟩ := sx; exact ⟨a, h⟩
            · obtain ⟨a, ps, h, _⟩ := sx; exact ⟨a, h⟩
        obtain ⟨a, rfl⟩ := this
        rfl
    rw [z]; exact q
  · -- in
    cases dy <;> first | (simp [cmpD] at e; done) | skip
    · simp only [cmpD] at e
      split at e
      · rename_i hl
        simp only [Option.some.injEq] at e; subst e
        obtain ⟨h1, h2⟩ := b_and hl
        exact op_inD hu pins s σ H x y v u Q I rx ry ⟨dx, _, sx.dp hs (shp_nd h1), sy.dp hs (shp_nd h2), h1, h2, q⟩
      · cases e
    · simp only [cmpD] at e
      split at e
      · rename_i hl
        simp only [Option.some.injEq] at e; subst e
        obtain ⟨h1, h2⟩ := b_and hl
        obtain ⟨as, r1⟩ := Dp.reads I _ x v (sx.dp hs (shp_nd h1)) rx
        obtain ⟨bs, r2⟩ := Dp.reads I _ y u (sy.dp hs (shp_nd h2)) ry
        exact SeqAt.in_tuple_reads r2 r1 (by simpa only [PyData.canLay0] using shp_lay h2) (shp_lay h1) (room_in_shaped h1 hu) ⟨.bl _, H, I, rfl, q⟩
      · cases e
  · cases dy <;> first | (simp [cmpD] at e; done) | skip
    · simp only [cmpD] at e
      split at e
      · rename_i hl
        simp only [Option.some.injEq] at e; subst e
        obtain ⟨h1, h2⟩ := b_and hl
        exact op_notInD hu pins s σ H x y v u Q I rx ry ⟨dx, _, sx.dp hs (shp_nd h1), sy.dp hs (shp_nd h2), h1, h2, q⟩
      · cases e
    · simp only [cmpD] at e
      split at e
      · rename_i hl
        simp only [Option.some.injEq] at e; subst e
        obtain ⟨h1, h2⟩ := b_and hl
        obtain ⟨as, r1⟩ := Dp.reads I _ x v (sx.dp hs (shp_nd h1)) rx
        obtain ⟨bs, r2⟩ := Dp.reads I _ y u (sy.dp hs (shp_nd h2)) ry
        exact SeqAt.notIn_tuple_reads r2 r1 (by simpa only [PyData.canLay0] using shp_lay h2) (shp_lay h1) (room_in_shaped h1 hu) ⟨.bl _, H, I, rfl, q⟩
      · cases e
end
end Pz
end
section
set_option Elab.async false
set_option linter.all false
set_option maxRecDepth 100000
set_option maxHeartbeats 8000000
namespace PySem.SeqAt
open PySem
/-- a tuple's own __lt__, as sorting makes it -/
theorem lt_tups {prog : Program} {w : World} {A : Around} {s : Shared} {E Q : Value → Shared → Prop} {p q : Addr} {us vs : Array Value} {e r : Nat → Bool} (hp : s.heap.IsTuple p us) (hq : s.heap.IsTuple q vs)
    (he : ∀ j (j1 : j < us.size) (j2 : j < vs.size), EqAt A.in1 s us[j] vs[j] (e j)) (hr : ∀ j (j1 : j < us.size) (j2 : j < vs.size), e j = false → RcLt A.in1 s us[j] vs[j] (r j))
    (h : Q (.bool (firstLt e r (decide (us.size < vs.size)) (List.range (min us.size vs.size)))) s) : wpAny (model prog w) A (call (.builtin "tuple.__lt__") [.ref p, .ref q]) Q E s := by
  obtain ⟨⟨c1, d1, t1, s1⟩, o1, k1, n1, e1⟩ := id hp
  obtain ⟨⟨c2, d2, t2, s2⟩, o2, k2, n2, e2⟩ := id hq
  simp only at k1 e1 k2 e2
  subst k1 e1 k2 e2
  exact call_meets F.slot_tuple_lt ⟨_, o1, rfl⟩ F.entry_tuple_lt (F.args_tuple_lt_2 _ _) (tuple_ltAt p q us vs n1 n2 d1 d2 s1 s2 e r) ⟨o1, o2, he, hr, h⟩
end PySem.SeqAt
namespace PySem.W
open PySem PySem.Calls PyProof.Rows PySem.SeqAt
section
variable {prog : Program} {w : World} {A : Around} {E : Value → Shared → Prop} {s : Shared}
theorem one_tups {xs ys : List PyData} {a b : Value} {as bs : List Addr} {Q : Bool → Shared → Prop} (ra : Reads s.heap a (.tuple xs) as) (rb : Reads s.heap b (.tuple ys) bs) (h : alike (.tuple xs) (.tuple ys) = true)
    (hu : A.units + min (PyData.tuple xs).depth (PyData.tuple ys).depth < cLine) (hq : Q (dataLt (.tuple xs) (.tuple ys)) s) : wpAny (model prog w) A (oneLt' true a b) Q E s := by
  have al : alikeAll xs ys = true := by simpa [alike] using h
  cases ra with
  | @tuple l1 o1 us n1 _ as1 h1 h2 h3 h4 =>
    cases rb with
    | @tuple l2 o2 vs n2 _ bs1 k1 k2 k3 k4 =>
      have z1 : us.size = xs.length := by simpa using SeqAt.ReadsAll.length _ _ _ h4
      have z2 : vs.size = ys.length := by simpa using SeqAt.ReadsAll.length _ _ _ k4
      rw [dataLt_tuple, ← firstLt_toks xs ys al, ← z1, ← z2] at hq
      rw [oneLt'_eq]
      simp only [if_true]
      refine wpAny_bind (wpAny_cRoomFor (room_here hu) ?_)
      refine wpAny_bind (wpAny_callSpecialIfBound?_slot (T := "tuple") ⟨_, h1, h2⟩ F.slot_tuple_lt (lt_tups (e := pairEq xs ys) (r := fun j => dataLt (xs.getD j .none) (ys.getD j .none)) ⟨_, h1, h2, _, h3⟩ ⟨_, k1, k2, _, k3⟩ (fun j j1 j2 => ?_) (fun j j1 j2 hj => ?_) ?_))
      · have q := eqAt_alikeAll xs ys A.in1 s us.toList vs.toList _ _ h4 k4 al (room_in hu) j (by simpa using j1) (by simpa using j2)
        simpa using q
      · have q := rcLt_alikeAll xs ys A.in1 s us.toList vs.toList _ _ h4 k4 al (room_in hu) j (by simpa using j1) (by simpa using j2) hj
        simpa using q
      · exact wpAny_truthy_bool hq
def neT : PyData → Bool
  | .tuple (_ :: _) => true
  | _ => false
theorem firsts_tups {M : Model} : ∀ {vs : List Value} {ds : List PyData} {Q : List (Option Value) → Shared → Prop}, EachIs (fun v d => ∃ as, Reads s.heap v d as) vs ds → (∀ d, d ∈ ds → ∃ xs, d = .tuple xs) → (∀ fs : List (Option Value), fs.map (·.isSome) = ds.map neT → Q fs s) → wpAny M A (vs.mapM firstOfTuple') Q E s
  | _, _, Q, .nil, _, hq => by
    rw [List.mapM_nil]
    exact wpAny_pure (hq [] rfl)
  | _, _, Q, .cons (a := v) (as := vs) (b := d) (bs := ds) ⟨as, r⟩ t, ht, hq => by
    obtain ⟨xs, rfl⟩ := ht _ List.mem_cons_self
    rw [List.mapM_cons]
    refine wpAny_bind ?_
    rw [kas_first_eq]
    cases r with
    | @tuple p o us n _ _ h1 h2 h3 h4 =>
      refine wpAny_bind (Looks.here (show Looks M s.heap (typeOf (.ref p)) o.cls from (Looks.ld h1).andThen .now) ?_)
      rw [h2, if_neg (by first | decide | simp)]
      refine wpAny_bind (listItems_at h1 h3 (wpAny_pure ?_))
      refine wpAny_bind (firsts_tups (Q := fun bs s' => wpAny M A (pure (us[0]? :: bs)) Q E s') t (fun d hd => ht d (List.mem_cons_of_mem _ hd)) fun fs hf => wpAny_pure (hq _ ?_))
      rw [List.map_cons, List.map_cons, hf]
      congr 1
      have z : us.size = xs.length := by simpa using SeqAt.ReadsAll.length _ _ _ h4
      cases xs with
      | nil =>
        have : us[0]? = none := by rw [Array.getElem?_eq_none]; rw [z]; exact Nat.le_refl 0
        rw [this]; rfl
      | cons x xs =>
        have : (us[0]?).isSome = true := by
          rw [Array.getElem?_eq_getElem (by rw [z]; exact Nat.succ_pos _)]; rfl
        rw [this]; rfl
/-- tuples that are alike can be sorted, the empty one too -/
theorem sorts_tups {vs : List Value} {ds : List PyData} (e : EachIs (fun v d => ∃ as, Reads s.heap v d as) vs ds) (hal : AllAlike ds) (ht : ∀ d, d ∈ ds → ∃ xs, d = .tuple xs) (hu : ∀ d, d ∈ ds → A.units + d.depth < cLine) : SortsAt prog w A s (dataKind s.heap ds) vs := by
  by_cases hne : ∀ d, d ∈ ds → neT d = true
  · refine SortsAt.data e hal (.inl fun d hd => ?_) hu
    obtain ⟨xs, rfl⟩ := ht d hd
    cases xs with
    | nil => have := hne _ hd; cases this
    | cons x r => exact ⟨x, r, rfl⟩
  · have room : ∀ {d d' : PyData}, d ∈ ds → A.units + min d.depth d'.depth < cLine := fun {d d'} hd => Nat.lt_of_le_of_lt (Nat.add_le_add_left (Nat.min_le_left _ _) _) (hu d hd)
    have nall : ∀ fs : List (Option Value), fs.map (·.isSome) = ds.map neT → (fs.toArray.all fun x => x.isSome) = false := fun fs hf => by
      rw [List.all_toArray]
      rw [Bool.eq_false_iff]
      intro hall
      apply hne
      intro d hd
      have h1 : ∀ b ∈ fs.map (·.isSome), b = true := fun b hb => by
        obtain ⟨x, hx, rfl⟩ := List.mem_map.mp hb
        exact List.all_eq_true.mp hall x hx
      rw [hf] at h1
      exact h1 _ (List.mem_map.mpr ⟨d, hd, rfl⟩)
    refine ⟨fun v hv => ?_, ?_⟩
    · obtain ⟨d, hd, as, r⟩ := e.left v hv
      exact ⟨_, dataKind_some hal hd r⟩
    · cases e with
      | nil => exact absurd (fun d hd => nomatch hd) hne
      | @cons v0 d0 vr dr h0 hr =>
        have e : EachIs (fun v d => ∃ as, Reads s.heap v d as) (v0 :: vr) (d0 :: dr) := .cons h0 hr
        cases hn0 : neT d0 with
        | true =>
          refine ⟨general', ?_, fun h2 E Q hq => ?_⟩
          · intro E x y a b Q ha hb hq
            obtain ⟨d, as, hd, ra, rfl⟩ := dataKind_inv ha
            obtain ⟨d', as', hd', rb, rfl⟩ := dataKind_inv hb
            show wpAny (model prog w) A (oneLt' false x y) Q E s
            refine oneLt_alike (fun z => (nomatch z)) ra rb (hal d hd d' hd') (fun z => ?_) (room hd) hq
            obtain ⟨xs, q⟩ := ht d hd
            rw [q] at z; cases z
          · rw [keyKind'_eq, List.mapM_toArray, map_eq_pure_bind]
            refine wpAny_bind (wpAny_bind (firsts_tups e ht fun fs hf => wpAny_pure ?_))
            rw [if_neg (by rw [nall fs hf]; exact Bool.false_ne_true)]
            have f0 : (fs.toArray[0]?.bind id).isSome = true := by
              cases fs with
              | nil => simp at hf
              | cons f fs =>
                simp only [List.map_cons, List.cons.injEq] at hf
                rw [hn0] at hf
                simpa using hf.1
            rw [if_pos f0]
            exact wpAny_pure hq
        | false =>
          refine ⟨oneType', ?_, fun h2 E Q hq => ?_⟩
          · intro E x y a b Q ha hb hq
            obtain ⟨d, as, hd, ra, rfl⟩ := dataKind_inv ha
            obtain ⟨d', as', hd', rb, rfl⟩ := dataKind_inv hb
            rw [keyLt'_oneType]
            have al := hal d hd d' hd'
            have rm := room (d' := d') hd
            obtain ⟨xs, rfl⟩ := ht d hd
            obtain ⟨ys, rfl⟩ := ht d' hd'
            exact one_tups ra rb al rm hq
          · rw [keyKind'_eq, List.mapM_toArray, map_eq_pure_bind]
            refine wpAny_bind (wpAny_bind (firsts_tups e ht fun fs hf => wpAny_pure ?_))
            rw [if_neg (by rw [nall fs hf]; exact Bool.false_ne_true)]
            have f0 : (fs.toArray[0]?.bind id).isSome = false := by
              cases fs with
              | nil => simp at hf
              | cons f fs =>
                simp only [List.map_cons, List.cons.injEq] at hf
                rw [hn0] at hf
                simpa using hf.1
            rw [if_neg (by rw [f0]; exact Bool.false_ne_true)]
            rw [oneTypeOnly'_eq, List.mapM_toArray, map_eq_pure_bind]
            refine wpAny_bind (wpAny_bind (wpAny_bind (kas_mapM (r := Value.type "tuple") _ (fun v hv Q' hq' => ?_) (wpAny_pure ?_))))
            · obtain ⟨d, hd, as, r⟩ := e.left v hv
              obtain ⟨xs, rfl⟩ := ht d hd
              exact (looks_reads (M := model prog w) r).here hq'
            · have a1 : ((List.map (fun _ => Value.type "tuple") (v0 :: vr)).toArray.all fun x => x == Value.type "tuple") = true := by
                simp only [List.all_toArray, List.all_map, List.all_eq_true]
                intro _ _
                exact beq_self_eq_true _
              have a2 : (List.map (fun _ => Value.type "tuple") (v0 :: vr)).toArray[0]? = some (Value.type "tuple") := by simp
              rw [a2]
              simp only [a1, if_true]
              exact wpAny_pure (wpAny_pure hq)
/-- the items of a tuple, put into a new list -/
theorem gather_tup {p : Addr} {vs : List Value} {Q : List Value → Shared → Prop} (hp : s.heap.IsTuple p vs.toArray) (hz : vs.length ≤ sizeLine)
    (h : Q vs { s with heap := (s.heap.push (seqObj "list" #[] 0)).update s.heap.objs.size (Obj.mapSeq (· ++ vs.toArray)) }) : wpAny (model prog w) A (collect (.ref p)) Q E s := by
  obtain ⟨ob, e1, e2, n, e3⟩ := id hp
  unfold collect
  refine wpAny_bind (wpAny_runValue (codeAny_builtin entry_proto_collect' ?_))
  show wpAny _ _ (do again (Code.builtin "list.__iadd__" ⟨[← newList [], .ref p], []⟩)) _ _ s
  refine wpAny_bind (wpAny_newList (wpAny_pure ⟨Code.quiet_builtin _ (by decide +kernel), codeAny_builtin entry_list_iadd' ?_⟩))
  show wpAny _ _ (Builtin.List.listExtendWith (.ref s.heap.objs.size) (.ref p) (.ref s.heap.objs.size)) _ _ { s with heap := s.heap.push (seqObj "list" #[] 0) }
  unfold Builtin.List.listExtendWith
  have e4 : (s.heap.push (seqObj "list" #[] 0)).get? p = some ob := Heap.get?_push_of_some _ e1
  refine wpAny_bind (wpAny_typeOf (T := "tuple") ⟨ob, e4, e2⟩ ?_)
  have tt : (Value.type "tuple" == Value.type "tuple") = true := by rfl
  rw [if_pos (by rw [tt]; simp)]
  refine wpAny_bind (listItems_at e4 e3 ?_)
  refine wpAny_bind (listItems_at (xs := #[]) (n := 0) (Heap.get?_push_size _ rfl) rfl ?_)
  rw [if_neg (by simp)]
  refine wpAny_bind (listUpdate_at (xs := #[]) (n := 0) (Heap.get?_push_size _ rfl) rfl ?_ (Nat.zero_le _) (by show (#[] ++ vs.toArray).size ≤ sizeLine + 1; simp only [Array.size_append, List.size_toArray, List.length_nil]; omega))
  refine wpAny_pure ?_
  show wpAny (model prog w) A (do
      let ob ← load s.heap.objs.size
      match ob.data with
      | .seq us _ => pure us.toList
      | _ => unsupported "internal:collect") Q E { s with heap := (s.heap.push (seqObj "list" #[] 0)).update s.heap.objs.size (Obj.mapSeq (· ++ vs.toArray)) }
  refine wpAny_bind (wpAny_load (get?_update_seq (Heap.get?_push_size _ rfl) _) ?_)
  show wpAny _ _ (pure ((#[] : Array Value) ++ vs.toArray).toList) Q E _
  rw [show ((#[] : Array Value) ++ vs.toArray).toList = vs by simp]
  exact wpAny_pure h
theorem sorted_tup {κ : PyProof.Rows.KeyKind} {p : Addr} {vs : List Value} {Q : Value → Shared → Prop} (hp : s.heap.IsTuple p vs.toArray) (S : SortsAt prog w A.in1.in1 { s with heap := sortingHeap (copyHeap s.heap vs) (s.heap.objs.size + 1) vs } κ vs) (hz : vs.length ≤ sizeLine)
    (h : Q (.ref (s.heap.objs.size + 1)) { s with heap := sortedAll s.heap vs (sortVals κ false vs vs).toArray }) : wpAny (model prog w) A (call (.builtin "sorted") [.ref p]) Q E s := by
  refine call_function_entry_kw kind_sorted plain_sorted entry_sorted (args_sorted1 _) ?_
  unfold Builtin.«sorted»
  refine wpAny_bind (m := checkCount "sorted" 1 1 _) (wpAny_pure ?_)
  refine wpAny_bind (gather_tup hp hz ?_)
  refine wpAny_bind (wpAny_newList ?_ hz)
  have zz : ((s.heap.push (seqObj "list" #[] 0)).update s.heap.objs.size (Obj.mapSeq (· ++ vs.toArray))).objs.size = s.heap.objs.size + 1 := by
    rw [Heap.size_update, size_push']
  show wpAny _ _ _ _ _ { s with heap := copyHeap s.heap vs }
  rw [zz]
  refine wpAny_bind (wpAny_holding (wpAny_call_entry_kw slot_list_sort ⟨_, copyHeap_at s.heap vs, rfl⟩ entry_list_sort ?main (args_list_sort _)))
  case main =>
    show wpAny (model prog w) A.in1.in1 (Builtin.«list.sort» ⟨[.ref (s.heap.objs.size + 1)], []⟩) _ _ _
    exact list_sort_vals (s := { s with heap := copyHeap s.heap vs }) (copyHeap_at s.heap vs) S hz ⟨_, rfl, wpAny_pure ⟨_, rfl, h⟩⟩
/-- sorted(..) of a list or a tuple whose items read as data that are alike -/
theorem sorted_alike {R : Value → PyData → Prop} {p : Addr} {vs : List Value} {ds : List PyData} {Q : Value → Shared → Prop} (hp : s.heap.IsList p vs.toArray ∨ s.heap.IsTuple p vs.toArray) (e : EachIs R vs ds) (er : EachIs (fun v d => ∃ as, Reads s.heap v d as) vs ds) (hal : AllAlike ds)
    (hk : (∀ d, d ∈ ds → ∃ xs, d = .tuple xs) ∨ ∀ d, d ∈ ds → d ≠ .none ∧ ∀ xs, d ≠ .tuple xs) (hL : ds.length ≤ sizeLine) (hu : ∀ d, d ∈ ds → A.units + 2 + d.depth < cLine)
    (h : ∀ out, out.length = ds.length → EachIs R out (ds.mergeSort (dataLe false id)) → Q (.ref (s.heap.objs.size + 1)) { s with heap := sortedAll s.heap vs (List.toArray out) }) : wpAny (model prog w) A (call (.builtin "sorted") [.ref p]) Q E s := by
  have er2 : EachIs (fun v d => ∃ as, Reads (sortingHeap (copyHeap s.heap vs) (s.heap.objs.size + 1) vs) v d as) vs ds := er.mono fun _ _ ⟨as, r⟩ => ⟨as, PyProof.Rows.Reads.keeps (fun _ _ => sorting_copy_old) r⟩
  have hz : vs.length ≤ sizeLine := by rw [e.length]; exact hL
  have S : SortsAt prog w A.in1.in1 { s with heap := sortingHeap (copyHeap s.heap vs) (s.heap.objs.size + 1) vs } (dataKind (sortingHeap (copyHeap s.heap vs) (s.heap.objs.size + 1) vs) ds) vs := by
    rcases hk with hk | hk
    · exact sorts_tups (s := { s with heap := sortingHeap (copyHeap s.heap vs) (s.heap.objs.size + 1) vs }) er2 hal hk hu
    · exact SortsAt.data (s := { s with heap := sortingHeap (copyHeap s.heap vs) (s.heap.objs.size + 1) vs }) er2 hal (.inr hk) hu
  have mid : ds.map id = ds := List.map_id ds
  have hs := sortVals_data (enc := (id : PyData → PyData)) false e er2 (by rw [mid]; exact hal)
  rw [mid] at hs
  have hq := h _ (by rw [sortVals_length false rfl]; exact e.length) hs
  rcases hp with hp | hp
  · exact sorted_vals hp S hz hq
  · exact sorted_tup hp S hz hq
end
end PySem.W
end
section
set_option Elab.async false
set_option linter.all false
set_option maxRecDepth 100000
set_option maxHeartbeats 4000000
namespace Pz
open PySem PySem.Spec PyProof.Rows L2

/-! ### sorting: the insertion sort is the library's merge sort -/
theorem leD_eq : leD = PySem.W.dataLe false (id : PyData → PyData) := by
  funext a b; rfl
theorem insD_app (a : PyData) : ∀ (l₁ l₂ : List PyData), (∀ b, b ∈ l₁ → leD a b = false) → (∀ c, l₂.head? = some c → leD a c = true) → insD a (l₁ ++ l₂) = l₁ ++ a :: l₂
  | [], [], _, _ => rfl
  | [], c :: l, _, h => by
    show (if leD a c = true then a :: c :: l else c :: insD a l) = _
    rw [if_pos (h c rfl)]; rfl
  | b :: l₁, l₂, h, g => by
    show (if leD a b = true then a :: b :: (l₁ ++ l₂) else b :: insD a (l₁ ++ l₂)) = _
    rw [if_neg (by rw [h b (List.mem_cons_self)]; exact Bool.false_ne_true), insD_app a l₁ l₂ (fun x hx => h x (List.mem_cons_of_mem _ hx)) g]
    rfl
theorem leD_total : PySem.W.TotalLe leD := PySem.W.sortLe_total (listOrd itemOrd) false (fun b : PyData => PySem.W.keyToks b)
theorem isortD_eq (l : List PyData) : isortD l = l.mergeSort leD := by
  have tr : ∀ a b c : PyData, leD a b = true → leD b c = true → leD a c = true := leD_total.trans
  have to : ∀ a b : PyData, (leD a b || leD b a) = true := fun a b => Bool.or_eq_true_iff.mpr (leD_total.total a b)
  induction l with
  | nil => rw [List.mergeSort_nil]; rfl
  | cons a l ih =>
    obtain ⟨l₁, l₂, e1, e2, h⟩ := List.mergeSort_cons tr to a l
    have p := List.pairwise_mergeSort tr to (a :: l)
    rw [e1] at p
    show insD a (isortD l) = _
    rw [ih, e2, e1]
    refine insD_app a l₁ l₂ (fun b hb => by have := h b hb; simpa using this) fun c hc => ?_
    have p2 := (List.pairwise_append.mp p).2.1
    cases l₂ with
    | nil => cases hc
    | cons x r =>
      simp only [List.head?_cons, Option.some.injEq] at hc
      subst hc
      exact (List.pairwise_cons.mp p2).1 _ List.mem_cons_self
theorem isortD_length (l : List PyData) : (isortD l).length = l.length := by rw [isortD_eq, List.length_mergeSort]

/-! ### the built-in functions -/
def bfVal : Bf → Value
  | .len => .builtin "len"
  | .tuple => .type "tuple"
  | .list => .type "list"
  | .sorted => .builtin "sorted"
  | .all => .builtin "all"
  | .any => .builtin "any"
  | .abs => .builtin "abs"
  | .int => .type "int"
  | .sum => .builtin "sum"
  | .max => .builtin "max"
  | .min => .builtin "min"
def bfNm : Bf → String
  | .len => "len"
  | .tuple => "tuple"
  | .list => "list"
  | .sorted => "sorted"
  | .all => "all"
  | .any => "any"
  | .abs => "abs"
  | .int => "int"
  | .sum => "sum"
  | .max => "max"
  | .min => "min"
inductive Seens (K : PySem.W.Frag) (H Hv : Hp) : List PyData → List V → Prop where
  | nil : Seens K H Hv [] []
  | cons {d : PyData} {ds : List PyData} {v : V} {vs : List V} (h : Seen K H Hv d v) (t : Seens K H Hv ds vs) : Seens K H Hv (d :: ds) (v :: vs)
def RF (K : PySem.W.Frag) (f : Bf) : List V → Hp → VK → Prop := fun xs H Q => ∃ Hv ds r, Sub Hv H ∧ Seens K H Hv ds xs ∧ bfD f ds = some r ∧ ∀ v H', NewV K H Hv r v H' → Q v H'
theorem maxI_spec : ∀ (r : List Int) (m k : Int), maxI m r = k → k ∈ m :: r ∧ ∀ y, y ∈ m :: r → y ≤ k
  | [], m, k, h => by
    have h : m = k := h
    subst h
    exact ⟨List.mem_cons_self, fun y hy => by simp at hy; omega⟩
  | i :: r, m, k, h => by
    have h : maxI (if i > m then i else m) r = k := h
    obtain ⟨h1, h2⟩ := maxI_spec r _ k h
    have hm : (if i > m then i else m) ≤ k := h2 _ List.mem_cons_self
    refine ⟨?_, fun y hy => ?_⟩
    · rcases List.mem_cons.mp h1 with e | e
      · by_cases c : i > m
        · rw [if_pos c] at e; rw [e]; simp
        · rw [if_neg c] at e; rw [e]; simp
      · exact List.mem_cons_of_mem _ (List.mem_cons_of_mem _ e)
    · rcases List.mem_cons.mp hy with e | e
      · subst e; split at hm <;> omega
      · rcases List.mem_cons.mp e with e | e
        · subst e; split at hm <;> omega
        · exact h2 y (List.mem_cons_of_mem _ e)
theorem minI_spec : ∀ (r : List Int) (m k : Int), minI m r = k → k ∈ m :: r ∧ ∀ y, y ∈ m :: r → k ≤ y
  | [], m, k, h => by
    have h : m = k := h
    subst h
    exact ⟨List.mem_cons_self, fun y hy => by simp at hy; omega⟩
  | i :: r, m, k, h => by
    have h : minI (if i < m then i else m) r = k := h
    obtain ⟨h1, h2⟩ := minI_spec r _ k h
    have hm : k ≤ (if i < m then i else m) := h2 _ List.mem_cons_self
    refine ⟨?_, fun y hy => ?_⟩
    · rcases List.mem_cons.mp h1 with e | e
      · by_cases c : i < m
        · rw [if_pos c] at e; rw [e]; simp
        · rw [if_neg c] at e; rw [e]; simp
      · exact List.mem_cons_of_mem _ (List.mem_cons_of_mem _ e)
    · rcases List.mem_cons.mp hy with e | e
      · subst e; split at hm <;> omega
      · rcases List.mem_cons.mp e with e | e
        · subst e; split at hm <;> omega
        · exact h2 y (List.mem_cons_of_mem _ e)
theorem Seens.one {K : PySem.W.Frag} {H Hv : Hp} {d : PyData} {xs : List V} (h : Seens K H Hv [d] xs) : ∃ v, xs = [v] ∧ Seen K H Hv d v := by
  cases h with
  | cons h t => cases t; exact ⟨_, rfl, h⟩
theorem Seens.two {K : PySem.W.Frag} {H Hv : Hp} {d e : PyData} {xs : List V} (h : Seens K H Hv [d, e] xs) : ∃ v w, xs = [v, w] ∧ Seen K H Hv d v ∧ Seen K H Hv e w := by
  cases h with
  | cons h t =>
    cases t with
    | cons h2 t => cases t; exact ⟨_, _, rfl, h, h2⟩
section
variable {X : Cx}
mutual
theorem alike_nd : ∀ d : PyData, PySem.W.alike d d = true → noDict d = true
  | .none, _ => rfl
  | .bool _, _ => rfl
  | .int _, _ => rfl
  | .str _, _ => rfl
  | .list ds, h => by
    simp only [noDict]
    exact alike_nds ds (by simpa only [PySem.W.alike] using h)
  | .tuple ds, h => by
    simp only [noDict]
    exact alike_nds ds (by simpa only [PySem.W.alike] using h)
  | .dict _, h => by simp [PySem.W.alike] at h
theorem alike_nds : ∀ ds : List PyData, PySem.W.alikeAll ds ds = true → noDicts ds = true
  | [], _ => rfl
  | d :: ds, h => by
    obtain ⟨h1, h2⟩ := PySem.W.alike_all_cons h
    simp only [noDicts, alike_nd d h1, alike_nds ds h2, Bool.and_self]
end
theorem sort_items {pins : List (Addr × Obj)} {s : Shared} {σ : L2.St} {H Hv : Hp} (I : Inv X pins σ H s) (hs : Sub Hv H) : ∀ {ds : List PyData} {xs : List V} {us : List Value}, (∀ d, d ∈ ds → noDict d = true) → Reps X.K Hv ds xs → Vals xs us →
    PySem.W.EachIs (fun v d => ∃ x, RelV x v ∧ Rep X.K Hv d x) us ds ∧ PySem.W.EachIs (fun v d => ∃ as, Reads s.heap v d as) us ds
  | [], xs, us, _, r, rv => by
    simp only [Reps] at r; subst r
    cases rv
    exact ⟨.nil, .nil⟩
  | d :: ds, xs, us, hn, r, rv => by
    simp only [Reps] at r
    obtain ⟨x, xr, rfl, r1, r2⟩ := r
    cases rv with
    | cons q qr =>
      obtain ⟨i1, i2⟩ := sort_items I hs (fun d hd => hn d (List.mem_cons_of_mem _ hd)) r2 qr
      have dp := Rep.dp d x (hn d List.mem_cons_self) (Rep.mono hs _ _ r1)
      obtain ⟨as, rd⟩ := Dp.reads I d x _ dp q
      exact ⟨.cons ⟨x, q, r1⟩ i1, .cons ⟨as, rd⟩ i2⟩
theorem sort_back {H : Hp} : ∀ {ds : List PyData} {us : List Value}, PySem.W.EachIs (fun v d => ∃ x, RelV x v ∧ Rep X.K H d x) us ds → ∃ xs, Vals xs us ∧ Reps X.K H ds xs
  | _, _, .nil => ⟨[], .nil, Reps.nil⟩
  | _, _, .cons ⟨x, q, r⟩ t => by
    obtain ⟨xs, h1, h2⟩ := sort_back t
    exact ⟨x :: xs, .cons q h1, Reps.cons r h2⟩
theorem rule_sorted {pins : List (Addr × Obj)} {s : Shared} {σ : L2.St} {H Hv : Hp} {a : Addr} {xs : List V} {us : List Value} {ds : List PyData} {Q : VK} (hu : X.A.units + 200 < cLine) (I : Inv X pins σ H s) (hs : Sub Hv H) (hp : s.heap.IsList a us.toArray ∨ s.heap.IsTuple a us.toArray) (rv : Vals xs us) (r : Reps X.K Hv ds xs) (hz : xs.length ≤ sizeLine)
    (ok : sortOk ds = true) (q : ∀ v H', NewV X.K H Hv (.tmp (.list (isortD ds))) v H' → Q v H') : wpAny (model X.prog X.w) X.A (call (.builtin "sorted") [.ref a]) (EP X pins σ Q) X.xe s := by
  obtain ⟨ok1, k3⟩ := b_and ok
  obtain ⟨k1, k2⟩ := b_and ok1
  have hal : PySem.W.AllAlike ds := fun d hd d' hd' => List.all_eq_true.mp (List.all_eq_true.mp k1 d hd) d' hd'
  have hk : (∀ d, d ∈ ds → ∃ zs, d = .tuple zs) ∨ ∀ d, d ∈ ds → d ≠ .none ∧ ∀ zs, d ≠ .tuple zs := by
    rcases Bool.or_eq_true_iff.mp k2 with k | k
    · refine .inl fun d hd => ?_
      have := List.all_eq_true.mp k d hd
      cases d <;> first | (cases this; done) | exact ⟨_, rfl⟩
    · refine .inr fun d hd => ?_
      have := List.all_eq_true.mp k d hd
      cases d <;> first | (cases this; done) | exact ⟨(fun z => nomatch z), fun zs z => nomatch z⟩
  have hlen : ds.length ≤ sizeLine := by rw [← r.length]; exact hz
  obtain ⟨e1, e2⟩ := sort_items I hs (fun d hd => alike_nd d (hal d hd d hd)) r rv
  refine PySem.W.sorted_alike hp e1 e2 hal hk hlen (fun d hd => ?_) fun out ho hr => ?_
  · have := of_decide_eq_true (List.all_eq_true.mp k3 d hd)
    omega
  · obtain ⟨ys, y1, y2⟩ := sort_back hr
    obtain ⟨ep, he⟩ := PyProof.Rows.sortedAll_at s.heap us out.toArray
    have ly : ys.length ≤ sizeLine := by rw [y1.length, ho]; exact hlen
    have n : H (s.heap.objs.size + 1) = none := I.hok.fresh (Nat.le_succ _)
    rw [← leD_eq, ← isortD_eq] at y2
    exact ⟨.ref _, upd H (s.heap.objs.size + 1) (.lst ys), I.laid (t' := s.toks) (fun _ _ => PyProof.Rows.sortedAll_old) (Nat.le_succ _) ⟨ly, out, ep, y1, he⟩, rfl, q _ _ (.lst n y2)⟩
theorem rule_sortedL (hu : X.A.units + 200 < cLine) {pins : List (Addr × Obj)} {s : Shared} {σ : L2.St} {H Hv : Hp} {a : Addr} {xs : List V} {ds : List PyData} {Q : VK} (I : Inv X pins σ H s) (hs : Sub Hv H) (ha : H a = some (.lst xs)) (r : Reps X.K Hv ds xs)
    (ok : sortOk ds = true) (q : ∀ v H', NewV X.K H Hv (.tmp (.list (isortD ds))) v H' → Q v H') : wpAny (model X.prog X.w) X.A (call (.builtin "sorted") [.ref a]) (EP X pins σ Q) X.xe s := by
  obtain ⟨us, rv, pl, hz⟩ := I.list (SqL.of ha)
  exact rule_sorted hu I hs (.inl pl.isList) rv r hz ok q
theorem rule_sortedT (hc : X.calm = true) (hu : X.A.units + 200 < cLine) {pins : List (Addr × Obj)} {s : Shared} {σ : L2.St} {H Hv : Hp} {a : Addr} {xs : List V} {ds : List PyData} {Q : VK} (I : Inv X pins σ H s) (hs : Sub Hv H) (ha : SqT X.K H a xs) (r : Reps X.K Hv ds xs)
    (ok : sortOk ds = true) (q : ∀ v H', NewV X.K H Hv (.tmp (.list (isortD ds))) v H' → Q v H') : wpAny (model X.prog X.w) X.A (call (.builtin "sorted") [.ref a]) (EP X pins σ Q) X.xe s := by
  obtain ⟨us, rv, pl, hz⟩ := I.tuple ha
  exact rule_sorted hu I hs (.inr (show s.heap.IsTuple a us.toArray from pl)) rv r hz ok q
theorem rule_bf (hc : X.calm = true) (hu : X.A.units + 200 < cLine) (f : Bf) : CallR X (bfVal f) (RF X.K f) := by
  intro pins s σ H xs us Q I rx hr
  obtain ⟨Hv, ds, r, hs, sx0, e, q⟩ := hr
  match ds, sx0 with
  | [], _ => cases f <;> simp [bfD] at e
  | [d], s1 =>
    obtain ⟨x, rfl, sx⟩ := s1.one
    clear s1
    cases f
    · -- len
      cases d <;> first | (simp [bfD] at e; done) | skip
      · simp only [bfD, Option.some.injEq] at e; subst e
        obtain ⟨a, ys, rfl, h, t⟩ := sx.list
        rw [← t.length] at q
        exact call_len_seq pins s σ H _ us Q I rx ⟨a, ys, rfl, .inl (SqL.of h), q _ _ .int⟩
      · simp only [bfD, Option.some.injEq] at e; subst e
        obtain ⟨a, ys, rfl, h, t⟩ := sx.tuple
        rw [← t.length] at q
        exact call_len_seq pins s σ H _ us Q I rx ⟨a, ys, rfl, .inr (SqT.mono hs h), q _ _ .int⟩
      · rename_i kvs
        simp only [bfD] at e
        cases e1 : frzOf kvs with
        | none => rw [e1] at e; cases e
        | some ns =>
          rw [e1] at e
          simp only [Option.some.injEq] at e; subst e
          simp only [Seen, e1] at sx
          cases e2 : rngOf kvs with
          | some p =>
            rw [e2] at sx
            have : False := by
              match kvs, e1, e2 with
              | (.none, .none) :: _, _, e2 => simp [rngOf] at e2
            exact this.elim
          | none =>
            simp only [e2] at sx
            obtain ⟨a, rfl, h⟩ := sx
            have := call_len_seq pins s σ H _ us Q I rx ⟨a, _, rfl, .inl h, by rw [List.length_map]; exact q _ _ .int⟩
            exact this
    · -- tuple
      cases d <;> first | (simp [bfD] at e; done) | skip
      · simp only [bfD, Option.some.injEq] at e; subst e
        obtain ⟨a, ys, rfl, h, t⟩ := sx.list
        exact call_tuple_of pins s σ H _ us Q I rx ⟨a, ys, rfl, .inl ⟨SqL.of h, fun l n => q _ _ (.tup n t)⟩⟩
      · simp only [bfD, Option.some.injEq] at e; subst e
        obtain ⟨a, ys, rfl, h, t⟩ := sx.tuple
        exact call_tuple_of pins s σ H _ us Q I rx ⟨a, ys, rfl, .inr ⟨SqT.mono hs h, q _ _ (.same (by simp only [Rep]; exact ⟨a, ys, rfl, h, t⟩))⟩⟩
    · -- list
      cases d <;> first | (simp [bfD] at e; done) | skip
      · simp only [bfD, Option.some.injEq] at e; subst e
        obtain ⟨a, ys, rfl, h, t⟩ := sx.list
        exact call_list_of pins s σ H _ us Q I rx ⟨a, ys, rfl, .inl (SqL.of h), fun l n => q _ _ (.lst n t)⟩
      · simp only [bfD, Option.some.injEq] at e; subst e
        obtain ⟨a, ys, rfl, h, t⟩ := sx.tuple
        exact call_list_of pins s σ H _ us Q I rx ⟨a, ys, rfl, .inr (SqT.mono hs h), fun l n => q _ _ (.lst n t)⟩
    · -- sorted
      cases d <;> first | (simp [bfD] at e; done) | skip
      · simp only [bfD] at e
        split at e
        · rename_i ok
          simp only [Option.some.injEq] at e; subst e
          obtain ⟨a, ys, rfl, h, t⟩ := sx.list
          rw [Vals.ref1 rx]
          exact rule_sortedL hu I hs h t ok q
        · cases e
      · simp only [bfD] at e
        split at e
        · rename_i ok
          simp only [Option.some.injEq] at e; subst e
          obtain ⟨a, ys, rfl, h, t⟩ := sx.tuple
          rw [Vals.ref1 rx]
          exact rule_sortedT hc hu I hs (SqT.mono hs h) t ok q
        · cases e
    · -- all
      cases d <;> first | (simp [bfD] at e; done) | skip
      simp only [bfD, Option.map_eq_some_iff] at e
      obtain ⟨bs, e1, rfl⟩ := e
      obtain ⟨a, ys, rfl, h, t⟩ := sx.list
      rw [Reps.bools' e1 t] at h
      exact cr_all hc pins s σ H _ us Q I rx ⟨a, bs, rfl, SqL.of h, q _ _ .bool⟩
    · -- any
      cases d <;> first | (simp [bfD] at e; done) | skip
      simp only [bfD, Option.map_eq_some_iff] at e
      obtain ⟨bs, e1, rfl⟩ := e
      obtain ⟨a, ys, rfl, h, t⟩ := sx.list
      rw [Reps.bools' e1 t] at h
      exact cr_any hc pins s σ H _ us Q I rx ⟨a, bs, rfl, SqL.of h, q _ _ .bool⟩
    · -- abs
      cases d <;> first | (simp [bfD] at e; done) | skip
      simp only [bfD, Option.some.injEq] at e; subst e
      cases sx.int
      exact call_abs pins s σ H _ us Q I rx ⟨_, rfl, q _ _ .int⟩
    · -- int
      cases d <;> first | (simp [bfD] at e; done) | skip
      · simp only [bfD, Option.some.injEq] at e; subst e
        cases sx.bool
        exact call_int1 pins s σ H _ us Q I rx (.inr ⟨_, rfl, q _ _ .int⟩)
      · simp only [bfD, Option.some.injEq] at e; subst e
        cases sx.int
        exact call_int1 pins s σ H _ us Q I rx (.inl ⟨_, rfl, q _ _ .int⟩)
    · -- sum
      cases d <;> first | (simp [bfD] at e; done) | skip
      simp only [bfD, Option.map_eq_some_iff] at e
      obtain ⟨bs, e1, rfl⟩ := e
      obtain ⟨a, ys, rfl, h, t⟩ := sx.list
      rw [Reps.ints' e1 t] at h
      exact cr_sum hc pins s σ H _ us Q I rx ⟨a, bs, rfl, SqL.of h, q _ _ .int⟩
    · -- max
      cases d <;> first | (simp [bfD] at e; done) | skip
      simp only [bfD] at e
      split at e
      · rename_i i r' e1
        simp only [Option.some.injEq] at e; subst e
        obtain ⟨a, ys, rfl, h, t⟩ := sx.list
        rw [Reps.ints' e1 t] at h
        refine cr_max hc pins s σ H _ us Q I rx ⟨a, _, rfl, SqL.of h, by simp, fun m h1 h2 => ?_⟩
        obtain ⟨g1, g2⟩ := maxI_spec r' i _ rfl
        have : m = maxI i r' := Int.le_antisymm (g2 m h1) (h2 _ g1)
        rw [this]; exact q _ _ .int
      · cases e
    · -- min
      cases d <;> first | (simp [bfD] at e; done) | skip
      simp only [bfD] at e
      split at e
      · rename_i i r' e1
        simp only [Option.some.injEq] at e; subst e
        obtain ⟨a, ys, rfl, h, t⟩ := sx.list
        rw [Reps.ints' e1 t] at h
        refine cr_min hc pins s σ H _ us Q I rx ⟨a, _, rfl, SqL.of h, by simp, fun m h1 h2 => ?_⟩
        obtain ⟨g1, g2⟩ := minI_spec r' i _ rfl
        have : m = minI i r' := Int.le_antisymm (h2 _ g1) (g2 m h1)
        rw [this]; exact q _ _ .int
      · cases e
  | [d, d'], s1 =>
    obtain ⟨x, y, rfl, sx, sy⟩ := s1.two
    clear s1
    cases f <;> first | (simp [bfD] at e; done) | skip
    · cases d <;> cases d' <;> first | (simp [bfD] at e; done) | skip
      simp only [bfD, Option.some.injEq] at e; subst e
      cases sx.int; cases sy.int
      exact call_max2 hc pins s σ H _ us Q I rx ⟨_, _, rfl, q _ _ .int⟩
    · cases d <;> cases d' <;> first | (simp [bfD] at e; done) | skip
      simp only [bfD, Option.some.injEq] at e; subst e
      cases sx.int; cases sy.int
      exact call_min2 hc pins s σ H _ us Q I rx ⟨_, _, rfl, q _ _ .int⟩
  | _ :: _ :: _ :: _, _ => cases f <;> simp [bfD] at e
end
end Pz
end
section
set_option Elab.async false
set_option linter.all false
set_option maxRecDepth 100000
set_option maxHeartbeats 4000000
namespace Pz
open PySem PySem.Spec PyProof.Rows L2

section
variable {C : PCtx} {Z Z' : Addr → Prop} {H H' : Hp} {σ : L2.St} {ρ : PEnv} {i : Nat} {a p : Addr} {d d' : PyData} {v : V} {o : HO}
/-- the heap grows; some of what is new is hidden -/
theorem Cor.growT (c : Cor C Z H σ ρ) (h : Sub H H') (z1 : ∀ b, Z b → Z' b) (z2 : ∀ b, Z' b → Z b ∨ (H b = none ∧ H' b ≠ none)) :
    Cor C Z' H' σ ρ ∧ Sub (vis C Z H σ ρ) (vis C Z' H' σ ρ) := by
  have s : Sub (vis C Z H σ ρ) (vis C Z' H' σ ρ) := hide_mono (fun a o _ e => h a o e) fun a o n e z => by
    rcases z with z | z | z
    · exact n (.inl z)
    · exact n (.inr (.inl z))
    · rcases z2 a z with z | ⟨z, _⟩
      · exact n (.inr (.inr z))
      · rw [z] at e; cases e
  have keep : ∀ a, H a ≠ none → H' a = H a := fun a n => by
    cases e : H a with
    | none => exact absurd e n
    | some o => exact h a o e
  refine ⟨⟨c.len, fun i d e => ?_, fun i d e => ?_, c.inj, c.sep, c.iok, fun a o e n => h _ _ (c.frm a o e n), fun a q => ?_, fun a q => ?_⟩, s⟩
  · obtain ⟨v, h1, h2⟩ := c.val i d e
    exact ⟨v, h1, Rep.mono s _ _ h2⟩
  · obtain ⟨b, h1, h2⟩ := c.own i d e
    exact ⟨b, h1, h2.mono (keep b h2.ne) s⟩
  · rw [keep a (c.live a q)]; exact c.live a q
  · rcases z2 a q with q | ⟨q1, q2⟩
    · obtain ⟨y1, y2, y3, y4⟩ := c.zs a q
      exact ⟨y1, y2, y3, by rw [keep a y4]; exact y4⟩
    · obtain ⟨f1, f2⟩ := c.fresh q1
      exact ⟨fun z => f1 (.inr (.inl z)), fun z => f1 (.inl z), f2, q2⟩
/-- .. and what a slot owns is changed -/
theorem Cor.growM (c : Cor C Z H σ ρ) (hi : ρ[i]? = some (.own d)) (ha : σ[i]? = some (some (.ref a))) (h : ∀ b o, b ≠ a → H b = some o → H' b = some o) (z1 : ∀ b, Z b → Z' b) (z2 : ∀ b, Z' b → Z b ∨ (H b = none ∧ H' b ≠ none))
    (t : ∀ Hh : Hp, hide H' (Hid C σ ρ Z') = Hh → PTop C.K H' Hh a d') :
    Cor C Z' H' σ (ρ.set i (.own d')) ∧ Sub (vis C Z H σ ρ) (vis C Z' H' σ (ρ.set i (.own d'))) := by
  have oa : ∀ b, OA σ (ρ.set i (.own d')) b ↔ OA σ ρ b := fun b => by
    constructor
    · rintro ⟨j, e, h1, h2⟩
      rcases getElem?_set_cases h1 with ⟨rfl, _, _⟩ | ⟨_, h1⟩
      · exact ⟨i, d, hi, h2⟩
      · exact ⟨j, e, h1, h2⟩
    · rintro ⟨j, e, h1, h2⟩
      by_cases q : i = j
      · subst q; exact ⟨i, d', List.getElem?_set_self (lt_of_get hi), h2⟩
      · exact ⟨j, e, by rw [List.getElem?_set_ne q]; exact h1, h2⟩
  have hid : Hid C σ (ρ.set i (.own d')) Z' = Hid C σ ρ Z' := by
    funext b
    exact propext ⟨fun q => q.elim .inl fun q => q.elim (fun q => .inr (.inl ((oa b).mp q))) fun q => .inr (.inr q), fun q => q.elim .inl fun q => q.elim (fun q => .inr (.inl ((oa b).mpr q))) fun q => .inr (.inr q)⟩
  have own : OA σ ρ a := ⟨i, d, hi, ha⟩
  have nz : ∀ b, Z b → b ≠ a := fun b q e => (c.zs b q).1 (e ▸ own)
  obtain ⟨a', ha', ta⟩ := c.own i d hi
  rw [ha] at ha'; cases ha'
  have na : H a ≠ none := ta.ne
  have s : Sub (vis C Z H σ ρ) (vis C Z' H' σ (ρ.set i (.own d'))) := by
    show Sub _ (hide H' (Hid C σ (ρ.set i (.own d')) Z'))
    rw [hid]
    refine hide_mono (fun b u m e => h b u (fun (q : b = a) => m (.inr (.inl (q ▸ own)))) e) fun b u m e z => ?_
    rcases z with z | z | z
    · exact m (.inl z)
    · exact m (.inr (.inl z))
    · rcases z2 b z with z | ⟨z, _⟩
      · exact m (.inr (.inr z))
      · rw [z] at e; cases e
  have t' : PTop C.K H' (vis C Z' H' σ (ρ.set i (.own d'))) a d' := t _ (by show _ = hide H' (Hid C σ (ρ.set i (.own d')) Z'); rw [hid])
  have keep : ∀ b, b ≠ a → H b ≠ none → H' b = H b := fun b nb n => by
    cases e : H b with
    | none => exact absurd e n
    | some o => exact h b o nb e
  refine ⟨⟨by rw [List.length_set]; exact c.len, fun j e h => ?_, fun j e h => ?_, fun j k e f b h1 h2 h3 h4 => ?_, fun j e b h1 h2 => ?_, fun j b h => ?_, fun b u e m => ?_, fun b q => ?_, fun b q => ?_⟩, s⟩
  · rcases getElem?_set_cases h with ⟨_, q, _⟩ | ⟨_, h⟩
    · cases q
    · obtain ⟨v, h1, h2⟩ := c.val j e h
      exact ⟨v, h1, Rep.mono s _ _ h2⟩
  · rcases getElem?_set_cases h with ⟨rfl, q, _⟩ | ⟨nj, hj⟩
    · cases q
      exact ⟨a, ha, t'⟩
    · obtain ⟨b, h1, h2⟩ := c.own j e hj
      have nb : b ≠ a := fun q => nj (c.inj i j d e a hi hj ha (by rw [← q]; exact h1))
      exact ⟨b, h1, h2.mono (keep b nb h2.ne) s⟩
  · have get : ∀ (j : Nat) (e : PyData), (ρ.set i (.own d'))[j]? = some (.own e) → ∃ e', ρ[j]? = some (.own e') := fun j e h => by
      rcases getElem?_set_cases h with ⟨rfl, _, _⟩ | ⟨_, h⟩
      · exact ⟨d, hi⟩
      · exact ⟨e, h⟩
    obtain ⟨e', h1⟩ := get j e h1
    obtain ⟨f', h2⟩ := get k f h2
    exact c.inj j k e' f' b h1 h2 h3 h4
  · rcases getElem?_set_cases h1 with ⟨rfl, _, _⟩ | ⟨_, h1⟩
    · exact c.sep i d b hi h2
    · exact c.sep j e b h1 h2
  · obtain ⟨⟨e, h1⟩, h2, h3⟩ := c.iok j b h
    refine ⟨?_, h2, h3⟩
    by_cases q : i = j
    · subst q; exact ⟨d', List.getElem?_set_self (lt_of_get hi)⟩
    · exact ⟨e, by rw [List.getElem?_set_ne q]; exact h1⟩
  · by_cases q : b = a
    · subst q
      rcases c.sep i d b hi ha with z | ⟨_, z⟩
      · exact absurd z (m i)
      · rw [z] at e; cases e
    · exact h b u q (c.frm b u e m)
  · by_cases z : b = a
    · subst z; exact t'.ne
    · rw [keep b z (c.live b q)]; exact c.live b q
  · rcases z2 b q with q | ⟨q1, q2⟩
    · obtain ⟨y1, y2, y3, y4⟩ := c.zs b q
      refine ⟨fun z => y1 ((oa b).mp z), y2, y3, ?_⟩
      rw [keep b (nz b q) y4]; exact y4
    · obtain ⟨f1, f2⟩ := c.fresh q1
      exact ⟨fun z => f1 (.inr (.inl ((oa b).mp z))), fun z => f1 (.inl z), f2, q2⟩
end

/-! ### what an expression leaves -/
def PostE (C : PCtx) (Z : Addr → Prop) (σ : L2.St) (H : Hp) (ρ : PEnv) (r : RV) (ρ' : PEnv) (v : V) (H' : Hp) : Prop :=
  match r with
  | .val d => Cor C Z H' σ ρ' ∧ Sub (vis C Z H σ ρ) (vis C Z H' σ ρ') ∧ Rep C.K (vis C Z H' σ ρ') d v
  | .loc i => Cor C Z H' σ ρ' ∧ Sub (vis C Z H σ ρ) (vis C Z H' σ ρ') ∧ ∃ a, v = .ref a ∧ σ[i]? = some (some (.ref a))
  | .tmp d => ∃ p, v = .ref p ∧ ¬ Z p ∧ Cor C (fun a => Z a ∨ a = p) H' σ ρ' ∧ Sub (vis C Z H σ ρ) (vis C (fun a => Z a ∨ a = p) H' σ ρ') ∧ PTop C.K H' (vis C (fun a => Z a ∨ a = p) H' σ ρ') p d
/-- a value that is under way -/
def RVok (C : PCtx) (Z : Addr → Prop) (H : Hp) (σ : L2.St) (ρ : PEnv) (r : RV) (v : V) : Prop :=
  match r with
  | .val d => Rep C.K (vis C Z H σ ρ) d v
  | .loc i => ∃ a, v = .ref a ∧ σ[i]? = some (some (.ref a))
  | .tmp d => Rep C.K (vis C Z H σ ρ) d v
section
variable {C : PCtx} {Z Z' : Addr → Prop} {H H' H'' : Hp} {σ : L2.St} {ρ ρ' ρ'' : PEnv} {r : RV} {d : PyData} {v : V} {io : Option Nat}
theorem PostE.shown (h : PostE C Z σ H ρ r ρ' v H') : Cor C Z H' σ ρ' ∧ Sub (vis C Z H σ ρ) (vis C Z H' σ ρ') ∧ RVok C Z H' σ ρ' r v := by
  cases r with
  | val d => exact h
  | loc i => exact h
  | tmp d =>
    obtain ⟨p, rfl, nz, c, s, t⟩ := h
    obtain ⟨c', s'⟩ := c.show_ (Z' := Z) fun a z => .inl z
    refine ⟨c', s.trans s', t.rep s' fun o e => ?_⟩
    obtain ⟨y1, y2, y3, y4⟩ := c.zs p (.inr rfl)
    exact hide_of (fun z => z.elim y2 fun z => z.elim y1 nz) e
theorem RVok.mono (s : Sub (vis C Z H σ ρ) (vis C Z' H' σ ρ')) (h : RVok C Z H σ ρ r v) : RVok C Z' H' σ ρ' r v := by
  cases r with
  | val d => exact Rep.mono s _ _ h
  | loc i => exact h
  | tmp d => exact Rep.mono s _ _ h
theorem visSub : Sub (vis C Z H σ ρ) H := hide_sub
/-- PTop is seen -/
theorem PTop.seen {K : PySem.W.Frag} {H Hh : Hp} {a : Addr} : ∀ {d : PyData}, PTop K H Hh a d → Seen K H Hh d (.ref a)
  | .list ds, ⟨xs, q, r⟩ => ⟨a, xs, rfl, q, r⟩
  | .dict ds, ⟨xs, q, r⟩ => by
    simp only [Seen, RepKs.rng r, RepKs.frz r]
    exact ⟨a, xs, rfl, q, r⟩
theorem RVok.peek (c : Cor C Z H σ ρ) (h : RVok C Z H σ ρ r v) (e : peek r ρ = some d) : Seen C.K H (vis C Z H σ ρ) d v := by
  cases r with
  | val d' =>
    simp only [Pz.peek, Option.some.injEq] at e; subst e
    exact Rep.seen visSub h
  | tmp d' =>
    simp only [Pz.peek, Option.some.injEq] at e; subst e
    exact Rep.seen visSub h
  | loc i =>
    obtain ⟨a, rfl, ha⟩ := h
    simp only [Pz.peek] at e
    split at e
    · rename_i d' hd
      simp only [Option.some.injEq] at e; subst e
      obtain ⟨b, hb, t⟩ := c.own i d' hd
      rw [ha] at hb; cases hb
      exact t.seen
    · rename_i ds hd
      simp only [Option.some.injEq] at e; subst e
      obtain ⟨w, hw, t⟩ := c.val i _ hd
      rw [ha] at hw; cases hw
      exact Rep.seen visSub t
    · cases e
theorem io_ne {C : PCtx} {io : Option Nat} {i : Nat} (hio : io = C.io.map (·.1)) (h : ¬ io = some i) : ∀ b, C.io ≠ some (i, b) := fun b e => by
  rw [e] at hio; exact h hio
theorem RVok.settle (hio : io = C.io.map (·.1)) (c : Cor C Z H σ ρ) (h : RVok C Z H σ ρ r v) (e : settle io r ρ = some (d, ρ')) : Cor C Z H σ ρ' ∧ Sub (vis C Z H σ ρ) (vis C Z H σ ρ') ∧ Rep C.K (vis C Z H σ ρ') d v := by
  cases r with
  | val d' =>
    simp only [Pz.settle, Option.some.injEq, Prod.mk.injEq] at e
    obtain ⟨rfl, rfl⟩ := e
    exact ⟨c, Sub.refl, h⟩
  | tmp d' =>
    simp only [Pz.settle, Option.some.injEq, Prod.mk.injEq] at e
    obtain ⟨rfl, rfl⟩ := e
    exact ⟨c, Sub.refl, h⟩
  | loc i =>
    obtain ⟨a, rfl, ha⟩ := h
    simp only [Pz.settle] at e
    split at e
    · rename_i d' hd
      split at e
      · cases e
      · rename_i hn
        simp only [Option.some.injEq, Prod.mk.injEq] at e
        obtain ⟨rfl, rfl⟩ := e
        obtain ⟨c', s'⟩ := c.demote hd (io_ne hio hn)
        obtain ⟨w, hw, t⟩ := c'.val i d' (List.getElem?_set_self (lt_of_get hd))
        rw [ha] at hw; cases hw
        exact ⟨c', s', t⟩
    · rename_i ds hd
      simp only [Option.some.injEq, Prod.mk.injEq] at e
      obtain ⟨rfl, rfl⟩ := e
      obtain ⟨w, hw, t⟩ := c.val i _ hd
      rw [ha] at hw; cases hw
      exact ⟨c, Sub.refl, t⟩
    · cases e
inductive RVsok (C : PCtx) (Z : Addr → Prop) (H : Hp) (σ : L2.St) (ρ : PEnv) : List RV → List V → Prop where
  | nil : RVsok C Z H σ ρ [] []
  | cons {r : RV} {rs : List RV} {v : V} {vs : List V} (h : RVok C Z H σ ρ r v) (t : RVsok C Z H σ ρ rs vs) : RVsok C Z H σ ρ (r :: rs) (v :: vs)
theorem RVsok.mono (s : Sub (vis C Z H σ ρ) (vis C Z' H' σ ρ')) {rs : List RV} {vs : List V} (h : RVsok C Z H σ ρ rs vs) : RVsok C Z' H' σ ρ' rs vs := by
  induction h with
  | nil => exact .nil
  | cons h t ih => exact .cons (h.mono s) ih
theorem RVsok.peeks (c : Cor C Z H σ ρ) : ∀ {rs : List RV} {vs : List V} {ds : List PyData}, RVsok C Z H σ ρ rs vs → peeks rs ρ = some ds → Seens C.K H (vis C Z H σ ρ) ds vs
  | _, _, ds, .nil, e => by
    simp only [Pz.peeks, Option.some.injEq] at e; subst e; exact .nil
  | _, _, ds, .cons h t, e => by
    simp only [Pz.peeks, Option.bind_eq_some_iff] at e
    obtain ⟨d, e1, ds', e2, e3⟩ := e
    simp only [Option.some.injEq] at e3; subst e3
    exact .cons (h.peek c e1) (RVsok.peeks c t e2)
theorem RVsok.settles (hio : io = C.io.map (·.1)) : ∀ {rs : List RV} {vs : List V} {ds : List PyData} {ρ ρ' : PEnv}, Cor C Z H σ ρ → RVsok C Z H σ ρ rs vs → settles io rs ρ = some (ds, ρ') → Cor C Z H σ ρ' ∧ Sub (vis C Z H σ ρ) (vis C Z H σ ρ') ∧ Reps C.K (vis C Z H σ ρ') ds vs
  | _, _, ds, ρ, ρ', c, .nil, e => by
    simp only [Pz.settles, Option.some.injEq, Prod.mk.injEq] at e
    obtain ⟨rfl, rfl⟩ := e
    exact ⟨c, Sub.refl, Reps.nil⟩
  | _, _, ds, ρ, ρ', c, .cons h t, e => by
    simp only [Pz.settles, Option.bind_eq_some_iff] at e
    obtain ⟨⟨d, ρ1⟩, e1, ⟨ds', ρ2⟩, e2, e3⟩ := e
    simp only [Option.some.injEq, Prod.mk.injEq] at e3
    obtain ⟨rfl, rfl⟩ := e3
    obtain ⟨c1, s1, r1⟩ := h.settle hio c e1
    obtain ⟨c2, s2, r2⟩ := RVsok.settles hio c1 (t.mono s1) e2
    exact ⟨c2, s1.trans s2, Reps.cons (Rep.mono s2 _ _ r1) r2⟩
/-- what a rule makes is what an expression leaves -/
theorem NewV.post (c : Cor C Z H σ ρ) (h : NewV C.K H (vis C Z H σ ρ) r v H') : PostE C Z σ H ρ r ρ v H' := by
  cases h with
  | same q => exact ⟨c, Sub.refl, q⟩
  | @tup p ds xs n q =>
    obtain ⟨c', s⟩ := c.grow (sub_upd (o := .tup xs) n)
    obtain ⟨f1, f2⟩ := c.fresh n
    refine ⟨c', s, ?_⟩
    simp only [Rep]
    exact ⟨p, xs, rfl, SqT.of (hide_of f1 upd_same), Reps.mono s _ _ q⟩
  | @lst p ds xs n q =>
    obtain ⟨c', s⟩ := c.temp n (.lst xs)
    obtain ⟨f1, f2⟩ := c.fresh n
    exact ⟨p, rfl, fun z => f1 (.inr (.inr z)), c', s, xs, upd_same, Reps.mono s _ _ q⟩
  | @dct p n =>
    obtain ⟨c', s⟩ := c.temp n (.dK [])
    obtain ⟨f1, f2⟩ := c.fresh n
    exact ⟨p, rfl, fun z => f1 (.inr (.inr z)), c', s, [], upd_same, by simp only [RepKs]⟩
  | @rng p i j n =>
    obtain ⟨c', s⟩ := c.grow (sub_upd (o := .rng i j) n)
    obtain ⟨f1, f2⟩ := c.fresh n
    refine ⟨c', s, ?_⟩
    simp only [Rep, rngOf]
    exact ⟨p, rfl, hide_of f1 upd_same⟩
theorem PostE.trans {ρ1 : PEnv} (s : Sub (vis C Z H σ ρ) (vis C Z H' σ ρ')) (h : PostE C Z σ H' ρ' r ρ1 v H'') : PostE C Z σ H ρ r ρ1 v H'' := by
  cases r with
  | val d => exact ⟨h.1, s.trans h.2.1, h.2.2⟩
  | loc i => exact ⟨h.1, s.trans h.2.1, h.2.2⟩
  | tmp d =>
    obtain ⟨p, e, nz, c, s', t⟩ := h
    exact ⟨p, e, nz, c, s.trans s', t⟩
theorem PostE.bool {b : Bool} (h : PostE C Z σ H ρ (.val (.bool b)) ρ' v H') : v = .bl b := by
  obtain ⟨_, _, r⟩ := h
  simpa only [Rep] using r
end
end Pz
end
section
set_option Elab.async false
set_option linter.all false
set_option maxRecDepth 100000
set_option maxHeartbeats 4000000
namespace Pz
open PySem PySem.Spec PyProof.Rows L2

/-! ### items by place or key -/
theorem Reps.at {K : PySem.W.Frag} {H : Hp} {ds : List PyData} {xs : List V} {i : Int} {d : PyData} (r : Reps K H ds xs) (h : atI ds i = some d) : ∃ x, atI xs i = some x ∧ Rep K H d x := by
  unfold atI at h ⊢
  obtain ⟨j, h1, h2⟩ := Option.bind_eq_some_iff.mp h
  obtain ⟨x, h3, h4⟩ := r.get h2
  refine ⟨x, ?_, h4⟩
  rw [r.length, h1]
  exact h3
theorem atI_map {α β : Type} (f : α → β) (xs : List α) (i : Int) : atI (xs.map f) i = (atI xs i).map f := by
  unfold atI
  rw [List.length_map]
  cases ixN xs.length i with
  | none => rfl
  | some j => simp [List.getElem?_map]
def keyV : PyData → Option Key
  | .int i => some (.inl i)
  | .str s => some (.inr s)
  | _ => none
theorem keyV_some {k : PyData} (h : isKey k = true) : ∃ kk, keyV k = some kk := by
  cases k <;> first | (cases h; done) | exact ⟨_, rfl⟩
theorem keyV_is {k : PyData} {kk : Key} (h : keyV k = some kk) : KeyIs k kk := by
  cases k <;> simp only [keyV, Option.some.injEq] at h <;> first | (cases h; done) | (subst h; rfl)
theorem KeyIs.keyV {k : PyData} {kk : Key} (h : KeyIs k kk) : keyV k = some kk := by
  cases k <;> first | exact h.elim | (cases h; rfl)
theorem keyEq_dec {q k : PyData} {qq kk : Key} (h1 : KeyIs q qq) (h2 : KeyIs k kk) : keyEq q k = decide (qq = kk) := by
  cases q <;> first | exact h1.elim | skip
  · cases k <;> first | exact h2.elim | skip
    · cases h1; cases h2; simp [keyEq]
    · cases h1; cases h2; simp [keyEq]
  · cases k <;> first | exact h2.elim | skip
    · cases h1; cases h2; simp [keyEq]
    · cases h1; cases h2; simp [keyEq]
theorem RepKs.look {K : PySem.W.Frag} {H : Hp} {k : PyData} {kk : Key} (hk : KeyIs k kk) : ∀ {kvs : List (PyData × PyData)} {ps : List (Key × V)}, RepKs K H kvs ps →
    match dLook k kvs with
    | some d => ∃ v, valV ps kk = some v ∧ Rep K H d v
    | none => valV ps kk = none
  | [], ps, r => by
    simp only [RepKs] at r; subst r; rfl
  | (q, d) :: kvs, ps, r => by
    simp only [RepKs] at r
    obtain ⟨qq, x, r', rfl, c, p, t⟩ := r
    have ih := RepKs.look hk t
    unfold dLook valV
    rw [List.find?_cons, keyEq_dec c hk]
    by_cases e : qq = kk
    · rw [if_pos (decide_eq_true e)]
      simp only [e, decide_true, Option.map_some]
      exact ⟨x, rfl, p⟩
    · rw [if_neg (by simpa using e)]
      simp only [e, decide_false]
      exact ih
theorem RepKs.any {K : PySem.W.Frag} {H : Hp} {k : PyData} {kk : Key} (hk : KeyIs k kk) : ∀ {kvs : List (PyData × PyData)} {ps : List (Key × V)}, RepKs K H kvs ps → (kvs.any fun p => keyEq p.1 k) = ps.any fun p => decide (p.1 = kk)
  | [], ps, r => by simp only [RepKs] at r; subst r; rfl
  | (q, d) :: kvs, ps, r => by
    simp only [RepKs] at r
    obtain ⟨qq, x, r', rfl, c, p, t⟩ := r
    simp only [List.any_cons, keyEq_dec c hk, RepKs.any hk t]
theorem RepKs.map {K : PySem.W.Frag} {H : Hp} {k : PyData} {kk : Key} {d : PyData} {v : V} (hk : KeyIs k kk) (hr : Rep K H d v) : ∀ {kvs : List (PyData × PyData)} {ps : List (Key × V)}, RepKs K H kvs ps → RepKs K H (kvs.map fun p => if keyEq p.1 k then (p.1, d) else p) (ps.map fun p => if p.1 = kk then (p.1, v) else p)
  | [], ps, r => by simp only [RepKs] at r; subst r; simp only [List.map_nil, RepKs]
  | (q, e) :: kvs, ps, r => by
    simp only [RepKs] at r
    obtain ⟨qq, x, r', rfl, c, p, t⟩ := r
    simp only [List.map_cons, keyEq_dec c hk]
    by_cases h : qq = kk
    · rw [if_pos (decide_eq_true h), if_pos h]
      simp only [RepKs]
      exact ⟨_, _, _, rfl, c, hr, RepKs.map hk hr t⟩
    · rw [if_neg (by simpa using h), if_neg h]
      simp only [RepKs]
      exact ⟨_, _, _, rfl, c, p, RepKs.map hk hr t⟩
theorem RepKs.snoc {K : PySem.W.Frag} {H : Hp} {k : PyData} {kk : Key} {d : PyData} {v : V} (hk : KeyIs k kk) (hr : Rep K H d v) : ∀ {kvs : List (PyData × PyData)} {ps : List (Key × V)}, RepKs K H kvs ps → RepKs K H (kvs ++ [(k, d)]) (ps ++ [(kk, v)])
  | [], ps, r => by
    simp only [RepKs] at r; subst r
    simp only [List.nil_append, RepKs]
    exact ⟨_, _, _, rfl, hk, hr, rfl⟩
  | (q, e) :: kvs, ps, r => by
    simp only [RepKs] at r
    obtain ⟨qq, x, r', rfl, c, p, t⟩ := r
    simp only [List.cons_append, RepKs]
    exact ⟨_, _, _, rfl, c, p, RepKs.snoc hk hr t⟩
theorem RepKs.put {K : PySem.W.Frag} {H : Hp} {k : PyData} {kk : Key} {d : PyData} {v : V} (hk : KeyIs k kk) (hr : Rep K H d v) {kvs : List (PyData × PyData)} {ps : List (Key × V)} (r : RepKs K H kvs ps) : RepKs K H (dPut k d kvs) (putK ps kk v) := by
  unfold dPut putK
  rw [RepKs.any hk r]
  split
  · exact RepKs.map hk hr r
  · exact RepKs.snoc hk hr r
theorem RepKs.length {K : PySem.W.Frag} {H : Hp} : ∀ {kvs : List (PyData × PyData)} {ps : List (Key × V)}, RepKs K H kvs ps → ps.length = kvs.length
  | [], ps, r => by simp only [RepKs] at r; subst r; rfl
  | (q, e) :: kvs, ps, r => by
    simp only [RepKs] at r
    obtain ⟨qq, x, r', rfl, c, p, t⟩ := r
    simp [RepKs.length t]
theorem Seen.key {K : PySem.W.Frag} {H Hv : Hp} {k : PyData} {y : V} (h : isKey k = true) (s : Seen K H Hv k y) : ∃ kk, KeyIs k kk ∧ y = kV kk := by
  cases k <;> first | (cases h; done) | skip
  · exact ⟨_, rfl, s.int⟩
  · exact ⟨_, rfl, s.str⟩
theorem Rep.key {K : PySem.W.Frag} {H : Hp} {k : PyData} {y : V} (h : isKey k = true) (s : Rep K H k y) : ∃ kk, KeyIs k kk ∧ y = kV kk := by
  cases k <;> first | (cases h; done) | skip
  · simp only [Rep] at s
    exact ⟨.inl _, rfl, s⟩
  · simp only [Rep] at s
    exact ⟨.inr _, rfl, s⟩
theorem intsK_look {k : PyData} (hk : isKey k = true) : ∀ {rest : List (PyData × PyData)} {ns : List Int}, intsK rest = some ns → dLook k rest = none
  | [], _, _ => rfl
  | (q, d) :: rest, ns, h => by
    cases q <;> first | (simp [intsK] at h; done) | skip
    cases d <;> first | (simp [intsK] at h; done) | skip
    simp only [intsK, Option.map_eq_some_iff] at h
    obtain ⟨ns', h, _⟩ := h
    have ih := intsK_look hk h
    cases k <;> first | (cases hk; done) | (simp only [dLook, keyEq]; simpa using ih)
theorem frz_look {k : PyData} (hk : isKey k = true) {kvs : List (PyData × PyData)} {ns : List Int} (h : frzOf kvs = some ns) : dLook k kvs = none := by
  match kvs, h with
  | (.none, .none) :: rest, h =>
    have ih := intsK_look hk (show intsK rest = some ns from h)
    cases k <;> first | (cases hk; done) | (simp only [dLook, keyEq]; simpa using ih)
theorem rng_look {k : PyData} (hk : isKey k = true) {kvs : List (PyData × PyData)} {p : Int × Int} (h : rngOf kvs = some p) : dLook k kvs = none := by
  match kvs, h with
  | [(.none, .int lo), (.none, .int hi)], _ => cases k <;> first | (cases hk; done) | rfl

section
variable {X : Cx}
def RI (K : PySem.W.Frag) : R2 := fun x y H Q => ∃ Hv dx dy r, Sub Hv H ∧ Seen K H Hv dx x ∧ Seen K H Hv dy y ∧ idxD dx dy = some r ∧ ∀ v, Rep K Hv r v → Q v H
theorem rng_frz {kvs : List (PyData × PyData)} {ns : List Int} (h : frzOf kvs = some ns) : rngOf kvs = none := by
  match kvs, h with
  | (.none, .none) :: _, _ => rfl
theorem rule_idx (hu : X.A.units + 1 < cLine) : IxR X (RI X.K) := by
  intro value slice pins s σ H x y v u Q I rx ry h hs
  obtain ⟨Hv, dx, dy, r, hsb, sx, sy, e, q⟩ := h
  have dict : ∀ kvs, dx = .dict kvs → frzOf kvs = none → isKey dy = true → dLook dy kvs = some r → wpAny (model X.prog X.w) X.A (subscriptTail value slice v u) (EP X pins σ Q) X.xe s := by
    intro kvs e1 e2 e3 e4
    subst e1
    simp only [Seen] at sx
    cases e5 : rngOf kvs with
    | some p =>
      rw [rng_look e3 e5] at e4
      cases e4
    | none =>
      simp only [e5, e2] at sx
      obtain ⟨a, ps, rfl, ha, t⟩ := sx
      obtain ⟨kk, k1, rfl⟩ := sy.key e3
      have lk := RepKs.look k1 t
      rw [e4] at lk
      obtain ⟨w, hw, rw'⟩ := lk
      cases rx
      have g : DGet H a (kV kk) (some w) := by rw [← hw]; exact DGet.k ha
      exact tail_any (ops := [.ref a, u]) (dict_typeIs I g) PySem.F.slot_dict_getitem.lookup (d_getItem hu I g ry fun w' s3 I3 rw2 => ⟨w, H, I3, rw2, q w rw'⟩) hs
  cases dx <;> first | (simp [idxD] at e; done) | skip
  · cases dy <;> first | (simp [idxD] at e; done) | skip
    obtain ⟨a, xs, rfl, h1, r1⟩ := sx.list
    cases sy.int
    obtain ⟨w, h2, h3⟩ := r1.at e
    exact ix_list value slice pins s σ H _ _ v u Q I rx ry ⟨a, xs, _, w, rfl, rfl, SqL.of h1, h2, q w h3⟩ hs
  · cases dy <;> first | (simp [idxD] at e; done) | skip
    obtain ⟨a, xs, rfl, h1, r1⟩ := sx.tuple
    cases sy.int
    obtain ⟨w, h2, h3⟩ := r1.at e
    exact ix_tup value slice pins s σ H _ _ v u Q I rx ry ⟨a, xs, _, w, rfl, rfl, SqT.mono hsb h1, h2, q w h3⟩ hs
  · rename_i kvs
    simp only [idxD] at e
    split at e
    · rename_i ns i e1
      simp only [Seen, rng_frz e1, e1] at sx
      obtain ⟨a, rfl, h1⟩ := sx
      cases sy.int
      obtain ⟨n, h2, h3⟩ := Option.map_eq_some_iff.mp e
      refine ix_list value slice pins s σ H _ _ v u Q I rx ry ⟨a, _, _, .int n, rfl, rfl, h1, by rw [atI_map, h2]; rfl, q _ (by rw [← h3]; simp only [Rep])⟩ hs
    · rename_i hno
      split at e
      · rename_i hk
        cases e1 : frzOf kvs with
        | none => exact dict kvs rfl e1 hk e
        | some ns =>
          rw [frz_look hk e1] at e
          cases e
      · cases e

/-! ### slices -/
def RSl (K : PySem.W.Frag) : V → Option Int → Option Int → Hp → VK → Prop := fun x lo hi H Q => ∃ Hv dx r, Sub Hv H ∧ Seen K H Hv dx x ∧ sliceD dx lo hi = some r ∧ ∀ v H', NewV K H Hv r v H' → Q v H'
theorem Reps.cut {K : PySem.W.Frag} {H : Hp} {ds : List PyData} {xs : List V} (r : Reps K H ds xs) (lo hi : Option Int) : Reps K H (cutD ds lo hi) (cutV xs lo hi) := by
  unfold cutD cutV
  rw [r.length]
  exact Reps.take _ (Reps.drop _ r)
theorem sIx_le' (n : Nat) (o : Option Int) (d : Nat) (hd : d ≤ n) : HT.sIx n d o ≤ n := HT.sIx_le n d hd o
theorem rule_slice : SlR X (RSl X.K) := by
  intro pins s σ H x v vl vu lo hi sl Q I rx hs pl pu h
  obtain ⟨Hv, dx, r, hsb, sx, e, q⟩ := h
  cases dx <;> first | (simp [sliceD] at e; done) | skip
  · simp only [sliceD, Option.some.injEq] at e; subst e
    obtain ⟨a, xs, rfl, h1, r1⟩ := sx.list
    exact sl_list pins s σ H _ v vl vu lo hi sl Q I rx hs pl pu ⟨a, xs, rfl, SqL.of h1, fun p n => q _ _ (.lst n (r1.cut lo hi))⟩
  · simp only [sliceD, Option.some.injEq] at e; subst e
    obtain ⟨a, xs, rfl, h1, r1⟩ := sx.tuple
    refine sl_tupA pins s σ H _ v vl vu lo hi sl Q I rx hs pl pu ⟨a, xs, rfl, SqT.mono hsb h1, fun z => q _ _ (.same ?_), fun _ p n => q _ _ (.tup n (r1.cut lo hi))⟩
    have c := r1.cut lo hi
    simp only [Rep]
    refine ⟨a, xs, rfl, h1, ?_⟩
    have : cutV xs lo hi = xs := by
      unfold cutV
      rw [z.1, z.2]
      simp
    rw [this] at c
    exact c

/-! ### expressions -/
theorem PE.imp {e : Expr} {t t' : TE} (h : PE X e t) (i : ∀ σ H Q, t' σ H Q → t σ H Q) : PE X e t' := ⟨fun pins s σ H Q I q => h.run pins s σ H Q I (i σ H Q q)⟩
theorem PT.imp {e : Expr} {t t' : TT} (h : PT X e t) (i : ∀ σ H Q, t' σ H Q → t σ H Q) : PT X e t' := ⟨fun pins s σ H Q I q => h.run pins s σ H Q I (i σ H Q q)⟩
theorem PA.imp {es : List Expr} {t t' : TA} (h : PA X es t) (i : ∀ σ H Q, t' σ H Q → t σ H Q) : PA X es t' := ⟨fun p pins s σ H Q I q => h.run p pins s σ H Q I (i σ H Q q)⟩
structure In0 (K : PySem.W.Frag) (io : Option Nat) (C : PCtx) (Z : Addr → Prop) (H : Hp) (σ : L2.St) (ρ : PEnv) : Prop where
  k : C.K = K
  io : io = C.io.map (·.1)
  cor : Cor C Z H σ ρ
theorem In0.next {K : PySem.W.Frag} {io : Option Nat} {C : PCtx} {Z Z' : Addr → Prop} {H H' : Hp} {σ σ' : L2.St} {ρ ρ' : PEnv} (h : In0 K io C Z H σ ρ) (c : Cor C Z' H' σ' ρ') : In0 K io C Z' H' σ' ρ' := ⟨h.k, h.io, c⟩
def tE (K : PySem.W.Frag) (G : EvG) (x : PExp) : TE := fun σ H Q => ∃ C Z ρ r ρ', In0 K G.io C Z H σ ρ ∧ evE G x ρ = some (r, ρ') ∧ ∀ v H', PostE C Z σ H ρ r ρ' v H' → Q v H'
def tT (K : PySem.W.Frag) (G : EvG) (x : PExp) : TT := fun σ H Q => ∃ C Z ρ r ρ' b, In0 K G.io C Z H σ ρ ∧ evE G x ρ = some (r, ρ') ∧ peek r ρ' = some (.bool b) ∧ ∀ H', Cor C Z H' σ ρ' → Sub (vis C Z H σ ρ) (vis C Z H' σ ρ') → Q b H'
def PostEs (C : PCtx) (Z : Addr → Prop) (σ : L2.St) (H : Hp) (ρ : PEnv) (rs : List RV) (ρ' : PEnv) (vs : List V) (H' : Hp) : Prop := Cor C Z H' σ ρ' ∧ Sub (vis C Z H σ ρ) (vis C Z H' σ ρ') ∧ RVsok C Z H' σ ρ' rs vs
def tEs (K : PySem.W.Frag) (G : EvG) (x : PExps) : TA := fun σ H Q => ∃ C Z ρ rs ρ', In0 K G.io C Z H σ ρ ∧ evEs G x ρ = some (rs, ρ') ∧ ∀ vs H', PostEs C Z σ H ρ rs ρ' vs H' → Q vs H'
variable {G : EvG} {a b c : Expr} {xa xb xc : PExp} {pos : Pos}
/-- a test by its value, where the statement looks at it as a value -/
theorem tT_of {e : Expr} {x : PExp} (h : PE X e (tE X.K G x)) (he : ∀ whole, isTrue e X.env whole = (do let v ← whole; standAt e.pos; holding [v] (truthy v))) : PT X e (tT X.K G x) := by
  refine PT.imp (pt_val h he) fun σ H Q q => ?_
  obtain ⟨C, Z, ρ, r, ρ', b, i, e1, e2, q⟩ := q
  refine ⟨C, Z, ρ, r, ρ', i, e1, fun v H' p => ?_⟩
  obtain ⟨c', s', rv⟩ := p.shown
  refine ⟨b, (rv.peek c' e2).bool, q H' c' s'⟩
theorem snd_bin {op : BOp} {o : Operator} (h : bopIs op o = true) (ha : PE X a (tE X.K G xa)) (hb : PE X b (tE X.K G xb)) : PE X (.BinOp a o b pos) (tE X.K G (.bin op xa xb)) := by
  refine PE.imp (pe_op (rule_bop op o h) ha hb) fun σ H Q q => ?_
  obtain ⟨C, Z, ρ, r, ρ', i, e, q⟩ := q
  simp only [evE, Option.bind_eq_some_iff] at e
  obtain ⟨⟨r1, ρ1⟩, e1, ⟨r2, ρ2⟩, e2, dx, e3, dy, e4, r3, e5, e6⟩ := e
  simp only [Option.some.injEq, Prod.mk.injEq] at e6
  obtain ⟨rfl, rfl⟩ := e6
  refine ⟨C, Z, ρ, r1, ρ1, i, e1, fun x H1 p1 => ?_⟩
  obtain ⟨c1, s1, v1⟩ := p1.shown
  refine ⟨C, Z, ρ1, r2, ρ2, i.next c1, e2, fun y H2 p2 => ?_⟩
  obtain ⟨c2, s2, v2⟩ := p2.shown
  rw [← i.k]
  exact ⟨_, dx, dy, r3, visSub, (v1.mono s2).peek c2 e3, v2.peek c2 e4, e5, fun v H' n => q v H' (PostE.trans (s1.trans s2) (NewV.post c2 n))⟩
theorem snd_cmp {op : COp} {o : CmpOp} (hu : X.A.units + 65 < cLine) (h : copIs op o = true) (hm : behindInMarks o b = false) (ha : PE X a (tE X.K G xa)) (hb : PE X b (tE X.K G xb)) : PE X (.Compare a [o] [b] pos) (tE X.K G (.cmp op xa xb)) := by
  refine PE.imp (pe_cmpR (rule_cop hu op o h) ha hb hm) fun σ H Q q => ?_
  obtain ⟨C, Z, ρ, r, ρ', i, e, q⟩ := q
  simp only [evE, Option.bind_eq_some_iff] at e
  obtain ⟨⟨r1, ρ1⟩, e1, ⟨r2, ρ2⟩, e2, dx, e3, dy, e4, r3, e5, e6⟩ := e
  simp only [Option.some.injEq, Prod.mk.injEq] at e6
  obtain ⟨rfl, rfl⟩ := e6
  refine ⟨C, Z, ρ, r1, ρ1, i, e1, fun x H1 p1 => ?_⟩
  obtain ⟨c1, s1, v1⟩ := p1.shown
  refine ⟨C, Z, ρ1, r2, ρ2, i.next c1, e2, fun y H2 p2 => ?_⟩
  obtain ⟨c2, s2, v2⟩ := p2.shown
  rw [← i.k]
  exact ⟨_, dx, dy, r3, visSub, (v1.mono s2).peek c2 e3, v2.peek c2 e4, e5, q _ _ (PostE.trans (s1.trans s2) (NewV.post c2 .bool))⟩
theorem snd_cmpT {op : COp} {o : CmpOp} (hu : X.A.units + 65 < cLine) (h : copIs op o = true) (hm : behindInMarks o b = false) (ha : PE X a (tE X.K G xa)) (hb : PE X b (tE X.K G xb)) : PT X (.Compare a [o] [b] pos) (tT X.K G (.cmp op xa xb)) := by
  refine PT.imp (pt_cmpR (rule_cop hu op o h) ha hb hm) fun σ H Q q => ?_
  obtain ⟨C, Z, ρ, r, ρ', bb, i, e, eb, q⟩ := q
  simp only [evE, Option.bind_eq_some_iff] at e
  obtain ⟨⟨r1, ρ1⟩, e1, ⟨r2, ρ2⟩, e2, dx, e3, dy, e4, r3, e5, e6⟩ := e
  simp only [Option.some.injEq, Prod.mk.injEq] at e6
  obtain ⟨rfl, rfl⟩ := e6
  simp only [Pz.peek, Option.some.injEq, PyData.bool.injEq] at eb
  subst eb
  refine ⟨C, Z, ρ, r1, ρ1, i, e1, fun x H1 p1 => ?_⟩
  obtain ⟨c1, s1, v1⟩ := p1.shown
  refine ⟨C, Z, ρ1, r2, ρ2, i.next c1, e2, fun y H2 p2 => ?_⟩
  obtain ⟨c2, s2, v2⟩ := p2.shown
  rw [← i.k]
  exact ⟨_, dx, dy, r3, visSub, (v1.mono s2).peek c2 e3, v2.peek c2 e4, e5, r3, rfl, q _ c2 (s1.trans s2)⟩
end
end Pz
end
section
set_option Elab.async false
set_option linter.all false
set_option maxRecDepth 100000
set_option maxHeartbeats 4000000
namespace Pz
open PySem PySem.Spec PyProof.Rows L2 HT
section
variable {prog : Program} {w : World} {A : Around} {E : Value → Shared → Prop} {s : Shared}
theorem adjust_rev (n : Nat) : Builtin.Slice.sliceAdjust none none (-1) (n : Int) = ((n : Int) - 1, -1) := by
  unfold Builtin.Slice.sliceAdjust
  rfl
theorem places_rev (n : Nat) : Builtin.Slice.slicePlaces ((n : Int) - 1) (-1) (-1) = n := by
  unfold Builtin.Slice.slicePlaces
  rw [if_neg (by decide)]
  split
  · have : ((n : Int) - 1 - -1 - 1) / (- -1) + 1 = n := by
      have h : (- -1 : Int) = 1 := by decide
      rw [h, Int.ediv_one]; omega
    rw [this]; rfl
  · omega
theorem fm_congr {α β : Type} {f g : α → Option β} : ∀ {l : List α}, (∀ a ∈ l, f a = g a) → l.filterMap f = l.filterMap g
  | [], _ => rfl
  | a :: l, h => by
    rw [List.filterMap_cons, List.filterMap_cons, h a List.mem_cons_self, fm_congr fun b hb => h b (List.mem_cons_of_mem _ hb)]
theorem pick_rev (l : List Value) : ((List.range l.length).filterMap fun (k : Nat) => l.toArray[((l.length : Int) - 1 + (k : Int) * (-1)).toNat]?) = l.reverse := by
  have h1 : ∀ k ∈ List.range l.length, l.toArray[((l.length : Int) - 1 + (k : Int) * (-1)).toNat]? = l.reverse[k]? := fun k hk => by
    have hk := List.mem_range.mp hk
    rw [List.getElem?_reverse hk, List.getElem?_toArray]
    congr 1
    omega
  rw [fm_congr h1]
  have : ∀ m : List Value, (List.range m.length).filterMap (fun k => m[k]?) = m := fun m => by
    induction m with
    | nil => rfl
    | cons a m ih =>
      rw [List.length_cons, List.range_succ_eq_map, List.filterMap_cons]
      simp only [List.getElem?_cons_zero, List.filterMap_map]
      congr 1
  have z := this l.reverse
  rw [List.length_reverse] at z
  exact z
theorem rev_tuple {t sl : Addr} {l : List Value} {u : Tok} {Q : Value → Shared → Prop} (ht : IsTup s.heap t l.toArray) {os : Obj} (hos : s.heap.get? sl = some os) (hcs : os.cls = .type "slice") (hds : os.data = .fields #[.none, .none, .int (-1) u]) (hsz : l.length ≤ sizeLine)
    (h : Q (.ref s.heap.objs.size) { s with heap := s.heap.push { cls := .type "tuple", data := .seq l.reverse.toArray } }) : wpAny (model prog w) A (getItem (.ref t) (.ref sl)) Q E s := by
  have big : sizeOk (.seq l.reverse.toArray) := by
    show l.reverse.toArray.size ≤ sizeLine
    rw [List.size_toArray, List.length_reverse]; exact hsz
  have hT : s.TypeIs (.ref sl) "slice" := ⟨os, hos, hcs⟩
  unfold getItem
  try with_reducible refine wpAny_holding ?_
  refine wpAny_bind (wpAny_sequenceKey ht.typeIs (by decide) ?_)
  refine wpAny_bind (wpAny_callSpecial?_slot (name := Str.ofString "__getitem__") ht.typeIs PyProof.Rows.slot_tuple_getitem
    (wpAny_call_entry PyProof.Rows.slot_tuple_getitem ht.typeIs entry_tuple_getitem ?_ (args_tuple_getitem _ _)))
  show wpAny _ _ (Builtin.Tuple.tupleItemsOf (.ref t) >>= _) _ _ s
  refine wpAny_bind (tupleItemsOf_ ht ?_)
  refine wpAny_bind (wpAny_typeOf hT ?_)
  rw [if_pos (by decide)]
  have app : ∀ {B : Around} {Q' : Int × Int × Nat → Shared → Prop}, Q' ((l.length : Int) - 1, -1, l.length) s → wpAny (model prog w) B (Builtin.Slice.sliceApplied (.ref sl) (pure (l.toArray.size : Int))) Q' E s := fun {B Q'} hq => by
    unfold Builtin.Slice.sliceApplied Builtin.Slice.sliceFields
    refine wpAny_bind (wpAny_bind (wpAny_field hos hds (x := .none) rfl (wpAny_bind (wpAny_field hos hds (x := .none) rfl (wpAny_bind (wpAny_field hos hds (x := .int (-1) u) rfl (wpAny_pure ?_)))))))
    refine wpAny_bind (slicePart_int ?_)
    show wpAny _ _ (if ((-1 : Int) == 0) = true then _ else _) _ _ s
    rw [if_neg (by decide)]
    refine wpAny_bind (slicePart_none (wpAny_bind (slicePart_none (wpAny_bind (wpAny_pure ?_)))))
    show wpAny _ _ (match Builtin.Slice.sliceAdjust none none (-1) (l.toArray.size : Int) with | (lo, hi) => pure (lo, (-1 : Int), Builtin.Slice.slicePlaces lo hi (-1))) _ _ s
    rw [List.size_toArray, adjust_rev]
    show wpAny _ _ (pure ((l.length : Int) - 1, (-1 : Int), Builtin.Slice.slicePlaces ((l.length : Int) - 1) (-1) (-1))) _ _ s
    rw [places_rev]
    exact wpAny_pure hq
  refine wpAny_bind (app ?_)
  show wpAny _ _ (if (((l.length : Int) - 1) == 0 && (-1 : Int) == 1 && l.length == l.toArray.size) = true then _ else _) _ _ s
  rw [if_neg (by simp), pick_rev]
  first
    | exact wpAny_bind (m := Builtin.Tuple.tupleExact _) (wpAny_newObj_type (wpAny_pure ⟨_, rfl, wpAny_pure h⟩) big)
    | exact wpAny_bind (m := Builtin.Tuple.tupleExact _) (wpAny_newObj_type (wpAny_bind (wpAny_pure (wpAny_pure ⟨_, rfl, wpAny_pure h⟩))) big)
    | exact wpAny_bind (wpAny_bind (m := Builtin.Tuple.tupleExact _) (wpAny_newObj_type (wpAny_pure (wpAny_pure ⟨_, rfl, wpAny_pure h⟩)) big))
    | exact wpAny_bind (wpAny_bind (m := Builtin.Tuple.tupleExact _) (wpAny_newObj_type (wpAny_pure ⟨_, rfl, wpAny_pure h⟩) big))
end
section
variable {X : Cx}
def tRv (K : PySem.W.Frag) (te : TE) : TE := fun σ H Q => te σ H fun x H1 => ∃ Hv dx r, Sub Hv H1 ∧ Seen K H1 Hv dx x ∧ revD dx = some r ∧ ∀ v H', NewV K H1 Hv r v H' → Q v H'
theorem pe_revs {e : Expr} {te : TE} {k : Nat} {p1 p2 p3 pos : Pos} (he : PE X e te) : PE X (.Subscript e (.Slice none none (some (.UnaryOp .USub (.Constant (.int 1) k p1) p2)) p3) pos) (tRv X.K te) := by
  refine ⟨fun pins s σ H Q I h => ?_⟩
  refine Subscript_ (thn (he.run pins s σ H _ I h) fun v s1 ⟨x, H1, I1, r1, q1⟩ => ?_)
  obtain ⟨Hv, dx, r, hsb, sx, e1, q⟩ := q1
  have step : PO X (some (.UnaryOp .USub (.Constant (.int 1) k p1) p2)) (tPart (tUn (rU fun i => .int (-i)) (tC (.int 1)))) := po_some (pe_un un_neg pe_int)
  refine wpAny_Slice (thn (po_none.run pins s1 σ H1 (fun o H2 => o = none ∧ H2 = H1) I1 ⟨rfl, rfl⟩) fun vl s2 ⟨l, H2, I2, pl, el, e2⟩ => ?_)
  subst el e2
  refine thn (po_none.run pins s2 σ H2 (fun o H3 => o = none ∧ H3 = H2) I2 ⟨rfl, rfl⟩) fun vu s3 ⟨u, H3, I3, pu, eu, e3⟩ => ?_
  subst eu e3
  refine thn (step.run pins s3 σ H3 (fun o H4 => o = some (-1) ∧ H4 = H3) I3 ⟨1, rfl, -1, rfl, rfl, rfl⟩) fun vs s4 ⟨o, H4, I4, ps, eo, e4⟩ => ?_
  subst eo e4
  have I5 : Inv X pins σ H4 { s4 with heap := s4.heap.push { cls := .type "slice", data := .fields #[vl, vu, vs] } } := I4.kept (t' := s4.toks) fun b ob q => Heap.get?_push_of_some _ q
  show wpAny (model X.prog X.w) X.A (subscriptTail e (.Slice none none (some (.UnaryOp .USub (.Constant (.int 1) k p1) p2)) p3) v (.ref s4.heap.objs.size)) (EP X pins σ Q) X.xe { s4 with heap := s4.heap.push { cls := .type "slice", data := .fields #[vl, vu, vs] } }
  cases dx <;> first | (simp [revD] at e1; done) | skip
  · simp only [revD, Option.some.injEq] at e1; subst e1
    obtain ⟨a, xs, rfl, h1, t1⟩ := sx.list
    cases r1
    obtain ⟨its, rv, ht, hz⟩ := I5.list (SqL.of h1)
    have hlen := rv.length
    refine tail_any (ops := [.ref a, .ref s4.heap.objs.size]) ht.isList.typeIs (PySem.slot_list_getitem.lookup) ?_ (by with_unfolding_all rfl)
    refine wpAny_getItem_list_slice ht.isList (Heap.IsSliceOf.new _ vl vu vs) pl pu ps (by decide) ?_ (by rw [List.size_toArray]; omega)
    rw [PySem.W.krv_pick]
    have n5 := I5.hok.fresh (Nat.le_refl _)
    exact ⟨.ref _, _, I5.laid (t' := s4.toks) (o := .lst xs.reverse) (fun b ob q => Heap.get?_push_of_some _ q) (Nat.le_refl _) ⟨by rw [List.length_reverse]; exact hz, _, 0, rv.reverse, Heap.get?_push_size _ rfl⟩, rfl, q _ _ (.lst n5 t1.reverse)⟩
  · simp only [revD, Option.some.injEq] at e1; subst e1
    obtain ⟨a, xs, rfl, h1, t1⟩ := sx.tuple
    cases r1
    obtain ⟨its, rv, ht, hz⟩ := I5.tuple (SqT.mono hsb h1)
    have hlen := rv.length
    cases pl
    cases pu
    cases ps with
    | int i tk =>
      refine tail_any (ops := [.ref a, .ref s4.heap.objs.size]) ht.typeIs PyProof.Rows.slot_tuple_getitem.lookup ?_ (by with_unfolding_all rfl)
      have n5 := I5.hok.fresh (Nat.le_refl _)
      refine rev_tuple ht (os := { cls := .type "slice", data := .fields #[.none, .none, .int (-1) tk] }) (Heap.get?_push_size _ rfl) rfl rfl (by omega) ?_
      exact ⟨.ref _, _, I5.laid (t' := s4.toks) (o := .tup xs.reverse) (fun b ob q => Heap.get?_push_of_some _ q) (Nat.le_refl _) ⟨by rw [List.length_reverse]; exact hz, _, rv.reverse, ⟨_, Heap.get?_push_size _ rfl, rfl, 0, rfl⟩⟩, rfl, q _ _ (.tup n5 t1.reverse)⟩
end
end Pz
end
section
set_option Elab.async false
set_option linter.all false
set_option maxRecDepth 100000
set_option maxHeartbeats 4000000
namespace Pz
open PySem PySem.Spec PyProof.Rows L2

def tEv (K : PySem.W.Frag) (io : Option Nat) (ev : PEnv → Option (RV × PEnv)) : TE := fun σ H Q => ∃ C Z ρ r ρ', In0 K io C Z H σ ρ ∧ ev ρ = some (r, ρ') ∧ ∀ v H', PostE C Z σ H ρ r ρ' v H' → Q v H'
def tTv (K : PySem.W.Frag) (io : Option Nat) (ev : PEnv → Option (RV × PEnv)) : TT := fun σ H Q => ∃ C Z ρ r ρ' b, In0 K io C Z H σ ρ ∧ ev ρ = some (r, ρ') ∧ peek r ρ' = some (.bool b) ∧ ∀ H', Cor C Z H' σ ρ' → Sub (vis C Z H σ ρ) (vis C Z H' σ ρ') → Q b H'
theorem tE_ev {K : PySem.W.Frag} {G : EvG} {x : PExp} : tE K G x = tEv K G.io (evE G x) := rfl
theorem tT_ev {K : PySem.W.Frag} {G : EvG} {x : PExp} : tT K G x = tTv K G.io (evE G x) := rfl

section
variable {X : Cx} {G : EvG} {a b c e : Expr} {xa xb xc : PExp} {pos : Pos}

theorem snd_v {i : Nat} {x : Str} (hN : X.N[i]? = some x) (hv : Vis X.env.scope x) (hd : (x == ("__debug__" : Str)) = false) (hcd : (x == ("__classdict__" : Str)) = false) : PE X (.Name x pos) (tE X.K G (.v i)) := by
  refine PE.imp (pe_var hN hv hd hcd) fun σ H Q q => ?_
  obtain ⟨C, Z, ρ, r, ρ', h, e, q⟩ := q
  simp only [evE] at e
  split at e
  · rename_i d hd
    simp only [Option.some.injEq, Prod.mk.injEq] at e
    obtain ⟨rfl, rfl⟩ := e
    obtain ⟨v, h1, h2⟩ := h.cor.val i d hd
    exact ⟨v, h1, q v H ⟨h.cor, Sub.refl, h2⟩⟩
  · rename_i d hd
    simp only [Option.some.injEq, Prod.mk.injEq] at e
    obtain ⟨rfl, rfl⟩ := e
    obtain ⟨v, h1, h2⟩ := h.cor.own i d hd
    exact ⟨.ref v, h1, q (.ref v) H ⟨h.cor, Sub.refl, v, rfl, h1⟩⟩
  · cases e
theorem post_const {C : PCtx} {Z : Addr → Prop} {H : Hp} {σ : L2.St} {ρ : PEnv} {d : PyData} {v : V} (c : Cor C Z H σ ρ) (r : Rep C.K (vis C Z H σ ρ) d v) : PostE C Z σ H ρ (.val d) ρ v H := ⟨c, Sub.refl, r⟩
theorem snd_const {t : V} {x : PExp} {d : PyData} (h : PE X e (tC t)) (ev : ∀ ρ, evE G x ρ = some (.val d, ρ)) (r : ∀ H, Rep X.K H d t) : PE X e (tE X.K G x) := by
  refine PE.imp h fun σ H Q q => ?_
  obtain ⟨C, Z, ρ, r', ρ', h, e, q⟩ := q
  rw [ev] at e
  simp only [Option.some.injEq, Prod.mk.injEq] at e
  obtain ⟨rfl, rfl⟩ := e
  exact q t H (post_const h.cor (by rw [h.k]; exact r _))
theorem snd_glob {x : String} {y : Str} {d : PyData} {v : V} {u : Value} (hx : G.con x = some d) (hg : Gl X y) (hm : X.mg y = some u) (r : RelV v u) (hr : ∀ H, Rep X.K H d v) (hd : (y == ("__debug__" : Str)) = false) : PE X (.Name y pos) (tE X.K G (.glob x)) :=
  snd_const (pe_glob hg hm r hd) (fun ρ => by simp only [evE, hx, Option.bind_some]) hr

theorem snd_es_nil : PA X [] (tEs X.K G .nil) := by
  refine PA.imp pa_nil fun σ H Q q => ?_
  obtain ⟨C, Z, ρ, r', ρ', h, e, q⟩ := q
  simp only [evEs, Option.some.injEq, Prod.mk.injEq] at e
  obtain ⟨rfl, rfl⟩ := e
  exact q [] H ⟨h.cor, Sub.refl, .nil⟩
theorem snd_es_cons {es : List Expr} {xs : PExps} (ha : PE X a (tE X.K G xa)) (hr : PA X es (tEs X.K G xs)) (hs : starEach (a :: es) X.env = (false, eval a X.env) :: starEach es X.env) : PA X (a :: es) (tEs X.K G (.cons xa xs)) := by
  refine PA.imp (pa_cons ha hr hs) fun σ H Q q => ?_
  obtain ⟨C, Z, ρ, rs, ρ', h, e, q⟩ := q
  simp only [evEs, Option.bind_eq_some_iff] at e
  obtain ⟨⟨r1, ρ1⟩, e1, ⟨r2, ρ2⟩, e2, e6⟩ := e
  simp only [Option.some.injEq, Prod.mk.injEq] at e6
  obtain ⟨rfl, rfl⟩ := e6
  refine ⟨C, Z, ρ, r1, ρ1, h, e1, fun x H1 p1 => ?_⟩
  obtain ⟨c1, s1, v1⟩ := p1.shown
  refine ⟨C, Z, ρ1, r2, ρ2, h.next c1, e2, fun ys H2 p2 => ?_⟩
  obtain ⟨c2, s2, v2⟩ := p2
  exact q _ _ ⟨c2, s1.trans s2, .cons (v1.mono s2) v2⟩
theorem snd_tup {es : List Expr} {xs : PExps} {k : Nat} (h : PA X es (tEs X.K G xs)) : PE X (.Tuple es k pos) (tE X.K G (.tup xs)) := by
  refine PE.imp (pe_tup h) fun σ H Q q => ?_
  obtain ⟨C, Z, ρ, r, ρ', h, e, q⟩ := q
  simp only [evE, Option.bind_eq_some_iff] at e
  obtain ⟨⟨rs, ρ1⟩, e1, ⟨ds, ρ2⟩, e2, e6⟩ := e
  split at e6
  · rename_i hl
    simp only [Option.some.injEq, Prod.mk.injEq] at e6
    obtain ⟨rfl, rfl⟩ := e6
    refine ⟨C, Z, ρ, rs, ρ1, h, e1, fun vs H1 p1 => ?_⟩
    obtain ⟨c1, s1, v1⟩ := p1
    obtain ⟨c2, s2, r2⟩ := v1.settles h.io c1 e2
    exact ⟨by rw [r2.length, ← lim_eq]; exact hl, fun p n => q _ _ (PostE.trans (s1.trans s2) (NewV.post c2 (.tup n r2)))⟩
  · cases e6
theorem snd_lst {es : List Expr} {xs : PExps} (h : PA X es (tEs X.K G xs)) : PE X (.List es pos) (tE X.K G (.lst xs)) := by
  refine PE.imp (pe_lst h) fun σ H Q q => ?_
  obtain ⟨C, Z, ρ, r, ρ', h, e, q⟩ := q
  simp only [evE, Option.bind_eq_some_iff] at e
  obtain ⟨⟨rs, ρ1⟩, e1, ⟨ds, ρ2⟩, e2, e6⟩ := e
  split at e6
  · rename_i hl
    simp only [Option.some.injEq, Prod.mk.injEq] at e6
    obtain ⟨rfl, rfl⟩ := e6
    refine ⟨C, Z, ρ, rs, ρ1, h, e1, fun vs H1 p1 => ?_⟩
    obtain ⟨c1, s1, v1⟩ := p1
    obtain ⟨c2, s2, r2⟩ := v1.settles h.io c1 e2
    exact ⟨by rw [r2.length, ← lim_eq]; exact hl, fun p n => q _ _ (PostE.trans (s1.trans s2) (NewV.post c2 (.lst n r2)))⟩
  · cases e6
theorem toInt_eq {d : PyData} {i : Int} (h : toInt d = some i) : d = .int i := by
  cases d <;> simp only [toInt, Option.some.injEq] at h <;> first | (cases h; done) | rw [h]
theorem toBool_eq {d : PyData} {i : Bool} (h : toBool d = some i) : d = .bool i := by
  cases d <;> simp only [toBool, Option.some.injEq] at h <;> first | (cases h; done) | rw [h]
theorem snd_neg (ha : PE X a (tE X.K G xa)) : PE X (.UnaryOp .USub a pos) (tE X.K G (.neg xa)) := by
  refine PE.imp (pe_un un_neg ha) fun σ H Q q => ?_
  obtain ⟨C, Z, ρ, r, ρ', h, e, q⟩ := q
  simp only [evE, Option.bind_eq_some_iff] at e
  obtain ⟨⟨r1, ρ1⟩, e1, d, e2, i, e3, e6⟩ := e
  simp only [Option.some.injEq, Prod.mk.injEq] at e6
  obtain ⟨rfl, rfl⟩ := e6
  refine ⟨C, Z, ρ, r1, ρ1, h, e1, fun v H1 p1 => ?_⟩
  obtain ⟨c1, s1, v1⟩ := p1.shown
  rw [toInt_eq e3] at e2
  exact ⟨i, (v1.peek c1 e2).int, q _ _ (PostE.trans s1 (NewV.post c1 .int))⟩
theorem snd_not (ha : PE X a (tE X.K G xa)) : PE X (.UnaryOp .Not a pos) (tE X.K G (.not xa)) := by
  refine PE.imp (pe_not ha) fun σ H Q q => ?_
  obtain ⟨C, Z, ρ, r, ρ', h, e, q⟩ := q
  simp only [evE, Option.bind_eq_some_iff] at e
  obtain ⟨⟨r1, ρ1⟩, e1, d, e2, i, e3, e6⟩ := e
  simp only [Option.some.injEq, Prod.mk.injEq] at e6
  obtain ⟨rfl, rfl⟩ := e6
  refine ⟨C, Z, ρ, r1, ρ1, h, e1, fun v H1 p1 => ?_⟩
  obtain ⟨c1, s1, v1⟩ := p1.shown
  rw [toBool_eq e3] at e2
  exact ⟨i, (v1.peek c1 e2).bool, q _ _ (PostE.trans s1 (NewV.post c1 .bool))⟩
theorem snd_notT (ha : PT X a (tT X.K G xa)) : PT X (.UnaryOp .Not a pos) (tT X.K G (.not xa)) := by
  refine PT.imp (pt_not ha) fun σ H Q q => ?_
  obtain ⟨C, Z, ρ, r, ρ', b, h, e, eb, q⟩ := q
  simp only [evE, Option.bind_eq_some_iff] at e
  obtain ⟨⟨r1, ρ1⟩, e1, d, e2, i, e3, e6⟩ := e
  simp only [Option.some.injEq, Prod.mk.injEq] at e6
  obtain ⟨rfl, rfl⟩ := e6
  simp only [Pz.peek, Option.some.injEq, PyData.bool.injEq] at eb
  subst eb
  rw [toBool_eq e3] at e2
  exact ⟨C, Z, ρ, r1, ρ1, i, h, e1, e2, fun H1 c s => q H1 c s⟩
/-! a chain of two comparisons -/
theorem snd_chain {o1 o2 : COp} {p1 p2 : CmpOp} (hu : X.A.units + 65 < cLine) (h1 : copIs o1 p1 = true) (h2 : copIs o2 p2 = true) (hm : behindInMarks p2 c = false) (ha : PE X a (tE X.K G xa)) (hb : PE X b (tE X.K G xb)) (hc : PE X c (tE X.K G xc)) :
    PE X (.Compare a [p1, p2] [b, c] pos) (tE X.K G (.chain o1 o2 xa xb xc)) := by
  refine PE.imp (pe_chain (rule_cop hu o1 p1 h1) (rule_cop hu o2 p2 h2) ha hb hc hm) fun σ H Q q => ?_
  obtain ⟨C, Z, ρ, r, ρ', i, e, q⟩ := q
  simp only [evE, Option.bind_eq_some_iff] at e
  obtain ⟨⟨r1, ρ1⟩, e1, ⟨r2, ρ2⟩, e2, dx, e3, dy, e4, r3, e5, e6⟩ := e
  refine ⟨C, Z, ρ, r1, ρ1, i, e1, fun x H1 p1 => ?_⟩
  obtain ⟨c1, s1, v1⟩ := p1.shown
  refine ⟨C, Z, ρ1, r2, ρ2, i.next c1, e2, fun y H2 p2 => ?_⟩
  obtain ⟨c2, s2, v2⟩ := p2.shown
  rw [← i.k]
  refine ⟨_, dx, dy, r3, visSub, (v1.mono s2).peek c2 e3, v2.peek c2 e4, e5, r3, rfl, ?_⟩
  cases r3 with
  | false =>
    simp only [Bool.false_eq_true, if_false, Option.some.injEq, Prod.mk.injEq] at e6 ⊢
    obtain ⟨rfl, rfl⟩ := e6
    exact q _ _ (PostE.trans (s1.trans s2) (NewV.post c2 .bool))
  | true =>
    simp only [if_true, Option.bind_eq_some_iff] at e6 ⊢
    obtain ⟨⟨r4, ρ4⟩, e7, dy', e8, dz, e9, r5, e10, e11⟩ := e6
    simp only [Option.some.injEq, Prod.mk.injEq] at e11
    obtain ⟨rfl, rfl⟩ := e11
    rw [i.k]
    refine ⟨C, Z, ρ2, r4, ρ4, i.next c2, e7, fun z H3 p3 => ?_⟩
    obtain ⟨c3, s3, v3⟩ := p3.shown
    rw [← i.k]
    exact ⟨_, dy', dz, r5, visSub, (v2.mono s3).peek c3 e8, v3.peek c3 e9, e10, q _ _ (PostE.trans (s1.trans (s2.trans s3)) (NewV.post c3 .bool))⟩
theorem snd_chainT {o1 o2 : COp} {p1 p2 : CmpOp} (hu : X.A.units + 65 < cLine) (h1 : copIs o1 p1 = true) (h2 : copIs o2 p2 = true) (hm : behindInMarks p2 c = false) (ha : PE X a (tE X.K G xa)) (hb : PE X b (tE X.K G xb)) (hc : PE X c (tE X.K G xc)) :
    PT X (.Compare a [p1, p2] [b, c] pos) (tT X.K G (.chain o1 o2 xa xb xc)) := by
  refine PT.imp (pt_chain (rule_cop hu o1 p1 h1) (rule_cop hu o2 p2 h2) ha hb hc hm) fun σ H Q q => ?_
  obtain ⟨C, Z, ρ, r, ρ', bb, i, e, eb, q⟩ := q
  simp only [evE, Option.bind_eq_some_iff] at e
  obtain ⟨⟨r1, ρ1⟩, e1, ⟨r2, ρ2⟩, e2, dx, e3, dy, e4, r3, e5, e6⟩ := e
  refine ⟨C, Z, ρ, r1, ρ1, i, e1, fun x H1 p1 => ?_⟩
  obtain ⟨c1, s1, v1⟩ := p1.shown
  refine ⟨C, Z, ρ1, r2, ρ2, i.next c1, e2, fun y H2 p2 => ?_⟩
  obtain ⟨c2, s2, v2⟩ := p2.shown
  rw [← i.k]
  refine ⟨_, dx, dy, r3, visSub, (v1.mono s2).peek c2 e3, v2.peek c2 e4, e5, r3, rfl, ?_⟩
  cases r3 with
  | false =>
    simp only [Bool.false_eq_true, if_false, Option.some.injEq, Prod.mk.injEq] at e6 ⊢
    obtain ⟨rfl, rfl⟩ := e6
    simp only [Pz.peek, Option.some.injEq, PyData.bool.injEq] at eb
    subst eb
    exact ⟨false, rfl, q _ c2 (s1.trans s2)⟩
  | true =>
    simp only [if_true, Option.bind_eq_some_iff] at e6 ⊢
    obtain ⟨⟨r4, ρ4⟩, e7, dy', e8, dz, e9, r5, e10, e11⟩ := e6
    simp only [Option.some.injEq, Prod.mk.injEq] at e11
    obtain ⟨rfl, rfl⟩ := e11
    simp only [Pz.peek, Option.some.injEq, PyData.bool.injEq] at eb
    subst eb
    rw [i.k]
    refine ⟨C, Z, ρ2, r4, ρ4, i.next c2, e7, fun z H3 p3 => ?_⟩
    obtain ⟨c3, s3, v3⟩ := p3.shown
    rw [← i.k]
    exact ⟨_, dy', dz, r5, visSub, (v2.mono s3).peek c3 e8, v3.peek c3 e9, e10, r5, rfl, q _ c3 (s1.trans (s2.trans s3))⟩
/-! and, or -/
theorem snd_and1 {xa : PExp} (ha : PE X a (tE X.K G xa)) : PE X (.BoolOp .And [a] pos) (tEv X.K G.io (evAnd G (.cons xa .nil))) := by
  refine PE.imp (pe_one ha) fun σ H Q q => ?_
  obtain ⟨C, Z, ρ, r, ρ', h, e, q⟩ := q
  simp only [evAnd, Option.bind_eq_some_iff] at e
  obtain ⟨⟨r1, ρ1⟩, e1, d, e2, k, e3, e4⟩ := e
  simp only [Option.some.injEq, Prod.mk.injEq] at e4
  obtain ⟨rfl, rfl⟩ := e4
  refine ⟨C, Z, ρ, r1, ρ1, h, e1, fun v H1 p1 => ?_⟩
  obtain ⟨c1, s1, v1⟩ := p1.shown
  rw [toBool_eq e3] at e2
  cases (v1.peek c1 e2).bool
  exact q _ _ (PostE.trans s1 (NewV.post c1 .bool))
theorem snd_and2 {xa xb : PExp} {r : PExps} {rest : List Expr} (ha : PE X a (tE X.K G xa)) (hb : PE X (.BoolOp .And (b :: rest) pos) (tEv X.K G.io (evAnd G (.cons xb r)))) : PE X (.BoolOp .And (a :: b :: rest) pos) (tEv X.K G.io (evAnd G (.cons xa (.cons xb r)))) := by
  refine PE.imp (pe_and ha hb) fun σ H Q q => ?_
  obtain ⟨C, Z, ρ, r, ρ', h, e, q⟩ := q
  simp only [evAnd, Option.bind_eq_some_iff] at e
  obtain ⟨⟨r1, ρ1⟩, e1, d, e2, k, e3, e4⟩ := e
  refine ⟨C, Z, ρ, r1, ρ1, h, e1, fun v H1 p1 => ?_⟩
  obtain ⟨c1, s1, v1⟩ := p1.shown
  rw [toBool_eq e3] at e2
  refine ⟨k, (v1.peek c1 e2).bool, ?_⟩
  cases k with
  | false =>
    simp only [Bool.false_eq_true, if_false, Option.some.injEq, Prod.mk.injEq] at e4 ⊢
    obtain ⟨rfl, rfl⟩ := e4
    exact q _ _ (PostE.trans s1 (NewV.post c1 .bool))
  | true =>
    simp only [if_true] at e4 ⊢
    exact ⟨C, Z, ρ1, _, _, h.next c1, e4, fun w H2 p2 => q _ _ (PostE.trans s1 p2)⟩
theorem snd_or1 {xa : PExp} (ha : PE X a (tE X.K G xa)) : PE X (.BoolOp .Or [a] pos) (tEv X.K G.io (evOr G (.cons xa .nil))) := by
  refine PE.imp (pe_one ha) fun σ H Q q => ?_
  obtain ⟨C, Z, ρ, r, ρ', h, e, q⟩ := q
  simp only [evOr, Option.bind_eq_some_iff] at e
  obtain ⟨⟨r1, ρ1⟩, e1, d, e2, k, e3, e4⟩ := e
  simp only [Option.some.injEq, Prod.mk.injEq] at e4
  obtain ⟨rfl, rfl⟩ := e4
  refine ⟨C, Z, ρ, r1, ρ1, h, e1, fun v H1 p1 => ?_⟩
  obtain ⟨c1, s1, v1⟩ := p1.shown
  rw [toBool_eq e3] at e2
  cases (v1.peek c1 e2).bool
  exact q _ _ (PostE.trans s1 (NewV.post c1 .bool))
theorem snd_or2 {xa xb : PExp} {r : PExps} {rest : List Expr} (ha : PE X a (tE X.K G xa)) (hb : PE X (.BoolOp .Or (b :: rest) pos) (tEv X.K G.io (evOr G (.cons xb r)))) : PE X (.BoolOp .Or (a :: b :: rest) pos) (tEv X.K G.io (evOr G (.cons xa (.cons xb r)))) := by
  refine PE.imp (pe_or ha hb) fun σ H Q q => ?_
  obtain ⟨C, Z, ρ, r, ρ', h, e, q⟩ := q
  simp only [evOr, Option.bind_eq_some_iff] at e
  obtain ⟨⟨r1, ρ1⟩, e1, d, e2, k, e3, e4⟩ := e
  refine ⟨C, Z, ρ, r1, ρ1, h, e1, fun v H1 p1 => ?_⟩
  obtain ⟨c1, s1, v1⟩ := p1.shown
  rw [toBool_eq e3] at e2
  refine ⟨k, (v1.peek c1 e2).bool, ?_⟩
  cases k with
  | true =>
    simp only [if_true, Option.some.injEq, Prod.mk.injEq] at e4 ⊢
    obtain ⟨rfl, rfl⟩ := e4
    exact q _ _ (PostE.trans s1 (NewV.post c1 .bool))
  | false =>
    simp only [Bool.false_eq_true, if_false] at e4 ⊢
    exact ⟨C, Z, ρ1, _, _, h.next c1, e4, fun w H2 p2 => q _ _ (PostE.trans s1 p2)⟩
theorem PW.imp {e : Expr} {t t' : TT} (h : PW X e t) (i : ∀ σ H Q, t' σ H Q → t σ H Q) : PW X e t' := ⟨fun wh pins s σ H Q I q => h.run wh pins s σ H Q I (i σ H Q q)⟩
theorem snd_andT1 {xa : PExp} (ha : PT X a (tT X.K G xa)) : PW X (.BoolOp .And [a] pos) (tTv X.K G.io (evAnd G (.cons xa .nil))) := by
  refine PW.imp (pw_and1 ha) fun σ H Q q => ?_
  obtain ⟨C, Z, ρ, r, ρ', bb, h, e, eb, q⟩ := q
  simp only [evAnd, Option.bind_eq_some_iff] at e
  obtain ⟨⟨r1, ρ1⟩, e1, d, e2, k, e3, e4⟩ := e
  simp only [Option.some.injEq, Prod.mk.injEq] at e4
  obtain ⟨rfl, rfl⟩ := e4
  simp only [Pz.peek, Option.some.injEq, PyData.bool.injEq] at eb
  subst eb
  rw [toBool_eq e3] at e2
  exact ⟨C, Z, ρ, r1, ρ1, _, h, e1, e2, q⟩
theorem snd_andT2 {xa xb : PExp} {r : PExps} {rest : List Expr} (ha : PT X a (tT X.K G xa)) (hb : PW X (.BoolOp .And (b :: rest) pos) (tTv X.K G.io (evAnd G (.cons xb r)))) : PW X (.BoolOp .And (a :: b :: rest) pos) (tTv X.K G.io (evAnd G (.cons xa (.cons xb r)))) := by
  refine PW.imp (pw_and ha hb) fun σ H Q q => ?_
  obtain ⟨C, Z, ρ, r, ρ', bb, h, e, eb, q⟩ := q
  simp only [evAnd, Option.bind_eq_some_iff] at e
  obtain ⟨⟨r1, ρ1⟩, e1, d, e2, k, e3, e4⟩ := e
  rw [toBool_eq e3] at e2
  refine ⟨C, Z, ρ, r1, ρ1, k, h, e1, e2, fun H1 c1 s1 => ?_⟩
  cases k with
  | false =>
    simp only [Bool.false_eq_true, if_false, Option.some.injEq, Prod.mk.injEq] at e4 ⊢
    obtain ⟨rfl, rfl⟩ := e4
    simp only [Pz.peek, Option.some.injEq, PyData.bool.injEq] at eb
    subst eb
    exact q _ c1 s1
  | true =>
    simp only [if_true] at e4 ⊢
    exact ⟨C, Z, ρ1, _, _, bb, h.next c1, e4, eb, fun H2 c2 s2 => q _ c2 (s1.trans s2)⟩
theorem snd_orT1 {xa : PExp} (ha : PT X a (tT X.K G xa)) : PW X (.BoolOp .Or [a] pos) (tTv X.K G.io (evOr G (.cons xa .nil))) := by
  refine PW.imp (pw_or1 ha) fun σ H Q q => ?_
  obtain ⟨C, Z, ρ, r, ρ', bb, h, e, eb, q⟩ := q
  simp only [evOr, Option.bind_eq_some_iff] at e
  obtain ⟨⟨r1, ρ1⟩, e1, d, e2, k, e3, e4⟩ := e
  simp only [Option.some.injEq, Prod.mk.injEq] at e4
  obtain ⟨rfl, rfl⟩ := e4
  simp only [Pz.peek, Option.some.injEq, PyData.bool.injEq] at eb
  subst eb
  rw [toBool_eq e3] at e2
  exact ⟨C, Z, ρ, r1, ρ1, _, h, e1, e2, q⟩
theorem snd_orT2 {xa xb : PExp} {r : PExps} {rest : List Expr} (ha : PT X a (tT X.K G xa)) (hb : PW X (.BoolOp .Or (b :: rest) pos) (tTv X.K G.io (evOr G (.cons xb r)))) : PW X (.BoolOp .Or (a :: b :: rest) pos) (tTv X.K G.io (evOr G (.cons xa (.cons xb r)))) := by
  refine PW.imp (pw_or ha hb) fun σ H Q q => ?_
  obtain ⟨C, Z, ρ, r, ρ', bb, h, e, eb, q⟩ := q
  simp only [evOr, Option.bind_eq_some_iff] at e
  obtain ⟨⟨r1, ρ1⟩, e1, d, e2, k, e3, e4⟩ := e
  rw [toBool_eq e3] at e2
  refine ⟨C, Z, ρ, r1, ρ1, k, h, e1, e2, fun H1 c1 s1 => ?_⟩
  cases k with
  | true =>
    simp only [if_true, Option.some.injEq, Prod.mk.injEq] at e4 ⊢
    obtain ⟨rfl, rfl⟩ := e4
    simp only [Pz.peek, Option.some.injEq, PyData.bool.injEq] at eb
    subst eb
    exact q _ c1 s1
  | false =>
    simp only [Bool.false_eq_true, if_false] at e4 ⊢
    exact ⟨C, Z, ρ1, _, _, bb, h.next c1, e4, eb, fun H2 c2 s2 => q _ c2 (s1.trans s2)⟩
/-! a if t else b -/
theorem snd_ife (hc : PT X c (tT X.K G xc)) (ha : PE X a (tE X.K G xa)) (hb : PE X b (tE X.K G xb)) : PE X (.IfExp c a b pos) (tE X.K G (.ife xc xa xb)) := by
  refine PE.imp (pe_ifExp hc ha hb) fun σ H Q q => ?_
  obtain ⟨C, Z, ρ, r, ρ', h, e, q⟩ := q
  simp only [evE, Option.bind_eq_some_iff] at e
  obtain ⟨⟨r1, ρ1⟩, e1, d, e2, k, e3, e4⟩ := e
  rw [toBool_eq e3] at e2
  refine ⟨C, Z, ρ, r1, ρ1, k, h, e1, e2, fun H1 c1 s1 => ?_⟩
  cases k with
  | true =>
    simp only [if_true] at e4 ⊢
    exact ⟨C, Z, ρ1, _, _, h.next c1, e4, fun w H2 p2 => q _ _ (PostE.trans s1 p2)⟩
  | false =>
    simp only [Bool.false_eq_true, if_false] at e4 ⊢
    exact ⟨C, Z, ρ1, _, _, h.next c1, e4, fun w H2 p2 => q _ _ (PostE.trans s1 p2)⟩
theorem snd_ifeT (hc : PT X c (tT X.K G xc)) (ha : PT X a (tT X.K G xa)) (hb : PT X b (tT X.K G xb)) : PT X (.IfExp c a b pos) (tT X.K G (.ife xc xa xb)) := by
  refine ⟨fun pins s σ H Q I q => ?_⟩
  obtain ⟨C, Z, ρ, r, ρ', bb, h, e, eb, q⟩ := q
  simp only [evE, Option.bind_eq_some_iff] at e
  obtain ⟨⟨r1, ρ1⟩, e1, d, e2, k, e3, e4⟩ := e
  rw [toBool_eq e3] at e2
  have tst := hc.run pins s σ H (fun k' H1 => k' = k ∧ Cor C Z H1 σ ρ1 ∧ Sub (vis C Z H σ ρ) (vis C Z H1 σ ρ1)) I ⟨C, Z, ρ, r1, ρ1, k, h, e1, e2, fun H1 c1 s1 => ⟨rfl, c1, s1⟩⟩
  show wpAny _ _ (do if ← isTrue c X.env (eval c X.env) then isTrue a X.env (eval a X.env) else isTrue b X.env (eval b X.env)) _ _ s
  refine wpAny_bind (thn tst fun k' s1 ⟨H1, I1, ek, c1, s1'⟩ => ?_)
  subst ek
  cases k' with
  | true =>
    simp only [if_true] at e4 ⊢
    exact ha.run pins s1 σ H1 Q I1 ⟨C, Z, ρ1, _, _, bb, h.next c1, e4, eb, fun H2 c2 s2 => q _ c2 (s1'.trans s2)⟩
  | false =>
    simp only [Bool.false_eq_true, if_false] at e4 ⊢
    exact hb.run pins s1 σ H1 Q I1 ⟨C, Z, ρ1, _, _, bb, h.next c1, e4, eb, fun H2 c2 s2 => q _ c2 (s1'.trans s2)⟩
/-! subscripts -/
theorem snd_idx (hu : X.A.units + 1 < cLine) (ha : PE X a (tE X.K G xa)) (hb : PE X b (tE X.K G xb)) (hs : PlainIx b) : PE X (.Subscript a b pos) (tE X.K G (.idx xa xb)) := by
  refine PE.imp (pe_ix (rule_idx hu) ha hb hs) fun σ H Q q => ?_
  obtain ⟨C, Z, ρ, r, ρ', i, e, q⟩ := q
  simp only [evE, Option.bind_eq_some_iff] at e
  obtain ⟨⟨r1, ρ1⟩, e1, ⟨r2, ρ2⟩, e2, dx, e3, dy, e4, r3, e5, e6⟩ := e
  simp only [Option.some.injEq, Prod.mk.injEq] at e6
  obtain ⟨rfl, rfl⟩ := e6
  refine ⟨C, Z, ρ, r1, ρ1, i, e1, fun x H1 p1 => ?_⟩
  obtain ⟨c1, s1, v1⟩ := p1.shown
  refine ⟨C, Z, ρ1, r2, ρ2, i.next c1, e2, fun y H2 p2 => ?_⟩
  obtain ⟨c2, s2, v2⟩ := p2.shown
  rw [← i.k]
  exact ⟨_, dx, dy, r3, visSub, (v1.mono s2).peek c2 e3, v2.peek c2 e4, e5, fun v n => q v H2 (PostE.trans (s1.trans s2) (NewV.post c2 (.same n)))⟩
def tO (K : PySem.W.Frag) (G : EvG) (x : PExpO) : TO := fun σ H Q => ∃ C Z ρ o ρ', In0 K G.io C Z H σ ρ ∧ evO G x ρ = some (o, ρ') ∧ ∀ H', Cor C Z H' σ ρ' → Sub (vis C Z H σ ρ) (vis C Z H' σ ρ') → Q o H'
theorem PO.imp {e : Option Expr} {t t' : TO} (h : PO X e t) (i : ∀ σ H Q, t' σ H Q → t σ H Q) : PO X e t' := ⟨fun pins s σ H Q I q => h.run pins s σ H Q I (i σ H Q q)⟩
theorem snd_o_no : PO X none (tO X.K G .no) := by
  refine PO.imp po_none fun σ H Q q => ?_
  obtain ⟨C, Z, ρ, o, ρ', i, e, q⟩ := q
  simp only [evO, Option.some.injEq, Prod.mk.injEq] at e
  obtain ⟨rfl, rfl⟩ := e
  exact q H i.cor Sub.refl
theorem snd_o_yes (ha : PE X a (tE X.K G xa)) : PO X (some a) (tO X.K G (.yes xa)) := by
  refine PO.imp (po_some ha) fun σ H Q q => ?_
  obtain ⟨C, Z, ρ, o, ρ', h, e, q⟩ := q
  simp only [evO, Option.bind_eq_some_iff] at e
  obtain ⟨⟨r1, ρ1⟩, e1, d, e2, i, e3, e6⟩ := e
  simp only [Option.some.injEq, Prod.mk.injEq] at e6
  obtain ⟨rfl, rfl⟩ := e6
  refine ⟨C, Z, ρ, r1, ρ1, h, e1, fun v H1 p1 => ?_⟩
  obtain ⟨c1, s1, v1⟩ := p1.shown
  rw [toInt_eq e3] at e2
  exact ⟨i, (v1.peek c1 e2).int, q _ c1 s1⟩
theorem snd_slice {lo hi : Option Expr} {xl xh : PExpO} {p2 : Pos} (ha : PE X a (tE X.K G xa)) (hl : PO X lo (tO X.K G xl)) (hh : PO X hi (tO X.K G xh)) : PE X (.Subscript a (.Slice lo hi none p2) pos) (tE X.K G (.slice xa xl xh)) := by
  refine PE.imp (pe_slice rule_slice ha hl hh) fun σ H Q q => ?_
  obtain ⟨C, Z, ρ, r, ρ', h, e, q⟩ := q
  simp only [evE, Option.bind_eq_some_iff] at e
  obtain ⟨⟨r1, ρ1⟩, e1, ⟨l, ρ2⟩, e2, ⟨u, ρ3⟩, e3, d, e4, r', e5, e6⟩ := e
  simp only [Option.some.injEq, Prod.mk.injEq] at e6
  obtain ⟨rfl, rfl⟩ := e6
  refine ⟨C, Z, ρ, r1, ρ1, h, e1, fun v H1 p1 => ?_⟩
  obtain ⟨c1, s1, v1⟩ := p1.shown
  refine ⟨C, Z, ρ1, l, ρ2, h.next c1, e2, fun H2 c2 s2 => ?_⟩
  refine ⟨C, Z, ρ2, u, ρ3, h.next c2, e3, fun H3 c3 s3 => ?_⟩
  rw [← h.k]
  exact ⟨_, d, r', visSub, (v1.mono (s2.trans s3)).peek c3 e4, e5, fun v H' n => q v H' (PostE.trans (s1.trans (s2.trans s3)) (NewV.post c3 n))⟩
theorem snd_revs {k : Nat} {p1 p2 p3 : Pos} (ha : PE X a (tE X.K G xa)) : PE X (.Subscript a (.Slice none none (some (.UnaryOp .USub (.Constant (.int 1) k p1) p2)) p3) pos) (tE X.K G (.revs xa)) := by
  refine PE.imp (pe_revs ha) fun σ H Q q => ?_
  obtain ⟨C, Z, ρ, r, ρ', h, e, q⟩ := q
  simp only [evE, Option.bind_eq_some_iff] at e
  obtain ⟨⟨r1, ρ1⟩, e1, d, e4, r', e5, e6⟩ := e
  simp only [Option.some.injEq, Prod.mk.injEq] at e6
  obtain ⟨rfl, rfl⟩ := e6
  refine ⟨C, Z, ρ, r1, ρ1, h, e1, fun v H1 p1 => ?_⟩
  obtain ⟨c1, s1, v1⟩ := p1.shown
  rw [← h.k]
  exact ⟨_, d, r', visSub, v1.peek c1 e4, e5, fun v H' n => q v H' (PostE.trans s1 (NewV.post c1 n))⟩
theorem snd_blt {es : List Expr} {xs : PExps} {f : Bf} {T : String} {y : Str} {p : Pos} (hc : X.calm = true) (hu : X.A.units + 200 < cLine) (hp : PA X (e :: es) (tEs X.K G xs))
    (pe : ∀ r, CallR X (bfVal f) r → PE X (.Call (.Name y p) (e :: es) [] pos) (tCB r (tEs X.K G xs))) : PE X (.Call (.Name y p) (e :: es) [] pos) (tE X.K G (.blt f xs)) := by
  refine PE.imp (pe _ (rule_bf hc hu f)) fun σ H Q q => ?_
  obtain ⟨C, Z, ρ, r, ρ', h, e, q⟩ := q
  simp only [evE, Option.bind_eq_some_iff] at e
  obtain ⟨⟨rs, ρ1⟩, e1, ds, e2, r', e5, e6⟩ := e
  simp only [Option.some.injEq, Prod.mk.injEq] at e6
  obtain ⟨rfl, rfl⟩ := e6
  refine ⟨C, Z, ρ, rs, ρ1, h, e1, fun vs H1 p1 => ?_⟩
  obtain ⟨c1, s1, v1⟩ := p1
  rw [← h.k]
  exact ⟨_, ds, r', visSub, v1.peeks c1 e2, e5, fun v H' n => q v H' (PostE.trans s1 (NewV.post c1 n))⟩
end
end Pz
end
section
set_option Elab.async false
set_option linter.all false
set_option maxRecDepth 100000
set_option maxHeartbeats 4000000
namespace Pz
open PySem PySem.Spec PyProof.Rows L2

/-! ### what a def promises -/
def nz (fr : Bool) (O : Addr → Prop) (p : Addr) : Addr → Prop := fun a => O a ∨ (fr = true ∧ a = p)
structure ArgsOk (K : PySem.W.Frag) (H Hv : Hp) (O : Addr → Prop) (io : Option Nat) (ds : List PyData) (vs : List V) : Prop where
  len : ds.length = vs.length
  rep : ∀ (k : Nat) (d : PyData) (v : V), io ≠ some k → ds[k]? = some d → vs[k]? = some v → Rep K Hv d v
  own : ∀ (k : Nat) (d : PyData) (v : V), io = some k → ds[k]? = some d → vs[k]? = some v → ∃ a, v = .ref a ∧ O a ∧ PTop K H Hv a d
structure SpOut (K : PySem.W.Frag) (fs : FnSem) (O : Addr → Prop) (H H' : Hp) (vs : List V) (out : PyData × PyData) (v : V) (p : Addr) : Prop where
  frame : ∀ (a : Addr) (o : HO), (∀ k, fs.io = some k → vs[k]? ≠ some (.ref a)) → H a = some o → H' a = some o
  new : fs.fresh = true → v = .ref p ∧ H p = none ∧ PTop K H' (hide H' (nz fs.fresh O p)) p out.1
  old : fs.fresh = false → Rep K (hide H' (nz fs.fresh O p)) out.1 v
  ioo : ∀ (k : Nat) (a : Addr), fs.io = some k → vs[k]? = some (.ref a) → PTop K H' (hide H' (nz fs.fresh O p)) a out.2
def spF (K : PySem.W.Frag) (fs : FnSem) : Sp := fun vs H Q _ => ∃ O ds out, fs.run ds = some out ∧ (∀ a, O a → H a ≠ none) ∧ ArgsOk K H (hide H O) O fs.io ds vs ∧ ∀ v H' p, SpOut K fs O H H' vs out v p → Q v H'

section
variable {C : PCtx} {Z Z' : Addr → Prop} {H H' : Hp} {σ : L2.St} {ρ ρ' : PEnv} {i : Nat} {a p : Addr} {d d' : PyData} {v : V} {o : HO}
theorem Cor.hidLive (c : Cor C Z H σ ρ) (h : Hid C σ ρ Z a) : H a ≠ none := fun n => (c.fresh n).1 h
def Lent (σ : L2.St) (ρ : PEnv) (is : List Nat) (a : Addr) : Prop := ∃ i ∈ is, ∃ d, ρ[i]? = some (.own d) ∧ σ[i]? = some (some (.ref a))
theorem lend_all {io : Option Nat} (hio : io = C.io.map (·.1)) : ∀ {is : List Nat} {ρ ρ' : PEnv}, Cor C Z H σ ρ → lendAll io is ρ = some ρ' →
    Cor C Z H σ ρ' ∧ Sub (vis C Z H σ ρ) (vis C Z H σ ρ') ∧ ∀ a, Hid C σ ρ' Z a → Hid C σ ρ Z a ∧ ¬ Lent σ ρ is a
  | [], ρ, ρ', c, e => by
    simp only [lendAll, Option.some.injEq] at e; subst e
    exact ⟨c, Sub.refl, fun a h => ⟨h, fun ⟨_, z, _⟩ => nomatch z⟩⟩
  | i :: is, ρ, ρ', c, e => by
    simp only [lendAll] at e
    split at e
    · rename_i d hd
      split at e
      · cases e
      · rename_i hn
        have hn' := io_ne hio hn
        obtain ⟨c1, s1⟩ := c.demote hd hn'
        obtain ⟨c2, s2, h2⟩ := lend_all hio c1 e
        obtain ⟨b, hb, t⟩ := c.own i d hd
        have na : ∀ a, σ[i]? = some (some (.ref a)) → ¬ Hid C σ (ρ.set i (.val d)) Z a := fun a ha z => by
          rcases z with z | ⟨j, e', z1, z2⟩ | z
          · rcases c.sep i d a hd ha with q | ⟨q, _⟩
            · exact hn' a q
            · exact q z
          · rcases getElem?_set_cases z1 with ⟨_, q, _⟩ | ⟨nj, z1⟩
            · cases q
            · exact nj (c.inj i j d e' a hd z1 ha z2)
          · exact (c.zs a z).1 ⟨i, d, hd, ha⟩
        refine ⟨c2, s1.trans s2, fun a h => ?_⟩
        obtain ⟨g1, g2⟩ := h2 a h
        refine ⟨?_, fun ⟨j, hj, e', z1, z2⟩ => ?_⟩
        · rcases g1 with z | ⟨j, e', z1, z2⟩ | z
          · exact .inl z
          · rcases getElem?_set_cases z1 with ⟨_, q, _⟩ | ⟨nj, z1⟩
            · cases q
            · exact .inr (.inl ⟨j, e', z1, z2⟩)
          · exact .inr (.inr z)
        · by_cases q : i = j
          · subst q; exact na a z2 g1
          · rcases List.mem_cons.mp hj with r | r
            · exact q r.symm
            · exact g2 ⟨j, r, e', by rw [List.getElem?_set_ne q]; exact z1, z2⟩
    · rename_i ds hd
      obtain ⟨c2, s2, h2⟩ := lend_all hio c e
      refine ⟨c2, s2, fun a h => ?_⟩
      obtain ⟨g1, g2⟩ := h2 a h
      refine ⟨g1, fun ⟨j, hj, e', z1, z2⟩ => ?_⟩
      rcases List.mem_cons.mp hj with r | r
      · subst r; rw [hd] at z1; cases z1
      · exact g2 ⟨j, r, e', z1, z2⟩
    · cases e
theorem hid_own (hi : ρ[i]? = some (.own d)) : Hid C σ (ρ.set i (.own d')) Z = Hid C σ ρ Z := by
  have oa : ∀ b, OA σ (ρ.set i (.own d')) b ↔ OA σ ρ b := fun b => by
    constructor
    · rintro ⟨j, e, h1, h2⟩
      rcases getElem?_set_cases h1 with ⟨rfl, _, _⟩ | ⟨_, h1⟩
      · exact ⟨i, d, hi, h2⟩
      · exact ⟨j, e, h1, h2⟩
    · rintro ⟨j, e, h1, h2⟩
      by_cases q : i = j
      · subst q; exact ⟨i, d', List.getElem?_set_self (lt_of_get hi), h2⟩
      · exact ⟨j, e, by rw [List.getElem?_set_ne q]; exact h1, h2⟩
  funext b
  exact propext ⟨fun q => q.elim .inl fun q => q.elim (fun q => .inr (.inl ((oa b).mp q))) fun q => .inr (.inr q), fun q => q.elim .inl fun q => q.elim (fun q => .inr (.inl ((oa b).mpr q))) fun q => .inr (.inr q)⟩
/-- tuples that are seen without the lent ones' hiding are seen with it -/
theorem tups_seen {fr : Bool} {is : List Nat} (c : Cor C Z H σ ρ) (keep : ∀ b, Lent σ ρ is b → H' b = H b) :
    ∀ b xs, Rd (hide H' (nz fr (fun a => Hid C σ ρ Z a ∧ ¬ Lent σ ρ is a) p)) b (.tup xs) → Rd (hide H' (nz fr (Hid C σ ρ Z) p)) b (.tup xs) := by
  have key : ∀ b u, (∀ xs, u ≠ .lst xs) → (∀ xs, u ≠ .dK xs) → hide H' (nz fr (fun a => Hid C σ ρ Z a ∧ ¬ Lent σ ρ is a) p) b = some u → hide H' (nz fr (Hid C σ ρ Z) p) b = some u := fun b u n1 n2 e => by
    obtain ⟨m, e⟩ := of_hide e
    refine hide_of (fun z => ?_) e
    rcases z with z | z
    · by_cases l : Lent σ ρ is b
      · have k := keep b l
        obtain ⟨i, _, d, h1, h2⟩ := l
        obtain ⟨b', h3, t⟩ := c.own i d h1
        rw [h2] at h3; cases h3
        cases d with
        | list ds =>
          obtain ⟨xs, q, _⟩ := t
          rw [k, q] at e
          exact n1 xs (Option.some.inj e).symm
        | dict ds =>
          obtain ⟨xs, q, _⟩ := t
          rw [k, q] at e
          exact n2 xs (Option.some.inj e).symm
        | _ => exact t.elim
      · exact m (.inl ⟨z, l⟩)
    · exact m (.inr z)
  intro b xs r
  rcases r with r | ⟨o, r⟩
  · exact .inl (key b _ (fun _ z => nomatch z) (fun _ z => nomatch z) r)
  · exact .inr ⟨o, key b _ (fun _ z => nomatch z) (fun _ z => nomatch z) r⟩
theorem PTop.fixd {K : PySem.W.Frag} {H Hh : Hp} {a : Addr} {d : PyData} (t : PTop K H Hh a d) : fixd d = false := by
  cases d <;> first | exact t.elim | rfl
theorem PTop.hidden {K : PySem.W.Frag} {H Hh Hh' : Hp} {a : Addr} {d : PyData} (h : ∀ a xs, Rd Hh a (.tup xs) → Rd Hh' a (.tup xs)) (f : fixdIn d = true) (t : PTop K H Hh a d) : PTop K H Hh' a d := by
  cases d with
  | list ds =>
    obtain ⟨xs, q, r⟩ := t
    exact ⟨xs, q, Reps.hidden h ds xs f r⟩
  | dict ds => cases f
  | _ => exact t.elim
/-- the new object of a call, where there is one, is hidden -/
theorem call_hid {fr : Bool} : Hid C σ ρ (nz fr Z p) = nz fr (Hid C σ ρ Z) p := by
  funext b
  exact propext ⟨fun q => q.elim (fun q => .inl (.inl q)) fun q => q.elim (fun q => .inl (.inr (.inl q))) fun q => q.elim (fun q => .inl (.inr (.inr q))) .inr,
    fun q => q.elim (fun q => q.elim .inl fun q => .inr (q.elim .inl fun q => .inr (.inl q))) fun q => .inr (.inr (.inr q))⟩
theorem nz_true : nz true Z p = fun a => Z a ∨ a = p := by
  funext b
  exact propext ⟨fun q => q.elim .inl fun q => .inr q.2, fun q => q.elim .inl fun q => .inr ⟨rfl, q⟩⟩
theorem nz_false : nz false Z p = Z := by
  funext b
  exact propext ⟨fun q => q.elim id fun q => (nomatch q.1), .inl⟩
/-- what a call leaves, from Cor behind it -/
theorem call_post {fr : Bool} (c0 : Cor C Z H σ ρ) (c : Cor C (nz fr Z p) H' σ ρ') (s : Sub (vis C Z H σ ρ) (vis C (nz fr Z p) H' σ ρ'))
    (new : fr = true → v = .ref p ∧ H p = none ∧ PTop C.K H' (vis C (nz fr Z p) H' σ ρ') p d) (old : fr = false → Rep C.K (vis C (nz fr Z p) H' σ ρ') d v) : PostE C Z σ H ρ (resRV fr d) ρ' v H' := by
  cases fr with
  | true =>
    obtain ⟨e, n, t⟩ := new rfl
    rw [nz_true] at c s t
    exact ⟨p, e, fun z => (c0.fresh n).1 (.inr (.inr z)), c, s, t⟩
  | false =>
    have r := old rfl
    rw [nz_false] at c s r
    exact ⟨c, s, r⟩
end
theorem RVsok.len {C : PCtx} {Z : Addr → Prop} {H : Hp} {σ : L2.St} {ρ : PEnv} : ∀ {rs : List RV} {vs : List V}, RVsok C Z H σ ρ rs vs → rs.length = vs.length
  | _, _, .nil => rfl
  | _, _, .cons _ t => congrArg (· + 1) t.len
theorem RVsok.get {C : PCtx} {Z : Addr → Prop} {H : Hp} {σ : L2.St} {ρ : PEnv} : ∀ {rs : List RV} {vs : List V} {k : Nat} {v : V}, RVsok C Z H σ ρ rs vs → vs[k]? = some v → ∃ r, rs[k]? = some r ∧ RVok C Z H σ ρ r v
  | _, _, k, v, .nil, e => by simp at e
  | _, _, 0, v, .cons h t, e => by
    simp only [List.getElem?_cons_zero, Option.some.injEq] at e; subst e
    exact ⟨_, rfl, h⟩
  | _, _, k + 1, v, .cons h t, e => by
    simp only [List.getElem?_cons_succ] at e
    simpa only [List.getElem?_cons_succ] using t.get e
theorem peeks_len {ρ : PEnv} : ∀ {rs : List RV} {ds : List PyData}, peeks rs ρ = some ds → ds.length = rs.length
  | [], ds, e => by simp only [peeks, Option.some.injEq] at e; subst e; rfl
  | r :: rs, ds, e => by
    simp only [peeks, Option.bind_eq_some_iff] at e
    obtain ⟨d, e1, ds', e2, e3⟩ := e
    simp only [Option.some.injEq] at e3; subst e3
    simp [peeks_len e2]
theorem peeks_get {ρ : PEnv} : ∀ {rs : List RV} {ds : List PyData} {k : Nat} {r : RV} {d : PyData}, peeks rs ρ = some ds → rs[k]? = some r → ds[k]? = some d → peek r ρ = some d
  | [], ds, k, r, d, e, h, _ => by simp at h
  | r :: rs, ds, k, r', d', e, h1, h2 => by
    simp only [peeks, Option.bind_eq_some_iff] at e
    obtain ⟨d, e1, ds', e2, e3⟩ := e
    simp only [Option.some.injEq] at e3; subst e3
    cases k with
    | zero =>
      simp only [List.getElem?_cons_zero, Option.some.injEq] at h1 h2
      subst h1; subst h2; exact e1
    | succ k =>
      simp only [List.getElem?_cons_succ] at h1 h2
      exact peeks_get e2 h1 h2
theorem mem_locs : ∀ {rs : List RV} {k i : Nat}, rs[k]? = some (.loc i) → i ∈ locs rs
  | [], k, i, h => by simp at h
  | r :: rs, 0, i, h => by
    simp only [List.getElem?_cons_zero, Option.some.injEq] at h; subst h
    exact List.mem_cons_self
  | r :: rs, k + 1, i, h => by
    simp only [List.getElem?_cons_succ] at h
    have := mem_locs h
    cases r <;> simp only [locs] <;> first | exact this | exact List.mem_cons_of_mem _ this
theorem locs_erase : ∀ {rs : List RV} {k j i : Nat}, j ≠ k → rs[j]? = some (.loc i) → i ∈ locs (rs.eraseIdx k)
  | [], k, j, i, _, h => by simp at h
  | r :: rs, 0, 0, i, n, h => absurd rfl n
  | r :: rs, 0, j + 1, i, n, h => by
    simp only [List.getElem?_cons_succ] at h
    exact mem_locs h
  | r :: rs, k + 1, 0, i, n, h => by
    simp only [List.getElem?_cons_zero, Option.some.injEq] at h; subst h
    exact List.mem_cons_self
  | r :: rs, k + 1, j + 1, i, n, h => by
    simp only [List.getElem?_cons_succ] at h
    have := locs_erase (k := k) (fun z => n (congrArg (· + 1) z)) h
    simp only [List.eraseIdx_cons_succ]
    cases r <;> simp only [locs] <;> first | exact this | exact List.mem_cons_of_mem _ this

section
variable {C : PCtx} {Z Z' : Addr → Prop} {H H' : Hp} {σ : L2.St} {ρ ρ' : PEnv} {G : EvG} {fs : FnSem} {rs : List RV} {vs : List V} {r : RV}
/-- an argument that is no io one -/
theorem arg_rep {is : List Nat} {r : RV} {v : V} {d : PyData} (c : Cor C Z H σ ρ) (h : RVok C Z H σ ρ r v) (e : peek r ρ = some d) (hm : ∀ i, r = .loc i → i ∈ is) :
    Rep C.K (hide H fun a => Hid C σ ρ Z a ∧ ¬ Lent σ ρ is a) d v := by
  have sub : Sub (vis C Z H σ ρ) (hide H fun a => Hid C σ ρ Z a ∧ ¬ Lent σ ρ is a) := hide_mono (fun _ _ _ e => e) fun _ _ n _ z => n z.1
  cases r with
  | val d' =>
    simp only [Pz.peek, Option.some.injEq] at e; subst e
    exact Rep.mono sub _ _ h
  | tmp d' =>
    simp only [Pz.peek, Option.some.injEq] at e; subst e
    exact Rep.mono sub _ _ h
  | loc i =>
    obtain ⟨a, rfl, ha⟩ := h
    simp only [Pz.peek] at e
    split at e
    · rename_i d' hd
      simp only [Option.some.injEq] at e; subst e
      obtain ⟨b, hb, t⟩ := c.own i d' hd
      rw [ha] at hb; cases hb
      exact t.rep sub fun o e => hide_of (fun z => z.2 ⟨i, hm i rfl, d', hd, ha⟩) e
    · rename_i ds hd
      simp only [Option.some.injEq] at e; subst e
      obtain ⟨w, hw, t⟩ := c.val i _ hd
      rw [ha] at hw; cases hw
      exact Rep.mono sub _ _ t
    · cases e
theorem call_ok (hio : G.io = C.io.map (·.1)) (c : Cor C Z H σ ρ) (h : RVsok C Z H σ ρ rs vs) (e : evCall G fs rs ρ = some (r, ρ')) {Q : VK} (q : ∀ v H', PostE C Z σ H ρ r ρ' v H' → Q v H') (E : XK) : spF C.K fs vs H Q E := by
  simp only [evCall, Option.bind_eq_some_iff] at e
  obtain ⟨ds, e1, out, e2, e⟩ := e
  have len : ds.length = vs.length := (peeks_len e1).trans h.len
  have full : (fun a => Hid C σ ρ Z a ∧ ¬ Lent σ ρ [] a) = Hid C σ ρ Z := by
    funext b
    exact propext ⟨fun z => z.1, fun z => ⟨z, fun ⟨_, y, _⟩ => nomatch y⟩⟩
  split at e
  · rename_i hn
    refine ⟨fun a => Hid C σ ρ Z a ∧ ¬ Lent σ ρ (locs rs) a, ds, out, e2, fun a z => c.hidLive z.1, ⟨len, fun k d v _ h1 h2 => ?_, fun k d v z => ?_⟩, fun v H' p so => ?_⟩
    · obtain ⟨r, g1, g2⟩ := h.get h2
      exact arg_rep c g2 (peeks_get e1 g1 h1) fun i e => mem_locs (e ▸ g1)
    · rw [hn] at z; cases z
    · have sub : Sub H H' := fun a o x => so.frame a o (fun k z => by rw [hn] at z; cases z) x
      obtain ⟨c1, s1⟩ := c.growT (Z' := nz fs.fresh Z p) sub (fun b z => .inl z) fun b z => by
        rcases z with z | ⟨z, rfl⟩
        · exact .inl z
        · obtain ⟨_, n, t⟩ := so.new z
          exact .inr ⟨n, t.ne⟩
      split at e
      · rename_i hf
        simp only [Option.some.injEq, Prod.mk.injEq] at e
        obtain ⟨rfl, rfl⟩ := e
        refine q v H' (call_post c c1 s1 (fun z => ?_) fun z => ?_)
        · obtain ⟨n1, n2, t⟩ := so.new z
          refine ⟨n1, n2, ?_⟩
          rw [t.fixd, Bool.false_or, List.isEmpty_iff] at hf
          rw [hf, full] at t
          show PTop C.K H' (hide H' _) p out.1
          rw [call_hid]; exact t
        · have r0 := so.old z
          show Rep C.K (hide H' _) out.1 v
          rw [call_hid]
          rcases Bool.or_eq_true_iff.mp hf with hf | hf
          · refine Rep.hidden (tups_seen c fun b l => ?_) _ _ hf r0
            obtain ⟨i, _, d, h1, h2⟩ := l
            obtain ⟨b', h3, t⟩ := c.own i d h1
            rw [h2] at h3; cases h3
            cases x : H b with
            | none => exact absurd x t.ne
            | some o => exact sub b o x
          · rw [List.isEmpty_iff] at hf
            rw [hf, full] at r0
            exact r0
      · simp only [Option.bind_eq_some_iff] at e
        obtain ⟨ρ1, e3, e⟩ := e
        simp only [Option.some.injEq, Prod.mk.injEq] at e
        obtain ⟨rfl, rfl⟩ := e
        obtain ⟨c2, s2, hh⟩ := lend_all hio c1 e3
        have sub2 : Sub (hide H' (nz fs.fresh (fun a => Hid C σ ρ Z a ∧ ¬ Lent σ ρ (locs rs) a) p)) (vis C (nz fs.fresh Z p) H' σ ρ1) := hide_mono (fun _ _ _ e => e) fun b u n e z => by
          obtain ⟨z1, z2⟩ := hh b z
          rw [call_hid] at z1
          rcases z1 with z1 | z1
          · exact n (.inl ⟨z1, z2⟩)
          · exact n (.inr z1)
        refine q v H' (call_post c c2 (s1.trans s2) (fun z => ?_) fun z => ?_)
        · obtain ⟨n1, n2, t⟩ := so.new z
          exact ⟨n1, n2, t.mono rfl sub2⟩
        · exact Rep.mono sub2 _ _ (so.old z)
  · rename_i k hk
    split at e
    · rename_i i hi
      split at e
      · rename_i d0 hd0
        split at e
        · rename_i hc
          obtain ⟨hc1, hc2⟩ := Bool.and_eq_true_iff.mp hc
          simp only [Option.some.injEq, Prod.mk.injEq] at e
          obtain ⟨rfl, rfl⟩ := e
          obtain ⟨a, ha, ta⟩ := c.own i d0 hd0
          have hvk : vs[k]? = some (.ref a) := by
            have hl : k < vs.length := by rw [← h.len]; exact lt_of_get hi
            obtain ⟨r, g1, g2⟩ := h.get (List.getElem?_eq_getElem hl)
            rw [hi] at g1; cases g1
            obtain ⟨b, g3, g4⟩ := g2
            rw [ha] at g4; cases g4
            rw [List.getElem?_eq_getElem hl, g3]
          have nl : ¬ Lent σ ρ (locs (rs.eraseIdx k)) a := fun ⟨j, hj, d, z1, z2⟩ => by
            have := c.inj i j d0 d a hd0 z1 ha z2
            subst this
            rw [List.contains_iff_mem.mpr hj] at hc1; cases hc1
          have sub0 : Sub (vis C Z H σ ρ) (hide H fun a => Hid C σ ρ Z a ∧ ¬ Lent σ ρ (locs (rs.eraseIdx k)) a) := hide_mono (fun _ _ _ e => e) fun _ _ n _ z => n z.1
          refine ⟨fun a => Hid C σ ρ Z a ∧ ¬ Lent σ ρ (locs (rs.eraseIdx k)) a, ds, out, e2, fun a z => c.hidLive z.1, ⟨len, fun k' d v z h1 h2 => ?_, fun k' d v z h1 h2 => ?_⟩, fun v H' p so => ?_⟩
          · obtain ⟨r, g1, g2⟩ := h.get h2
            have nk : k' ≠ k := fun y => z (by rw [hk, y])
            exact arg_rep c g2 (peeks_get e1 g1 h1) fun i e => locs_erase nk (e ▸ g1)
          · rw [hk] at z; cases z
            rw [hvk] at h2; cases h2
            have := peeks_get e1 hi h1
            simp only [Pz.peek, hd0, Option.some.injEq] at this
            subst this
            exact ⟨a, rfl, ⟨.inr (.inl ⟨i, d0, hd0, ha⟩), nl⟩, ta.mono rfl sub0⟩
          · have keep : ∀ b o, b ≠ a → H b = some o → H' b = some o := fun b o n x => so.frame b o (fun k' z y => by
              rw [hk] at z; cases z
              rw [hvk] at y; cases y
              exact n rfl) x
            have seen : ((locs (rs.eraseIdx k)).isEmpty || (fixd out.1 && fixdIn out.2)) = true → (locs (rs.eraseIdx k) = []) ∨ (fixd out.1 = true ∧ fixdIn out.2 = true) := fun z => by
              rcases Bool.or_eq_true_iff.mp z with z | z
              · exact .inl (List.isEmpty_iff.mp z)
              · exact .inr (Bool.and_eq_true_iff.mp z)
            have tk : ∀ b, Lent σ ρ (locs (rs.eraseIdx k)) b → H' b = H b := fun b l => by
              have nb : b ≠ a := fun z => nl (z ▸ l)
              obtain ⟨i, _, d, h1, h2⟩ := l
              obtain ⟨b', h3, t⟩ := c.own i d h1
              rw [h2] at h3; cases h3
              cases x : H b with
              | none => exact absurd x t.ne
              | some o => exact keep b o nb x
            have io' : PTop C.K H' (hide H' (Hid C σ ρ (nz fs.fresh Z p))) a out.2 := by
              have t := so.ioo k a hk hvk
              rw [call_hid]
              rcases seen hc2 with z | ⟨_, z⟩
              · rw [z, full] at t; exact t
              · exact t.hidden (tups_seen c tk) z
            obtain ⟨c1, s1⟩ := c.growM (Z' := nz fs.fresh Z p) (d' := out.2) hd0 ha keep (fun b z => .inl z) (fun b z => by
              rcases z with z | ⟨z, rfl⟩
              · exact .inl z
              · obtain ⟨_, n, t⟩ := so.new z
                exact .inr ⟨n, t.ne⟩) fun Hh e => by subst e; exact io'
            refine q v H' (call_post c c1 s1 (fun z => ?_) fun z => ?_)
            · obtain ⟨n1, n2, t⟩ := so.new z
              refine ⟨n1, n2, ?_⟩
              show PTop C.K H' (hide H' (Hid C σ (ρ.set i (.own out.2)) (nz fs.fresh Z p))) p out.1
              rw [hid_own hd0, call_hid]
              rcases seen hc2 with y | ⟨y, _⟩
              · rw [y, full] at t; exact t
              · rw [t.fixd] at y; cases y
            · have r0 := so.old z
              show Rep C.K (hide H' (Hid C σ (ρ.set i (.own out.2)) (nz fs.fresh Z p))) out.1 v
              rw [hid_own hd0, call_hid]
              rcases seen hc2 with y | ⟨y, _⟩
              · rw [y, full] at r0; exact r0
              · exact Rep.hidden (tups_seen c tk) _ _ y r0
        · cases e
      · cases e
    · cases e
end
section
variable {X : Cx} {G : EvG} {a : Expr} {pos : Pos}
theorem snd_call {k : Nat} {fa : Addr} {fd : FuncData} {ps : List Str} {fs : FnSem} {f : String} {y : Str} {p : Pos} {es : List Expr} {xs : PExps} (F : FnOk X.prog X.w X.K X.mg X.base CX0 k fa fd ps (spF X.K fs)) (hr : Room k X.A) (hf : G.fns f = some fs)
    (hg : Gl X y) (hm : X.mg y = some (.ref fa)) (hk : PySem.W.keepIn X.K (.ref fa) = true) (hb : Binds X.K fd ps []) (ha : PA X (a :: es) (tEs X.K G xs)) (hdb : (y == ("__debug__" : Str)) = false)
    (he : starEach (a :: es) X.env = (false, eval a X.env) :: starEach es X.env) (hpl : (backTo pos (starEach es X.env)).any (·.1) = false) : PE X (.Call (.Name y p) (a :: es) [] pos) (tE X.K G (.call f xs)) := by
  refine PE.imp (pe_call (dvs := []) (ds := []) (E := E0) F hr hg hm hk hb .nil pass0 ha hdb he hpl) fun σ H Q q => ?_
  obtain ⟨C, Z, ρ, r, ρ', h, e, q⟩ := q
  simp only [evE, Option.bind_eq_some_iff] at e
  obtain ⟨fs', e0, ⟨rs, ρ1⟩, e1, e2⟩ := e
  rw [hf] at e0; cases e0
  refine ⟨C, Z, ρ, rs, ρ1, h, e1, fun vs H1 p1 => ?_⟩
  obtain ⟨c1, s1, v1⟩ := p1
  rw [List.append_nil, ← h.k]
  exact call_ok h.io c1 v1 e2 (fun v H' pp => q v H' (PostE.trans s1 pp)) _
end
end Pz
end
section
set_option Elab.async false
set_option linter.all false
set_option maxRecDepth 100000
set_option maxHeartbeats 4000000
namespace Pz
open PySem PySem.Spec PyProof.Rows L2

section
variable {X : Cx} {G : EvG} {a b c e : Expr} {xa xb xc : PExp} {pos : Pos}
theorem MtM.mtr {id : String} {r : V → List V → Hp → VK → Prop} (h : MtM X id r) : MtR X id r := h
theorem own_list {C : PCtx} {Z : Addr → Prop} {H : Hp} {σ : L2.St} {ρ : PEnv} {i : Nat} {ds : List PyData} (c : Cor C Z H σ ρ) (hi : ρ[i]? = some (.own (.list ds))) : ∃ a xs, σ[i]? = some (some (.ref a)) ∧ H a = some (.lst xs) ∧ Reps C.K (vis C Z H σ ρ) ds xs := by
  obtain ⟨a, ha, xs, hx, r⟩ := c.own i _ hi
  exact ⟨a, xs, ha, hx, r⟩
/-- what a slot owns is a list; it is given other items -/
theorem own_set {C : PCtx} {Z : Addr → Prop} {H : Hp} {σ : L2.St} {ρ : PEnv} {i : Nat} {a : Addr} {d0 : PyData} {ds : List PyData} {xs : List V} (c : Cor C Z H σ ρ) (hi : ρ[i]? = some (.own d0)) (ha : σ[i]? = some (some (.ref a))) (r : Reps C.K (vis C Z H σ ρ) ds xs) :
    Cor C Z (upd H a (.lst xs)) σ (ρ.set i (.own (.list ds))) ∧ Sub (vis C Z H σ ρ) (vis C Z (upd H a (.lst xs)) σ (ρ.set i (.own (.list ds)))) :=
  c.mutate hi ha fun Hh s => ⟨xs, upd_same, Reps.mono s _ _ r⟩
theorem snd_app {i : Nat} {x : Str} {p apos cpos : Pos} (hN : X.N[i]? = some x) (hv : Vis X.env.scope x) (hd : (x == ("__debug__" : Str)) = false) (hcd : (x == ("__classdict__" : Str)) = false) (ha : PE X a (tE X.K G xa))
    (hbase : attributeBase (.Name x p) "append" X.env (eval (.Name x p) X.env) = eval (.Name x p) X.env) (hs : starEach [a] X.env = [(false, eval a X.env)]) (hline : (apos.endLine == cpos.line) = true) :
    PE X (.Call (.Attribute (.Name x p) "append" apos) [a] [] cpos) (tE X.K G (.app i xa)) := by
  refine PE.imp (pe_bm PySem.F.plainAttrs_list PySem.F.slot_list_append PySem.F.type_list_append (MtM.mtr mt_append) (pe_var hN hv hd hcd) (pa_cons ha pa_nil hs) hbase (by rw [hs]; rfl) hline hs rfl) fun σ H Q q => ?_
  obtain ⟨C, Z, ρ, r, ρ', h, e, q⟩ := q
  simp only [evE] at e
  split at e
  · rename_i ds0 hi0
    simp only [Option.bind_eq_some_iff] at e
    obtain ⟨⟨r1, ρ1⟩, e1, ⟨d, ρ2⟩, e2, e⟩ := e
    split at e
    · rename_i ds hi
      split at e
      · rename_i hl
        simp only [Option.some.injEq, Prod.mk.injEq] at e
        obtain ⟨rfl, rfl⟩ := e
        obtain ⟨a0, xs0, h1, h2, _⟩ := own_list h.cor hi0
        refine ⟨.ref a0, h1, .inl ⟨rfl, xs0, SqL.of h2⟩, C, Z, ρ, r1, ρ1, h, e1, fun v H1 p1 => ?_⟩
        obtain ⟨c1, s1, v1⟩ := p1.shown
        obtain ⟨c2, s2, rv⟩ := v1.settle h.io c1 e2
        obtain ⟨a1, xs, g1, g2, g3⟩ := own_list c2 hi
        rw [h1] at g1; cases g1
        refine ⟨a0, xs, v, rfl, rfl, g2, by rw [g3.length, ← lim_eq]; exact hl, ?_⟩
        obtain ⟨c3, s3⟩ := own_set c2 hi h1 (g3.append (Reps.one rv))
        exact q _ _ ⟨c3, (s1.trans s2).trans s3, by simp only [Rep]⟩
      · cases e
    · cases e
  · cases e
theorem snd_ext {i : Nat} {x : Str} {p apos cpos : Pos} (hN : X.N[i]? = some x) (hv : Vis X.env.scope x) (hd : (x == ("__debug__" : Str)) = false) (hcd : (x == ("__classdict__" : Str)) = false) (ha : PE X a (tE X.K G xa))
    (hbase : attributeBase (.Name x p) "extend" X.env (eval (.Name x p) X.env) = eval (.Name x p) X.env) (hs : starEach [a] X.env = [(false, eval a X.env)]) (hline : (apos.endLine == cpos.line) = true) :
    PE X (.Call (.Attribute (.Name x p) "extend" apos) [a] [] cpos) (tE X.K G (.ext i xa)) := by
  refine PE.imp (pe_bm PySem.F.plainAttrs_list PySem.F.slot_list_extend PySem.F.type_list_extend (MtM.mtr mt_extend) (pe_var hN hv hd hcd) (pa_cons ha pa_nil hs) hbase (by rw [hs]; rfl) hline hs rfl) fun σ H Q q => ?_
  obtain ⟨C, Z, ρ, r, ρ', h, e, q⟩ := q
  simp only [evE] at e
  split at e
  · rename_i ds0 hi0
    simp only [Option.bind_eq_some_iff] at e
    obtain ⟨⟨r1, ρ1⟩, e1, ⟨d, ρ2⟩, e2, e⟩ := e
    split at e
    · rename_i es ds hd hi
      have hd : d = .list es := hd
      subst hd
      split at e
      · rename_i hl
        simp only [Option.some.injEq, Prod.mk.injEq] at e
        obtain ⟨rfl, rfl⟩ := e
        obtain ⟨a0, xs0, h1, h2, _⟩ := own_list h.cor hi0
        refine ⟨.ref a0, h1, .inl ⟨rfl, xs0, SqL.of h2⟩, C, Z, ρ, r1, ρ1, h, e1, fun v H1 p1 => ?_⟩
        obtain ⟨c1, s1, v1⟩ := p1.shown
        obtain ⟨c2, s2, rv⟩ := v1.settle h.io c1 e2
        obtain ⟨a1, xs, g1, g2, g3⟩ := own_list c2 hi
        rw [h1] at g1; cases g1
        simp only [Rep] at rv
        obtain ⟨b, zs, rfl, hb, rz⟩ := rv
        refine ⟨a0, b, xs, zs, rfl, rfl, g2, visSub _ _ hb, by rw [g3.length, rz.length, ← lim_eq]; exact hl, ?_⟩
        obtain ⟨c3, s3⟩ := own_set c2 hi h1 (g3.append rz)
        exact q _ _ ⟨c3, (s1.trans s2).trans s3, by simp only [Rep]⟩
      · cases e
    · cases e
  · cases e
theorem snd_pop {i : Nat} {x : Str} {p apos cpos : Pos} (hN : X.N[i]? = some x) (hv : Vis X.env.scope x) (hd : (x == ("__debug__" : Str)) = false) (hcd : (x == ("__classdict__" : Str)) = false)
    (hbase : attributeBase (.Name x p) "pop" X.env (eval (.Name x p) X.env) = eval (.Name x p) X.env) (hline : (apos.endLine == cpos.line) = true) :
    PE X (.Call (.Attribute (.Name x p) "pop" apos) [] [] cpos) (tE X.K G (.pop i)) := by
  refine PE.imp (pe_bm0 PySem.F.plainAttrs_list PySem.F.slot_list_pop PySem.F.type_list_pop (MtM.mtr mt_pop) (pe_var hN hv hd hcd) hbase hline) fun σ H Q q => ?_
  obtain ⟨C, Z, ρ, r, ρ', h, e, q⟩ := q
  simp only [evE] at e
  split at e
  · rename_i ds hi
    simp only [Option.bind_eq_some_iff] at e
    obtain ⟨d, e1, e⟩ := e
    simp only [Option.some.injEq, Prod.mk.injEq] at e
    obtain ⟨rfl, rfl⟩ := e
    obtain ⟨a0, xs, h1, h2, g3⟩ := own_list h.cor hi
    have gl : ds[xs.length - 1]? = some d := by rw [g3.length, ← List.getLast?_eq_getElem?]; exact e1
    obtain ⟨y, y1, y2⟩ := g3.get gl
    have dl : Reps C.K (vis C Z H σ ρ) ds.dropLast xs.dropLast := by
      rw [List.dropLast_eq_take, List.dropLast_eq_take, g3.length]
      exact g3.take _
    refine ⟨.ref a0, h1, .inl ⟨rfl, xs, SqL.of h2⟩, a0, xs, y, rfl, rfl, h2, y1, ?_⟩
    obtain ⟨c3, s3⟩ := own_set h.cor hi h1 dl
    exact q _ _ ⟨c3, s3, Rep.mono s3 _ _ y2⟩
  · cases e
theorem snd_rev {i : Nat} {x : Str} {p apos cpos : Pos} (hN : X.N[i]? = some x) (hv : Vis X.env.scope x) (hd : (x == ("__debug__" : Str)) = false) (hcd : (x == ("__classdict__" : Str)) = false)
    (hbase : attributeBase (.Name x p) "reverse" X.env (eval (.Name x p) X.env) = eval (.Name x p) X.env) (hline : (apos.endLine == cpos.line) = true) :
    PE X (.Call (.Attribute (.Name x p) "reverse" apos) [] [] cpos) (tE X.K G (.rev i)) := by
  refine PE.imp (pe_bm0 PySem.F.plainAttrs_list PySem.F.slot_list_reverse PySem.F.type_list_reverse (MtM.mtr mt_reverse) (pe_var hN hv hd hcd) hbase hline) fun σ H Q q => ?_
  obtain ⟨C, Z, ρ, r, ρ', h, e, q⟩ := q
  simp only [evE] at e
  split at e
  · rename_i ds hi
    simp only [Option.some.injEq, Prod.mk.injEq] at e
    obtain ⟨rfl, rfl⟩ := e
    obtain ⟨a0, xs, h1, h2, g3⟩ := own_list h.cor hi
    refine ⟨.ref a0, h1, .inl ⟨rfl, xs, SqL.of h2⟩, a0, xs, rfl, rfl, h2, ?_⟩
    obtain ⟨c3, s3⟩ := own_set h.cor hi h1 g3.reverse
    exact q _ _ ⟨c3, s3, by simp only [Rep]⟩
  · cases e
theorem idxOf_spec {d : PyData} : ∀ {ds : List PyData} {k n : Nat}, idxOf d ds k = some n → ∃ j z, n = k + j ∧ ds[j]? = some z ∧ PyData.eqv z d = true ∧ ∀ m z', m < j → ds[m]? = some z' → PyData.eqv z' d = false
  | [], k, n, e => by simp [idxOf] at e
  | x :: ds, k, n, e => by
    simp only [idxOf] at e
    split at e
    · rename_i h
      simp only [Option.some.injEq] at e; subst e
      exact ⟨0, x, rfl, rfl, h, fun m _ hm => absurd hm (Nat.not_lt_zero m)⟩
    · rename_i h
      obtain ⟨j, z, e1, e2, e3, e4⟩ := idxOf_spec e
      refine ⟨j + 1, z, by omega, e2, e3, fun m z' hm hz => ?_⟩
      cases m with
      | zero =>
        simp only [List.getElem?_cons_zero, Option.some.injEq] at hz; subst hz
        simpa using h
      | succ m => exact e4 m z' (by omega) hz
theorem listOf_eq {d : PyData} {ds : List PyData} (h : listOf d = some ds) : d = .list ds := by
  cases d <;> simp only [listOf, Option.some.injEq] at h <;> first | (cases h; done) | rw [h]
theorem snd_index {apos cpos : Pos} (hu : X.A.units + 65 < cLine) (ha : PE X a (tE X.K G xa)) (hb : PE X b (tE X.K G xb)) (hbase : attributeBase a "index" X.env (eval a X.env) = eval a X.env) (hs : starEach [b] X.env = [(false, eval b X.env)]) (hline : (apos.endLine == cpos.line) = true) :
    PE X (.Call (.Attribute a "index" apos) [b] [] cpos) (tE X.K G (.index xa xb)) := by
  refine PE.imp (pe_bm PySem.F.plainAttrs_list PySem.F.slot_list_index PySem.F.type_list_index (mt_indexD hu) ha (pa_cons hb pa_nil hs) hbase (by rw [hs]; rfl) hline hs rfl) fun σ H Q q => ?_
  obtain ⟨C, Z, ρ, r, ρ', h, e, q⟩ := q
  simp only [evE, Option.bind_eq_some_iff] at e
  obtain ⟨⟨r1, ρ1⟩, e1, x0, e7, ds0, e8, ⟨r2, ρ2⟩, e2, dx, e3, dy, e4, ds, e5, e⟩ := e
  split at e
  · rename_i hsh
    obtain ⟨hsx, hsy⟩ := b_and hsh
    simp only [Option.bind_eq_some_iff] at e
    obtain ⟨n, e6, e⟩ := e
    simp only [Option.some.injEq, Prod.mk.injEq] at e
    obtain ⟨rfl, rfl⟩ := e
    rw [listOf_eq e5] at e3 hsx
    refine ⟨C, Z, ρ, r1, ρ1, h, e1, fun x H1 p1 => ?_⟩
    obtain ⟨c1, s1, v1⟩ := p1.shown
    rw [listOf_eq e8] at e7
    have ty : tyV X.K "list" x H1 := by
      obtain ⟨a0, xs, rfl, h1, _⟩ := (v1.peek c1 e7).list
      exact .inl ⟨rfl, xs, SqL.of h1⟩
    refine ⟨ty, C, Z, ρ1, r2, ρ2, h.next c1, e2, fun y H2 p2 => ?_⟩
    obtain ⟨c2, s2, v2⟩ := p2.shown
    have sx := (v1.mono s2).peek c2 e3
    have sy := v2.peek c2 e4
    obtain ⟨j, z, n1, n2, n3, n4⟩ := idxOf_spec e6
    obtain ⟨a0, xs, rfl, h1, t1⟩ := sx.list
    have dx := Seen.dp visSub (d := .list ds) (shp_nd hsx) sx
    have dy := Seen.dp visSub (shp_nd hsy) sy
    rw [← h.k]
    refine ⟨a0, y, _, ds, j, z, rfl, rfl, dx, dy, hsx, hsy, n2, n3, n4, ?_⟩
    have : n = j := by omega
    subst this
    exact q _ _ (PostE.trans (s1.trans s2) (NewV.post c2 .int))
  · cases e
end
end Pz
end
section
set_option Elab.async false
set_option linter.all false
set_option maxRecDepth 100000
set_option maxHeartbeats 4000000
namespace Pz
open PySem PySem.Spec PyProof.Rows L2

section
variable {X : Cx} {G : EvG} {a b c e : Expr} {xa xb xc : PExp} {pos : Pos}

/-! ### isinstance -/
inductive Ty5 : String → Prop where
  | bool : Ty5 "bool"
  | int : Ty5 "int"
  | str : Ty5 "str"
  | tuple : Ty5 "tuple"
  | list : Ty5 "list"
theorem Ty5.boot {t : String} (h : Ty5 t) : bootBuiltins (Str.ofString t) = some (.type t) := by
  cases h <;> decide +kernel
def tyNm : PyData → String
  | .none => "NoneType"
  | .bool _ => "bool"
  | .int _ => "int"
  | .str _ => "str"
  | .list _ => "list"
  | .tuple _ => "tuple"
  | .dict _ => "dict"
theorem kit5 {K : PySem.W.Frag} {d : PyData} {t : String} {r : Bool} (h : Ty5 t) (e : isiD d t = some r) : PySem.W.kitOne K (.type (tyNm d)) (.type t) = some r := by
  cases h <;> cases d <;> simp only [isiD, Option.some.injEq] at e <;> first | (cases e; done) | (subst e; simp only [tyNm]; exact kit_ty (by decide +kernel))
theorem seen_ty {K : PySem.W.Frag} {H Hv : Hp} {d : PyData} {v : V} (hs : Sub Hv H) (s : Seen K H Hv d v) : (∃ kvs, d = .dict kvs) ∨ TyX K H v (.type (tyNm d)) := by
  cases d with
  | none => cases s.none; exact .inr (.base .non)
  | bool b => cases s.bool; exact .inr (.base (.bl b))
  | int i => cases s.int; exact .inr (.base (.int i))
  | str x => cases s.str; exact .inr (.base (.str x))
  | list ds =>
    obtain ⟨p, ys, rfl, q, _⟩ := s.list
    exact .inr (.base (.lst q))
  | tuple ds =>
    obtain ⟨p, ys, rfl, q, _⟩ := s.tuple
    rcases q with (q | ⟨o, q⟩) | ⟨o, its, n, q1, q2, _⟩
    · exact .inr (.base (.tup (hs _ _ q)))
    · exact .inr (.fTuple (hs _ _ q))
    · exact .inr (.kTuple q1 q2)
  | dict kvs => exact .inl ⟨kvs, rfl⟩
theorem snd_isi {y z : Str} {t : String} {p p2 : Pos} (h5 : Ty5 t) (hy : y = Str.ofString "isinstance") (hz : z = Str.ofString t) (hg : Gl X y) (hm : X.mg y = none) (hg2 : Gl X z) (hm2 : X.mg z = none) (ha : PE X a (tE X.K G xa))
    (hs : starEach [a, .Name z p2] X.env = (false, eval a X.env) :: starEach [.Name z p2] X.env) (hn2 : z ≠ "__name__") (hd2 : (z == ("__debug__" : Str)) = false) : PE X (.Call (.Name y p) [a, .Name z p2] [] pos) (tE X.K G (.isi xa t)) := by
  subst hy
  have hz2 : PE X (.Name z p2) (tC (.ty t)) := pe_bltn (v := .ty t) hg2 hm2 (by rw [hz]; exact h5.boot) rfl hn2 hd2
  refine PE.imp (pe_callB call_isi hg hm boot_isinstance (pa_cons ha (pa_cons hz2 pa_nil rfl) hs) (by decide) (by decide) hs rfl) fun σ H Q q => ?_
  obtain ⟨C, Z, ρ, r, ρ', h, e, q⟩ := q
  simp only [evE, Option.bind_eq_some_iff] at e
  obtain ⟨⟨r1, ρ1⟩, e1, d, e2, k, e3, e6⟩ := e
  simp only [Option.some.injEq, Prod.mk.injEq] at e6
  obtain ⟨rfl, rfl⟩ := e6
  refine ⟨C, Z, ρ, r1, ρ1, h, e1, fun v H1 p1 => ?_⟩
  obtain ⟨c1, s1, v1⟩ := p1.shown
  rcases seen_ty visSub (v1.peek c1 e2) with ⟨kvs, rfl⟩ | ty
  · cases h5 <;> simp [isiD] at e3
  · rw [← h.k]
    exact ⟨v, .ty t, _, .type t, k, rfl, .ty t, ty, kit5 h5 e3, q _ _ (PostE.trans s1 (NewV.post c1 .bool))⟩

/-! ### a range as a value -/
theorem cr_rngv : CallR X (.type "range") (fun vs H Q => ∃ j, vs = [V.int j] ∧ ∀ p, H p = none → Q (.ref p) (upd H p (.rng 0 j))) := by
  intro pins s σ H vs us Q I rv hq
  obtain ⟨j, rfl, qq⟩ := hq
  cases rv with
  | cons r1 rr =>
    cases rr
    obtain ⟨tk, rfl⟩ := r1
    refine call_range_1 ⟨V.ref s.heap.objs.size, upd H s.heap.objs.size (.rng 0 j), I.laid (fun _ _ ee => Heap.get?_push_of_some _ ee) (Nat.le_refl _) ?_, rfl, qq _ (I.hok.fresh (Nat.le_refl _))⟩
    exact ⟨_, _, _, Heap.get?_push_size _ rfl⟩
theorem snd_rngv {y : Str} {p : Pos} (hy : y = Str.ofString "range") (hg : Gl X y) (hm : X.mg y = none) (ha : PE X a (tE X.K G xa)) (hs : starEach [a] X.env = [(false, eval a X.env)]) : PE X (.Call (.Name y p) [a] [] pos) (tE X.K G (.rngv xa)) := by
  subst hy
  refine PE.imp (pe_callTy cr_rngv hg hm boot_range (pa_cons ha pa_nil hs) (by decide) (by decide) hs rfl) fun σ H Q q => ?_
  obtain ⟨C, Z, ρ, r, ρ', h, e, q⟩ := q
  simp only [evE, Option.bind_eq_some_iff] at e
  obtain ⟨⟨r1, ρ1⟩, e1, d, e2, k, e3, e6⟩ := e
  split at e6
  · simp only [Option.some.injEq, Prod.mk.injEq] at e6
    obtain ⟨rfl, rfl⟩ := e6
    refine ⟨C, Z, ρ, r1, ρ1, h, e1, fun v H1 p1 => ?_⟩
    obtain ⟨c1, s1, v1⟩ := p1.shown
    rw [toInt_eq e3] at e2
    exact ⟨k, by rw [(v1.peek c1 e2).int], fun w n => q _ _ (PostE.trans s1 (NewV.post c1 (.rng n)))⟩
  · cases e6

/-! ### what loops walk -/
/-- slots and heap fit together, as far as loops look -/
structure Nice (K : PySem.W.Frag) (H Hv : Hp) (σ : L2.St) (ρ : PEnv) : Prop where
  sub : Sub Hv H
  own : ∀ (i : Nat) (d : PyData), ρ[i]? = some (.own d) → ∃ a, σ[i]? = some (some (.ref a)) ∧ PTop K H Hv a d
  val : ∀ (i : Nat) (d : PyData), ρ[i]? = some (.val d) → ∃ v, σ[i]? = some (some v) ∧ Rep K Hv d v
theorem Cor.nice {C : PCtx} {Z : Addr → Prop} {H : Hp} {σ : L2.St} {ρ : PEnv} (c : Cor C Z H σ ρ) : Nice C.K H (vis C Z H σ ρ) σ ρ := ⟨visSub, c.own, c.val⟩
structure SrcOk (K : PySem.W.Frag) (σ0 : L2.St) (J : It) (g : Items) (Hv : Hp) : Prop where
  go : ∀ (H Hv2 : Hp) (σ : L2.St) (ρ : PEnv), Nice K H Hv2 σ ρ → Sub Hv Hv2 → guardOk g ρ = true → (∀ (i : Nat) (v : V), g.at_ = some i → σ[i]? = some (some v) → σ0[i]? = some (some v)) →
    (∀ (i : Nat) (d : PyData), g.ds[i]? = some d → J.go i H ∧ ∀ x H', J.yld i H x H' → H' = H ∧ Rep K Hv2 d x) ∧ J.stop g.ds.length H
def tS (K : PySem.W.Frag) (G : EvG) (x : PSrc) : TI := fun σ H R => ∃ C Z ρ g ρ', In0 K G.io C Z H σ ρ ∧ evS G x ρ = some (g, ρ') ∧ ∀ J H', Cor C Z H' σ ρ' → Sub (vis C Z H σ ρ) (vis C Z H' σ ρ') → SrcOk C.K σ J g (vis C Z H' σ ρ') → R J H'
theorem PI.imp {tg e : Expr} {t t' : TI} (h : PI X tg e t) (i : ∀ σ H R, t' σ H R → t σ H R) : PI X tg e t' := ⟨fun pins s σ H R I q => h.run pins s σ H R I (i σ H R q)⟩
/-- over a list, a tuple or a range object -/
def iAny (K : PySem.W.Frag) (te : TE) : TI := fun σ H R => te σ H fun x H1 => (∃ p, x = .ref p ∧ (∃ ys, SqL K H1 p ys) ∧ R (Itl K p) H1) ∨ (∃ p, x = .ref p ∧ (∃ ys, SqT K H1 p ys) ∧ R (Itt K p) H1) ∨
  ∃ p lo hi, x = .ref p ∧ H1 p = some (.rng lo hi) ∧ small62 lo = true ∧ small62 hi = true ∧ R (Itr lo (hi - lo).toNat) H1
theorem small62_b {i : Int} (h : small62 i = true) : -(2 ^ 62) ≤ i ∧ i < 2 ^ 62 := by
  obtain ⟨h1, h2⟩ := b_and h
  exact ⟨of_decide_eq_true h1, of_decide_eq_true h2⟩
theorem pi_any {tg e : Expr} {te : TE} (he : PE X e te) : PI X tg e (iAny X.K te) := by
  refine ⟨fun pins s0 σ H R I0 hw => thn (he.run pins s0 σ H _ I0 hw) fun v0 s1 ⟨x, H1, J1, rx, hor⟩ => ?_⟩
  have fp : ∀ bb ∈ [s1.heap.objs.size], FpOk X pins H1 bb := fun bb hbb => by
    have ee : bb = s1.heap.objs.size := by simpa using hbb
    rw [ee]
    exact J1.fpOk (Nat.le_refl _) (J1.hok.fresh (Nat.le_refl _))
  have kp : ∀ (ob : Obj) (bb : Addr) (oo : Obj), s1.heap.get? bb = some oo → (s1.heap.push ob).get? bb = some oo := fun ob _ _ ee => Heap.get?_push_of_some _ ee
  rcases hor with ⟨p, rfl, ⟨ys, hq⟩, rr⟩ | ⟨p, rfl, ⟨ys, hq⟩, rr⟩ | ⟨p, lo, hi, rfl, hq, hb1, hb2, rr⟩
  · cases rx
    obtain ⟨us, _, pl, _⟩ := J1.list hq
    refine wpAny_pyIter_list pl.isList ⟨s1.heap.objs.size, [s1.heap.objs.size], _, _, H1, rfl, J1.kept (kp _), turn_list p _, ?_, fp, rr⟩
    exact ⟨_, Heap.get?_push_size _ rfl, rfl, rfl⟩
  · cases rx
    obtain ⟨us, _, pl, _⟩ := J1.tuple hq
    refine wpAny_pyIter_tuple (show s1.heap.IsTuple p us.toArray from pl) ⟨s1.heap.objs.size, [s1.heap.objs.size], _, _, H1, rfl, J1.kept (kp _), turn_tuple p _, ?_, fp, rr⟩
    exact ⟨_, Heap.get?_push_size _ rfl, rfl, rfl⟩
  · cases rx
    obtain ⟨t1, t2, t3, ho⟩ := J1.hok p _ hq
    obtain ⟨l1, l2⟩ := small62_b hb1
    obtain ⟨l3, l4⟩ := small62_b hb2
    refine wpAny_pyIter_range ho (small_one l1 l2 l3 l4) ⟨s1.heap.objs.size, [s1.heap.objs.size], _, _, H1, rfl, J1.kept (kp _), turn_range _ lo (hi - lo).toNat, ?_, fp, rr⟩
    have z1 : lo + ((0 : Nat) : Int) * 1 = lo := by simp
    have z2 : (((hi - lo).toNat : Nat) : Int) - ((0 : Nat) : Int) = Builtin.Range.rangeSize lo hi 1 := by rw [rangeSize_one]; split <;> omega
    show IsRangeIter _ _ (lo + ((0 : Nat) : Int) * 1) _ 1
    rw [z1, z2]
    exact Heap.get?_push_size _ rfl
theorem rangeD_get {lo hi : Int} {i : Nat} {d : PyData} (h : (rangeD lo hi)[i]? = some d) : i < (hi - lo).toNat ∧ d = .int (lo + (i : Nat)) := by
  unfold rangeD at h
  rw [List.getElem?_map] at h
  obtain ⟨j, h1, h2⟩ := Option.map_eq_some_iff.mp h
  obtain ⟨h3, h4⟩ := List.getElem?_eq_some_iff.mp h1
  rw [List.getElem_range] at h4
  rw [List.length_range] at h3
  subst h4
  exact ⟨h3, h2.symm⟩
theorem rangeD_len {lo hi : Int} : (rangeD lo hi).length = (hi - lo).toNat := by unfold rangeD; rw [List.length_map, List.length_range]
theorem rangeDn_get {lo hi : Int} {i : Nat} {d : PyData} (h : (rangeDn lo hi)[i]? = some d) : i < (lo - hi).toNat ∧ d = .int (lo - (i : Nat)) := by
  unfold rangeDn at h
  rw [List.getElem?_map] at h
  obtain ⟨j, h1, h2⟩ := Option.map_eq_some_iff.mp h
  obtain ⟨h3, h4⟩ := List.getElem?_eq_some_iff.mp h1
  rw [List.getElem_range] at h4
  rw [List.length_range] at h3
  subst h4
  exact ⟨h3, h2.symm⟩
theorem rangeDn_len {lo hi : Int} : (rangeDn lo hi).length = (lo - hi).toNat := by unfold rangeDn; rw [List.length_map, List.length_range]
theorem src_rng {K : PySem.W.Frag} {σ : L2.St} {lo hi : Int} {Hv : Hp} {a : Option Nat} : SrcOk K σ (Itr lo (hi - lo).toNat) ⟨rangeD lo hi, a⟩ Hv := by
  refine ⟨fun H Hw σ ρ _ _ _ _ => ⟨fun i d e => ?_, Nat.le_of_eq rangeD_len.symm⟩⟩
  obtain ⟨h1, rfl⟩ := rangeD_get e
  refine ⟨h1, fun x H' y => ⟨y.1, ?_⟩⟩
  simp only [Rep]
  exact y.2
theorem src_rngDn {K : PySem.W.Frag} {σ : L2.St} {lo hi : Int} {Hv : Hp} {a : Option Nat} : SrcOk K σ (Itc lo (-1) (lo - hi).toNat) ⟨rangeDn lo hi, a⟩ Hv := by
  refine ⟨fun H Hw σ ρ _ _ _ _ => ⟨fun i d e => ?_, Nat.le_of_eq rangeDn_len.symm⟩⟩
  obtain ⟨h1, rfl⟩ := rangeDn_get e
  refine ⟨h1, fun x H' y => ⟨y.1, ?_⟩⟩
  simp only [Rep]
  rw [y.2]
  congr 1
  omega
theorem src_list {K : PySem.W.Frag} {σ : L2.St} {p : Addr} {ds : List PyData} {xs : List V} {Hv : Hp} (h : SqL K Hv p xs) (r : Reps K Hv ds xs) : SrcOk K σ (Itl K p) ⟨ds, none⟩ Hv := by
  refine ⟨fun H Hw σ ρ nc s _ _ => ⟨fun i d e => ?_, xs, SqL.mono (s.trans nc.sub) h, Nat.le_of_eq r.length⟩⟩
  obtain ⟨x, h1, h2⟩ := r.get e
  refine ⟨⟨xs, x, SqL.mono (s.trans nc.sub) h, h1⟩, fun y H' q => ⟨q.1, ?_⟩⟩
  have := q.2 xs (SqL.mono (s.trans nc.sub) h)
  rw [h1] at this; cases this
  exact Rep.mono s _ _ h2
theorem src_tup {K : PySem.W.Frag} {σ : L2.St} {p : Addr} {ds : List PyData} {xs : List V} {Hv : Hp} (h : SqT K Hv p xs) (r : Reps K Hv ds xs) : SrcOk K σ (Itt K p) ⟨ds, none⟩ Hv := by
  refine ⟨fun H Hw σ ρ nc s _ _ => ⟨fun i d e => ?_, xs, SqT.mono (s.trans nc.sub) h, Nat.le_of_eq r.length⟩⟩
  obtain ⟨x, h1, h2⟩ := r.get e
  refine ⟨⟨xs, x, SqT.mono (s.trans nc.sub) h, h1⟩, fun y H' q => ⟨q.1, ?_⟩⟩
  have := q.2 xs (SqT.mono (s.trans nc.sub) h)
  rw [h1] at this; cases this
  exact Rep.mono s _ _ h2
/-- a slot's own list, while the slot has it -/
theorem src_own {K : PySem.W.Frag} {σ : L2.St} {k : Nat} {p : Addr} {ds : List PyData} {Hv : Hp} (ha : σ[k]? = some (some (.ref p))) : SrcOk K σ (Itl K p) ⟨ds, some k⟩ Hv := by
  refine ⟨fun H Hw σ' ρ c s g hσ => ?_⟩
  have key : ∃ xs, SqL K H p xs ∧ Reps K Hw ds xs := by
    simp only [guardOk] at g
    split at g
    · rename_i es he
      have := sameL_eq _ _ g
      subst this
      obtain ⟨b, h1, xs, h2, h3⟩ := c.own k _ he
      have := hσ k _ rfl h1
      rw [ha] at this; cases this
      exact ⟨xs, SqL.of h2, h3⟩
    · rename_i es he
      have := sameL_eq _ _ g
      subst this
      obtain ⟨v, h1, h2⟩ := c.val k _ he
      have := hσ k _ rfl h1
      rw [ha] at this; cases this
      simp only [Rep] at h2
      obtain ⟨b, xs, e, h3, h4⟩ := h2
      cases e
      exact ⟨xs, SqL.of (c.sub _ _ h3), h4⟩
    · cases g
  obtain ⟨xs, h, r⟩ := key
  refine ⟨fun i d e => ?_, xs, h, Nat.le_of_eq r.length⟩
  obtain ⟨x, h1, h2⟩ := r.get e
  refine ⟨⟨xs, x, h, h1⟩, fun y H' q => ⟨q.1, ?_⟩⟩
  have := q.2 xs h
  rw [h1] at this; cases this
  exact h2
theorem snd_r1 {tg : Expr} {y : Str} {p : Pos} (hy : y = Str.ofString "range") (hg : Gl X y) (hm : X.mg y = none) (ha : PE X a (tE X.K G xa)) (hs : starEach [a] X.env = [(false, eval a X.env)]) : PI X tg (.Call (.Name y p) [a] [] pos) (tS X.K G (.r1 xa)) := by
  subst hy
  refine PI.imp (pi_range1 hg hm (pa_cons ha pa_nil hs) hs) fun σ H R q => ?_
  obtain ⟨C, Z, ρ, g, ρ', h, e, q⟩ := q
  simp only [evS, Option.bind_eq_some_iff] at e
  obtain ⟨⟨r1, ρ1⟩, e1, d, e2, j, e3, e6⟩ := e
  split at e6
  · rename_i hj
    simp only [Option.some.injEq, Prod.mk.injEq] at e6
    obtain ⟨rfl, rfl⟩ := e6
    refine ⟨C, Z, ρ, r1, ρ1, h, e1, fun v H1 p1 => ?_⟩
    obtain ⟨c1, s1, v1⟩ := p1.shown
    rw [toInt_eq e3] at e2
    obtain ⟨b1, b2⟩ := small62_b hj
    refine ⟨j, by rw [(v1.peek c1 e2).int], b1, b2, ?_⟩
    have := q (Itr 0 (j - 0).toNat) H1 c1 s1 src_rng
    rw [Int.sub_zero] at this
    exact this
  · cases e6
theorem snd_r2 {tg : Expr} {y : Str} {p : Pos} (hy : y = Str.ofString "range") (hg : Gl X y) (hm : X.mg y = none) (ha : PE X a (tE X.K G xa)) (hb : PE X b (tE X.K G xb)) (hs : starEach [a, b] X.env = [(false, eval a X.env), (false, eval b X.env)]) (hs2 : starEach [b] X.env = [(false, eval b X.env)]) : PI X tg (.Call (.Name y p) [a, b] [] pos) (tS X.K G (.r2 xa xb)) := by
  subst hy
  refine PI.imp (pi_range2 hg hm (pa_cons ha (pa_cons hb pa_nil hs2) (by rw [hs, hs2])) hs hs2) fun σ H R q => ?_
  obtain ⟨C, Z, ρ, g, ρ', h, e, q⟩ := q
  simp only [evS, Option.bind_eq_some_iff] at e
  obtain ⟨⟨r1, ρ1⟩, e1, ⟨r2, ρ2⟩, e2, d1, e3, d2, e4, i, e5, j, e7, e6⟩ := e
  split at e6
  · rename_i hj
    simp only [Option.some.injEq, Prod.mk.injEq] at e6
    obtain ⟨rfl, rfl⟩ := e6
    refine ⟨C, Z, ρ, r1, ρ1, h, e1, fun v H1 p1 => ?_⟩
    obtain ⟨c1, s1, v1⟩ := p1.shown
    refine ⟨C, Z, ρ1, r2, ρ2, h.next c1, e2, fun v' H2 p2 => ?_⟩
    obtain ⟨c2, s2, v2⟩ := p2.shown
    rw [toInt_eq e5] at e3
    rw [toInt_eq e7] at e4
    obtain ⟨hj1, hj2⟩ := b_and hj
    obtain ⟨b1, b2⟩ := small62_b hj1
    obtain ⟨b3, b4⟩ := small62_b hj2
    exact ⟨i, j, by rw [((v1.mono s2).peek c2 e3).int, (v2.peek c2 e4).int], ⟨b1, b2, b3, b4⟩, q _ H2 c2 (s1.trans s2) src_rng⟩
  · cases e6
theorem snd_r3 {tg : Expr} {y : Str} {p : Pos} (hy : y = Str.ofString "range") (hg : Gl X y) (hm : X.mg y = none) (ha : PE X a (tE X.K G xa)) (hb : PE X b (tE X.K G xb)) (hc : PE X c (tE X.K G xc)) (hs : starEach [a, b, c] X.env = (false, eval a X.env) :: starEach [b, c] X.env)
    (hs2 : starEach [b, c] X.env = (false, eval b X.env) :: starEach [c] X.env) (hs3 : starEach [c] X.env = [(false, eval c X.env)]) (hpl : (backTo pos (starEach [b, c] X.env)).any (·.1) = false) : PI X tg (.Call (.Name y p) [a, b, c] [] pos) (tS X.K G (.r3 xa xb xc)) := by
  subst hy
  refine PI.imp (pi_range3 hg hm (pa_cons ha (pa_cons hb (pa_cons hc pa_nil hs3) hs2) hs) hs hpl) fun σ H R q => ?_
  obtain ⟨C, Z, ρ, g, ρ', h, e, q⟩ := q
  simp only [evS, Option.bind_eq_some_iff] at e
  obtain ⟨⟨r1, ρ1⟩, e1, ⟨r2, ρ2⟩, e2, ⟨r3, ρ3⟩, e3, d1, e4, d2, e5, d3, e7, i, e8, j, e9, k, e10, e6⟩ := e
  split at e6
  · rename_i hj
    simp only [Option.some.injEq, Prod.mk.injEq] at e6
    obtain ⟨rfl, rfl⟩ := e6
    refine ⟨C, Z, ρ, r1, ρ1, h, e1, fun v H1 p1 => ?_⟩
    obtain ⟨c1, s1, v1⟩ := p1.shown
    refine ⟨C, Z, ρ1, r2, ρ2, h.next c1, e2, fun v' H2 p2 => ?_⟩
    obtain ⟨c2, s2, v2⟩ := p2.shown
    refine ⟨C, Z, ρ2, r3, ρ3, h.next c2, e3, fun v'' H3 p3 => ?_⟩
    obtain ⟨c3, s3, v3⟩ := p3.shown
    rw [toInt_eq e8] at e4
    rw [toInt_eq e9] at e5
    rw [toInt_eq e10] at e7
    obtain ⟨hj0, hk⟩ := b_and hj
    obtain ⟨hj1, hj2⟩ := b_and hj0
    have hk : k = -1 := of_decide_eq_true hk
    subst hk
    obtain ⟨b1, b2⟩ := small62_b hj1
    obtain ⟨b3, b4⟩ := small62_b hj2
    exact ⟨i, j, -1, _, by rw [((v1.mono (s2.trans s3)).peek c3 e4).int, ((v2.mono s3).peek c3 e5).int, (v3.peek c3 e7).int], RgC.neg b1 b2 b3 b4, q _ H3 c3 (s1.trans (s2.trans s3)) src_rngDn⟩
  · cases e6
theorem frz_rng {kvs : List (PyData × PyData)} {q : Int × Int} (h : rngOf kvs = some q) : frzOf kvs = none := by
  cases e : frzOf kvs with
  | none => rfl
  | some ns => rw [rng_frz e] at h; cases h
theorem snd_of {tg : Expr} (ha : PE X a (tE X.K G xa)) : PI X tg a (tS X.K G (.of xa)) := by
  refine PI.imp (pi_any ha) fun σ H R q => ?_
  obtain ⟨C, Z, ρ, g, ρ', h, e, q⟩ := q
  simp only [evS, Option.bind_eq_some_iff] at e
  obtain ⟨⟨r1, ρ1⟩, e1, e⟩ := e
  refine ⟨C, Z, ρ, r1, ρ1, h, e1, fun v H1 p1 => ?_⟩
  obtain ⟨c1, s1, v1⟩ := p1.shown
  rw [← h.k]
  cases r1 with
  | loc i =>
    simp only at e
    obtain ⟨p, rfl, hp⟩ := v1
    split at e
    · rename_i ds hi
      simp only [Option.some.injEq, Prod.mk.injEq] at e
      obtain ⟨rfl, rfl⟩ := e
      obtain ⟨b, hb, xs, h2, h3⟩ := c1.own i _ hi
      rw [hp] at hb; cases hb
      exact .inl ⟨p, rfl, ⟨xs, SqL.of h2⟩, q _ H1 c1 s1 (src_own hp)⟩
    · rename_i ds hi
      simp only [Option.some.injEq, Prod.mk.injEq] at e
      obtain ⟨rfl, rfl⟩ := e
      obtain ⟨w, hw, t⟩ := c1.val i _ hi
      rw [hp] at hw; cases hw
      simp only [Rep] at t
      obtain ⟨b, xs, e', h3, h4⟩ := t
      cases e'
      exact .inl ⟨p, rfl, ⟨xs, SqL.of (visSub _ _ h3)⟩, q _ H1 c1 s1 (src_own hp)⟩
    · cases e
  | tmp d =>
    have r : Rep C.K (vis C Z H1 σ ρ1) d v := v1
    cases d <;> simp only [Option.some.injEq, Prod.mk.injEq] at e <;> first | (cases e; done) | skip
    obtain ⟨rfl, rfl⟩ := e
    simp only [Rep] at r
    obtain ⟨p, xs, rfl, h3, h4⟩ := r
    exact .inl ⟨p, rfl, ⟨xs, SqL.of (visSub _ _ h3)⟩, q _ H1 c1 s1 (src_list (SqL.of h3) h4)⟩
  | val d =>
    have r : Rep C.K (vis C Z H1 σ ρ1) d v := v1
    cases d <;> simp only [Option.some.injEq, Prod.mk.injEq] at e <;> first | (cases e; done) | skip
    · obtain ⟨rfl, rfl⟩ := e
      simp only [Rep] at r
      obtain ⟨p, xs, rfl, h3, h4⟩ := r
      exact .inl ⟨p, rfl, ⟨xs, SqL.of (visSub _ _ h3)⟩, q _ H1 c1 s1 (src_list (SqL.of h3) h4)⟩
    · obtain ⟨rfl, rfl⟩ := e
      simp only [Rep] at r
      obtain ⟨p, xs, rfl, h3, h4⟩ := r
      exact .inr (.inl ⟨p, rfl, ⟨xs, SqT.mono visSub h3⟩, q _ H1 c1 s1 (src_tup h3 h4)⟩)
    · rename_i kvs
      split at e
      · rename_i lo hi h1
        split at e
        · rename_i hsm
          obtain ⟨b1, b2⟩ := b_and hsm
          simp only [Option.some.injEq, Prod.mk.injEq] at e
          obtain ⟨rfl, rfl⟩ := e
          simp only [Rep, h1] at r
          obtain ⟨p, rfl, h3⟩ := r
          exact .inr (.inr ⟨p, _, _, rfl, visSub _ _ h3, b1, b2, q _ H1 c1 s1 src_rng⟩)
        · cases e
      · rename_i ns h1 h2
        simp only [Option.some.injEq, Prod.mk.injEq] at e
        obtain ⟨rfl, rfl⟩ := e
        simp only [Rep, h1, h2] at r
        obtain ⟨p, rfl, h3⟩ := r
        exact .inl ⟨p, rfl, ⟨_, SqL.mono visSub h3⟩, q _ H1 c1 s1 (src_list h3 Reps.of_ints)⟩
      · cases e
end
end Pz
end
section
set_option Elab.async false
set_option linter.all false
set_option maxRecDepth 100000
set_option maxHeartbeats 4000000
namespace Pz
open PySem PySem.Spec PyProof.Rows L2

/-! ### slots of comprehensions -/
theorem wipe_set_out {σ : L2.St} {i : Nat} {w : Option V} : ∀ {vs : List Nat}, i ∉ vs → wipe (σ.set i w) vs = (wipe σ vs).set i w
  | [], _ => rfl
  | v :: vs, h => by
    simp only [List.mem_cons, not_or] at h
    show (wipe (σ.set i w) vs).set v none = ((wipe σ vs).set v none).set i w
    rw [wipe_set_out h.2, List.set_comm _ _ h.1]
theorem wipe_set_in {σ : L2.St} {i : Nat} {w : Option V} : ∀ {vs : List Nat}, i ∈ vs → wipe (σ.set i w) vs = wipe σ vs
  | [], h => nomatch h
  | v :: vs, h => by
    show (wipe (σ.set i w) vs).set v none = (wipe σ vs).set v none
    by_cases e : i ∈ vs
    · rw [wipe_set_in e]
    · have : i = v := (List.mem_cons.mp h).resolve_right e
      subst this
      rw [wipe_set_out e, List.set_set]
theorem wipe_idem {σ : L2.St} : ∀ {us vs : List Nat}, (∀ i ∈ us, i ∈ vs) → wipe (wipe σ us) vs = wipe σ vs
  | [], vs, _ => rfl
  | u :: us, vs, h => by
    show wipe ((wipe σ us).set u none) vs = _
    rw [wipe_set_in (h u List.mem_cons_self)]
    exact wipe_idem fun i hi => h i (List.mem_cons_of_mem _ hi)
theorem wipe_at {σ : L2.St} {i : Nat} : ∀ {vs : List Nat}, i ∉ vs → (wipe σ vs)[i]? = σ[i]?
  | [], _ => rfl
  | v :: vs, h => by
    simp only [List.mem_cons, not_or] at h
    show ((wipe σ vs).set v none)[i]? = _
    rw [List.getElem?_set_ne (Ne.symm h.1)]
    exact wipe_at h.2
def back (σ : L2.St) : List Nat → L2.St → L2.St
  | [], σ' => σ'
  | i :: is, σ' => (back σ is σ').set i (σ.getD i none)
theorem back_length {σ : L2.St} : ∀ {is : List Nat} {σ' : L2.St}, (back σ is σ').length = σ'.length
  | [], _ => rfl
  | i :: is, σ' => by
    show ((back σ is σ').set i _).length = _
    rw [List.length_set, back_length]
theorem back_at {σ : L2.St} {j : Nat} : ∀ {is : List Nat} {σ' : L2.St}, σ'.length = σ.length → (back σ is σ')[j]? = if j ∈ is then σ[j]? else σ'[j]?
  | [], σ', _ => by simp [back]
  | i :: is, σ', h => by
    show ((back σ is σ').set i (σ.getD i none))[j]? = _
    by_cases e : i = j
    · subst e
      rw [if_pos List.mem_cons_self]
      by_cases hl : i < σ.length
      · rw [List.getElem?_set_self (by rw [back_length, h]; exact hl), List.getD_eq_getElem?_getD, List.getElem?_eq_getElem hl]; rfl
      · rw [List.getElem?_eq_none (by rw [List.length_set, back_length, h]; omega), List.getElem?_eq_none (by omega)]
    · rw [List.getElem?_set_ne e, back_at h]
      have : (j ∈ i :: is) ↔ j ∈ is := by simp [Ne.symm e]
      simp only [this]
theorem back_wipe {σ : L2.St} {is : List Nat} : back σ is (wipe σ is) = σ := by
  apply List.ext_getElem?
  intro j
  rw [back_at (wipe_length σ is)]
  split
  · rfl
  · rename_i h
    exact wipe_at h
section
variable {C : PCtx} {Z Z' : Addr → Prop} {H H' : Hp} {σ σ' : L2.St} {ρ ρ' ρ1 : PEnv} {D : Addr} {o : HO}
theorem unE_length : ∀ {is : List Nat} {ρ : PEnv}, (unE is ρ).length = ρ.length
  | [], _ => rfl
  | i :: is, ρ => by
    show ((unE is ρ).set i _).length = _
    rw [List.length_set, unE_length]
theorem Cor.unE (c : Cor C Z H σ ρ) : ∀ {is : List Nat}, (∀ i ∈ is, ∀ b, C.io ≠ some (i, b)) → Cor C Z H (wipe σ is) (unE is ρ) ∧ Sub (vis C Z H σ ρ) (vis C Z H (wipe σ is) (unE is ρ))
  | [], _ => ⟨c, Sub.refl⟩
  | i :: is, h => by
    obtain ⟨c1, s1⟩ := c.unE (is := is) fun j hj => h j (List.mem_cons_of_mem _ hj)
    obtain ⟨c2, s2⟩ := c1.forget (h i List.mem_cons_self) none
    exact ⟨c2, s1.trans s2⟩
theorem wipeE_eq : ∀ {is : List Nat} {ρ ρ' : PEnv}, wipeE is ρ = some ρ' → ρ' = Pz.unE is ρ ∧ ∀ i ∈ is, notOwn ρ[i]? = true
  | [], ρ, ρ', e => by
    simp only [wipeE, Option.some.injEq] at e
    exact ⟨e.symm, fun _ h => nomatch h⟩
  | i :: is, ρ, ρ', e => by
    simp only [wipeE] at e
    split at e
    · rename_i hi
      obtain ⟨ρ1, e1, e2⟩ := Option.map_eq_some_iff.mp e
      obtain ⟨e3, h⟩ := wipeE_eq e1
      refine ⟨by rw [← e2, e3]; rfl, fun j hj => ?_⟩
      rcases List.mem_cons.mp hj with q | q
      · rw [q]; exact hi
      · exact h j q
    · cases e
theorem io_wiped (c : Cor C Z H σ ρ) {is : List Nat} (h : ∀ i ∈ is, notOwn ρ[i]? = true) : ∀ i ∈ is, ∀ b, C.io ≠ some (i, b) := fun i hi b e => by
  obtain ⟨⟨d, hd⟩, _⟩ := c.iok i b e
  have := h i hi
  rw [hd] at this
  cases this
theorem backE_length : ∀ {is : List Nat} {ρ ρ' : PEnv}, (backE is ρ ρ').length = ρ'.length
  | [], _, _ => rfl
  | i :: is, ρ, ρ' => by
    show ((backE is ρ ρ').set i _).length = _
    rw [List.length_set, backE_length]
theorem Cor.back (c : Cor C Z H σ' ρ') (hl : ρ1.length = ρ'.length) (hv : ∀ (i : Nat) (d : PyData), ρ1[i]? = some (.val d) → ∃ v, σ[i]? = some (some v) ∧ Rep C.K (vis C Z H σ' ρ') d v) :
    ∀ {is : List Nat}, (∀ i ∈ is, ∀ b, C.io ≠ some (i, b)) → Cor C Z H (Pz.back σ is σ') (backE is ρ1 ρ') ∧ Sub (vis C Z H σ' ρ') (vis C Z H (Pz.back σ is σ') (backE is ρ1 ρ'))
  | [], _ => ⟨c, Sub.refl⟩
  | i :: is, h => by
    obtain ⟨c1, s1⟩ := Cor.back c hl hv (is := is) fun j hj => h j (List.mem_cons_of_mem _ hj)
    show Cor C Z H ((Pz.back σ is σ').set i (σ.getD i none)) ((backE is ρ1 ρ').set i _) ∧ Sub _ (vis C Z H ((Pz.back σ is σ').set i (σ.getD i none)) ((backE is ρ1 ρ').set i _))
    split
    · rename_i d hd
      obtain ⟨v, h1, h2⟩ := hv i d hd
      have hi : i < (backE is ρ1 ρ').length := by rw [backE_length, ← hl]; exact lt_of_get hd
      obtain ⟨c2, s2⟩ := c1.assign (v := v) hi (h i List.mem_cons_self) (Rep.mono s1 _ _ h2)
      have : σ.getD i none = some v := by rw [List.getD_eq_getElem?_getD, h1]; rfl
      rw [this]
      exact ⟨c2, s1.trans s2⟩
    · obtain ⟨c2, s2⟩ := c1.forget (h i List.mem_cons_self) (σ.getD i none)
      exact ⟨c2, s1.trans s2⟩

/-! ### an object that is held as it is -/
noncomputable def PCtx.add (C : PCtx) (D : Addr) (o : HO) : PCtx := ⟨C.K, fun a => C.O a ∨ a = D, fun a => if a = D then some o else C.H0 a, C.io⟩
theorem hid_add : Hid (C.add D o) σ ρ Z = Hid C σ ρ (fun a => Z a ∨ a = D) := by
  funext b
  exact propext ⟨fun q => q.elim (fun q => q.elim .inl fun q => .inr (.inr (.inr q))) fun q => q.elim (fun q => .inr (.inl q)) fun q => .inr (.inr (.inl q)),
    fun q => q.elim (fun q => .inl (.inl q)) fun q => q.elim (fun q => .inr (.inl q)) fun q => q.elim (fun q => .inr (.inr q)) fun q => .inl (.inr q)⟩
theorem vis_add : vis (C.add D o) Z H σ ρ = vis C (fun a => Z a ∨ a = D) H σ ρ := by
  show hide H (Hid (C.add D o) σ ρ Z) = hide H (Hid C σ ρ _)
  rw [hid_add]
theorem add_ne {a : Addr} (h : a ≠ D) : (C.add D o).H0 a = C.H0 a := if_neg h
theorem add_at : (C.add D o).H0 D = some o := if_pos rfl
theorem Cor.hold (c : Cor C (fun a => Z a ∨ a = D) H σ ρ) (nz : ¬ Z D) (h : H D = some o) : Cor (C.add D o) Z H σ ρ := by
  obtain ⟨z1, z2, z3, z4⟩ := c.zs D (.inr rfl)
  refine ⟨c.len, fun i d e => ?_, fun i d e => ?_, c.inj, fun i d a h1 h2 => ?_, fun i a e => ?_, fun a u e n => ?_, fun a q => ?_, fun a q => ?_⟩
  · rw [vis_add]; exact c.val i d e
  · rw [vis_add]; exact c.own i d e
  · rcases c.sep i d a h1 h2 with q | ⟨q1, q2⟩
    · exact .inl q
    · have ne : a ≠ D := fun e => z1 ⟨i, d, h1, by rw [← e]; exact h2⟩
      exact .inr ⟨fun q => q.elim q1 ne, by rw [add_ne ne]; exact q2⟩
  · obtain ⟨q1, q2, q3⟩ := c.iok i a e
    exact ⟨q1, q2, .inl q3⟩
  · by_cases ne : a = D
    · subst ne
      rw [add_at] at e
      rw [h, Option.some.inj e]
    · rw [add_ne ne] at e
      exact c.frm a u e n
  · rcases q with q | q
    · exact c.live a q
    · rw [q, h]; exact fun z => nomatch z
  · have ne : a ≠ D := fun e => nz (e ▸ q)
    obtain ⟨y1, y2, y3, y4⟩ := c.zs a (.inl q)
    exact ⟨y1, fun z => z.elim y2 ne, by rw [add_ne ne]; exact y3, y4⟩
theorem Cor.unhold (c : Cor (C.add D o) Z H σ ρ) (n1 : ¬ C.O D) (n2 : C.H0 D = none) (n3 : ∀ i, C.io ≠ some (i, D)) : Cor C (fun a => Z a ∨ a = D) H σ ρ ∧ H D = some o := by
  have hD : H D = some o := c.frm D o add_at n3
  have own : ¬ OA σ ρ D := fun ⟨i, d, h1, h2⟩ => by
    rcases c.sep i d D h1 h2 with q | ⟨q, _⟩
    · exact n3 i q
    · exact q (.inr rfl)
  refine ⟨⟨c.len, fun i d e => ?_, fun i d e => ?_, c.inj, fun i d a h1 h2 => ?_, fun i a e => ?_, fun a u e n => ?_, fun a q => c.live a (.inl q), fun a q => ?_⟩, hD⟩
  · rw [← vis_add]; exact c.val i d e
  · rw [← vis_add]; exact c.own i d e
  · rcases c.sep i d a h1 h2 with q | ⟨q1, q2⟩
    · exact .inl q
    · have ne : a ≠ D := fun e => q1 (.inr e)
      exact .inr ⟨fun q => q1 (.inl q), by rw [add_ne ne] at q2; exact q2⟩
  · obtain ⟨q1, q2, q3⟩ := c.iok i a e
    refine ⟨q1, q2, q3.resolve_right fun z => n3 i (z ▸ e)⟩
  · have ne : a ≠ D := fun z => by rw [z, n2] at e; cases e
    exact c.frm a u (by rw [add_ne ne]; exact e) n
  · rcases q with q | q
    · obtain ⟨y1, y2, y3, y4⟩ := c.zs a q
      have ne : a ≠ D := fun e => y2 (.inr e)
      exact ⟨y1, fun z => y2 (.inl z), by rw [add_ne ne] at y3; exact y3, y4⟩
    · subst q
      exact ⟨own, n1, n2, by rw [hD]; exact fun z => nomatch z⟩
end

/-! ### targets -/
def slotsT : PT_ → List Nat
  | .nm i => [i]
  | .tp is => is
def Ch (σ σ' : L2.St) (is : List Nat) : Prop := ∀ own : List Nat, (∀ i ∈ is, i ∈ own) → wipe σ' own = wipe σ own
def tG (K : PySem.W.Frag) (io : Option Nat) (t : PT_) : TG := fun v σ H Q => ∃ C Z ρ d ρ', In0 K io C Z H σ ρ ∧ Rep C.K (vis C Z H σ ρ) d v ∧ assignT io t d ρ = some ρ' ∧ ∀ σ', Cor C Z H σ' ρ' → Sub (vis C Z H σ ρ) (vis C Z H σ' ρ') → Ch σ σ' (slotsT t) → Q σ' H
def tGs (K : PySem.W.Frag) (io : Option Nat) (is : List Nat) : TGs := fun vs σ H Q => ∃ C Z ρ ds ρ', In0 K io C Z H σ ρ ∧ Reps C.K (vis C Z H σ ρ) ds vs ∧ setVs io ρ is ds = some ρ' ∧ ∀ σ', Cor C Z H σ' ρ' → Sub (vis C Z H σ ρ) (vis C Z H σ' ρ') → Ch σ σ' is → Q σ' H
theorem PG.imp {X : Cx} {e : Expr} {t t' : TG} (h : PG X e t) (i : ∀ v σ H Q, t' v σ H Q → t v σ H Q) : PG X e t' := ⟨fun pins s σ H v u Q I r q => h.run pins s σ H v u Q I r (i v σ H Q q)⟩
theorem PGs.imp {X : Cx} {e : List Expr} {t t' : TGs} (h : PGs X e t) (i : ∀ v σ H Q, t' v σ H Q → t v σ H Q) : PGs X e t' := ⟨fun pins s σ H v u Q I r q => h.run pins s σ H v u Q I r (i v σ H Q q)⟩
section
variable {X : Cx} {io : Option Nat}
theorem setV_ok {C : PCtx} {Z : Addr → Prop} {H : Hp} {σ : L2.St} {ρ ρ' : PEnv} {i : Nat} {d : PyData} {v : V} (hio : io = C.io.map (·.1)) (c : Cor C Z H σ ρ) (r : Rep C.K (vis C Z H σ ρ) d v) (e : setV io ρ i d = some ρ') :
    Cor C Z H (σ.set i (some v)) ρ' ∧ Sub (vis C Z H σ ρ) (vis C Z H (σ.set i (some v)) ρ') ∧ ρ' = ρ.set i (.val d) := by
  simp only [setV] at e
  split at e
  · cases e
  · rename_i hn
    split at e
    · rename_i hl
      simp only [Option.some.injEq] at e; subst e
      obtain ⟨c1, s1⟩ := c.assign hl (io_ne hio hn) r
      exact ⟨c1, s1, rfl⟩
    · cases e
theorem Ch.one {σ : L2.St} {i : Nat} {w : Option V} : Ch σ (σ.set i w) [i] := fun own h => wipe_set_in (h i List.mem_cons_self)
theorem snd_tg {i : Nat} {x : Str} {pos : Pos} (hN : X.N.Nodup) (hi : X.N[i]? = some x) (hx : Loc X.env.scope x) (hf : X.fn x = true ∨ X.env.scope.names.lookup x = some .local) : PG X (.Name x pos) (tG X.K io (.nm i)) := by
  refine PG.imp (pg_name hN hi hx hf) fun v σ H Q q => ?_
  obtain ⟨C, Z, ρ, d, ρ', h, r, e, q⟩ := q
  obtain ⟨c1, s1, _⟩ := setV_ok h.io h.cor r e
  exact q _ c1 s1 Ch.one
theorem snd_tgs_nil : PGs X [] (tGs X.K io []) := by
  refine PGs.imp pgs_nil fun vs σ H Q q => ?_
  obtain ⟨C, Z, ρ, ds, ρ', h, r, e, q⟩ := q
  cases ds with
  | nil =>
    simp only [setVs, Option.some.injEq] at e; subst e
    simp only [Reps] at r
    exact ⟨r, q σ h.cor Sub.refl fun _ _ => rfl⟩
  | cons d ds => simp [setVs] at e
theorem snd_tgs_cons {i : Nat} {x : Str} {pos : Pos} {is : List Nat} {es : List Expr} (hN : X.N.Nodup) (hi : X.N[i]? = some x) (hx : Loc X.env.scope x) (hf : X.fn x = true ∨ X.env.scope.names.lookup x = some .local) (hr : PGs X es (tGs X.K io is)) : PGs X (.Name x pos :: es) (tGs X.K io (i :: is)) := by
  refine PGs.imp (pgs_cons (pg_name hN hi hx hf) hr rfl) fun vs σ H Q q => ?_
  obtain ⟨C, Z, ρ, ds, ρ', h, r, e, q⟩ := q
  cases ds with
  | nil => simp [setVs] at e
  | cons d ds =>
    simp only [setVs, Option.bind_eq_some_iff] at e
    obtain ⟨ρ1, e1, e2⟩ := e
    simp only [Reps] at r
    obtain ⟨v, vr, rfl, r1, r2⟩ := r
    obtain ⟨c1, s1, _⟩ := setV_ok h.io h.cor r1 e1
    refine ⟨v, vr, rfl, C, Z, ρ1, ds, ρ', h.next c1, Reps.mono s1 _ _ r2, e2, fun σ' c2 s2 ch => q σ' c2 (s1.trans s2) fun own ho => ?_⟩
    rw [ch own fun j hj => ho j (List.mem_cons_of_mem _ hj)]
    exact wipe_set_in (ho i List.mem_cons_self)
theorem setVs_len : ∀ {is : List Nat} {ds : List PyData} {ρ ρ' : PEnv}, setVs io ρ is ds = some ρ' → is.length = ds.length
  | [], [], _, _, _ => rfl
  | [], _ :: _, _, _, e => by simp [setVs] at e
  | _ :: _, [], _, _, e => by simp [setVs] at e
  | i :: is, d :: ds, ρ, ρ', e => by
    simp only [setVs, Option.bind_eq_some_iff] at e
    obtain ⟨_, _, e⟩ := e
    simp [setVs_len e]
theorem snd_tgT {is : List Nat} {es : List Expr} {k : Nat} {pos : Pos} (hc : X.calm = true) (h : PGs X es (tGs X.K io is)) (hn : (assignEach es X.env).length = is.length) (hst : (assignEach es X.env).findIdx? (·.1) = none) : PG X (.Tuple es k pos) (tG X.K io (.tp is)) := by
  refine PG.imp (pg_tup hc h hn hst) fun v σ H Q q => ?_
  obtain ⟨C, Z, ρ, d, ρ', i, r, e, q⟩ := q
  cases d <;> simp only [assignT] at e <;> first | (cases e; done) | skip
  rename_i ds
  simp only [Rep] at r
  obtain ⟨a, xs, rfl, h1, h2⟩ := r
  refine ⟨a, xs, rfl, by rw [← i.k]; exact SqT.mono visSub h1, by rw [h2.length]; exact (setVs_len e).symm, C, Z, ρ, ds, ρ', i, h2, e, q⟩
end

/-! ### tests of comprehensions -/
def tCnd (K : PySem.W.Frag) (G : EvG) (x : PExpO) : TT := fun σ H Q => ∃ C Z ρ b ρ', In0 K G.io C Z H σ ρ ∧ evC G x ρ = some (b, ρ') ∧ ∀ H', Cor C Z H' σ ρ' → Sub (vis C Z H σ ρ) (vis C Z H' σ ρ') → Q b H'
theorem PTs.imp {X : Cx} {e : List Expr} {t t' : TT} (h : PTs X e t) (i : ∀ σ H Q, t' σ H Q → t σ H Q) : PTs X e t' := ⟨fun pins s σ H Q I q => h.run pins s σ H Q I (i σ H Q q)⟩
section
variable {X : Cx} {G : EvG} {a : Expr} {xa : PExp}
theorem snd_c_no : PTs X [] (tCnd X.K G .no) := by
  refine PTs.imp pts_nil fun σ H Q q => ?_
  obtain ⟨C, Z, ρ, b, ρ', h, e, q⟩ := q
  simp only [evC, Option.some.injEq, Prod.mk.injEq] at e
  obtain ⟨rfl, rfl⟩ := e
  exact q H h.cor Sub.refl
theorem snd_c_yes (ha : PT X a (tT X.K G xa)) : PTs X [a] (tCnd X.K G (.yes xa)) := by
  refine PTs.imp (pts_one ha) fun σ H Q q => ?_
  obtain ⟨C, Z, ρ, b, ρ', h, e, q⟩ := q
  simp only [evC, Option.bind_eq_some_iff] at e
  obtain ⟨⟨r1, ρ1⟩, e1, d, e2, k, e3, e6⟩ := e
  simp only [Option.some.injEq, Prod.mk.injEq] at e6
  obtain ⟨rfl, rfl⟩ := e6
  rw [toBool_eq e3] at e2
  exact ⟨C, Z, ρ, r1, ρ1, k, h, e1, e2, q⟩
end
end Pz
end
section
set_option Elab.async false
set_option linter.all false
set_option maxRecDepth 100000
set_option maxHeartbeats 4000000
namespace Pz
open PySem PySem.Spec PyProof.Rows L2

/-- the state within a comprehension: the new list at D has ds so far -/
structure Acc (C : PCtx) (Z : Addr → Prop) (D : Addr) (Hv H : Hp) (σ : L2.St) (ρ : PEnv) (ds : List PyData) : Prop where
  cor : Cor C (fun a => Z a ∨ a = D) H σ ρ
  sub : Sub Hv (vis C (fun a => Z a ∨ a = D) H σ ρ)
  lst : ∃ xs, H D = some (.lst xs) ∧ Reps C.K (vis C (fun a => Z a ∨ a = D) H σ ρ) ds xs
section
variable {K : PySem.W.Frag} {G : EvG} {C : PCtx} {Z : Addr → Prop} {D : Addr} {Hv H H' : Hp} {σ σ' : L2.St} {ρ ρ1 ρ2 : PEnv} {ds : List PyData} {own : List Nat}
theorem Acc.facts (h : Acc C Z D Hv H σ ρ ds) : ¬ C.O D ∧ C.H0 D = none ∧ ∀ i, C.io ≠ some (i, D) := by
  obtain ⟨z1, z2, z3, z4⟩ := h.cor.zs D (.inr rfl)
  exact ⟨z2, z3, fun i e => z2 (h.cor.iok i D e).2.2⟩
theorem Acc.next {Hw : Hp} (h : Acc C Z D Hv H σ ρ ds) (c : Cor C (fun a => Z a ∨ a = D) H' σ' ρ1) (s : Sub (vis C (fun a => Z a ∨ a = D) H σ ρ) (vis C (fun a => Z a ∨ a = D) H' σ' ρ1)) (e : H' D = H D) : Acc C Z D Hv H' σ' ρ1 ds := by
  obtain ⟨xs, h1, h2⟩ := h.lst
  exact ⟨c, h.sub.trans s, xs, e.trans h1, Reps.mono s _ _ h2⟩
theorem Acc.wiped (h : Acc C Z D Hv H σ ρ ds) (ho : ∀ i ∈ own, ∀ b, C.io ≠ some (i, b)) : Acc C Z D Hv H (wipe σ own) (unE own ρ) ds := by
  obtain ⟨c, s⟩ := h.cor.unE ho
  exact h.next (Hw := H) c s rfl
theorem Acc.elt {x : PExp} {r : RV} {y : PyData} {P : Hp → Prop} (h : Acc C Z D Hv H σ ρ ds) (nz : ¬ Z D) (hk : C.K = K) (hio : G.io = C.io.map (·.1)) (e1 : evE G x ρ = some (r, ρ1)) (e2 : settle G.io r ρ1 = some (y, ρ2)) (hl : ds.length < lim)
    (hP : ∀ H', Acc C Z D Hv H' σ ρ2 (ds ++ [y]) → P H') : tE K G x σ H fun v H4 => ∃ acc, H4 D = some (.lst acc) ∧ acc.length < sizeLine ∧ P (upd H4 D (.lst (acc ++ [v]))) := by
  obtain ⟨n1, n2, n3⟩ := h.facts
  obtain ⟨xs, hD, hr⟩ := h.lst
  refine ⟨C.add D (.lst xs), Z, ρ, r, ρ1, ⟨hk, hio, h.cor.hold nz hD⟩, e1, fun v H4 p => ?_⟩
  obtain ⟨c1, s1, v1⟩ := p.shown
  obtain ⟨c2, s2, rv⟩ := RVok.settle (C := C.add D (.lst xs)) (io := G.io) hio c1 v1 e2
  obtain ⟨c3, hD4⟩ := c2.unhold n1 n2 n3
  rw [vis_add, vis_add] at s1
  rw [vis_add, vis_add] at s2
  rw [vis_add] at rv
  obtain ⟨c4, s4⟩ := c3.tempSet (.inr rfl) (.lst (xs ++ [v]))
  refine ⟨xs, hD4, by rw [hr.length, ← lim_eq]; exact hl, hP _ ⟨c4, h.sub.trans (s1.trans (s2.trans s4)), xs ++ [v], upd_same, ?_⟩⟩
  exact (Reps.mono (s1.trans (s2.trans s4)) _ _ hr).append (Reps.one (Rep.mono s4 _ _ rv))
theorem Acc.cnd {x : PExpO} {b : Bool} {P : Bool → Hp → Prop} (h : Acc C Z D Hv H σ ρ ds) (nz : ¬ Z D) (hk : C.K = K) (hio : G.io = C.io.map (·.1)) (e1 : evC G x ρ = some (b, ρ1)) (hP : ∀ H', Acc C Z D Hv H' σ ρ1 ds → P b H') : tCnd K G x σ H P := by
  obtain ⟨n1, n2, n3⟩ := h.facts
  obtain ⟨xs, hD, hr⟩ := h.lst
  refine ⟨C.add D (.lst xs), Z, ρ, b, ρ1, ⟨hk, hio, h.cor.hold nz hD⟩, e1, fun H4 c1 s1 => ?_⟩
  obtain ⟨c3, hD4⟩ := c1.unhold n1 n2 n3
  rw [vis_add, vis_add] at s1
  exact hP _ (h.next (Hw := H) c3 s1 (hD4.trans hD.symm))
theorem Acc.src {x : PSrc} {g : Items} {P : It → Hp → Prop} (h : Acc C Z D Hv H σ ρ ds) (nz : ¬ Z D) (hk : C.K = K) (hio : G.io = C.io.map (·.1)) (e1 : evS G x ρ = some (g, ρ1)) (hP : ∀ J H', Acc C Z D Hv H' σ ρ1 ds → SrcOk C.K σ J g (vis C (fun a => Z a ∨ a = D) H' σ ρ1) → P J H') : tS K G x σ H P := by
  obtain ⟨n1, n2, n3⟩ := h.facts
  obtain ⟨xs, hD, hr⟩ := h.lst
  refine ⟨C.add D (.lst xs), Z, ρ, g, ρ1, ⟨hk, hio, h.cor.hold nz hD⟩, e1, fun J H4 c1 s1 so => ?_⟩
  obtain ⟨c3, hD4⟩ := c1.unhold n1 n2 n3
  rw [vis_add, vis_add] at s1
  rw [vis_add] at so
  exact hP _ _ (h.next (Hw := H) c3 s1 (hD4.trans hD.symm)) so
theorem Acc.tgt {t : PT_} {d : PyData} {v : V} {P : L2.St → Hp → Prop} (h : Acc C Z D Hv H σ ρ ds) (hk : C.K = K) (hio : G.io = C.io.map (·.1)) (r : Rep C.K (vis C (fun a => Z a ∨ a = D) H σ ρ) d v) (e1 : assignT G.io t d ρ = some ρ1) (hP : ∀ σ', Acc C Z D Hv H σ' ρ1 ds → Ch σ σ' (slotsT t) → P σ' H) : tG K G.io t v σ H P := by
  refine ⟨C, _, ρ, d, ρ1, ⟨hk, hio, h.cor⟩, r, e1, fun σ' c s ch => hP σ' (h.next (Hw := H) c s rfl) ch⟩

/-- the loop of a comprehension's clause -/
theorem comp_loop {g : Items} {f : PyData → PEnv → Option (List PyData × PEnv)} {J : It} {σ0 : L2.St} {T : V → Hp → (Hp → Prop) → Prop} {Qd : Hp → Prop} {outs ds0 : List PyData} {ρ3 : PEnv} (src : SrcOk C.K σ0 J g Hv) (hσ : ∀ (k : Nat) (v : V), σ[k]? = some (some v) → σ0[k]? = some (some v))
    (turn : ∀ (d : PyData) (H : Hp) (ρ ρ' : PEnv) (ds out1 : List PyData) (x : V) (Nx : Hp → Prop), Acc C Z D Hv H σ ρ ds → f d ρ = some (out1, ρ') → ds.length + out1.length ≤ lim → Rep C.K (vis C (fun a => Z a ∨ a = D) H σ ρ) d x → (∀ H', Acc C Z D Hv H' σ ρ' (ds ++ out1) → Nx H') → T x H Nx)
    (fin : ∀ H', Acc C Z D Hv H' σ ρ3 (ds0 ++ outs) → Qd H') (ev : evComp g f g.ds ρ = some (outs, ρ3)) (h : Acc C Z D Hv H σ ρ ds0) (hl : ds0.length + outs.length ≤ lim) :
    ∃ W : Nat → Nat → Hp → Prop, (∃ m, W 0 m H) ∧ ∀ i m H, W i m H → (J.stop i H ∧ Qd H) ∨ (J.go i H ∧ ∃ Nx : Hp → Prop, (∀ H', Nx H' → ∃ m', m' < m ∧ W (i + 1) m' H') ∧ ∀ x H', J.yld i H x H' → T x H' Nx) := by
  refine ⟨fun i m H => m = g.ds.length - i ∧ i ≤ g.ds.length ∧ ∃ ρi dsi rest, evComp g f (g.ds.drop i) ρi = some (rest, ρ3) ∧ dsi ++ rest = ds0 ++ outs ∧ Acc C Z D Hv H σ ρi dsi,
    ⟨g.ds.length, by simp, Nat.zero_le _, ρ, ds0, outs, by simpa using ev, rfl, h⟩, ?_⟩
  rintro i m H ⟨rfl, hi, ρi, dsi, rest, e1, e2, a⟩
  by_cases hlt : i < g.ds.length
  · rw [List.drop_eq_getElem_cons hlt] at e1
    simp only [evComp] at e1
    split at e1
    · rename_i hg
      obtain ⟨⟨out1, ρ'⟩, e3, e4⟩ := Option.bind_eq_some_iff.mp e1
      obtain ⟨⟨rest', ρ''⟩, e5, e6⟩ := Option.bind_eq_some_iff.mp e4
      simp only [Option.some.injEq, Prod.mk.injEq] at e6
      obtain ⟨rfl, rfl⟩ := e6
      obtain ⟨go, _⟩ := src.go H _ σ ρi a.cor.nice a.sub hg fun k v _ => hσ k v
      obtain ⟨g1, g2⟩ := go i g.ds[i] (List.getElem?_eq_getElem hlt)
      refine .inr ⟨g1, fun H' => ∃ ρ' rest', evComp g f (g.ds.drop (i + 1)) ρ' = some (rest', ρ'') ∧ (dsi ++ out1) ++ rest' = ds0 ++ outs ∧ Acc C Z D Hv H' σ ρ' (dsi ++ out1), ?_, fun x H' y => ?_⟩
      · rintro H' ⟨ρq, rq, f1, f2, f3⟩
        exact ⟨g.ds.length - (i + 1), by omega, rfl, hlt, ρq, _, rq, f1, f2, f3⟩
      · obtain ⟨rfl, r⟩ := g2 x H' y
        refine turn _ _ ρi ρ' dsi out1 x _ a e3 ?_ r fun H' a' => ⟨ρ', rest', e5, by rw [List.append_assoc]; exact e2, a'⟩
        have := congrArg List.length e2
        simp only [List.length_append] at this
        omega
    · cases e1
  · have : i = g.ds.length := by omega
    subst this
    rw [List.drop_length] at e1
    simp only [evComp] at e1
    split at e1
    · rename_i hg
      simp only [Option.some.injEq, Prod.mk.injEq] at e1
      obtain ⟨rfl, rfl⟩ := e1
      obtain ⟨_, st⟩ := src.go H _ σ ρi a.cor.nice a.sub hg fun k v _ => hσ k v
      rw [List.append_nil] at e2
      exact .inl ⟨st, fin H (e2 ▸ a)⟩
    · cases e1
end
section
variable {K : PySem.W.Frag} {G : EvG} {C : PCtx} {Z : Addr → Prop} {H H1 : Hp} {σ : L2.St} {ρ ρ1 ρ2 ρ3 : PEnv} {own : List Nat}
/-- a comprehension's new list, before the first turn -/
theorem Acc.start {D : Addr} (c : Cor C Z H1 σ ρ1) (n : H1 D = none) (w : wipeE own ρ1 = some ρ2) : ¬ Z D ∧ (∀ i ∈ own, ∀ b, C.io ≠ some (i, b)) ∧ Acc C Z D (vis C Z H1 σ ρ1) (upd H1 D (.lst [])) (wipe σ own) ρ2 [] := by
  obtain ⟨e, ho⟩ := wipeE_eq w
  subst e
  have io := io_wiped c ho
  obtain ⟨c1, s1⟩ := c.temp n (.lst [])
  obtain ⟨c2, s2⟩ := c1.unE io
  exact ⟨fun z => (c.fresh n).1 (.inr (.inr z)), io, c2, s1.trans s2, [], upd_same, Reps.nil⟩
/-- .. and behind the last one -/
theorem Acc.end_ {D : Addr} {H' : Hp} {ds : List PyData} (c : Cor C Z H1 σ ρ1) (nz : ¬ Z D) (io : ∀ i ∈ own, ∀ b, C.io ≠ some (i, b)) (s0 : Sub (vis C Z H σ ρ) (vis C Z H1 σ ρ1)) (a : Acc C Z D (vis C Z H1 σ ρ1) H' (wipe σ own) ρ3 ds) :
    PostE C Z σ H ρ (.tmp (.list ds)) (backE own ρ1 ρ3) (.ref D) H' := by
  have hl : ρ1.length = ρ3.length := by rw [← c.len, ← a.cor.len, wipe_length]
  obtain ⟨c2, s2⟩ := a.cor.back (σ := σ) (ρ1 := ρ1) hl (fun i d e => by
    obtain ⟨v, h1, h2⟩ := c.val i d e
    exact ⟨v, h1, Rep.mono a.sub _ _ h2⟩) io
  rw [back_wipe] at c2 s2
  obtain ⟨xs, h1, h2⟩ := a.lst
  exact ⟨D, rfl, nz, c2, s0.trans (a.sub.trans s2), xs, h1, Reps.mono s2 _ _ h2⟩
end
section
variable {X : Cx} {G : EvG} {elt tg iter tg1 iter1 : Expr} {ifs ifs1 : List Expr} {scope : Scope} {ownP : List (Str × Nat)} {own own2 : List Nat} {pos : Pos} {t t2 : PT_} {s s2 : PSrc} {c c2 : PExpO} {e : PExp}
theorem lc_imp {K : PySem.W.Frag} (ho : ownP.map (·.2) = own) (hT : ∀ i ∈ slotsT t, i ∈ own) {σ : L2.St} {H : Hp} {Q : VK} (q : tE K G (.comp own t s c e) σ H Q) : tLc (tS K G s) (tG K G.io t) (tCnd K G c) (tE K G e) (ownP.map (·.2)) σ H Q := by
  obtain ⟨C, Z, ρ, r, ρ', h, ev, q⟩ := q
  simp only [evE, Option.bind_eq_some_iff] at ev
  obtain ⟨⟨g, ρ1⟩, e1, ρ2, e2, ⟨outs, ρ3⟩, e3, e4⟩ := ev
  split at e4
  · rename_i hl
    simp only [Option.some.injEq, Prod.mk.injEq] at e4
    obtain ⟨rfl, rfl⟩ := e4
    refine ⟨C, Z, ρ, g, ρ1, h, e1, fun J H1 c1 s1 so D n => ?_⟩
    obtain ⟨nz, io, a0⟩ := Acc.start c1 n e2
    rw [ho]
    refine comp_loop (σ := wipe σ own) so (fun k v e => (wipe_some e).1) ?_ (fun H' a => q _ _ (Acc.end_ c1 nz io s1 a)) e3 a0 (by simpa using hl)
    intro d H2 ρi ρ'' ds out1 x Nx a f1 hlim rx hNx
    simp only [Option.bind_eq_some_iff] at f1
    obtain ⟨ρa, f2, ⟨b, ρb⟩, f3, f4⟩ := f1
    refine a.tgt h.k h.io rx f2 fun σ2 a2 ch => ⟨by rw [ch own hT]; exact wipe_idem fun i hi => hi, ?_⟩
    have cw : wipe σ2 own = wipe σ own := by rw [ch own hT]; exact wipe_idem fun i hi => hi
    refine a2.cnd nz h.k h.io f3 fun H3 a3 => ?_
    cases b with
    | false =>
      simp only [Bool.false_eq_true, if_false, Option.some.injEq, Prod.mk.injEq] at f4 ⊢
      obtain ⟨rfl, rfl⟩ := f4
      refine hNx _ ?_
      rw [List.append_nil, ← cw]
      exact a3.wiped io
    | true =>
      simp only [if_true, Option.bind_eq_some_iff] at f4 ⊢
      obtain ⟨⟨r5, ρ5⟩, f5, ⟨y, ρ6⟩, f6, f7⟩ := f4
      simp only [Option.some.injEq, Prod.mk.injEq] at f7
      obtain ⟨rfl, rfl⟩ := f7
      simp only [List.length_cons, List.length_nil] at hlim
      refine a3.elt nz h.k h.io f5 f6 (by omega) fun H' a4 => hNx _ ?_
      rw [← cw]
      exact a4.wiped io
  · cases e4
theorem snd_comp (hc : X.calm = true) (hN : X.N.Nodup) (hi : PI X tg iter (tS X.K G s)) (ok : BlkOk X.N X.env.scope scope ownP) (ho : ownP.map (·.2) = own) (hT : ∀ i ∈ slotsT t, i ∈ own)
    (hg : ∀ (s : Shared) (H : Hp) (C : Addr) (cl : List (Str × Addr)) (fp : List Addr), PG (X.blk s H scope (compEnvC scope cl C X.env) fp) tg (tG X.K G.io t)) (ht : ∀ (s : Shared) (H : Hp) (C : Addr) (cl : List (Str × Addr)) (fp : List Addr), PTs (X.blk s H scope (compEnvC scope cl C X.env) fp) ifs (tCnd X.K G c))
    (he : ∀ (s : Shared) (H : Hp) (C : Addr) (cl : List (Str × Addr)) (fp : List Addr), PE (X.blk s H scope (compEnvC scope cl C X.env) fp) elt (tE X.K G e)) (hs : ∀ x, foldedSetIterable iter X.env x = pure x) :
    PE X (.ListComp elt [⟨tg, iter, ifs, 0⟩] scope pos) (tE X.K G (.comp own t s c e)) := by
  exact PE.imp (pe_lc hc hN hi ok hg ht he hs) fun σ H Q q => lc_imp ho hT q
theorem lc2_imp {K : PySem.W.Frag} (ho : ownP.map (·.2) = own) (hT : ∀ i ∈ slotsT t, i ∈ own) (ho2 : ∀ i ∈ own2, i ∈ own) (hT2 : ∀ i ∈ slotsT t2, i ∈ own2) {σ : L2.St} {H : Hp} {Q : VK} (q : tE K G (.comp2 own own2 t s c t2 s2 c2 e) σ H Q) : tLc2 (tS K G s) (tG K G.io t) (tCnd K G c) (tS K G s2) (tG K G.io t2) (tCnd K G c2) (tE K G e) (ownP.map (·.2)) own2 σ H Q := by
  obtain ⟨C, Z, ρ, r, ρ', h, ev, q⟩ := q
  simp only [evE, Option.bind_eq_some_iff] at ev
  obtain ⟨⟨g, ρ1⟩, e1, ρ2, e2, ⟨outs, ρ3⟩, e3, e4⟩ := ev
  split at e4
  · rename_i hl
    simp only [Option.some.injEq, Prod.mk.injEq] at e4
    obtain ⟨rfl, rfl⟩ := e4
    refine ⟨C, Z, ρ, g, ρ1, h, e1, fun J H1 c1 s1 so D n => ?_⟩
    obtain ⟨nz, io, a0⟩ := Acc.start c1 n e2
    have io2 : ∀ i ∈ own2, ∀ b, C.io ≠ some (i, b) := fun i hi => io i (ho2 i hi)
    rw [ho]
    refine comp_loop (σ := wipe σ own) so (fun k v e => (wipe_some e).1) ?_ (fun H' a => q _ _ (Acc.end_ c1 nz io s1 a)) e3 a0 (by simpa using hl)
    intro d H2 ρi ρ'' ds out1 x Nx a f1 hlim rx hNx
    simp only [Option.bind_eq_some_iff] at f1
    obtain ⟨ρa, f2, ⟨b, ρb⟩, f3, f4⟩ := f1
    refine a.tgt h.k h.io rx f2 fun σ2 a2 ch => ⟨by rw [ch own hT]; exact wipe_idem fun i hi => hi, ?_⟩
    have cw : wipe σ2 own = wipe σ own := by rw [ch own hT]; exact wipe_idem fun i hi => hi
    refine a2.cnd nz h.k h.io f3 fun H3 a3 => ?_
    cases b with
    | false =>
      simp only [Bool.false_eq_true, if_false, Option.some.injEq, Prod.mk.injEq] at f4 ⊢
      obtain ⟨rfl, rfl⟩ := f4
      refine hNx _ ?_
      rw [List.append_nil, ← cw]
      exact a3.wiped io
    | true =>
      simp only [if_true, Option.bind_eq_some_iff] at f4 ⊢
      obtain ⟨⟨g2, ρ5⟩, f5, ⟨outs2, ρ6⟩, f6, f7⟩ := f4
      simp only [Option.some.injEq, Prod.mk.injEq] at f7
      obtain ⟨rfl, rfl⟩ := f7
      refine a3.src nz h.k h.io f5 fun J1 H4 a4 so1 => ?_
      have a5 : Acc C Z D (vis C (fun a => Z a ∨ a = D) H4 σ2 ρ5) H4 σ2 ρ5 ds := ⟨a4.cor, Sub.refl, a4.lst⟩
      refine comp_loop (σ := wipe σ2 own2) so1 (fun k v e => (wipe_some e).1) ?_ (fun H' a6 => hNx _ ?_) f6 (a5.wiped io2) hlim
      · intro d2 H6 ρj ρj' ds2 out2 x2 Nx2 b1 k1 hlim2 rx2 hNx2
        simp only [Option.bind_eq_some_iff] at k1
        obtain ⟨ρk, k2, ⟨bb, ρl⟩, k3, k4⟩ := k1
        refine b1.tgt h.k h.io rx2 k2 fun σ3 b2 ch2 => ⟨by rw [ch2 own2 hT2]; exact wipe_idem fun i hi => hi, ?_⟩
        have cw2 : wipe σ3 own2 = wipe σ2 own2 := by rw [ch2 own2 hT2]; exact wipe_idem fun i hi => hi
        refine b2.cnd nz h.k h.io k3 fun H7 b3 => ?_
        cases bb with
        | false =>
          simp only [Bool.false_eq_true, if_false, Option.some.injEq, Prod.mk.injEq] at k4 ⊢
          obtain ⟨rfl, rfl⟩ := k4
          refine hNx2 _ ?_
          rw [List.append_nil, ← cw2]
          exact b3.wiped io2
        | true =>
          simp only [if_true, Option.bind_eq_some_iff] at k4 ⊢
          obtain ⟨⟨r8, ρ8⟩, k5, ⟨y, ρ9⟩, k6, k7⟩ := k4
          simp only [Option.some.injEq, Prod.mk.injEq] at k7
          obtain ⟨rfl, rfl⟩ := k7
          simp only [List.length_cons, List.length_nil] at hlim2
          refine b3.elt nz h.k h.io k5 k6 (by omega) fun H' b4 => hNx2 _ ?_
          rw [← cw2]
          exact b4.wiped io2
      · have a7 : Acc C Z D (vis C Z H1 σ ρ1) H' (wipe σ2 own2) ρ6 (ds ++ outs2) := ⟨a6.cor, a4.sub.trans a6.sub, a6.lst⟩
        have := a7.wiped io
        rw [wipe_idem ho2, cw] at this
        exact this
  · cases e4
theorem snd_comp2 (hc : X.calm = true) (hN : X.N.Nodup) (hi : PI X tg iter (tS X.K G s)) (ok : BlkOk X.N X.env.scope scope ownP) (ho : ownP.map (·.2) = own) (hT : ∀ i ∈ slotsT t, i ∈ own) (ho2 : ∀ i ∈ own2, i ∈ own) (hT2 : ∀ i ∈ slotsT t2, i ∈ own2)
    (hg : ∀ (s : Shared) (H : Hp) (C : Addr) (cl : List (Str × Addr)) (fp : List Addr), PG (X.blk s H scope (compEnvC scope cl C X.env) fp) tg (tG X.K G.io t)) (ht : ∀ (s : Shared) (H : Hp) (C : Addr) (cl : List (Str × Addr)) (fp : List Addr), PTs (X.blk s H scope (compEnvC scope cl C X.env) fp) ifs (tCnd X.K G c))
    (hi1 : ∀ (s : Shared) (H : Hp) (C : Addr) (cl : List (Str × Addr)) (fp : List Addr), PI (X.blk s H scope (compEnvC scope cl C X.env) fp) tg1 iter1 (tS X.K G s2))
    (hg1 : ∀ (s : Shared) (H : Hp) (C : Addr) (cl : List (Str × Addr)) (fp : List Addr), PG (X.blk s H scope (compEnvC scope cl C X.env) fp) tg1 (tG X.K G.io t2)) (ht1 : ∀ (s : Shared) (H : Hp) (C : Addr) (cl : List (Str × Addr)) (fp : List Addr), PTs (X.blk s H scope (compEnvC scope cl C X.env) fp) ifs1 (tCnd X.K G c2))
    (he : ∀ (s : Shared) (H : Hp) (C : Addr) (cl : List (Str × Addr)) (fp : List Addr), PE (X.blk s H scope (compEnvC scope cl C X.env) fp) elt (tE X.K G e)) (hs : ∀ x, foldedSetIterable iter X.env x = pure x) (hs1 : ∀ env x, foldedSetIterable iter1 env x = pure x) :
    PE X (.ListComp elt [⟨tg, iter, ifs, 0⟩, ⟨tg1, iter1, ifs1, 0⟩] scope pos) (tE X.K G (.comp2 own own2 t s c t2 s2 c2 e)) := by
  exact PE.imp (pe_lc2 (vs1 := own2) hc hN hi ok (by rw [ho]; exact ho2) hg ht hi1 hg1 ht1 he hs hs1) fun σ H Q q => lc2_imp ho hT ho2 hT2 q
end
end Pz
end
section
set_option Elab.async false
set_option linter.all false
set_option maxRecDepth 100000
set_option maxHeartbeats 4000000
namespace Pz
open PySem PySem.Spec PyProof.Rows L2

/-! ### what statements leave -/
structure RetP (C : PCtx) (d : PyData) (fr : Bool) (ρ' : PEnv) (v : V) (H' : Hp) : Prop where
  frm : ∀ (a : Addr) (o : HO), C.H0 a = some o → (∀ i, C.io ≠ some (i, a)) → H' a = some o
  new : fr = true → ∃ p, v = .ref p ∧ ¬ C.O p ∧ C.H0 p = none ∧ PTop C.K H' (hide H' (nz true C.O p)) p d
  old : fr = false → Rep C.K (hide H' C.O) d v
  ioo : ∀ (k : Nat) (a : Addr) (d' : PyData), C.io = some (k, a) → ρ'[k]? = some (.own d') → PTop C.K H' (hide H' fun b => C.O b ∨ (fr = true ∧ v = .ref b)) a d'
def Fin (C : PCtx) (Z : Addr → Prop) (σ : L2.St) (H : Hp) (ρ : PEnv) (fl : Flw) (ρ' : PEnv) (D : Ends) : Prop :=
  match fl with
  | .next => ∀ σ' H', Cor C Z H' σ' ρ' → Sub (vis C Z H σ ρ) (vis C Z H' σ' ρ') → D.nx σ' H'
  | .brk => ∀ σ' H', Cor C Z H' σ' ρ' → Sub (vis C Z H σ ρ) (vis C Z H' σ' ρ') → D.bk σ' H'
  | .cont => ∀ σ' H', Cor C Z H' σ' ρ' → Sub (vis C Z H σ ρ) (vis C Z H' σ' ρ') → D.ct σ' H'
  | .ret d fr => ∀ v H', RetP C d fr ρ' v H' → D.rt v H'
def tSt (K : PySem.W.Frag) (G : EvG) (b : PStm) : TS := fun D σ H => ∃ C Z ρ fl ρ', In0 K G.io C Z H σ ρ ∧ evSt G b ρ = some (fl, ρ') ∧ Fin C Z σ H ρ fl ρ' D
def tSs (K : PySem.W.Frag) (G : EvG) (b : PStms) : TS := fun D σ H => ∃ C Z ρ fl ρ', In0 K G.io C Z H σ ρ ∧ evSs G b ρ = some (fl, ρ') ∧ Fin C Z σ H ρ fl ρ' D
theorem PS.imp {X : Cx} {e : Stmt} {t t' : TS} (h : PS X e t) (i : ∀ D σ H, t' D σ H → t D σ H) : PS X e t' := ⟨fun pins s σ H D I q => h.run pins s σ H D I (i D σ H q)⟩
theorem PSs.imp {X : Cx} {e : List Stmt} {t t' : TS} (h : PSs X e t) (i : ∀ D σ H, t' D σ H → t D σ H) : PSs X e t' := ⟨fun pins s σ H D I q => h.run pins s σ H D I (i D σ H q)⟩
section
variable {C : PCtx} {Z : Addr → Prop} {H H' : Hp} {σ σ' : L2.St} {ρ ρ' ρ1 : PEnv} {fl : Flw} {D D' : Ends}
theorem Fin.from_ (s : Sub (vis C Z H σ ρ) (vis C Z H' σ' ρ1)) (f : Fin C Z σ H ρ fl ρ' D) : Fin C Z σ' H' ρ1 fl ρ' D := by
  cases fl with
  | next => exact fun σ2 H2 c s2 => f σ2 H2 c (s.trans s2)
  | brk => exact fun σ2 H2 c s2 => f σ2 H2 c (s.trans s2)
  | cont => exact fun σ2 H2 c s2 => f σ2 H2 c (s.trans s2)
  | ret d fr => exact f
theorem set_self {σ : L2.St} {i : Nat} : σ.set i (σ.getD i none) = σ := by
  apply List.ext_getElem?
  intro j
  by_cases e : i = j
  · subst e
    by_cases h : i < σ.length
    · rw [List.getElem?_set_self h, List.getD_eq_getElem?_getD, List.getElem?_eq_getElem h]; rfl
    · rw [List.getElem?_eq_none (by rw [List.length_set]; omega), List.getElem?_eq_none (by omega)]
  · rw [List.getElem?_set_ne e]
theorem kill_ok {io : Option Nat} (hio : io = C.io.map (·.1)) : ∀ {is : List Nat} {ρ ρ' : PEnv}, Cor C Z H σ ρ → killS io is ρ = some ρ' → Cor C Z H σ ρ' ∧ Sub (vis C Z H σ ρ) (vis C Z H σ ρ')
  | [], ρ, ρ', c, e => by
    simp only [killS, Option.some.injEq] at e; subst e
    exact ⟨c, Sub.refl⟩
  | i :: is, ρ, ρ', c, e => by
    simp only [killS] at e
    split at e
    · cases e
    · rename_i hn
      obtain ⟨c1, s1⟩ := c.forget (io_ne hio hn) (σ.getD i none)
      rw [set_self] at c1 s1
      obtain ⟨c2, s2⟩ := kill_ok hio c1 e
      exact ⟨c2, s1.trans s2⟩
theorem src_given {K : PySem.W.Frag} {σ0 : L2.St} {J : It} {ds : List PyData} {i : Nat} {Hv Hv' : Hp} {v : V} (so : SrcOk K σ0 J ⟨ds, some i⟩ Hv) (hv : σ0[i]? = some (some v)) (r : Rep K Hv' (.list ds) v) (s : Sub Hv Hv') : SrcOk K σ0 J ⟨ds, none⟩ Hv' := by
  refine ⟨fun H Hw σ ρ nc s' _ _ => ?_⟩
  have key : ∀ (j : Nat) (x : PSlot), ((List.replicate (i + 1) PSlot.un).set i (.val (.list ds)))[j]? = some x → (j = i ∧ x = .val (.list ds)) ∨ x = .un := fun j x e => by
    rcases getElem?_set_cases e with ⟨q1, q2, _⟩ | ⟨_, q⟩
    · exact .inl ⟨q1.symm, q2⟩
    · obtain ⟨_, q⟩ := List.getElem?_eq_some_iff.mp q
      rw [List.getElem_replicate] at q
      exact .inr q.symm
  refine so.go H Hw σ0 ((List.replicate (i + 1) PSlot.un).set i (.val (.list ds))) ⟨nc.sub, fun j d e => ?_, fun j d e => ?_⟩ (s.trans s') ?_ fun _ _ _ h => h
  · rcases key j _ e with ⟨_, q⟩ | q <;> cases q
  · rcases key j _ e with ⟨q1, q2⟩ | q
    · cases q2
      rw [q1]
      exact ⟨v, hv, Rep.mono s' _ _ r⟩
    · cases q
  · simp only [guardOk]
    rw [List.getElem?_set_self (by simp)]
    exact sameL_refl ds
theorem given_ok {io : Option Nat} {g g' : Items} {J : It} (hio : io = C.io.map (·.1)) (c : Cor C Z H σ ρ) (so : SrcOk C.K σ J g (vis C Z H σ ρ)) (e : given io (g, ρ) = some (g', ρ')) :
    Cor C Z H σ ρ' ∧ Sub (vis C Z H σ ρ) (vis C Z H σ ρ') ∧ SrcOk C.K σ J g' (vis C Z H σ ρ') ∧ g'.at_ = none := by
  simp only [given] at e
  obtain ⟨gds, gat⟩ := g
  cases gat with
  | none =>
    simp only [Option.some.injEq, Prod.mk.injEq] at e
    obtain ⟨rfl, rfl⟩ := e
    exact ⟨c, Sub.refl, so, rfl⟩
  | some i =>
    simp only [Option.bind_eq_some_iff] at e
    obtain ⟨⟨d, ρ1⟩, e1, e2⟩ := e
    cases d <;> simp only at e2 <;> first | (cases e2; done) | skip
    split at e2
    · rename_i hs
      simp only [Option.some.injEq, Prod.mk.injEq] at e2
      obtain ⟨rfl, rfl⟩ := e2
      have := sameL_eq _ _ hs
      subst this
      have hv : ∃ a, σ[i]? = some (some (.ref a)) := by
        simp only [settle] at e1
        split at e1
        · rename_i d hd
          obtain ⟨a, h1, _⟩ := c.own i d hd
          exact ⟨a, h1⟩
        · rename_i ds hd
          obtain ⟨w, h1, h2⟩ := c.val i _ hd
          simp only [Rep] at h2
          obtain ⟨a, _, rfl, _⟩ := h2
          exact ⟨a, h1⟩
        · cases e1
      obtain ⟨a, ha⟩ := hv
      obtain ⟨c1, s1, r1⟩ := RVok.settle (r := .loc i) (v := .ref a) hio c ⟨a, rfl, ha⟩ e1
      exact ⟨c1, s1, src_given so ha r1 s1, rfl⟩
    · cases e2
/-- what an expression gave, as what is returned -/
theorem PostE.ret {G : EvG} {r : RV} {v : V} {d : PyData} {fr : Bool} (hio : G.io = C.io.map (·.1)) (p : PostE C Z σ H ρ r ρ1 v H') (e : retOf G r ρ1 = some (.ret d fr, ρ')) : RetP C d fr ρ' v H' := by
  have ioK : ∀ {Z2 : Addr → Prop} (R : Addr → Prop) (c : Cor C Z2 H' σ ρ1), (∀ b, R b → Hid C σ ρ1 Z2 b) → ∀ (k : Nat) (a : Addr) (d' : PyData), C.io = some (k, a) → ρ1[k]? = some (.own d') → PTop C.K H' (hide H' R) a d' := fun {Z2} R c hR k a d' e1 e2 => by
    obtain ⟨b, h1, h2⟩ := c.own k d' e2
    obtain ⟨_, h3, _⟩ := c.iok k a e1
    rw [h1] at h3; cases h3
    exact h2.mono rfl (hide_mono (fun _ _ _ e => e) fun b _ n _ z => n (hR b z))
  cases r with
  | val d' =>
    simp only [retOf, Option.some.injEq, Prod.mk.injEq, Flw.ret.injEq] at e
    obtain ⟨⟨rfl, rfl⟩, rfl⟩ := e
    obtain ⟨c, s, rr⟩ := p
    refine ⟨c.frm, fun z => (nomatch z), fun _ => Rep.mono (hide_mono (fun _ _ _ e => e) fun b _ n _ z => n (.inl z)) _ _ rr, fun k a d' e1 e2 => ioK _ c (fun b (z : C.O b ∨ (false = true ∧ _)) => by
      rcases z with z | ⟨z, _⟩
      · exact .inl z
      · cases z) k a d' e1 e2⟩
  | tmp d' =>
    simp only [retOf, Option.some.injEq, Prod.mk.injEq, Flw.ret.injEq] at e
    obtain ⟨⟨rfl, rfl⟩, rfl⟩ := e
    obtain ⟨q, rfl, nz', c, s, t⟩ := p
    obtain ⟨z1, z2, z3, z4⟩ := c.zs q (.inr rfl)
    refine ⟨c.frm, fun _ => ⟨q, rfl, z2, z3, t.mono rfl (hide_mono (fun _ _ _ e => e) fun b _ n _ z => n (by
      rcases z with z | ⟨_, z⟩
      · exact .inl z
      · exact .inr (.inr (.inr z))))⟩, fun z => (nomatch z), fun k a d' e1 e2 => ioK _ c (fun b (z : C.O b ∨ (true = true ∧ V.ref q = V.ref b)) => ?_) k a d' e1 e2⟩
    rcases z with z | ⟨_, z⟩
    · exact .inl z
    · cases z
      exact .inr (.inr (.inr rfl))
  | loc i =>
    obtain ⟨c, s, a, rfl, ha⟩ := p
    simp only [retOf] at e
    split at e
    · cases e
    · rename_i hn
      split at e
      · rename_i d0 hd
        simp only [Option.some.injEq, Prod.mk.injEq, Flw.ret.injEq] at e
        obtain ⟨⟨rfl, rfl⟩, rfl⟩ := e
        obtain ⟨b, hb, t⟩ := c.own i _ hd
        rw [ha] at hb; cases hb
        have oa : OA σ ρ1 a := ⟨i, _, hd, ha⟩
        obtain ⟨n1, n2⟩ : ¬ C.O a ∧ C.H0 a = none := (c.sep i _ a hd ha).resolve_left (io_ne hio hn a)
        refine ⟨c.frm, fun _ => ⟨a, rfl, n1, n2, t.mono rfl (hide_mono (fun _ _ _ e => e) fun b _ n _ z => n (by
          rcases z with z | ⟨_, z⟩
          · exact .inl z
          · subst z
            exact .inr (.inl oa)))⟩, fun z => (nomatch z), fun k a' d' e1 e2 => ioK _ c (fun b (z : C.O b ∨ (true = true ∧ V.ref a = V.ref b)) => ?_) k a' d' e1 e2⟩
        rcases z with z | ⟨_, z⟩
        · exact .inl z
        · cases z
          exact .inr (.inl oa)
      · rename_i d0 hd
        simp only [Option.some.injEq, Prod.mk.injEq, Flw.ret.injEq] at e
        obtain ⟨⟨rfl, rfl⟩, rfl⟩ := e
        obtain ⟨w, hw, rr⟩ := c.val i _ hd
        rw [ha] at hw; cases hw
        refine ⟨c.frm, fun z => (nomatch z), fun _ => Rep.mono (hide_mono (fun _ _ _ e => e) fun b _ n _ z => n (.inl z)) _ _ rr, fun k a d' e1 e2 => ioK _ c (fun b (z : C.O b ∨ (false = true ∧ _)) => by
      rcases z with z | ⟨z, _⟩
      · exact .inl z
      · cases z) k a d' e1 e2⟩
      · cases e
theorem retOf_ret {G : EvG} {r : RV} (e : retOf G r ρ = some (fl, ρ')) : ∃ d fr, fl = .ret d fr := by
  cases r with
  | val d => simp only [retOf, Option.some.injEq, Prod.mk.injEq] at e; exact ⟨_, _, e.1.symm⟩
  | tmp d => simp only [retOf, Option.some.injEq, Prod.mk.injEq] at e; exact ⟨_, _, e.1.symm⟩
  | loc i =>
    simp only [retOf] at e
    split at e
    · cases e
    · split at e
      · simp only [Option.some.injEq, Prod.mk.injEq] at e; exact ⟨_, _, e.1.symm⟩
      · simp only [Option.some.injEq, Prod.mk.injEq] at e; exact ⟨_, _, e.1.symm⟩
      · cases e
end
section
variable {X : Cx} {G : EvG} {a b c e : Expr} {xa xb xc x : PExp} {pos : Pos} {st : Stmt} {rest bs cs : List Stmt} {s : PStm} {r ys zs : PStms}
theorem snd_nil : PSs X [] (tSs X.K G .nil) := by
  refine PSs.imp pss_nil fun D σ H q => ?_
  obtain ⟨C, Z, ρ, fl, ρ', h, e, q⟩ := q
  simp only [evSs, Option.some.injEq, Prod.mk.injEq] at e
  obtain ⟨rfl, rfl⟩ := e
  exact q σ H h.cor Sub.refl
theorem snd_cons (h1 : PS X st (tSt X.K G s)) (h2 : PSs X rest (tSs X.K G r)) : PSs X (st :: rest) (tSs X.K G (.cons s r)) := by
  refine PSs.imp (pss_cons h1 h2) fun D σ H q => ?_
  obtain ⟨C, Z, ρ, fl, ρ', h, e, q⟩ := q
  simp only [evSs, Option.bind_eq_some_iff] at e
  obtain ⟨⟨f1, ρ1⟩, e1, e2⟩ := e
  refine ⟨C, Z, ρ, f1, ρ1, h, e1, ?_⟩
  cases f1 with
  | next => exact fun σ' H' c' s' => ⟨C, Z, ρ1, fl, ρ', h.next c', e2, q.from_ s'⟩
  | brk =>
    simp only [Option.some.injEq, Prod.mk.injEq] at e2
    obtain ⟨rfl, rfl⟩ := e2
    exact q
  | cont =>
    simp only [Option.some.injEq, Prod.mk.injEq] at e2
    obtain ⟨rfl, rfl⟩ := e2
    exact q
  | ret d fr =>
    simp only [Option.some.injEq, Prod.mk.injEq] at e2
    obtain ⟨rfl, rfl⟩ := e2
    exact q
theorem snd_pass : PS X (.Pass pos) (tSt X.K G .pass) := by
  refine PS.imp ps_pass fun D σ H q => ?_
  obtain ⟨C, Z, ρ, fl, ρ', h, e, q⟩ := q
  simp only [evSt, Option.some.injEq, Prod.mk.injEq] at e
  obtain ⟨rfl, rfl⟩ := e
  exact q σ H h.cor Sub.refl
theorem snd_brk : PS X (.Break pos) (tSt X.K G .brk) := by
  refine PS.imp ps_break fun D σ H q => ?_
  obtain ⟨C, Z, ρ, fl, ρ', h, e, q⟩ := q
  simp only [evSt, Option.some.injEq, Prod.mk.injEq] at e
  obtain ⟨rfl, rfl⟩ := e
  exact q σ H h.cor Sub.refl
theorem snd_cont : PS X (.Continue pos) (tSt X.K G .cont) := by
  refine PS.imp ps_continue fun D σ H q => ?_
  obtain ⟨C, Z, ρ, fl, ρ', h, e, q⟩ := q
  simp only [evSt, Option.some.injEq, Prod.mk.injEq] at e
  obtain ⟨rfl, rfl⟩ := e
  exact q σ H h.cor Sub.refl
theorem snd_raise : PS X st (tSt X.K G .raise_) := ⟨fun _ _ _ _ _ _ q => by
  obtain ⟨C, Z, ρ, fl, ρ', h, e, q⟩ := q
  simp [evSt] at e⟩
theorem snd_ret (ha : PE X a (tE X.K G xa)) : PS X (.Return (some a) pos) (tSt X.K G (.ret xa)) := by
  refine PS.imp (ps_ret ha) fun D σ H q => ?_
  obtain ⟨C, Z, ρ, fl, ρ', h, e, q⟩ := q
  simp only [evSt, Option.bind_eq_some_iff] at e
  obtain ⟨⟨r1, ρ1⟩, e1, e2⟩ := e
  obtain ⟨d, fr, rfl⟩ := retOf_ret e2
  exact ⟨C, Z, ρ, r1, ρ1, h, e1, fun v H1 p => q v H1 (p.ret h.io e2)⟩
theorem snd_retN : PS X (.Return none pos) (tSt X.K G .retN) := by
  refine PS.imp ps_retN fun D σ H q => ?_
  obtain ⟨C, Z, ρ, fl, ρ', h, e, q⟩ := q
  simp only [evSt, Option.some.injEq, Prod.mk.injEq] at e
  obtain ⟨rfl, rfl⟩ := e
  exact q .non H (PostE.ret (G := G) (r := .val .none) (ρ := ρ) (σ := σ) (H := H) h.io (Z := Z) ⟨h.cor, Sub.refl, by simp only [Rep]⟩ rfl)
theorem snd_ex (ha : PE X a (tE X.K G xa)) (hs : swapsWith a none pos.line X.env = pure false) : PS X (.Expr a pos) (tSt X.K G (.ex xa)) := by
  refine PS.imp (ps_expr ha hs) fun D σ H q => ?_
  obtain ⟨C, Z, ρ, fl, ρ', h, e, q⟩ := q
  simp only [evSt, Option.bind_eq_some_iff] at e
  obtain ⟨⟨r1, ρ1⟩, e1, e2⟩ := e
  simp only [Option.some.injEq, Prod.mk.injEq] at e2
  obtain ⟨rfl, rfl⟩ := e2
  refine ⟨C, Z, ρ, r1, ρ1, h, e1, fun v H1 p => ?_⟩
  obtain ⟨c1, s1, _⟩ := p.shown
  exact q σ H1 c1 s1
theorem snd_ite (hc : PT X c (tT X.K G xc)) (h1 : PSs X bs (tSs X.K G ys)) (h2 : PSs X cs (tSs X.K G zs)) : PS X (.If c bs cs pos) (tSt X.K G (.ite xc ys zs)) := by
  refine PS.imp (ps_if hc h1 h2) fun D σ H q => ?_
  obtain ⟨C, Z, ρ, fl, ρ', h, e, q⟩ := q
  simp only [evSt, Option.bind_eq_some_iff] at e
  obtain ⟨⟨r1, ρ1⟩, e1, d, e2, k, e3, e4⟩ := e
  rw [toBool_eq e3] at e2
  refine ⟨C, Z, ρ, r1, ρ1, k, h, e1, e2, fun H1 c1 s1 => ?_⟩
  cases k with
  | true => exact ⟨C, Z, ρ1, fl, ρ', h.next c1, e4, q.from_ s1⟩
  | false => exact ⟨C, Z, ρ1, fl, ρ', h.next c1, e4, q.from_ s1⟩
/-- name = value, from any rule for it -/
theorem snd_asg {i : Nat} (h : PS X st (tAsg (tE X.K G xa) (gName i))) : PS X st (tSt X.K G (.asg i xa)) := by
  refine PS.imp h fun D σ H q => ?_
  obtain ⟨C, Z, ρ, fl, ρ', h, e, q⟩ := q
  simp only [evSt, Option.bind_eq_some_iff] at e
  obtain ⟨⟨r1, ρ1⟩, e1, e2⟩ := e
  refine ⟨C, Z, ρ, r1, ρ1, h, e1, fun v H1 p => ?_⟩
  have other : ∀ {d ρ2 ρ3}, settle G.io r1 ρ1 = some (d, ρ2) → setV G.io ρ2 i d = some ρ3 → fl = .next → ρ' = ρ3 → D.nx (σ.set i (some v)) H1 := fun {d ρ2 ρ3} f1 f2 f3 f4 => by
    subst f3; subst f4
    obtain ⟨c1, s1, v1⟩ := p.shown
    obtain ⟨c2, s2, rv⟩ := v1.settle h.io c1 f1
    obtain ⟨c3, s3, _⟩ := setV_ok h.io c2 rv f2
    exact q _ _ c3 (s1.trans (s2.trans s3))
  cases r1 with
  | tmp d =>
    simp only [Option.bind_eq_some_iff] at e2
    obtain ⟨ρ2, f1, f2⟩ := e2
    simp only [Option.some.injEq, Prod.mk.injEq] at f2
    obtain ⟨rfl, rfl⟩ := f2
    simp only [setO] at f1
    split at f1
    · cases f1
    · rename_i hn
      split at f1
      · rename_i hl
        simp only [Option.some.injEq] at f1; subst f1
        obtain ⟨q', rfl, nz', c, s, t⟩ := p
        obtain ⟨c2, s2⟩ := c.take (Z' := Z) hl (io_ne h.io hn) (.inr rfl) (fun b z => ⟨.inl z, fun y => nz' (y ▸ z)⟩) t
        exact q _ _ c2 (s.trans s2)
      · cases f1
  | val d =>
    simp only [Option.bind_eq_some_iff] at e2
    obtain ⟨⟨d2, ρ2⟩, f1, ρ3, f2, f3⟩ := e2
    simp only [Option.some.injEq, Prod.mk.injEq] at f3
    exact other f1 f2 f3.1.symm f3.2.symm
  | loc j =>
    simp only [Option.bind_eq_some_iff] at e2
    obtain ⟨⟨d2, ρ2⟩, f1, ρ3, f2, f3⟩ := e2
    simp only [Option.some.injEq, Prod.mk.injEq] at f3
    exact other f1 f2 f3.1.symm f3.2.symm
theorem snd_asgT {is : List Nat} {tg : Expr} (ha : PE X a (tE X.K G xa)) (hg : PG X tg (tG X.K G.io (.tp is))) (hs : swapsWithSole [tg] a pos.line X.env = pure false) (hw : swappedStores [tg] a X.env = pure none) (h1 : (assignEach [tg] X.env).map (·.2) = [assign tg X.env]) : PS X (.Assign [tg] a pos) (tSt X.K G (.asgT is xa)) := by
  refine PS.imp (ps_asg ha hg hs hw h1) fun D σ H q => ?_
  obtain ⟨C, Z, ρ, fl, ρ', h, e, q⟩ := q
  simp only [evSt, Option.bind_eq_some_iff] at e
  obtain ⟨⟨r1, ρ1⟩, e1, ⟨d, ρ2⟩, e2, e3⟩ := e
  refine ⟨C, Z, ρ, r1, ρ1, h, e1, fun v H1 p => ?_⟩
  obtain ⟨c1, s1, v1⟩ := p.shown
  obtain ⟨c2, s2, rv⟩ := v1.settle h.io c1 e2
  cases d <;> simp only at e3 <;> first | (cases e3; done) | skip
  rename_i ds
  obtain ⟨ρ3, e4, e5⟩ := Option.bind_eq_some_iff.mp e3
  simp only [Option.some.injEq, Prod.mk.injEq] at e5
  obtain ⟨rfl, rfl⟩ := e5
  exact ⟨C, Z, ρ2, .tuple ds, ρ3, h.next c2, rv, e4, fun σ' c3 s3 _ => q _ _ c3 (s1.trans (s2.trans s3))⟩
theorem snd_aug {i : Nat} {y : Str} {pos' : Pos} {op : BOp} {o : Operator} (ho : (op = .add ∧ o = .Add) ∨ (op = .sub ∧ o = .Sub)) (hN : X.N.Nodup) (hi : X.N[i]? = some y) (hx : Loc X.env.scope y) (hf : X.fn y = true ∨ X.env.scope.names.lookup y = some .local) (ha : PE X a (tE X.K G xa)) : PS X (.AugAssign (.Name y pos') o a pos) (tSt X.K G (.aug i op xa)) := by
  rcases ho with ⟨rfl, rfl⟩ | ⟨rfl, rfl⟩
  · refine PS.imp (ps_aug hN hi hx ha ip_add hf) fun D σ H q => ?_
    obtain ⟨C, Z, ρ, fl, ρ', h, e, q⟩ := q
    simp only [evSt] at e
    split at e
    · rename_i n hn
      simp only [Option.bind_eq_some_iff] at e
      obtain ⟨⟨r1, ρ1⟩, e1, d, e2, m, e3, ρ2, e5, e6⟩ := e
      simp only [Option.some.injEq, Prod.mk.injEq] at e6
      obtain ⟨rfl, rfl⟩ := e6
      obtain ⟨w, hw, rw'⟩ := h.cor.val i _ hn
      simp only [Rep] at rw'
      subst rw'
      refine ⟨_, hw, C, Z, ρ, r1, ρ1, h, e1, fun v H1 p => ?_⟩
      obtain ⟨c1, s1, v1⟩ := p.shown
      rw [toInt_eq e3] at e2
      refine ⟨n, m, rfl, (v1.peek c1 e2).int, ?_⟩
      obtain ⟨c2, s2, _⟩ := setV_ok (v := .int (n + m)) h.io c1 (by simp only [Rep]) e5
      exact q _ _ c2 (s1.trans s2)
    · cases e
  · refine PS.imp (ps_aug hN hi hx ha ip_sub hf) fun D σ H q => ?_
    obtain ⟨C, Z, ρ, fl, ρ', h, e, q⟩ := q
    simp only [evSt] at e
    split at e
    · rename_i n hn
      simp only [Option.bind_eq_some_iff] at e
      obtain ⟨⟨r1, ρ1⟩, e1, d, e2, m, e3, ρ2, e5, e6⟩ := e
      simp only [Option.some.injEq, Prod.mk.injEq] at e6
      obtain ⟨rfl, rfl⟩ := e6
      obtain ⟨w, hw, rw'⟩ := h.cor.val i _ hn
      simp only [Rep] at rw'
      subst rw'
      refine ⟨_, hw, C, Z, ρ, r1, ρ1, h, e1, fun v H1 p => ?_⟩
      obtain ⟨c1, s1, v1⟩ := p.shown
      rw [toInt_eq e3] at e2
      refine ⟨n, m, rfl, (v1.peek c1 e2).int, ?_⟩
      obtain ⟨c2, s2, _⟩ := setV_ok (v := .int (n - m)) h.io c1 (by simp only [Rep]) e5
      exact q _ _ c2 (s1.trans s2)
    · cases e
theorem Reps.ixN {K : PySem.W.Frag} {H : Hp} {ds : List PyData} {xs : List V} {k : Int} {n : Nat} (r : Reps K H ds xs) (h : ixN ds.length k = some n) : L2.ixN xs.length k = some n := by
  rw [r.length]; exact h
theorem snd_setI {i : Nat} {y : Str} {p pt : Pos} (hu : X.A.units + 1 < cLine) (hN : X.N[i]? = some y) (hv : Vis X.env.scope y) (hd : (y == ("__debug__" : Str)) = false) (hcd : (y == ("__classdict__" : Str)) = false) (hb : PE X b (tE X.K G xb)) (ha : PE X a (tE X.K G xa))
    (hg : ∀ v, assign (.Subscript (.Name y p) b pt) X.env v = (do
      let ov ← holding [v] (eval (.Name y p) X.env)
      let iv ← holding [v, ov] (eval b X.env)
      standAt pt
      holding [v, ov, iv] (setItem ov iv v)
      release [v, ov, iv] []))
    (hs : swapsWithSole [.Subscript (.Name y p) b pt] a pos.line X.env = pure false) (hw : swappedStores [.Subscript (.Name y p) b pt] a X.env = pure none) (h1 : (assignEach [.Subscript (.Name y p) b pt] X.env).map (·.2) = [assign (.Subscript (.Name y p) b pt) X.env]) :
    PS X (.Assign [.Subscript (.Name y p) b pt] a pos) (tSt X.K G (.setI i xb xa)) := by
  have ps : PSet X fun o i v H Q => rSetL o i v H Q ∨ rSetD o i v H Q := fun pins s σ H o i v ov iv u Q I ro ri rv h => h.elim (fun h => set_list pins s σ H o i v ov iv u Q I ro ri rv h) fun h => set_dict hu pins s σ H o i v ov iv u Q I ro ri rv h
  refine PS.imp (ps_asg ha (pg_sub (pe_var hN hv hd hcd) hb ps hg) hs hw h1) fun D σ H q => ?_
  obtain ⟨C, Z, ρ, fl, ρ', h, e, q⟩ := q
  simp only [evSt, Option.bind_eq_some_iff] at e
  obtain ⟨⟨r1, ρ1⟩, e1, ⟨d, ρ2⟩, e2, e3⟩ := e
  refine ⟨C, Z, ρ, r1, ρ1, h, e1, fun v H1 p1 => ?_⟩
  obtain ⟨c1, s1, v1⟩ := p1.shown
  obtain ⟨c2, s2, rv⟩ := v1.settle h.io c1 e2
  split at e3
  · cases e3
  rename_i hno
  simp only [Option.bind_eq_some_iff] at e3
  obtain ⟨⟨r2, ρ3⟩, e3, k, e4, e5⟩ := e3
  have hv0 : ∃ ap, σ[i]? = some (some (.ref ap)) := by
    cases hx : ρ2[i]? with
    | none => rw [hx] at hno; exact absurd rfl hno
    | some sl =>
      cases sl with
      | own d0 =>
        obtain ⟨ap, h1, _⟩ := c2.own i d0 hx
        exact ⟨ap, h1⟩
      | _ => rw [hx] at hno; exact absurd rfl hno
  obtain ⟨ap0, hw0⟩ := hv0
  refine ⟨.ref ap0, hw0, C, Z, ρ2, r2, ρ3, h.next c2, e3, fun y2 H2 p2 => ?_⟩
  obtain ⟨c3, s3, v3⟩ := p2.shown
  have sk := v3.peek c3 e4
  have rv3 := Rep.mono s3 _ _ rv
  split at e5
  · rename_i ds j hds
    obtain ⟨n, e6, e7⟩ := Option.bind_eq_some_iff.mp e5
    simp only [Option.some.injEq, Prod.mk.injEq] at e7
    obtain ⟨rfl, rfl⟩ := e7
    obtain ⟨ap, xs, g1, g2, g3⟩ := own_list c3 hds
    rw [hw0] at g1; cases g1
    obtain ⟨c4, s4⟩ := own_set c3 hds hw0 (g3.set rv3 n)
    exact .inl ⟨_, xs, j, n, rfl, sk.int, g2, g3.ixN e6, q _ _ c4 (s1.trans (s2.trans (s3.trans s4)))⟩
  · rename_i kvs hds
    split at e5
    · rename_i hc
      obtain ⟨hc1, hc2⟩ := b_and hc
      simp only [Option.some.injEq, Prod.mk.injEq] at e5
      obtain ⟨rfl, rfl⟩ := e5
      obtain ⟨ap, g1, ps', g2, g3⟩ := c3.own i _ hds
      rw [hw0] at g1; cases g1
      obtain ⟨kk, k1, rfl⟩ := sk.key hc1
      obtain ⟨c4, s4⟩ := c3.mutate (o := .dK (putK ps' kk v)) (d' := .dict (dPut _ d kvs)) hds hw0 fun Hh s => ⟨_, upd_same, RepKs.mono s _ _ (RepKs.put k1 rv3 g3)⟩
      exact .inr ⟨_, _, rfl, DPut.k g2 (by rw [g3.length, ← lim_eq]; exact of_decide_eq_true hc2), q _ _ c4 (s1.trans (s2.trans (s3.trans s4)))⟩
    · cases e5
  · cases e5
end
end Pz
end
section
set_option Elab.async false
set_option linter.all false
set_option maxRecDepth 100000
set_option maxHeartbeats 4000000
namespace Pz
open PySem PySem.Spec PyProof.Rows L2

section
variable {X : Cx} {G : EvG} {c : Expr} {xc : PExp} {pos : Pos} {tg iter : Expr} {bs : List Stmt} {ys : PStms} {t : PT_} {s : PSrc} {kill : List Nat}
theorem Fin.sub_ {C : PCtx} {Z : Addr → Prop} {H H' : Hp} {σ σ' : L2.St} {ρ ρ' ρ1 : PEnv} {D : Ends} {d : PyData} {fr : Bool} (f : Fin C Z σ H ρ (.ret d fr) ρ' D) : Fin C Z σ' H' ρ1 (.ret d fr) ρ' D := f
theorem snd_for (hp : PassesOwn (model X.prog X.w) X.A X.env X.xe) (hc : X.calm = true) (hi : PI X tg iter (tS X.K G s)) (hg : PG X tg (tG X.K G.io t)) (hb : PSs X bs (tSs X.K G ys)) (hs : ∀ x, foldedSetIterable iter X.env x = pure x) :
    PS X (.For tg iter bs [] pos) (tSt X.K G (.for_ t s ys kill)) := by
  refine PS.imp (ps_for hp hc hi hg hb hs) fun D σ H q => ?_
  obtain ⟨C, Z, ρ, fl, ρ', h, e, q⟩ := q
  simp only [evSt, Option.bind_eq_some_iff] at e
  obtain ⟨⟨g0, ρ0⟩, e1, ⟨g, ρ1⟩, e2, ρ2, e3, e4⟩ := e
  refine ⟨C, Z, ρ, g0, ρ0, h, e1, fun J H1 c1 s1 so => ?_⟩
  obtain ⟨c2, s2, so2, hat⟩ := given_ok h.io c1 so e2
  obtain ⟨c3, s3⟩ := kill_ok h.io c2 e3
  refine ⟨fun i m σ' H' => m = g.ds.length - i ∧ i ≤ g.ds.length ∧ ∃ ρi, evFor g (fun d ρ2 => (assignT G.io t d ρ2).bind fun ρ3 => (evSs G ys ρ3).bind (turnK G.io kill)) (g.ds.drop i) ρi = some (fl, ρ') ∧ Cor C Z H' σ' ρi ∧ Sub (vis C Z H1 σ ρ1) (vis C Z H' σ' ρi), ⟨g.ds.length, by simp, Nat.zero_le _, ρ2, by simpa using e4, c3, s3⟩, ?_⟩
  rintro i m σ' H' ⟨rfl, hi, ρi, e5, ci, si⟩
  have nog : ∀ (k : Nat) (v : V), g.at_ = some k → σ'[k]? = some (some v) → σ[k]? = some (some v) := fun k v e => by rw [hat] at e; cases e
  have guard : guardOk g ρi = true := by simp only [guardOk, hat]
  obtain ⟨go, st⟩ := so2.go H' _ σ' ρi ci.nice si guard nog
  have sAll : Sub (vis C Z H σ ρ) (vis C Z H' σ' ρi) := s1.trans (s2.trans si)
  by_cases hlt : i < g.ds.length
  · rw [List.drop_eq_getElem_cons hlt] at e5
    simp only [evFor] at e5
    rw [if_pos guard] at e5
    obtain ⟨⟨f1, ρa⟩, e6, e7⟩ := Option.bind_eq_some_iff.mp e5
    simp only [Option.bind_eq_some_iff] at e6
    obtain ⟨ρb, e8, ⟨f2, ρc⟩, e9, e10⟩ := e6
    obtain ⟨g1, g2⟩ := go i g.ds[i] (List.getElem?_eq_getElem hlt)
    refine .inr ⟨g1, fun σ' H' => ∃ ρn, evFor g (fun d ρ2 => (assignT G.io t d ρ2).bind fun ρ3 => (evSs G ys ρ3).bind (turnK G.io kill)) (g.ds.drop (i + 1)) ρn = some (fl, ρ') ∧ Cor C Z H' σ' ρn ∧ Sub (vis C Z H1 σ ρ1) (vis C Z H' σ' ρn), ?_, fun x H2 y => ?_⟩
    · rintro σ2 H2 ⟨ρn, h1, h2, h3⟩
      exact ⟨g.ds.length - (i + 1), by omega, rfl, hlt, ρn, h1, h2, h3⟩
    · obtain ⟨rfl, r⟩ := g2 x H2 y
      refine ⟨C, Z, ρi, _, ρb, h.next ci, r, e8, fun σ3 c4 s4 _ => ⟨C, Z, ρb, f2, ρc, h.next c4, e9, ?_⟩⟩
      cases f2 with
      | next =>
        intro σ5 H5 c5 s5
        simp only [turnK] at e10
        obtain ⟨ρd, e11, e12⟩ := Option.bind_eq_some_iff.mp e10
        simp only [Option.some.injEq, Prod.mk.injEq] at e12
        obtain ⟨rfl, rfl⟩ := e12
        obtain ⟨c6, s6⟩ := kill_ok h.io c5 e11
        exact ⟨_, e7, c6, si.trans (s4.trans (s5.trans s6))⟩
      | cont =>
        intro σ5 H5 c5 s5
        simp only [turnK, Option.some.injEq, Prod.mk.injEq] at e10
        obtain ⟨rfl, rfl⟩ := e10
        exact ⟨_, e7, c5, si.trans (s4.trans s5)⟩
      | brk =>
        intro σ5 H5 c5 s5
        simp only [turnK, Option.some.injEq, Prod.mk.injEq] at e10
        obtain ⟨rfl, rfl⟩ := e10
        simp only [Option.some.injEq, Prod.mk.injEq] at e7
        obtain ⟨rfl, rfl⟩ := e7
        exact q σ5 H5 c5 (sAll.trans (s4.trans s5))
      | ret d fr =>
        simp only [turnK, Option.some.injEq, Prod.mk.injEq] at e10
        obtain ⟨rfl, rfl⟩ := e10
        simp only [Option.some.injEq, Prod.mk.injEq] at e7
        obtain ⟨rfl, rfl⟩ := e7
        exact q
  · have : i = g.ds.length := by omega
    subst this
    rw [List.drop_length] at e5
    simp only [evFor] at e5
    rw [if_pos guard] at e5
    simp only [Option.some.injEq, Prod.mk.injEq] at e5
    obtain ⟨rfl, rfl⟩ := e5
    exact .inl ⟨st, q σ' H' ci sAll⟩
theorem snd_while (hp : PassesOwn (model X.prog X.w) X.A X.env X.xe) (ht : PT X c (tT X.K G xc)) (hb : PSs X bs (tSs X.K G ys)) : PS X (.While c bs [] pos) (tSt X.K G (.while_ xc ys kill)) := by
  refine PS.imp (ps_while hp ht hb) fun D σ H q => ?_
  obtain ⟨C, Z, ρ, fl, ρ', h, e, q⟩ := q
  simp only [evSt, Option.bind_eq_some_iff] at e
  obtain ⟨ρ0, e1, e2⟩ := e
  obtain ⟨c0, s0⟩ := kill_ok h.io h.cor e1
  refine ⟨fun m σ' H' => ∃ ρi, evWhile (fun ρ => (evE G xc ρ).bind fun p => (peek p.1 p.2).bind fun x => (toBool x).bind fun k => some (k, p.2)) (fun ρ => (evSs G ys ρ).bind (turnK G.io kill)) m ρi = some (fl, ρ') ∧ Cor C Z H' σ' ρi ∧ Sub (vis C Z H σ ρ) (vis C Z H' σ' ρi), ⟨G.fuel, ρ0, e2, c0, s0⟩, ?_⟩
  rintro m σ' H' ⟨ρi, e3, ci, si⟩
  cases m with
  | zero => simp [evWhile] at e3
  | succ m =>
    simp only [evWhile, Option.bind_eq_some_iff] at e3
    obtain ⟨⟨k, ρa⟩, ⟨⟨r1, ρ1⟩, e4, d, e5, k', e6, e7⟩, e8⟩ := e3
    simp only [Option.some.injEq, Prod.mk.injEq] at e7
    obtain ⟨rfl, rfl⟩ := e7
    rw [toBool_eq e6] at e5
    refine ⟨C, Z, ρi, r1, ρ1, k', h.next ci, e4, e5, fun H1 c1 s1 => ?_⟩
    cases k' with
    | false =>
      simp only [Bool.false_eq_true, if_false, Option.some.injEq, Prod.mk.injEq] at e8 ⊢
      obtain ⟨rfl, rfl⟩ := e8
      exact q σ' H1 c1 (si.trans s1)
    | true =>
      simp only [if_true, Option.bind_eq_some_iff] at e8 ⊢
      obtain ⟨⟨f1, ρb⟩, ⟨⟨f2, ρc⟩, e9, e10⟩, e11⟩ := e8
      refine ⟨fun σ' H' => ∃ ρn, evWhile (fun ρ => (evE G xc ρ).bind fun p => (peek p.1 p.2).bind fun x => (toBool x).bind fun k => some (k, p.2)) (fun ρ => (evSs G ys ρ).bind (turnK G.io kill)) m ρn = some (fl, ρ') ∧ Cor C Z H' σ' ρn ∧ Sub (vis C Z H σ ρ) (vis C Z H' σ' ρn), fun σ2 H2 h2 => ⟨m, Nat.lt_succ_self m, h2⟩, C, Z, ρ1, f2, ρc, h.next c1, e9, ?_⟩
      cases f2 with
      | next =>
        intro σ5 H5 c5 s5
        simp only [turnK] at e10
        obtain ⟨ρd, e12, e13⟩ := Option.bind_eq_some_iff.mp e10
        simp only [Option.some.injEq, Prod.mk.injEq] at e13
        obtain ⟨rfl, rfl⟩ := e13
        obtain ⟨c6, s6⟩ := kill_ok h.io c5 e12
        exact ⟨_, e11, c6, si.trans (s1.trans (s5.trans s6))⟩
      | cont =>
        intro σ5 H5 c5 s5
        simp only [turnK, Option.some.injEq, Prod.mk.injEq] at e10
        obtain ⟨rfl, rfl⟩ := e10
        exact ⟨_, e11, c5, si.trans (s1.trans s5)⟩
      | brk =>
        intro σ5 H5 c5 s5
        simp only [turnK, Option.some.injEq, Prod.mk.injEq] at e10
        obtain ⟨rfl, rfl⟩ := e10
        simp only [Option.some.injEq, Prod.mk.injEq] at e11
        obtain ⟨rfl, rfl⟩ := e11
        exact q σ5 H5 c5 (si.trans (s1.trans s5))
      | ret d fr =>
        simp only [turnK, Option.some.injEq, Prod.mk.injEq] at e10
        obtain ⟨rfl, rfl⟩ := e10
        simp only [Option.some.injEq, Prod.mk.injEq] at e11
        obtain ⟨rfl, rfl⟩ := e11
        exact q
end
end Pz
end
section
set_option Elab.async false
set_option linter.all false
set_option maxRecDepth 100000
set_option maxHeartbeats 8000000
namespace Pz
open PySem PySem.Spec PyProof.Rows L2
section
variable {P : Program} {w : World} {A : Around} {E : Value → Shared → Prop} {s : Shared}
/-- an empty set, just made -/
abbrev eSet (w : World) : Obj := { cls := .type "set", dict := none, data := .set #[] 0 (.fresh 0 0 (!w.params.followText "set-order")) }
theorem set_of_list {p : Addr} {zs : Array Value} (ns : List Int) {Q : Value → Shared → Prop} (nh : A.handled = none) (il : s.heap.IsList p zs) (allI : IntsAre zs.toList ns) (few : ns.length + 1 < scanBound)
    (go : ∀ (g : Heap) (tk c : Nat), SetR w g s.heap.objs.size (fun j => decide (j ∈ ns)) c → c ≤ ns.length → (∀ b o, s.heap.get? b = some o → g.get? b = some o) → Q (.ref s.heap.objs.size) { s with heap := g, toks := tk }) :
    wpAny (model P w) A (call (.type "set") [.ref p]) Q E s := by
  have szn : zs.size = ns.length := by
    have e := IntsAre.length allI
    rwa [Array.length_toList] at e
  obtain ⟨mc, mt, mm⟩ := F.called_set.mro
  have f1 := F.called_set.made
  have f2 := F.called_set.sub
  refine wpAny_call (codeAny_of_tree ?_)
  show wpAny _ _ (callAny (Value.type "set") _) _ _ _
  refine wpAny_pure ⟨Code.quiet_builtin _ (by decide +kernel), codeAny_builtin F.entry_type_call ?_⟩
  rw [Around.under_plain (weight_type_call_type "set" [Value.ref p] []) rfl]
  have f3 := F.called_set.notType
  have f4 := F.called_set.canCreate
  have f5 := F.typeCall_set_1 (Value.ref p)
  repeat (any_goals first | assumption | wp_step)
  refine codeAny_mono (code_set_led1 (Value.ref p) (E := E) (Q₁ := fun ob t1 => ob = .ref s.heap.objs.size ∧ t1 = { s with heap := s.heap.push (eSet w) }) ⟨rfl, rfl⟩) fun rr t1 hrr => ?_
  cases rr with
  | error _ => exact hrr
  | ok flo =>
    cases flo with
    | ret ob =>
      obtain ⟨rfl, rfl⟩ := hrr
      have atS : (s.heap.push (eSet w)).get? s.heap.objs.size = some (eSet w) := Heap.get?_push_size _ rfl
      have tyS : Shared.TypeIs { s with heap := s.heap.push (eSet w) } (.ref s.heap.objs.size) "set" := ⟨_, atS, rfl⟩
      have f6 := F.called_set.init.lookup
      have f7 := F.called_set.init.bind (.ref s.heap.objs.size)
      repeat (any_goals first | assumption | wp_step)
      refine codeAny_mono (codeAny_call_builtin (R := wants (fun r t2 => r = .none ∧ ∃ g tk c, t2 = { s with heap := g, toks := tk } ∧ SetR w g s.heap.objs.size (fun j => decide (j ∈ ns)) c ∧ c ≤ ns.length ∧
          (∀ b o, s.heap.get? b = some o → g.get? b = some o)) E) F.called_set.init.plain F.entry_set_init (check_set_init_1 tyS ?_)) fun rr2 t2 hrr2 => ?_
      · obtain ⟨⟨lc, ld, lt, ls⟩, lo, hc, ln, hd⟩ := il
        simp only at hc hd
        subst hc; subst hd
        have lo2 : (s.heap.push (eSet w)).get? p = some { cls := .type "list", dict := ld, data := .seq zs ln, slots := ls } := Heap.get?_push_of_some _ lo
        have g1 := F.sub_list_set
        have g2 := F.sub_list_frozenset
        have g3 : (Value.type "list" == Value.type "dict") = false := by decide
        have isl : (s.heap.push (eSet w)).IsList p zs := ⟨_, lo2, rfl, ln, rfl⟩
        unfold Builtin.«set.__init__» noKeywords Builtin.Frozenset.updateFrom
        generalize hIt : pyIter = ITER
        wp_walk
        subst hIt
        refine wpAny_pyIter_list isl ?_
        refine wpAny_bind (wpAny_runValue ?_)
        have plt : p < s.heap.objs.size := Heap.lt_size lo
        have nh3 : A.in1.in1.in1.handled = none := by simp [nh]
        have pne : p ≠ (s.heap.push (eSet w)).objs.size := by
          rw [Heap.size_push]
          exact Nat.ne_of_lt (Nat.lt_succ_of_lt plt)
        have apart : s.heap.objs.size ∉ [(s.heap.push (eSet w)).objs.size, p] := by
          rw [Heap.size_push]
          simp only [List.mem_cons, List.mem_singleton, List.not_mem_nil, or_false, not_or]
          exact ⟨Nat.ne_of_lt (Nat.lt_succ_self _), Nat.ne_of_gt plt⟩
        have vals : ∀ (i : Nat) (v : Value), zs[i]? = some v → ∃ k t, ns[i]? = some k ∧ v = .int k t := fun i v hv => by
          have il2 : i < ns.length := by rw [← szn]; exact (Array.getElem?_eq_some_iff.mp hv).1
          obtain ⟨t, e⟩ := PyProof.Rows.IntsAre.int_at allI i v (by rw [Array.getElem?_toList]; exact hv)
          refine ⟨ns[i], t, List.getElem?_eq_getElem il2, ?_⟩
          rw [e, List.getD_eq_getElem?_getD, List.getElem?_eq_getElem il2] <;> rfl
        refine set_update_ints ((Walks.list nh3 _ p pne zs).toS) s.heap.objs.size apart ns szn few vals (zs.size - 0) 0 _ (by omega) (Nat.zero_le _)
          ⟨⟨_, Heap.get?_push_size _ rfl, rfl, rfl⟩, (isl.push _)⟩ ?start0 ?end0
        case start0 =>
          have e : ((s.heap.push (eSet w)).push { cls := .type "list_iterator", data := .fields #[.ref p, .int 0 0] }).get? s.heap.objs.size = some (eSet w) := Heap.get?_push_of_some _ atS
          exact ⟨0, Nat.le_refl 0, setR_new_at e⟩
        case end0 =>
          intro t3 c3 mv hc3 hS3
          obtain ⟨g, gg, gd, gt, go'⟩ := t3
          have e1 : gg = s.gens := mv.gens
          have e2 : gd = s.drawn := mv.drawn
          have e3 : go' = s.os := mv.os
          subst e1; subst e2; subst e3
          show wpAny _ _ _ _ _ _
          refine wpAny_pure ?_
          show wpAny _ _ (ret Value.none) _ _ _
          rw [szn] at hc3
          refine wpAny_pure ⟨rfl, g, gt, c3, rfl, hS3, hc3, fun b o e => ?_⟩
          have lb : b < s.heap.objs.size := Heap.lt_size e
          have nb1 : b ≠ s.heap.objs.size := Nat.ne_of_lt lb
          have nb2 : b ≠ (s.heap.push (eSet w)).objs.size := by
            rw [Heap.size_push]
            exact Nat.ne_of_lt (Nat.lt_succ_of_lt lb)
          exact mv.heap b o (by simp only [List.mem_cons, List.mem_singleton, List.not_mem_nil, or_false, not_or]; exact ⟨nb1, nb2⟩) (Heap.get?_push_of_some _ (Heap.get?_push_of_some _ e))
      · cases rr2 with
        | error _ => exact hrr2
        | ok flo2 =>
          cases flo2 with
          | ret r =>
            obtain ⟨rfl, g, tk, c, rfl, z1, z2, z3⟩ := hrr2
            repeat (any_goals first | assumption | wp_step)
            exact go _ _ _ z1 z2 z3
          | _ => exact hrr2.elim
    | _ => exact hrr.elim
end
end Pz
end
section
set_option Elab.async false
set_option linter.all false
set_option maxRecDepth 100000
set_option maxHeartbeats 8000000
namespace Pz
open PySem PySem.Spec PyProof.Rows L2
theorem insU_mem {i k : Int} : ∀ {l : List Int}, k ∈ insU i l ↔ k = i ∨ k ∈ l
  | [] => by simp [insU]
  | j :: r => by
    simp only [insU]
    split
    · simp
    · split
      · rename_i h; subst h; simp
      · rw [List.mem_cons, insU_mem (l := r), List.mem_cons]
        constructor
        · rintro (h | h | h)
          · exact .inr (.inl h)
          · exact .inl h
          · exact .inr (.inr h)
        · rintro (h | h | h)
          · exact .inr (.inl h)
          · exact .inl h
          · exact .inr (.inr h)
theorem insU_sorted {i : Int} : ∀ {l : List Int}, l.Pairwise (· < ·) → (insU i l).Pairwise (· < ·)
  | [], _ => by simp [insU]
  | j :: r, h => by
    obtain ⟨h1, h2⟩ := List.pairwise_cons.mp h
    simp only [insU]
    split
    · rename_i hij
      refine List.pairwise_cons.mpr ⟨fun y hy => ?_, h⟩
      rcases List.mem_cons.mp hy with e | e
      · rw [e]; exact hij
      · exact Int.lt_trans hij (h1 y e)
    · split
      · exact h
      · refine List.pairwise_cons.mpr ⟨fun y hy => ?_, insU_sorted h2⟩
        rcases insU_mem.mp hy with e | e
        · omega
        · exact h1 y e
theorem sortU_mem {k : Int} : ∀ {l : List Int}, k ∈ sortU l ↔ k ∈ l
  | [] => by simp [sortU]
  | i :: l => by
    show k ∈ insU i (sortU l) ↔ _
    rw [insU_mem, sortU_mem, List.mem_cons]
theorem sortU_sorted : ∀ {l : List Int}, (sortU l).Pairwise (· < ·)
  | [] => .nil
  | i :: l => insU_sorted sortU_sorted
theorem strict_unique : ∀ {l m : List Int}, l.Pairwise (· < ·) → m.Pairwise (· < ·) → (∀ k, k ∈ l ↔ k ∈ m) → l = m
  | [], [], _, _, _ => rfl
  | [], b :: m, _, _, h => absurd ((h b).mpr List.mem_cons_self) (by simp)
  | a :: l, [], _, _, h => absurd ((h a).mp List.mem_cons_self) (by simp)
  | a :: l, b :: m, hl, hm, h => by
    obtain ⟨l1, l2⟩ := List.pairwise_cons.mp hl
    obtain ⟨m1, m2⟩ := List.pairwise_cons.mp hm
    have e : a = b := by
      rcases List.mem_cons.mp ((h a).mp List.mem_cons_self) with e | e
      · exact e
      · rcases List.mem_cons.mp ((h b).mpr List.mem_cons_self) with e2 | e2
        · exact e2.symm
        · have := m1 a e; have := l1 b e2; omega
    subst e
    rw [strict_unique l2 m2 fun k => ?_]
    constructor
    · intro hk
      rcases List.mem_cons.mp ((h k).mp (List.mem_cons_of_mem _ hk)) with e | e
      · have := l1 k hk; omega
      · exact e
    · intro hk
      rcases List.mem_cons.mp ((h k).mpr (List.mem_cons_of_mem _ hk)) with e | e
      · have := m1 k hk; omega
      · exact e
theorem nodup_len : ∀ {l m : List Int}, l.Nodup → (∀ k, k ∈ l → k ∈ m) → l.length ≤ m.length
  | [], m, _, _ => Nat.zero_le _
  | a :: l, m, h, hs => by
    obtain ⟨h1, h2⟩ := List.nodup_cons.mp h
    have ha := hs a List.mem_cons_self
    have : l.length ≤ (m.erase a).length := nodup_len h2 fun k hk => by
      have ne : k ≠ a := fun e => h1 (e ▸ hk)
      exact (List.mem_erase_of_ne ne).mpr (hs k (List.mem_cons_of_mem _ hk))
    have hm : 0 < m.length := List.length_pos_of_mem ha
    rw [List.length_erase_of_mem ha] at this
    simp only [List.length_cons]
    omega
section
variable {X : Cx} {G : EvG} {a : Expr} {xa : PExp}
def rSetOfL (K : PySem.W.Frag) (w : World) : List V → Hp → VK → Prop := fun xs H Q => ∃ (p : Addr) (ns : List Int), xs = [V.ref p] ∧ SqL K H p (ns.map V.int) ∧ ns.length ≤ 4000 ∧ ∀ q c, H q = none → (∃ ks : List Int, ks.Nodup ∧ ks.length = c ∧ ∀ k, k ∈ ks ↔ k ∈ ns) → Q (.ref q) (upd H q (SetO w q (fun j => decide (j ∈ ns)) c))
theorem cr_setOfL (hc : X.calm = true) : CallR X (.type "set") (rSetOfL X.K X.w) := by
  intro pins s σ H xs us Q I rv hq
  obtain ⟨p, ns, rfl, hl, hn, q⟩ := hq
  rw [Vals.ref1 rv]
  obtain ⟨its, r2, pl, hz⟩ := I.list hl
  refine set_of_list ns (I.ok.hd hc) pl.isList (by rw [List.toList_toArray]; exact ints_of_vals r2) (by unfold scanBound; omega) fun g tk c R _ kp => ?_
  have n : H s.heap.objs.size = none := I.hok.fresh (Nat.le_refl _)
  refine ⟨.ref s.heap.objs.size, _, I.laid (t' := tk) kp (Nat.le_refl _) (setO_new R), rfl, q _ c n ?_⟩
  obtain ⟨o, es, ep, t, e1, e2, e3, e4, e5, e6, e7, e8, e9, _⟩ := R
  exact ⟨_, e5, by rw [List.length_map, Array.length_toList]; exact e9, fun k => by rw [← e6 k]; simp⟩
theorem snd_sset {y z : Str} {p1 p2 pos pos2 : Pos} (hc : X.calm = true) (hy : y = Str.ofString "sorted") (hz : z = Str.ofString "set") (hg : Gl X y) (hm : X.mg y = none) (hg2 : Gl X z) (hm2 : X.mg z = none) (ha : PE X a (tE X.K G xa)) (hs : starEach [a] X.env = [(false, eval a X.env)]) :
    PE X (.Call (.Name y p1) [.Call (.Name z p2) [a] [] pos2] [] pos) (tE X.K G (.sset xa)) := by
  subst hy; subst hz
  have inner := pe_callTy (p := p2) (pos := pos2) (cr_setOfL hc) hg2 hm2 PyProof.Rows.boot_set (pa_cons ha pa_nil hs) (by decide) (by decide) hs rfl
  refine PE.imp (pe_callB (cr_sortedSet hc) hg hm boot_sorted (pa_cons inner pa_nil rfl) (by decide) (by decide) rfl rfl) fun σ H Q q => ?_
  obtain ⟨C, Z, ρ, r, ρ', h, e, q⟩ := q
  simp only [evE, Option.bind_eq_some_iff] at e
  obtain ⟨⟨r1, ρ1⟩, e1, d, e2, ds, e3, ns, e4, e5⟩ := e
  split at e5
  · rename_i hb
    obtain ⟨hb1, hb2⟩ := b_and hb
    simp only [Option.some.injEq, Prod.mk.injEq] at e5
    obtain ⟨rfl, rfl⟩ := e5
    refine ⟨C, Z, ρ, r1, ρ1, h, e1, fun v H1 p1 => ?_⟩
    obtain ⟨c1, s1, v1⟩ := p1.shown
    rw [listOf_eq e3] at e2
    obtain ⟨p, xs, rfl, l1, l2⟩ := (v1.peek c1 e2).list
    rw [intsOf_eq e4] at l2
    have := l2.ints
    subst this
    refine ⟨p, ns, rfl, SqL.of l1, of_decide_eq_true hb1, fun qa c n hks => ?_⟩
    obtain ⟨ks, k1, k2, k3⟩ := hks
    obtain ⟨c2, s2⟩ := c1.grow (sub_upd (o := SetO X.w qa (fun j => decide (j ∈ ns)) c) n)
    have hlen : c = (sortU ns).length := by
      have nd : (sortU ns).Nodup := List.Pairwise.imp (fun h e => by omega) (sortU_sorted (l := ns))
      have a1 := nodup_len k1 (m := sortU ns) fun k hk => sortU_mem.mpr ((k3 k).mp hk)
      have a2 := nodup_len nd (m := ks) fun k hk => (k3 k).mpr (sortU_mem.mp hk)
      omega
    refine ⟨qa, _, c, rfl, upd_same, by rw [hlen]; exact of_decide_eq_true hb2, fun out pa o1 o2 o3 n2 => ?_⟩
    have : out = sortU ns := strict_unique o1 sortU_sorted fun k => by rw [o2 k, sortU_mem]; simp
    subst this
    exact q _ _ (PostE.trans (s1.trans s2) (NewV.post c2 (.lst n2 Reps.of_ints)))
  · cases e5
end
end Pz
end
section
set_option Elab.async false
set_option linter.all false
set_option maxRecDepth 100000
set_option maxHeartbeats 8000000
namespace Pz
open PySem PySem.Spec PyProof.Rows L2

/-! ### the check: an expression of the text is what a PExp says -/
structure KC where
  sc : Scope
  fn : Str → Bool
  N : List Str
def dbg (x : Str) : Bool := x == ("__debug__" : Str)
def cdc (x : Str) : Bool := x == ("__classdict__" : Str)
def nmd (x : Str) : Bool := x == ("__name__" : Str)
def visOk (k : KC) (i : Nat) (x : Str) : Bool := decide (k.N[i]? = some x) && ((match k.sc.names.lookup x with | some .local => true | some .cell => true | some .free => true | _ => false) && (!dbg x && !cdc x))
def locOk (k : KC) (i : Nat) (x : Str) : Bool := decide (k.N[i]? = some x) && (match k.sc.names.lookup x with | some .local => true | some .cell => k.fn x | _ => false)
def glOk (k : KC) (s : String) (x : Str) : Bool := x == Str.ofString s && ((match k.sc.names.lookup x with | some .globalImplicit => true | _ => false) && !dbg x)
def nostar : Expr → Bool
  | .Starred .. => false
  | _ => true
def nosl : Expr → Bool
  | .Slice .. => false
  | _ => true
def noset : Expr → Bool
  | .Set .. => false
  | _ => true
def isNm : Expr → Bool
  | .Name .. => true
  | _ => false
def kRel (k : KC) (scope : Scope) : KC := ⟨relS scope k.sc, fun x => scope.names.lookup x == some .cell, k.N⟩
def ownOf (k : KC) (own : List Nat) : List (Str × Nat) := own.map fun i => ((k.N[i]?).getD (Str.ofString ""), i)
def chkNs (k : KC) : List Nat → List Expr → Bool
  | [], [] => true
  | i :: is, .Name x _ :: es => locOk k i x && chkNs k is es
  | _, _ => false
def chkT (k : KC) : PT_ → Expr → Bool
  | .nm i, .Name x _ => locOk k i x
  | .tp is, .Tuple es _ _ => chkNs k is es
  | _, _ => false
def subNs (a b : List Nat) : Bool := a.all fun i => b.contains i
mutual
def chkE (k : KC) : PExp → Expr → Bool
  | .v i, e => (match e with | .Name x _ => visOk k i x | _ => false)
  | .non, e => (match e with | .Constant .none _ _ => true | _ => false)
  | .bl b, e => (match e with | .Constant (.bool c) _ _ => decide (b = c) | _ => false)
  | .int i, e => (match e with | .Constant (.int j) _ _ => decide (i = j) | _ => false)
  | .str s, e => (match e with | .Constant (.str x) _ _ => decide (x = Str.ofString s) | _ => false)
  | .glob s, e => (match e with | .Name x _ => glOk k s x | _ => false)
  | .tup xs, e => (match e with | .Tuple es _ _ => chkEs k xs es | _ => false)
  | .lst xs, e => (match e with | .List es _ => chkEs k xs es | _ => false)
  | .bin op a b, e => (match e with | .BinOp l o r _ => bopIs op o && (chkE k a l && chkE k b r) | _ => false)
  | .neg a, e => (match e with | .UnaryOp .USub l _ => chkE k a l | _ => false)
  | .not a, e => (match e with | .UnaryOp .Not l _ => chkE k a l | _ => false)
  | .cmp op a b, e => (match e with | .Compare l [o] [r] _ => (copIs op o && !behindInMarks o r) && (chkE k a l && chkE k b r) | _ => false)
  | .chain o1 o2 a b c, e => (match e with | .Compare l [p1, p2] [m, r] _ => (copIs o1 p1 && (copIs o2 p2 && !behindInMarks p2 r)) && (chkE k a l && (chkE k b m && chkE k c r)) | _ => false)
  | .and xs, e => (match e with | .BoolOp .And es _ => chkEs k xs es && !es.isEmpty | _ => false)
  | .or xs, e => (match e with | .BoolOp .Or es _ => chkEs k xs es && !es.isEmpty | _ => false)
  | .ife c a b, e => (match e with | .IfExp t l r _ => chkE k c t && (chkE k a l && chkE k b r) | _ => false)
  | .idx a b, e => (match e with | .Subscript l r _ => nosl r && (chkE k a l && chkE k b r) | _ => false)
  | .slice a lo hi, e => (match e with | .Subscript l (.Slice u v none _) _ => chkE k a l && (chkO k lo u && chkO k hi v) | _ => false)
  | .revs a, e => (match e with | .Subscript l (.Slice none none (some (.UnaryOp .USub (.Constant (.int 1) _ _) _)) _) _ => chkE k a l | _ => false)
  | .call f xs, e => (match e with | .Call (.Name y _) (a :: es) [] _ => glOk k f y && chkEs k xs (a :: es) | _ => false)
  | .blt f xs, e => (match e with | .Call (.Name y _) (a :: es) [] _ => glOk k (bfNm f) y && chkEs k xs (a :: es) | _ => false)
  | .rngv a, e => (match e with | .Call (.Name y _) [l] [] _ => glOk k "range" y && (nostar l && chkE k a l) | _ => false)
  | .isi a t, e => (match e with | .Call (.Name y _) [l, .Name z _] [] _ => ((glOk k "isinstance" y && glOk k t z) && (t == "bool" || t == "int" || t == "str" || t == "tuple" || t == "list")) && (nostar l && chkE k a l) | _ => false)
  | .app i a, e => (match e with | .Call (.Attribute (.Name x _) m p) [l] [] q => (visOk k i x && (decide (m = Str.ofString "append") && (p.endLine == q.line))) && (nostar l && chkE k a l) | _ => false)
  | .ext i a, e => (match e with | .Call (.Attribute (.Name x _) m p) [l] [] q => (visOk k i x && (decide (m = Str.ofString "extend") && (p.endLine == q.line))) && (nostar l && chkE k a l) | _ => false)
  | .pop i, e => (match e with | .Call (.Attribute (.Name x _) m p) [] [] q => visOk k i x && (decide (m = Str.ofString "pop") && (p.endLine == q.line)) | _ => false)
  | .rev i, e => (match e with | .Call (.Attribute (.Name x _) m p) [] [] q => visOk k i x && (decide (m = Str.ofString "reverse") && (p.endLine == q.line)) | _ => false)
  | .index a b, e => (match e with | .Call (.Attribute l m p) [r] [] q => (isNm l && (decide (m = Str.ofString "index") && (p.endLine == q.line))) && (nostar r && (chkE k a l && chkE k b r)) | _ => false)
  | .comp own t s c x, e => (match e with
    | .ListComp elt [⟨tg, iter, ifs, 0⟩] scope _ => (blkC k.N k.sc scope (ownOf k own) && (subNs (slotsT t) own && noset iter)) && ((chkS k s iter && chkT (kRel k scope) t tg) && (chkC (kRel k scope) c ifs && chkE (kRel k scope) x elt))
    | _ => false)
  | .comp2 own own2 t s c t2 s2 c2 x, e => (match e with
    | .ListComp elt [⟨tg, iter, ifs, 0⟩, ⟨tg1, iter1, ifs1, 0⟩] scope _ => ((blkC k.N k.sc scope (ownOf k own) && (subNs (slotsT t) own && noset iter)) && (subNs own2 own && (subNs (slotsT t2) own2 && noset iter1))) &&
        (((chkS k s iter && chkT (kRel k scope) t tg) && (chkC (kRel k scope) c ifs && chkE (kRel k scope) x elt)) && (chkS (kRel k scope) s2 iter1 && (chkT (kRel k scope) t2 tg1 && chkC (kRel k scope) c2 ifs1)))
    | _ => false)
  | .rtup _, _ => false
  | .rlst _, _ => false
  | .sset a, e => (match e with | .Call (.Name y _) [.Call (.Name z _) [l] [] _] [] _ => (glOk k "sorted" y && glOk k "set" z) && (nostar l && chkE k a l) | _ => false)
  | .lset _, _ => false
  | .count _ _, _ => false
  | .get _ _ _, _ => false
  | .dnew, _ => false
  | .dcomp _ _ _ _ _ _, _ => false
def chkEs (k : KC) : PExps → List Expr → Bool
  | .nil, es => (match es with | [] => true | _ => false)
  | .cons x xs, es => (match es with | e :: r => nostar e && (chkE k x e && chkEs k xs r) | [] => false)
def chkO (k : KC) : PExpO → Option Expr → Bool
  | .no, e => (match e with | none => true | _ => false)
  | .yes x, e => (match e with | some e => chkE k x e | none => false)
def chkC (k : KC) : PExpO → List Expr → Bool
  | .no, e => (match e with | [] => true | _ => false)
  | .yes x, e => (match e with | [e] => chkE k x e | _ => false)
def chkS (k : KC) : PSrc → Expr → Bool
  | .of x, e => chkE k x e
  | .r1 a, e => (match e with | .Call (.Name y _) [l] [] _ => glOk k "range" y && (nostar l && chkE k a l) | _ => false)
  | .r2 a b, e => (match e with | .Call (.Name y _) [l, r] [] _ => glOk k "range" y && ((nostar l && nostar r) && (chkE k a l && chkE k b r)) | _ => false)
  | .r3 a b c, e => (match e with | .Call (.Name y _) [l, m, r] [] _ => glOk k "range" y && ((nostar l && (nostar m && nostar r)) && (chkE k a l && (chkE k b m && chkE k c r))) | _ => false)
end

/-! ### what the context keeps -/
def bltNs : List String := ["len", "tuple", "list", "sorted", "all", "any", "abs", "int", "sum", "max", "min", "range", "set", "isinstance", "bool", "str"]
structure GX (X : Cx) (G : EvG) (L : Nat) (k : KC) : Prop where
  calm : X.calm = true
  nd : X.N.Nodup
  room : Room L X.A
  sc : X.env.scope = k.sc
  fn : X.fn = k.fn
  N : X.N = k.N
  blt : ∀ b, b ∈ bltNs → X.mg (Str.ofString b) = none
  con : ∀ x d, G.con x = some d → ∃ v u, X.mg (Str.ofString x) = some u ∧ RelV v u ∧ ∀ H, Rep X.K H d v
  fns : ∀ f fs, G.fns f = some fs → ∃ fa fd ps, FnOk X.prog X.w X.K X.mg X.base CX0 L fa fd ps (spF X.K fs) ∧ X.mg (Str.ofString f) = some (.ref fa) ∧ PySem.W.keepIn X.K (.ref fa) = true ∧ Binds X.K fd ps []
section
variable {X : Cx} {G : EvG} {L : Nat} {k : KC}
theorem GX.un (g : GX X G L k) : X.A.units + 200 < cLine := by have := g.room.un; omega
theorem GX.blk (g : GX X G L k) (s : Shared) (H : Hp) (C : Addr) (cl : List (Str × Addr)) (fp : List Addr) (scope : Scope) : GX (X.blk s H scope (compEnvC scope cl C X.env) fp) G L (kRel k scope) :=
  ⟨g.calm, g.nd, g.room, by show relS scope X.env.scope = relS scope k.sc; rw [g.sc], rfl, g.N, g.blt, g.con, g.fns⟩
theorem visOk_ok (g : GX X G L k) {i : Nat} {x : Str} (h : visOk k i x = true) : X.N[i]? = some x ∧ Vis X.env.scope x ∧ (x == ("__debug__" : Str)) = false ∧ (x == ("__classdict__" : Str)) = false := by
  obtain ⟨h1, h2⟩ := b_and h
  obtain ⟨h3, h4⟩ := b_and h2
  obtain ⟨h5, h6⟩ := b_and h4
  refine ⟨by rw [g.N]; exact of_decide_eq_true h1, ?_, by simpa [dbg] using h5, by simpa [cdc] using h6⟩
  unfold Vis
  rw [g.sc]
  split at h3
  · exact .inl (by assumption)
  · exact .inr (.inl (by assumption))
  · exact .inr (.inr (by assumption))
  · cases h3
theorem locOk_ok (g : GX X G L k) {i : Nat} {x : Str} (h : locOk k i x = true) : X.N[i]? = some x ∧ L2.Loc X.env.scope x ∧ (X.fn x = true ∨ X.env.scope.names.lookup x = some .local) := by
  obtain ⟨h1, h3⟩ := b_and h
  unfold L2.Loc
  rw [g.sc, g.fn]
  refine ⟨by rw [g.N]; exact of_decide_eq_true h1, ?_⟩
  split at h3
  · exact ⟨.inl (by assumption), .inr (by assumption)⟩
  · exact ⟨.inr (by assumption), .inl h3⟩
  · cases h3
theorem glOk_ok (g : GX X G L k) {s : String} {x : Str} (h : glOk k s x = true) : x = Str.ofString s ∧ Gl X x ∧ (x == ("__debug__" : Str)) = false := by
  obtain ⟨h1, h2⟩ := b_and h
  obtain ⟨h3, h4⟩ := b_and h2
  refine ⟨by simpa using h1, ?_, by simpa [dbg] using h4⟩
  show X.env.scope.names.lookup x = _
  rw [g.sc]
  split at h3
  · assumption
  · cases h3
theorem star1 {e : Expr} {es : List Expr} {env : Env} (h : nostar e = true) : starEach (e :: es) env = (false, eval e env) :: starEach es env := by
  cases e <;> first | rfl | cases h
theorem asg1 {e : Expr} {es : List Expr} {env : Env} (h : nostar e = true) : assignEach (e :: es) env = (false, assign e env) :: assignEach es env := by
  cases e <;> first | rfl | cases h
theorem plain_ix {b : Expr} (h : nosl b = true) : PlainIx b := by
  intro o i
  cases b <;> first | rfl | cases h
theorem fold_set {e : Expr} {env : Env} {x : Value} (h : noset e = true) : foldedSetIterable e env x = pure x := by
  cases e <;> first | rfl | cases h
theorem isTrue_gen {e : Expr} {env : Env} (h1 : ∀ a p, e ≠ .UnaryOp .Not a p) (h2 : ∀ o a p, e ≠ .BoolOp o a p) (h3 : ∀ a b c p, e ≠ .IfExp a b c p) (h4 : ∀ a b c p, e ≠ .Compare a b c p) : ∀ whole, isTrue e env whole = (do let v ← whole; standAt e.pos; holding [v] (truthy v)) := by
  intro whole
  cases e <;> first
    | rfl
    | (exact absurd rfl (h2 _ _ _))
    | (exact absurd rfl (h3 _ _ _ _))
    | (exact absurd rfl (h4 _ _ _ _))
    | (rename_i op a p; cases op <;> first | rfl | exact absurd rfl (h1 _ _))
theorem chkEs_star {k : KC} : ∀ {xs : PExps} {es : List Expr}, chkEs k xs es = true → ∀ e ∈ es, nostar e = true
  | .nil, es, h => by
    simp only [chkEs] at h
    split at h
    · intro e he; cases he
    · cases h
  | .cons x xs, es, h => by
    simp only [chkEs] at h
    split at h
    · obtain ⟨h1, h2⟩ := b_and h
      obtain ⟨h3, h4⟩ := b_and h2
      intro e he
      rcases List.mem_cons.mp he with q | q
      · rw [q]; exact h1
      · exact chkEs_star h4 e q
    · cases h
theorem stars_false {env : Env} : ∀ {es : List Expr}, (∀ e ∈ es, nostar e = true) → ∀ p ∈ starEach es env, p.1 = false
  | [], _, p, hp => by cases hp
  | a :: es, h, p, hp => by
    rw [star1 (h a List.mem_cons_self)] at hp
    rcases List.mem_cons.mp hp with e | hp
    · rw [e]
    · exact stars_false (fun b hb => h b (List.mem_cons_of_mem _ hb)) p hp
theorem plains {pos : Pos} {env : Env} {es : List Expr} (h : ∀ e ∈ es, nostar e = true) : (backTo pos (starEach es env)).any (·.1) = false := by
  unfold backTo
  rw [List.any_map]
  rw [List.any_eq_false]
  intro p hp
  have := stars_false h p hp
  simp [this]
end
end Pz
end
section
set_option Elab.async false
set_option linter.all false
set_option maxRecDepth 100000
set_option maxHeartbeats 8000000
namespace Pz
open PySem PySem.Spec PyProof.Rows L2

section
variable {X : Cx} {G : EvG} {L : Nat} {k : KC}
theorem pe_vac {x : PExp} {e : Expr} (h : ∀ ρ, evE G x ρ = none) : PE X e (tE X.K G x) := ⟨fun _ _ _ _ _ _ q => by
  obtain ⟨C, Z, ρ, r, ρ', i, e, q⟩ := q
  rw [h] at e; cases e⟩
theorem blt_pe {f : Bf} {a : Expr} {es : List Expr} {t : TA} {p pos : Pos} (hg : Gl X (Str.ofString (bfNm f))) (hm : X.mg (Str.ofString (bfNm f)) = none) (ha : PA X (a :: es) t) (he : starEach (a :: es) X.env = (false, eval a X.env) :: starEach es X.env)
    (hpl : (backTo pos (starEach es X.env)).any (·.1) = false) : ∀ r, CallR X (bfVal f) r → PE X (.Call (.Name (Str.ofString (bfNm f)) p) (a :: es) [] pos) (tCB r t) := by
  intro r hr
  cases f
  · exact pe_callB hr hg hm (by decide +kernel) ha (by decide) (by decide) he hpl
  · exact pe_callTy hr hg hm (by decide +kernel) ha (by decide) (by decide) he hpl
  · exact pe_callTy hr hg hm (by decide +kernel) ha (by decide) (by decide) he hpl
  · exact pe_callB hr hg hm (by decide +kernel) ha (by decide) (by decide) he hpl
  · exact pe_callB hr hg hm (by decide +kernel) ha (by decide) (by decide) he hpl
  · exact pe_callB hr hg hm (by decide +kernel) ha (by decide) (by decide) he hpl
  · exact pe_callB hr hg hm (by decide +kernel) ha (by decide) (by decide) he hpl
  · exact pe_callTy hr hg hm (by decide +kernel) ha (by decide) (by decide) he hpl
  · exact pe_callB hr hg hm (by decide +kernel) ha (by decide) (by decide) he hpl
  · exact pe_callB hr hg hm (by decide +kernel) ha (by decide) (by decide) he hpl
  · exact pe_callB hr hg hm (by decide +kernel) ha (by decide) (by decide) he hpl
theorem bfNm_mem (f : Bf) : bfNm f ∈ bltNs := by cases f <;> decide
theorem star_1 {a : Expr} {env : Env} (h : nostar a = true) : starEach [a] env = [(false, eval a env)] := star1 h
theorem nm_base {l : Expr} {m : Str} {env : Env} (h : isNm l = true) : attributeBase l m env (eval l env) = eval l env := by
  cases l <;> first | rfl | cases h
theorem own_map {own : List Nat} {k : KC} : (ownOf k own).map (·.2) = own := by
  unfold ownOf
  rw [List.map_map]
  have : ((fun x : Str × Nat => x.2) ∘ fun i => ((k.N[i]?).getD (Str.ofString ""), i)) = id := rfl
  rw [this, List.map_id]
theorem subNs_ok {a b : List Nat} (h : subNs a b = true) : ∀ i ∈ a, i ∈ b := fun i hi => by
  have := List.all_eq_true.mp h i hi
  simpa using this
theorem ty5_of {t : String} (h : (t == "bool" || t == "int" || t == "str" || t == "tuple" || t == "list") = true) : Ty5 t ∧ t ∈ bltNs := by
  simp only [Bool.or_eq_true, beq_iff_eq] at h
  rcases h with (((rfl | rfl) | rfl) | rfl) | rfl
  · exact ⟨.bool, by decide⟩
  · exact ⟨.int, by decide⟩
  · exact ⟨.str, by decide⟩
  · exact ⟨.tuple, by decide⟩
  · exact ⟨.list, by decide⟩
theorem ty5_name {t : String} (h : Ty5 t) : Str.ofString t ≠ "__name__" := by cases h <;> decide
theorem sndTs (g : GX X G L k) : ∀ {is : List Nat} {es : List Expr}, chkNs k is es = true → PGs X es (tGs X.K G.io is) ∧ (assignEach es X.env).length = is.length ∧ (assignEach es X.env).findIdx? (·.1) = none
  | [], [], _ => ⟨snd_tgs_nil, rfl, rfl⟩
  | [], _ :: _, h => by simp [chkNs] at h
  | _ :: _, [], h => by simp [chkNs] at h
  | i :: is, e :: es, h => by
    cases e <;> first | (simp [chkNs] at h; done) | skip
    rename_i x p
    simp only [chkNs] at h
    obtain ⟨h1, h2⟩ := b_and h
    obtain ⟨l1, l2, l3⟩ := locOk_ok g h1
    obtain ⟨r1, r2, r3⟩ := sndTs g h2
    refine ⟨snd_tgs_cons g.nd l1 l2 l3 r1, ?_, ?_⟩
    · rw [asg1 (by rfl)]; simp [r2]
    · rw [asg1 (by rfl), List.findIdx?_cons]; simp [r3]
theorem sndT (g : GX X G L k) {t : PT_} {e : Expr} (h : chkT k t e = true) : PG X e (tG X.K G.io t) := by
  cases t with
  | nm i =>
    cases e <;> first | (simp [chkT] at h; done) | skip
    obtain ⟨l1, l2, l3⟩ := locOk_ok g (show locOk k i _ = true from h)
    exact snd_tg g.nd l1 l2 l3
  | tp is =>
    cases e <;> first | (simp [chkT] at h; done) | skip
    obtain ⟨r1, r2, r3⟩ := sndTs g (show chkNs k is _ = true from h)
    exact snd_tgT g.calm r1 r2 r3
end
theorem both {X : Cx} {G : EvG} {e : Expr} {x : PExp} (p : PE X e (tE X.K G x)) (he : ∀ whole, isTrue e X.env whole = (do let v ← whole; standAt e.pos; holding [v] (truthy v))) : PE X e (tE X.K G x) ∧ PT X e (tT X.K G x) := ⟨p, tT_of p he⟩
mutual
theorem sndE : ∀ (x : PExp) (e : Expr) (k : KC) (X : Cx) (G : EvG) (L : Nat), GX X G L k → chkE k x e = true → PE X e (tE X.K G x) ∧ PT X e (tT X.K G x)
  | .v i, e, k, X, G, L, g, h => by
    simp only [chkE] at h
    split at h
    · obtain ⟨h1, h2, h3, h4⟩ := visOk_ok g h
      exact both (snd_v (G := G) h1 h2 h3 h4) fun _ => rfl
    · cases h
  | .non, e, k, X, G, L, g, h => by
    simp only [chkE] at h
    split at h
    · exact both (snd_const pe_non (fun ρ => rfl) fun H => by simp only [Rep]) fun _ => rfl
    · cases h
  | .bl b, e, k, X, G, L, g, h => by
    simp only [chkE] at h
    split at h
    · rename_i c _ _
      have := of_decide_eq_true h
      subst this
      exact both (snd_const pe_bl (fun ρ => rfl) fun H => by simp only [Rep]) fun _ => rfl
    · cases h
  | .int i, e, k, X, G, L, g, h => by
    simp only [chkE] at h
    split at h
    · have := of_decide_eq_true h
      subst this
      exact both (snd_const pe_int (fun ρ => rfl) fun H => by simp only [Rep]) fun _ => rfl
    · cases h
  | .str s, e, k, X, G, L, g, h => by
    simp only [chkE] at h
    split at h
    · have := of_decide_eq_true h
      subst this
      exact both (snd_const pe_str (fun ρ => rfl) fun H => by simp only [Rep]) fun _ => rfl
    · cases h
  | .glob s, e, k, X, G, L, g, h => by
    simp only [chkE] at h
    split at h
    · obtain ⟨h1, h2, h3⟩ := glOk_ok g h
      cases hc : G.con s with
      | none =>
        exact both (pe_vac fun ρ => by simp only [evE, hc, Option.bind_none]) fun _ => rfl
      | some d =>
        obtain ⟨v, u, m1, m2, m3⟩ := g.con s d hc
        subst h1
        exact both (snd_glob hc h2 m1 m2 m3 h3) fun _ => rfl
    · cases h
  | .tup xs, e, k, X, G, L, g, h => by
    simp only [chkE] at h
    split at h
    · exact both (snd_tup (sndEs xs _ k X G L g h)) fun _ => rfl
    · cases h
  | .lst xs, e, k, X, G, L, g, h => by
    simp only [chkE] at h
    split at h
    · exact both (snd_lst (sndEs xs _ k X G L g h)) fun _ => rfl
    · cases h
  | .bin op a b, e, k, X, G, L, g, h => by
    simp only [chkE] at h
    split at h
    · obtain ⟨h1, h2⟩ := b_and h
      obtain ⟨h3, h4⟩ := b_and h2
      exact both (snd_bin h1 (sndE a _ k X G L g h3).1 (sndE b _ k X G L g h4).1) fun _ => rfl
    · cases h
  | .neg a, e, k, X, G, L, g, h => by
    simp only [chkE] at h
    split at h
    · exact both (snd_neg (sndE a _ k X G L g h).1) fun _ => rfl
    · cases h
  | .not a, e, k, X, G, L, g, h => by
    simp only [chkE] at h
    split at h
    · have i := sndE a _ k X G L g h
      exact ⟨snd_not i.1, snd_notT i.2⟩
    · cases h
  | .cmp op a b, e, k, X, G, L, g, h => by
    simp only [chkE] at h
    split at h
    · obtain ⟨h1, h2⟩ := b_and h
      obtain ⟨h3, h4⟩ := b_and h2
      obtain ⟨h5, h6⟩ := b_and h1
      have hu : X.A.units + 65 < cLine := by have := g.un; omega
      have i1 := (sndE a _ k X G L g h3).1
      have i2 := (sndE b _ k X G L g h4).1
      exact ⟨snd_cmp hu h5 (by simpa using h6) i1 i2, snd_cmpT hu h5 (by simpa using h6) i1 i2⟩
    · cases h
  | .chain o1 o2 a b c, e, k, X, G, L, g, h => by
    simp only [chkE] at h
    split at h
    · obtain ⟨h1, h2⟩ := b_and h
      obtain ⟨h3, h4⟩ := b_and h2
      obtain ⟨h5, h6⟩ := b_and h1
      obtain ⟨h7, h8⟩ := b_and h4
      obtain ⟨h9, h10⟩ := b_and h6
      have hu : X.A.units + 65 < cLine := by have := g.un; omega
      have i1 := (sndE a _ k X G L g h3).1
      have i2 := (sndE b _ k X G L g h7).1
      have i3 := (sndE c _ k X G L g h8).1
      exact ⟨snd_chain hu h5 h9 (by simpa using h10) i1 i2 i3, snd_chainT hu h5 h9 (by simpa using h10) i1 i2 i3⟩
    · cases h
  | .and xs, e, k, X, G, L, g, h => by
    simp only [chkE] at h
    split at h
    · rename_i es pos
      obtain ⟨h1, h2⟩ := b_and h
      have i := sndAnd xs es k X G L g pos h1 h2
      exact ⟨PE.imp i.1 fun σ H Q q => by simpa only [tE, tEv, evE] using q, PT.imp i.2.pt fun σ H Q q => by simpa only [tT, tTv, evE] using q⟩
    · cases h
  | .or xs, e, k, X, G, L, g, h => by
    simp only [chkE] at h
    split at h
    · rename_i es pos
      obtain ⟨h1, h2⟩ := b_and h
      have i := sndOr xs es k X G L g pos h1 h2
      exact ⟨PE.imp i.1 fun σ H Q q => by simpa only [tE, tEv, evE] using q, PT.imp i.2.pt fun σ H Q q => by simpa only [tT, tTv, evE] using q⟩
    · cases h
  | .ife c a b, e, k, X, G, L, g, h => by
    simp only [chkE] at h
    split at h
    · obtain ⟨h1, h2⟩ := b_and h
      obtain ⟨h3, h4⟩ := b_and h2
      have i0 := sndE c _ k X G L g h1
      have i1 := sndE a _ k X G L g h3
      have i2 := sndE b _ k X G L g h4
      exact ⟨snd_ife i0.2 i1.1 i2.1, snd_ifeT i0.2 i1.2 i2.2⟩
    · cases h
  | .idx a b, e, k, X, G, L, g, h => by
    simp only [chkE] at h
    split at h
    · obtain ⟨h1, h2⟩ := b_and h
      obtain ⟨h3, h4⟩ := b_and h2
      exact both (snd_idx (by have := g.un; omega) (sndE a _ k X G L g h3).1 (sndE b _ k X G L g h4).1 (plain_ix h1)) fun _ => rfl
    · cases h
  | .slice a lo hi, e, k, X, G, L, g, h => by
    simp only [chkE] at h
    split at h
    · obtain ⟨h1, h2⟩ := b_and h
      obtain ⟨h3, h4⟩ := b_and h2
      exact both (snd_slice (sndE a _ k X G L g h1).1 (sndO lo _ k X G L g h3) (sndO hi _ k X G L g h4)) fun _ => rfl
    · cases h
  | .revs a, e, k, X, G, L, g, h => by
    simp only [chkE] at h
    split at h
    · exact both (snd_revs (sndE a _ k X G L g h).1) fun _ => rfl
    · cases h
  | .call f xs, e, k, X, G, L, g, h => by
    simp only [chkE] at h
    split at h
    · obtain ⟨h1, h2⟩ := b_and h
      obtain ⟨h3, h4, h5⟩ := glOk_ok g h1
      have st := chkEs_star h2
      cases hc : G.fns f with
      | none =>
        exact both (pe_vac fun ρ => by simp only [evE, hc, Option.bind_none]) fun _ => rfl
      | some fs =>
        obtain ⟨fa, fd, ps, m1, m2, m3, m4⟩ := g.fns f fs hc
        exact both (snd_call m1 g.room hc h4 (by rw [h3]; exact m2) m3 m4 (sndEs xs _ k X G L g h2) h5 (star1 (st _ List.mem_cons_self)) (plains fun e he => st e (List.mem_cons_of_mem _ he))) fun _ => rfl
    · cases h
  | .blt f xs, e, k, X, G, L, g, h => by
    simp only [chkE] at h
    split at h
    · obtain ⟨h1, h2⟩ := b_and h
      obtain ⟨h3, h4, h5⟩ := glOk_ok g h1
      have st := chkEs_star h2
      subst h3
      have i := sndEs xs _ k X G L g h2
      exact both (snd_blt (T := "") g.calm g.un i (blt_pe h4 (g.blt _ (bfNm_mem f)) i (star1 (st _ List.mem_cons_self)) (plains fun e he => st e (List.mem_cons_of_mem _ he)))) fun _ => rfl
    · cases h
  | .rngv a, e, k, X, G, L, g, h => by
    simp only [chkE] at h
    split at h
    · obtain ⟨h1, h2⟩ := b_and h
      obtain ⟨h3, h4, h5⟩ := glOk_ok g h1
      obtain ⟨h6, h7⟩ := b_and h2
      exact both (snd_rngv h3 h4 (by rw [h3]; exact g.blt _ (by decide)) (sndE a _ k X G L g h7).1 (star_1 h6)) fun _ => rfl
    · cases h
  | .isi a t, e, k, X, G, L, g, h => by
    simp only [chkE] at h
    split at h
    · obtain ⟨h1, h2⟩ := b_and h
      obtain ⟨h3, h4⟩ := b_and h1
      obtain ⟨h5, h6⟩ := b_and h3
      obtain ⟨n1, n2, n3⟩ := glOk_ok g h5
      obtain ⟨m1, m2, m3⟩ := glOk_ok g h6
      obtain ⟨t1, t2⟩ := ty5_of h4
      obtain ⟨h7, h8⟩ := b_and h2
      exact both (snd_isi t1 n1 m1 n2 (by rw [n1]; exact g.blt _ (by decide)) m2 (by rw [m1]; exact g.blt _ t2) (sndE a _ k X G L g h8).1 (star1 h7) (by rw [m1]; exact ty5_name t1) m3) fun _ => rfl
    · cases h
  | .app i a, e, k, X, G, L, g, h => by
    simp only [chkE] at h
    split at h
    · obtain ⟨h1, h2⟩ := b_and h
      obtain ⟨h3, h4⟩ := b_and h1
      obtain ⟨h5, h6⟩ := b_and h4
      obtain ⟨h7, h8⟩ := b_and h2
      obtain ⟨v1, v2, v3, v4⟩ := visOk_ok g h3
      have := of_decide_eq_true h5
      subst this
      exact both (snd_app v1 v2 v3 v4 (sndE a _ k X G L g h8).1 rfl (star_1 h7) h6) fun _ => rfl
    · cases h
  | .ext i a, e, k, X, G, L, g, h => by
    simp only [chkE] at h
    split at h
    · obtain ⟨h1, h2⟩ := b_and h
      obtain ⟨h3, h4⟩ := b_and h1
      obtain ⟨h5, h6⟩ := b_and h4
      obtain ⟨h7, h8⟩ := b_and h2
      obtain ⟨v1, v2, v3, v4⟩ := visOk_ok g h3
      have := of_decide_eq_true h5
      subst this
      exact both (snd_ext v1 v2 v3 v4 (sndE a _ k X G L g h8).1 rfl (star_1 h7) h6) fun _ => rfl
    · cases h
  | .pop i, e, k, X, G, L, g, h => by
    simp only [chkE] at h
    split at h
    · obtain ⟨h1, h2⟩ := b_and h
      obtain ⟨h5, h6⟩ := b_and h2
      obtain ⟨v1, v2, v3, v4⟩ := visOk_ok g h1
      have := of_decide_eq_true h5
      subst this
      exact both (snd_pop (G := G) v1 v2 v3 v4 rfl h6) fun _ => rfl
    · cases h
  | .rev i, e, k, X, G, L, g, h => by
    simp only [chkE] at h
    split at h
    · obtain ⟨h1, h2⟩ := b_and h
      obtain ⟨h5, h6⟩ := b_and h2
      obtain ⟨v1, v2, v3, v4⟩ := visOk_ok g h1
      have := of_decide_eq_true h5
      subst this
      exact both (snd_rev (G := G) v1 v2 v3 v4 rfl h6) fun _ => rfl
    · cases h
  | .index a b, e, k, X, G, L, g, h => by
    simp only [chkE] at h
    split at h
    · obtain ⟨h1, h2⟩ := b_and h
      obtain ⟨h3, h4⟩ := b_and h1
      obtain ⟨h5, h6⟩ := b_and h4
      obtain ⟨h7, h8⟩ := b_and h2
      obtain ⟨h9, h10⟩ := b_and h8
      have := of_decide_eq_true h5
      subst this
      exact both (snd_index (by have := g.un; omega) (sndE a _ k X G L g h9).1 (sndE b _ k X G L g h10).1 (nm_base h3) (star_1 h7) h6) fun _ => rfl
    · cases h
  | .comp own t s c x, e, k, X, G, L, g, h => by
    simp only [chkE] at h
    split at h
    · rename_i elt tg iter ifs scope pos
      obtain ⟨h1, h2⟩ := b_and h
      obtain ⟨b1, h3⟩ := b_and h1
      obtain ⟨b2, b3⟩ := b_and h3
      obtain ⟨h4, h5⟩ := b_and h2
      obtain ⟨c1, c2⟩ := b_and h4
      obtain ⟨c3, c4⟩ := b_and h5
      have ok : BlkOk X.N X.env.scope scope (ownOf k own) := by rw [g.N, g.sc]; exact blkOk_by b1
      exact both (snd_comp (pos := pos) g.calm g.nd (sndS s iter tg k X G L g c1) ok own_map (subNs_ok b2) (fun sh H C cl fp => sndT (g.blk sh H C cl fp scope) c2) (fun sh H C cl fp => sndC c ifs _ _ G L (g.blk sh H C cl fp scope) c3)
        (fun sh H C cl fp => (sndE x elt _ _ G L (g.blk sh H C cl fp scope) c4).1) fun _ => fold_set b3) fun _ => rfl
    · cases h
  | .comp2 own own2 t s c t2 s2 c2 x, e, k, X, G, L, g, h => by
    simp only [chkE] at h
    split at h
    · rename_i elt tg iter ifs tg1 iter1 ifs1 scope pos
      obtain ⟨h1, h2⟩ := b_and h
      obtain ⟨h3, h4⟩ := b_and h1
      obtain ⟨b1, h5⟩ := b_and h3
      obtain ⟨b2, b3⟩ := b_and h5
      obtain ⟨b4, h6⟩ := b_and h4
      obtain ⟨b5, b6⟩ := b_and h6
      obtain ⟨h7, h8⟩ := b_and h2
      obtain ⟨h9, h10⟩ := b_and h7
      obtain ⟨d1, d2⟩ := b_and h9
      obtain ⟨d3, d4⟩ := b_and h10
      obtain ⟨d5, h11⟩ := b_and h8
      obtain ⟨d6, d7⟩ := b_and h11
      have ok : BlkOk X.N X.env.scope scope (ownOf k own) := by rw [g.N, g.sc]; exact blkOk_by b1
      exact both (snd_comp2 (pos := pos) g.calm g.nd (sndS s iter tg k X G L g d1) ok own_map (subNs_ok b2) (subNs_ok b4) (subNs_ok b5) (fun sh H C cl fp => sndT (g.blk sh H C cl fp scope) d2) (fun sh H C cl fp => sndC c ifs _ _ G L (g.blk sh H C cl fp scope) d3)
        (fun sh H C cl fp => sndS s2 iter1 tg1 _ _ G L (g.blk sh H C cl fp scope) d5) (fun sh H C cl fp => sndT (g.blk sh H C cl fp scope) d6) (fun sh H C cl fp => sndC c2 ifs1 _ _ G L (g.blk sh H C cl fp scope) d7)
        (fun sh H C cl fp => (sndE x elt _ _ G L (g.blk sh H C cl fp scope) d4).1) (fun _ => fold_set b3) fun _ _ => fold_set b6) fun _ => rfl
    · cases h
  | .rtup _, _, _, _, _, _, _, h => by simp [chkE] at h
  | .rlst _, _, _, _, _, _, _, h => by simp [chkE] at h
  | .sset a, e, k, X, G, L, g, h => by
    simp only [chkE] at h
    split at h
    · obtain ⟨h1, h2⟩ := b_and h
      obtain ⟨h3, h4⟩ := b_and h1
      obtain ⟨n1, n2, n3⟩ := glOk_ok g h3
      obtain ⟨m1, m2, m3⟩ := glOk_ok g h4
      obtain ⟨h7, h8⟩ := b_and h2
      exact both (snd_sset g.calm n1 m1 n2 (by rw [n1]; exact g.blt _ (by decide)) m2 (by rw [m1]; exact g.blt _ (by decide)) (sndE a _ k X G L g h8).1 (star_1 h7)) fun _ => rfl
    · cases h
  | .lset _, _, _, _, _, _, _, h => by simp [chkE] at h
  | .count _ _, _, _, _, _, _, _, h => by simp [chkE] at h
  | .get _ _ _, _, _, _, _, _, _, h => by simp [chkE] at h
  | .dnew, _, _, _, _, _, _, h => by simp [chkE] at h
  | .dcomp _ _ _ _ _ _, _, _, _, _, _, _, h => by simp [chkE] at h
theorem sndEs : ∀ (xs : PExps) (es : List Expr) (k : KC) (X : Cx) (G : EvG) (L : Nat), GX X G L k → chkEs k xs es = true → PA X es (tEs X.K G xs)
  | .nil, es, k, X, G, L, g, h => by
    simp only [chkEs] at h
    split at h
    · exact snd_es_nil
    · cases h
  | .cons x xs, es, k, X, G, L, g, h => by
    simp only [chkEs] at h
    split at h
    · obtain ⟨h1, h2⟩ := b_and h
      obtain ⟨h3, h4⟩ := b_and h2
      exact snd_es_cons (sndE x _ k X G L g h3).1 (sndEs xs _ k X G L g h4) (star1 h1)
    · cases h
theorem sndAnd : ∀ (xs : PExps) (es : List Expr) (k : KC) (X : Cx) (G : EvG) (L : Nat), GX X G L k → ∀ pos : Pos, chkEs k xs es = true → (!es.isEmpty) = true → PE X (.BoolOp .And es pos) (tEv X.K G.io (evAnd G xs)) ∧ PW X (.BoolOp .And es pos) (tTv X.K G.io (evAnd G xs))
  | .nil, es, k, X, G, L, g, pos, h, ne => by
    simp only [chkEs] at h
    split at h
    · cases ne
    · cases h
  | .cons x .nil, es, k, X, G, L, g, pos, h, ne => by
    simp only [chkEs] at h
    split at h
    · obtain ⟨h1, h2⟩ := b_and h
      obtain ⟨h3, h4⟩ := b_and h2
      split at h4
      · have i := sndE x _ k X G L g h3
        exact ⟨snd_and1 i.1, snd_andT1 i.2⟩
      · cases h4
    · cases h
  | .cons x (.cons y r), es, k, X, G, L, g, pos, h, ne => by
    cases es with
    | nil => simp [chkEs] at h
    | cons e es =>
      cases es with
      | nil => simp [chkEs] at h
      | cons e2 es =>
        have h' : (nostar e && (chkE k x e && chkEs k (.cons y r) (e2 :: es))) = true := by simpa only [chkEs] using h
        obtain ⟨h1, h2⟩ := b_and h'
        obtain ⟨h3, h4⟩ := b_and h2
        have i := sndE x _ k X G L g h3
        have j := sndAnd (.cons y r) (e2 :: es) k X G L g pos h4 rfl
        exact ⟨snd_and2 i.1 j.1, snd_andT2 i.2 j.2⟩
theorem sndOr : ∀ (xs : PExps) (es : List Expr) (k : KC) (X : Cx) (G : EvG) (L : Nat), GX X G L k → ∀ pos : Pos, chkEs k xs es = true → (!es.isEmpty) = true → PE X (.BoolOp .Or es pos) (tEv X.K G.io (evOr G xs)) ∧ PW X (.BoolOp .Or es pos) (tTv X.K G.io (evOr G xs))
  | .nil, es, k, X, G, L, g, pos, h, ne => by
    simp only [chkEs] at h
    split at h
    · cases ne
    · cases h
  | .cons x .nil, es, k, X, G, L, g, pos, h, ne => by
    simp only [chkEs] at h
    split at h
    · obtain ⟨h1, h2⟩ := b_and h
      obtain ⟨h3, h4⟩ := b_and h2
      split at h4
      · have i := sndE x _ k X G L g h3
        exact ⟨snd_or1 i.1, snd_orT1 i.2⟩
      · cases h4
    · cases h
  | .cons x (.cons y r), es, k, X, G, L, g, pos, h, ne => by
    cases es with
    | nil => simp [chkEs] at h
    | cons e es =>
      cases es with
      | nil => simp [chkEs] at h
      | cons e2 es =>
        have h' : (nostar e && (chkE k x e && chkEs k (.cons y r) (e2 :: es))) = true := by simpa only [chkEs] using h
        obtain ⟨h1, h2⟩ := b_and h'
        obtain ⟨h3, h4⟩ := b_and h2
        have i := sndE x _ k X G L g h3
        have j := sndOr (.cons y r) (e2 :: es) k X G L g pos h4 rfl
        exact ⟨snd_or2 i.1 j.1, snd_orT2 i.2 j.2⟩
theorem sndO : ∀ (x : PExpO) (e : Option Expr) (k : KC) (X : Cx) (G : EvG) (L : Nat), GX X G L k → chkO k x e = true → PO X e (tO X.K G x)
  | .no, e, k, X, G, L, g, h => by
    simp only [chkO] at h
    split at h
    · exact snd_o_no
    · cases h
  | .yes x, e, k, X, G, L, g, h => by
    simp only [chkO] at h
    split at h
    · exact snd_o_yes (sndE x _ k X G L g h).1
    · cases h
theorem sndC : ∀ (x : PExpO) (e : List Expr) (k : KC) (X : Cx) (G : EvG) (L : Nat), GX X G L k → chkC k x e = true → PTs X e (tCnd X.K G x)
  | .no, e, k, X, G, L, g, h => by
    simp only [chkC] at h
    split at h
    · exact snd_c_no
    · cases h
  | .yes x, e, k, X, G, L, g, h => by
    simp only [chkC] at h
    split at h
    · exact snd_c_yes (sndE x _ k X G L g h).2
    · cases h
theorem sndS : ∀ (x : PSrc) (e tg : Expr) (k : KC) (X : Cx) (G : EvG) (L : Nat), GX X G L k → chkS k x e = true → PI X tg e (tS X.K G x)
  | .of x, e, tg, k, X, G, L, g, h => by
    simp only [chkS] at h
    exact snd_of (sndE x _ k X G L g h).1
  | .r1 a, e, tg, k, X, G, L, g, h => by
    simp only [chkS] at h
    split at h
    · obtain ⟨h1, h2⟩ := b_and h
      obtain ⟨h3, h4, h5⟩ := glOk_ok g h1
      obtain ⟨h6, h7⟩ := b_and h2
      exact snd_r1 h3 h4 (by rw [h3]; exact g.blt _ (by decide)) (sndE a _ k X G L g h7).1 (star_1 h6)
    · cases h
  | .r2 a b, e, tg, k, X, G, L, g, h => by
    simp only [chkS] at h
    split at h
    · obtain ⟨h1, h2⟩ := b_and h
      obtain ⟨h3, h4, h5⟩ := glOk_ok g h1
      obtain ⟨h6, h7⟩ := b_and h2
      obtain ⟨n1, n2⟩ := b_and h6
      obtain ⟨h8, h9⟩ := b_and h7
      exact snd_r2 h3 h4 (by rw [h3]; exact g.blt _ (by decide)) (sndE a _ k X G L g h8).1 (sndE b _ k X G L g h9).1 (by rw [star1 n1, star_1 n2]) (star_1 n2)
    · cases h
  | .r3 a b c, e, tg, k, X, G, L, g, h => by
    simp only [chkS] at h
    split at h
    · obtain ⟨h1, h2⟩ := b_and h
      obtain ⟨h3, h4, h5⟩ := glOk_ok g h1
      obtain ⟨h6, h7⟩ := b_and h2
      obtain ⟨n1, n0⟩ := b_and h6
      obtain ⟨n2, n3⟩ := b_and n0
      obtain ⟨h8, h9⟩ := b_and h7
      obtain ⟨h10, h11⟩ := b_and h9
      exact snd_r3 h3 h4 (by rw [h3]; exact g.blt _ (by decide)) (sndE a _ k X G L g h8).1 (sndE b _ k X G L g h10).1 (sndE c _ k X G L g h11).1 (star1 n1) (star1 n2) (star_1 n3) (plains fun e he => by
        simp only [List.mem_cons, List.not_mem_nil, or_false] at he
        rcases he with rfl | rfl
        · exact n2
        · exact n3)
    · cases h
end
end Pz
end
section
set_option Elab.async false
set_option linter.all false
set_option maxRecDepth 100000
set_option maxHeartbeats 8000000
namespace Pz
open PySem PySem.Spec PyProof.Rows L2

def isFnB (sc : Scope) : Bool := match sc.kind with | .function => true | _ => false
def nocomp2 : Expr → Bool
  | .SetComp .. => false
  | .DictComp .. => false
  | _ => true
def simpleV : Expr → Bool
  | .SetComp .. => false
  | .DictComp .. => false
  | .ListComp .. => false
  | .Tuple .. => false
  | _ => true
def isCall : Expr → Bool
  | .Call .. => true
  | _ => false
def augIs : BOp → Operator → Bool
  | .add, .Add => true
  | .sub, .Sub => true
  | _, _ => false
def swapB (sc : Scope) (e : Expr) (y : Str) (py : Pos) : Bool := match e with
  | .ListComp _ _ s p => decide (sc.names.lookup y = some .local) && ((py.line == p.line) && !(s.names.any fun (n, k) => n == y && (k == .local || k == .cell)))
  | _ => false
mutual
def chkSt (k : KC) : PStm → Stmt → Bool
  | .asg i x, st => (match st with | .Assign [.Name y _] e _ => locOk k i y && (chkE k x e && nocomp2 e) | _ => false)
  | .asgT is x, st => (match st with | .Assign [.Tuple l _ _] e _ => chkNs k is l && (chkE k x e && simpleV e) | _ => false)
  | .aug i op x, st => (match st with | .AugAssign (.Name y _) o e _ => locOk k i y && (augIs op o && chkE k x e) | _ => false)
  | .setI i kx x, st => (match st with | .Assign [.Subscript (.Name y _) b _] a _ => (visOk k i y && nosl b) && (chkE k kx b && chkE k x a) | _ => false)
  | .ex x, st => (match st with | .Expr e _ => isCall e && chkE k x e | _ => false)
  | .ite c a b, st => (match st with | .If t l r _ => chkE k c t && (chkSs k a l && chkSs k b r) | _ => false)
  | .for_ t s b _, st => (match st with | .For tg iter body [] _ => noset iter && (chkT k t tg && (chkS k s iter && chkSs k b body)) | _ => false)
  | .while_ c b _, st => (match st with | .While t body [] _ => chkE k c t && chkSs k b body | _ => false)
  | .ret x, st => (match st with | .Return (some e) _ => chkE k x e | _ => false)
  | .retN, st => (match st with | .Return none _ => true | _ => false)
  | .pass, st => (match st with | .Pass _ => true | _ => false)
  | .brk, st => (match st with | .Break _ => true | _ => false)
  | .cont, st => (match st with | .Continue _ => true | _ => false)
  | .raise_, _ => true
def chkSs (k : KC) : PStms → List Stmt → Bool
  | .nil, l => (match l with | [] => true | _ => false)
  | .cons s r, l => (match l with | st :: t => chkSt k s st && chkSs k r t | [] => false)
end
section
variable {X : Cx} {G : EvG} {L : Nat} {k : KC}
theorem sw_false {e : Expr} {y : Str} {py : Pos} {l : Nat} (g : GX X G L k) (h : swapB k.sc e y py = false) (h2 : nocomp2 e = true) : swapsWith e (some (.Name y py)) l X.env = pure false := by
  cases e <;> first
    | rfl
    | (cases h2; done)
    | skip
  rename_i elt gens s p
  have ky : X.env.kindOf y = k.sc.names.lookup y := by show X.env.scope.names.lookup y = _; rw [g.sc]
  unfold swapsWith
  show (pure (X.env.blockKind == .function && X.env.kindOf y == some .local && py.line == p.line && !(s.names.any fun (n, k) => n == y && (k == .local || k == .cell))) : Sem Bool) = pure false
  rw [ky]
  congr 1
  unfold swapB at h
  simp only [Bool.and_eq_false_iff, Bool.and_eq_true, decide_eq_false_iff_not] at h ⊢
  rcases h with h | h | h
  · left; left; right
    simpa using h
  · left; right; exact h
  · right; exact h
theorem snd_setLc {i : Nat} {y : Str} {py pos spos : Pos} {elt tg iter : Expr} {ifs : List Expr} {scope : Scope} {ownP : List (Str × Nat)} {own : List Nat} {t : PT_} {s : PSrc} {c : PExpO} {e : PExp} (hc : X.calm = true) (hN : X.N.Nodup) (hy : X.N[i]? = some y) (hyl : X.env.scope.names.lookup y = some .local)
    (hsw : swapsWith (.ListComp elt [⟨tg, iter, ifs, 0⟩] scope pos) (some (.Name y py)) spos.line X.env = pure true) (hi : PI X tg iter (tS X.K G s)) (ok : BlkOk X.N X.env.scope scope ownP) (ho : ownP.map (·.2) = own) (hT : ∀ i ∈ slotsT t, i ∈ own)
    (hg : ∀ (s : Shared) (H : Hp) (C : Addr) (cl : List (Str × Addr)) (fp : List Addr), PG (X.blk s H scope (compEnvC scope cl C X.env) fp) tg (tG X.K G.io t)) (ht : ∀ (s : Shared) (H : Hp) (C : Addr) (cl : List (Str × Addr)) (fp : List Addr), PTs (X.blk s H scope (compEnvC scope cl C X.env) fp) ifs (tCnd X.K G c))
    (he : ∀ (s : Shared) (H : Hp) (C : Addr) (cl : List (Str × Addr)) (fp : List Addr), PE (X.blk s H scope (compEnvC scope cl C X.env) fp) elt (tE X.K G e)) (hs : ∀ x, foldedSetIterable iter X.env x = pure x) :
    PS X (.Assign [.Name y py] (.ListComp elt [⟨tg, iter, ifs, 0⟩] scope pos) spos) (tAsg (tE X.K G (.comp own t s c e)) (gName i)) :=
  PS.imp (ps_setLc hc hN hy hyl hsw hi ok hg ht he hs) fun D σ H q => lc_imp ho hT q
theorem snd_setLc2 {i : Nat} {y : Str} {py pos spos : Pos} {elt tg iter tg1 iter1 : Expr} {ifs ifs1 : List Expr} {scope : Scope} {ownP : List (Str × Nat)} {own own2 : List Nat} {t t2 : PT_} {s s2 : PSrc} {c c2 : PExpO} {e : PExp} (hc : X.calm = true) (hN : X.N.Nodup) (hy : X.N[i]? = some y) (hyl : X.env.scope.names.lookup y = some .local)
    (hsw : swapsWith (.ListComp elt [⟨tg, iter, ifs, 0⟩, ⟨tg1, iter1, ifs1, 0⟩] scope pos) (some (.Name y py)) spos.line X.env = pure true) (hi : PI X tg iter (tS X.K G s)) (ok : BlkOk X.N X.env.scope scope ownP) (ho : ownP.map (·.2) = own) (hT : ∀ i ∈ slotsT t, i ∈ own) (ho2 : ∀ i ∈ own2, i ∈ own) (hT2 : ∀ i ∈ slotsT t2, i ∈ own2)
    (hg : ∀ (s : Shared) (H : Hp) (C : Addr) (cl : List (Str × Addr)) (fp : List Addr), PG (X.blk s H scope (compEnvC scope cl C X.env) fp) tg (tG X.K G.io t)) (ht : ∀ (s : Shared) (H : Hp) (C : Addr) (cl : List (Str × Addr)) (fp : List Addr), PTs (X.blk s H scope (compEnvC scope cl C X.env) fp) ifs (tCnd X.K G c))
    (hi1 : ∀ (s : Shared) (H : Hp) (C : Addr) (cl : List (Str × Addr)) (fp : List Addr), PI (X.blk s H scope (compEnvC scope cl C X.env) fp) tg1 iter1 (tS X.K G s2))
    (hg1 : ∀ (s : Shared) (H : Hp) (C : Addr) (cl : List (Str × Addr)) (fp : List Addr), PG (X.blk s H scope (compEnvC scope cl C X.env) fp) tg1 (tG X.K G.io t2)) (ht1 : ∀ (s : Shared) (H : Hp) (C : Addr) (cl : List (Str × Addr)) (fp : List Addr), PTs (X.blk s H scope (compEnvC scope cl C X.env) fp) ifs1 (tCnd X.K G c2))
    (he : ∀ (s : Shared) (H : Hp) (C : Addr) (cl : List (Str × Addr)) (fp : List Addr), PE (X.blk s H scope (compEnvC scope cl C X.env) fp) elt (tE X.K G e)) (hs : ∀ x, foldedSetIterable iter X.env x = pure x) (hs1 : ∀ env x, foldedSetIterable iter1 env x = pure x) :
    PS X (.Assign [.Name y py] (.ListComp elt [⟨tg, iter, ifs, 0⟩, ⟨tg1, iter1, ifs1, 0⟩] scope pos) spos) (tAsg (tE X.K G (.comp2 own own2 t s c t2 s2 c2 e)) (gName i)) := by
  exact PS.imp (ps_setLc2 (vs1 := own2) hc hN hy hyl hsw hi ok (by rw [ho]; exact ho2) hg ht hi1 hg1 ht1 he hs hs1) fun D σ H q => lc2_imp ho hT ho2 hT2 q
theorem isFn_ok {sc : Scope} (h : isFnB sc = true) : sc.kind = .function := by
  unfold isFnB at h
  split at h
  · assumption
  · cases h
theorem sndAsg (g : GX X G L k) (hk : isFnB k.sc = true) {i : Nat} {x : PExp} {y : Str} {py pos : Pos} {e : Expr} (hl : locOk k i y = true) (he : chkE k x e = true) (hn : nocomp2 e = true) : PS X (.Assign [.Name y py] e pos) (tSt X.K G (.asg i x)) := by
  obtain ⟨l1, l2, l3⟩ := locOk_ok g hl
  cases hs : swapB k.sc e y py with
  | false => exact snd_asg (ps_set g.nd l1 l2 (sndE x e k X G L g he).1 (sw_false g hs hn) l3)
  | true =>
    cases e <;> first | (cases hs; done) | skip
    rename_i elt gens scope cpos
    unfold swapB at hs
    obtain ⟨q1, q2⟩ := b_and hs
    obtain ⟨q3, q4⟩ := b_and q2
    have q1 : X.env.scope.names.lookup y = some .local := by rw [g.sc]; exact of_decide_eq_true q1
    have sw : swapsWith (.ListComp elt gens scope cpos) (some (.Name y py)) pos.line X.env = pure true := sw_true (by rw [g.sc]; exact isFn_ok hk) q1 q3 (by simpa using q4)
    cases x <;> first | (simp [chkE] at he; done) | skip
    · rename_i own t s c x
      simp only [chkE] at he
      split at he
      · rename_i elt' tg iter ifs scope' pos' heq
        cases heq
        obtain ⟨h1, h2⟩ := b_and he
        obtain ⟨b1, h3⟩ := b_and h1
        obtain ⟨b2, b3⟩ := b_and h3
        obtain ⟨h4, h5⟩ := b_and h2
        obtain ⟨c1, c2⟩ := b_and h4
        obtain ⟨c3, c4⟩ := b_and h5
        have ok : BlkOk X.N X.env.scope scope (ownOf k own) := by rw [g.N, g.sc]; exact blkOk_by b1
        exact snd_asg (snd_setLc g.calm g.nd l1 q1 sw (sndS s iter tg k X G L g c1) ok own_map (subNs_ok b2) (fun sh H C cl fp => sndT (g.blk sh H C cl fp scope) c2) (fun sh H C cl fp => sndC c ifs _ _ G L (g.blk sh H C cl fp scope) c3)
          (fun sh H C cl fp => (sndE x elt _ _ G L (g.blk sh H C cl fp scope) c4).1) fun _ => fold_set b3)
      · cases he
    · rename_i own own2 t s c t2 s2 c2 x
      simp only [chkE] at he
      split at he
      · rename_i elt' tg iter ifs tg1 iter1 ifs1 scope' pos' heq
        cases heq
        obtain ⟨h1, h2⟩ := b_and he
        obtain ⟨h3, h4⟩ := b_and h1
        obtain ⟨b1, h5⟩ := b_and h3
        obtain ⟨b2, b3⟩ := b_and h5
        obtain ⟨b4, h6⟩ := b_and h4
        obtain ⟨b5, b6⟩ := b_and h6
        obtain ⟨h7, h8⟩ := b_and h2
        obtain ⟨h9, h10⟩ := b_and h7
        obtain ⟨d1, d2⟩ := b_and h9
        obtain ⟨d3, d4⟩ := b_and h10
        obtain ⟨d5, h11⟩ := b_and h8
        obtain ⟨d6, d7⟩ := b_and h11
        have ok : BlkOk X.N X.env.scope scope (ownOf k own) := by rw [g.N, g.sc]; exact blkOk_by b1
        exact snd_asg (snd_setLc2 g.calm g.nd l1 q1 sw (sndS s iter tg k X G L g d1) ok own_map (subNs_ok b2) (subNs_ok b4) (subNs_ok b5) (fun sh H C cl fp => sndT (g.blk sh H C cl fp scope) d2) (fun sh H C cl fp => sndC c ifs _ _ G L (g.blk sh H C cl fp scope) d3)
          (fun sh H C cl fp => sndS s2 iter1 tg1 _ _ G L (g.blk sh H C cl fp scope) d5) (fun sh H C cl fp => sndT (g.blk sh H C cl fp scope) d6) (fun sh H C cl fp => sndC c2 ifs1 _ _ G L (g.blk sh H C cl fp scope) d7)
          (fun sh H C cl fp => (sndE x elt _ _ G L (g.blk sh H C cl fp scope) d4).1) (fun _ => fold_set b3) fun _ _ => fold_set b6)
      · cases he
theorem sw_tup {e : Expr} {l : List Expr} {kk : Nat} {tp : Pos} {n : Nat} {env : Env} (h : simpleV e = true) : swapsWithSole [.Tuple l kk tp] e n env = pure false ∧ swappedStores [.Tuple l kk tp] e env = pure none := by
  cases e <;> first | exact ⟨rfl, rfl⟩ | cases h
theorem sw_sub {e o b : Expr} {tp : Pos} {n : Nat} {env : Env} : swapsWithSole [.Subscript o b tp] e n env = pure false ∧ swappedStores [.Subscript o b tp] e env = pure none := by
  cases e <;> exact ⟨rfl, rfl⟩
theorem set_sub {b : Expr} {y : Str} {p pt : Pos} {env : Env} {v : Value} (h : nosl b = true) : assign (.Subscript (.Name y p) b pt) env v = (do
      let ov ← holding [v] (eval (.Name y p) env)
      let iv ← holding [v, ov] (eval b env)
      standAt pt
      holding [v, ov, iv] (setItem ov iv v)
      release [v, ov, iv] []) := by
  cases b <;> first | rfl | cases h
theorem sw_call {e : Expr} {n : Nat} {env : Env} (h : isCall e = true) : swapsWith e none n env = pure false := by
  cases e <;> first | rfl | cases h
theorem aug_is {op : BOp} {o : Operator} (h : augIs op o = true) : (op = .add ∧ o = .Add) ∨ (op = .sub ∧ o = .Sub) := by
  cases op <;> cases o <;> first | (cases h; done) | exact .inl ⟨rfl, rfl⟩ | exact .inr ⟨rfl, rfl⟩
end
mutual
theorem sndSt : ∀ (b : PStm) (st : Stmt) (k : KC) (X : Cx) (G : EvG) (L : Nat), GX X G L k → X.xe = (fun _ _ => False) → isFnB k.sc = true → chkSt k b st = true → PS X st (tSt X.K G b)
  | .asg i x, st, k, X, G, L, g, hx, hk, h => by
    simp only [chkSt] at h
    split at h
    · obtain ⟨h1, h2⟩ := b_and h
      obtain ⟨h3, h4⟩ := b_and h2
      exact sndAsg g hk h1 h3 h4
    · cases h
  | .asgT is x, st, k, X, G, L, g, hx, hk, h => by
    simp only [chkSt] at h
    split at h
    · obtain ⟨h1, h2⟩ := b_and h
      obtain ⟨h3, h4⟩ := b_and h2
      exact snd_asgT (sndE x _ k X G L g h3).1 (sndT (t := .tp is) g h1) (sw_tup h4).1 (sw_tup (n := 0) h4).2 rfl
    · cases h
  | .aug i op x, st, k, X, G, L, g, hx, hk, h => by
    simp only [chkSt] at h
    split at h
    · obtain ⟨h1, h2⟩ := b_and h
      obtain ⟨h3, h4⟩ := b_and h2
      obtain ⟨l1, l2, l3⟩ := locOk_ok g h1
      exact snd_aug (aug_is h3) g.nd l1 l2 l3 (sndE x _ k X G L g h4).1
    · cases h
  | .setI i kx x, st, k, X, G, L, g, hx, hk, h => by
    simp only [chkSt] at h
    split at h
    · obtain ⟨h1, h2⟩ := b_and h
      obtain ⟨h3, h4⟩ := b_and h2
      obtain ⟨h5, h6⟩ := b_and h1
      obtain ⟨v1, v2, v3, v4⟩ := visOk_ok g h5
      exact snd_setI (by have := g.un; omega) v1 v2 v3 v4 (sndE kx _ k X G L g h3).1 (sndE x _ k X G L g h4).1 (fun v => set_sub h6) sw_sub.1 (sw_sub (n := 0)).2 rfl
    · cases h
  | .ex x, st, k, X, G, L, g, hx, hk, h => by
    simp only [chkSt] at h
    split at h
    · obtain ⟨h1, h2⟩ := b_and h
      exact snd_ex (sndE x _ k X G L g h2).1 (sw_call h1)
    · cases h
  | .ite c a b, st, k, X, G, L, g, hx, hk, h => by
    simp only [chkSt] at h
    split at h
    · obtain ⟨h1, h2⟩ := b_and h
      obtain ⟨h3, h4⟩ := b_and h2
      exact snd_ite (sndE c _ k X G L g h1).2 (sndSs a _ k X G L g hx hk h3) (sndSs b _ k X G L g hx hk h4)
    · cases h
  | .for_ t s b kill, st, k, X, G, L, g, hx, hk, h => by
    simp only [chkSt] at h
    split at h
    · obtain ⟨h1, h2⟩ := b_and h
      obtain ⟨h3, h4⟩ := b_and h2
      obtain ⟨h5, h6⟩ := b_and h4
      exact snd_for (by rw [hx]; exact PassesOwn.never) g.calm (sndS s _ _ k X G L g h5) (sndT g h3) (sndSs b _ k X G L g hx hk h6) fun _ => fold_set h1
    · cases h
  | .while_ c b kill, st, k, X, G, L, g, hx, hk, h => by
    simp only [chkSt] at h
    split at h
    · obtain ⟨h1, h2⟩ := b_and h
      exact snd_while (by rw [hx]; exact PassesOwn.never) (sndE c _ k X G L g h1).2 (sndSs b _ k X G L g hx hk h2)
    · cases h
  | .ret x, st, k, X, G, L, g, hx, hk, h => by
    simp only [chkSt] at h
    split at h
    · exact snd_ret (sndE x _ k X G L g h).1
    · cases h
  | .retN, st, k, X, G, L, g, hx, hk, h => by
    simp only [chkSt] at h
    split at h
    · exact snd_retN
    · cases h
  | .pass, st, k, X, G, L, g, hx, hk, h => by
    simp only [chkSt] at h
    split at h
    · exact snd_pass
    · cases h
  | .brk, st, k, X, G, L, g, hx, hk, h => by
    simp only [chkSt] at h
    split at h
    · exact snd_brk
    · cases h
  | .cont, st, k, X, G, L, g, hx, hk, h => by
    simp only [chkSt] at h
    split at h
    · exact snd_cont
    · cases h
  | .raise_, st, k, X, G, L, g, hx, hk, h => snd_raise
theorem sndSs : ∀ (b : PStms) (st : List Stmt) (k : KC) (X : Cx) (G : EvG) (L : Nat), GX X G L k → X.xe = (fun _ _ => False) → isFnB k.sc = true → chkSs k b st = true → PSs X st (tSs X.K G b)
  | .nil, st, k, X, G, L, g, hx, hk, h => by
    simp only [chkSs] at h
    split at h
    · exact snd_nil
    · cases h
  | .cons s r, st, k, X, G, L, g, hx, hk, h => by
    simp only [chkSs] at h
    split at h
    · obtain ⟨h1, h2⟩ := b_and h
      exact snd_cons (sndSt s _ k X G L g hx hk h1) (sndSs r _ k X G L g hx hk h2)
    · cases h
end
end Pz
end
section
set_option Elab.async false
set_option linter.all false
set_option maxRecDepth 100000
set_option maxHeartbeats 8000000
namespace Pz
open PySem PySem.Spec PyProof.Rows L2

section
variable {K : PySem.W.Frag} {fs : FnSem} {O : Addr → Prop} {H H' : Hp} {vs : List V} {v : V} {d o : PyData} {fr : Bool} {C : PCtx} {ρ' : PEnv}
theorem ret_out (hK : C.K = K) (hO : C.O = O) (hH : C.H0 = H) (hio : ∀ i a, C.io = some (i, a) ↔ (fs.io = some i ∧ vs[i]? = some (.ref a))) (r : RetP C d fr ρ' v H') (hf : fs.fresh = true → fr = true) (ho : ∀ k, fs.io = some k → ρ'[k]? = some (.own o)) :
    ∃ p, SpOut K fs O H H' vs (d, o) v p := by
  subst hK; subst hO; subst hH
  have frame : ∀ (a : Addr) (u : HO), (∀ k, fs.io = some k → vs[k]? ≠ some (.ref a)) → C.H0 a = some u → H' a = some u := fun a u n e => r.frm a u e fun i z => by
    obtain ⟨z1, z2⟩ := (hio i a).mp z
    exact n i z1 z2
  cases fr with
  | false =>
    have nf : fs.fresh = false := by
      cases e : fs.fresh with
      | false => rfl
      | true => exact absurd (hf e) Bool.false_ne_true
    refine ⟨0, frame, (fun z => absurd (nf.symm.trans z) Bool.false_ne_true), (fun _ => ?_), fun k a e1 e2 => ?_⟩
    · rw [nf, nz_false]; exact r.old rfl
    · refine (r.ioo k a o ((hio k a).mpr ⟨e1, e2⟩) (ho k e1)).mono rfl ?_
      rw [nf, nz_false]
      exact hide_mono (fun _ _ _ e => e) fun b _ n _ z => n (.inl z)
  | true =>
    obtain ⟨p, rfl, n1, n2, t⟩ := r.new rfl
    refine ⟨p, frame, fun z => ⟨rfl, n2, by rw [z]; exact t⟩, fun z => ?_, fun k a e1 e2 => ?_⟩
    · rw [z, nz_false]
      refine t.rep (hide_mono (fun _ _ _ e => e) fun b _ n _ q => n (.inl q)) fun u e => hide_of n1 e
    · refine (r.ioo k a o ((hio k a).mpr ⟨e1, e2⟩) (ho k e1)).mono rfl (hide_mono (fun _ _ _ e => e) fun b _ n _ z => n ?_)
      rcases z with z | ⟨_, z⟩
      · exact .inl z
      · exact .inr ⟨rfl, by rw [z]⟩
end
theorem startE_get {n : Nat} {io : Option Nat} {ds : List PyData} {i : Nat} {s : PSlot} (h : (startE n io ds)[i]? = some s) :
    (i < ds.length ∧ io ≠ some i ∧ ∃ d, ds[i]? = some d ∧ s = .val d) ∨ (i < ds.length ∧ io = some i ∧ ∃ d, ds[i]? = some d ∧ s = .own d) ∨ s = .un := by
  unfold startE at h
  cases io with
  | none =>
    simp only at h
    by_cases hi : i < ds.length
    · rw [List.getElem?_append_left (by simpa using hi), List.getElem?_map, List.getElem?_eq_getElem hi] at h
      simp only [Option.map_some, Option.some.injEq] at h
      exact .inl ⟨hi, (fun z => nomatch z), _, List.getElem?_eq_getElem hi, h.symm⟩
    · rw [List.getElem?_append_right (by simpa using hi)] at h
      obtain ⟨_, e⟩ := List.getElem?_eq_some_iff.mp h
      rw [List.getElem_replicate] at e
      exact .inr (.inr e.symm)
  | some k =>
    simp only at h
    by_cases hi : i < ds.length
    · rw [List.getElem?_append_left (by simpa using hi)] at h
      rcases getElem?_set_cases h with ⟨rfl, e, hl⟩ | ⟨ne, h⟩
      · refine .inr (.inl ⟨hi, rfl, _, List.getElem?_eq_getElem hi, ?_⟩)
        rw [e, List.getD_eq_getElem?_getD, List.getElem?_eq_getElem hi]; rfl
      · rw [List.getElem?_map, List.getElem?_eq_getElem hi] at h
        simp only [Option.map_some, Option.some.injEq] at h
        exact .inl ⟨hi, fun z => ne (Option.some.inj z), _, List.getElem?_eq_getElem hi, h.symm⟩
    · rw [List.getElem?_append_right (by simpa using hi)] at h
      obtain ⟨_, e⟩ := List.getElem?_eq_some_iff.mp h
      rw [List.getElem_replicate] at e
      exact .inr (.inr e.symm)
theorem startE_own {n k : Nat} {ds : List PyData} {d : PyData} (h : ds[k]? = some d) : (startE n (some k) ds)[k]? = some (.own d) := by
  have hk := lt_of_get h
  unfold startE
  simp only
  rw [List.getElem?_append_left (by simpa using hk), List.getElem?_set_self (by simpa using hk), List.getD_eq_getElem?_getD, h]; rfl
theorem startE_len {n : Nat} {io : Option Nat} {ds : List PyData} (h : ds.length ≤ n) : (startE n io ds).length = n := by
  unfold startE
  cases io <;> simp <;> omega
theorem start_get {N : List Str} {vs : List V} {i : Nat} {v : V} (h : vs[i]? = some v) : (L2.start N vs)[i]? = some (some v) := by
  have hi := lt_of_get h
  unfold L2.start
  rw [List.getElem?_append_left (by simpa using hi), List.getElem?_map, h]; rfl
theorem start_len {N : List Str} {vs : List V} (h : vs.length ≤ N.length) : (L2.start N vs).length = N.length := by
  unfold L2.start
  simp; omega
section
variable {P : Program} {w : World} {K : PySem.W.Frag} {mg : Str → Option Value} {base : Heap} {x qual : Str} {params : Arguments} {body : List Stmt} {scope : Scope} {f : Addr} {fd : FuncData} {N ps : List Str} {L : Nat} {G : EvG} {d : DefI}
theorem start_cor {O : Addr → Prop} {H : Hp} {ds : List PyData} {vs : List V} (a : ArgsOk K H (hide H O) O d.io ds vs) (hO : ∀ b, O b → H b ≠ none) (hl : ds.length ≤ N.length) (hio : ∀ k, d.io = some k → k < ds.length) (hn : d.n = N.length) :
    ∃ C : PCtx, C.K = K ∧ C.O = O ∧ C.H0 = H ∧ d.io = C.io.map (·.1) ∧ (∀ i b, C.io = some (i, b) ↔ (d.io = some i ∧ vs[i]? = some (.ref b))) ∧ Cor C (fun _ => False) H (L2.start N vs) (startE d.n d.io ds) := by
  have hvl : vs.length ≤ N.length := by rw [← a.len]; exact hl
  -- the lent object
  have lent : ∃ io : Option (Nat × Addr), d.io = io.map (·.1) ∧ (∀ i b, io = some (i, b) ↔ (d.io = some i ∧ vs[i]? = some (.ref b))) := by
    cases hk : d.io with
    | none => exact ⟨none, rfl, fun i b => ⟨fun z => (nomatch z), fun z => (nomatch z.1)⟩⟩
    | some k =>
      have hkl := hio k hk
      obtain ⟨b, e, _, _⟩ := a.own k ds[k] (vs[k]'(by rw [← a.len]; exact hkl)) hk (List.getElem?_eq_getElem hkl) (List.getElem?_eq_getElem (by rw [← a.len]; exact hkl))
      refine ⟨some (k, b), rfl, fun i c => ⟨fun z => ?_, fun z => ?_⟩⟩
      · cases z
        exact ⟨rfl, by rw [List.getElem?_eq_getElem (by rw [← a.len]; exact hkl), e]⟩
      · obtain ⟨z1, z2⟩ := z
        cases z1
        rw [List.getElem?_eq_getElem (by rw [← a.len]; exact hkl), e] at z2
        cases z2
        rfl
  obtain ⟨io, i1, i2⟩ := lent
  have vget : ∀ {i : Nat} {dd : PyData}, ds[i]? = some dd → ∃ v, vs[i]? = some v := fun {i dd} h => by
    have := lt_of_get h
    rw [a.len] at this
    exact ⟨_, List.getElem?_eq_getElem this⟩
  refine ⟨⟨K, O, H, io⟩, rfl, rfl, rfl, i1, i2, ?_⟩
  have hid : ∀ b, Hid ⟨K, O, H, io⟩ (L2.start N vs) (startE d.n d.io ds) (fun _ => False) b → O b := fun b z => by
    rcases z with z | ⟨i, dd, z1, z2⟩ | z
    · exact z
    · rcases startE_get z1 with ⟨_, _, _, _, q⟩ | ⟨_, q, d', q1, q2⟩ | q
      · cases q
      · obtain ⟨v, hv⟩ := vget q1
        obtain ⟨c, e, hc, _⟩ := a.own i d' v q q1 hv
        rw [start_get hv, e] at z2
        cases z2
        exact hc
      · cases q
    · exact z.elim
  have sub : Sub (hide H O) (vis ⟨K, O, H, io⟩ (fun _ => False) H (L2.start N vs) (startE d.n d.io ds)) := hide_mono (fun _ _ _ e => e) fun b _ n _ z => n (hid b z)
  refine ⟨by rw [start_len hvl, startE_len (by rw [hn]; exact hl), hn], fun i dd e => ?_, fun i dd e => ?_, fun i j d1 d2 b e1 e2 _ _ => ?_, fun i dd b e1 e2 => ?_, fun i b e => ?_, fun b u e _ => e, hO, fun b z => z.elim⟩
  · rcases startE_get e with ⟨_, q, d', q1, q2⟩ | ⟨_, _, _, _, q⟩ | q
    · cases q2
      obtain ⟨v, hv⟩ := vget q1
      exact ⟨v, start_get hv, Rep.mono sub _ _ (a.rep i dd v q q1 hv)⟩
    · cases q
    · cases q
  · rcases startE_get e with ⟨_, _, _, _, q⟩ | ⟨_, q, d', q1, q2⟩ | q
    · cases q
    · cases q2
      obtain ⟨v, hv⟩ := vget q1
      obtain ⟨c, e', _, t⟩ := a.own i dd v q q1 hv
      exact ⟨c, by rw [start_get hv, e'], t.mono rfl sub⟩
    · cases q
  · have only : ∀ {i : Nat} {dd : PyData}, (startE d.n d.io ds)[i]? = some (.own dd) → d.io = some i := fun {i dd} e => by
      rcases startE_get e with ⟨_, _, _, _, q⟩ | ⟨_, q, _⟩ | q
      · cases q
      · exact q
      · cases q
    have := (only e1).symm.trans (only e2)
    exact Option.some.inj this
  · rcases startE_get e1 with ⟨_, _, _, _, q⟩ | ⟨_, q, d', q1, q2⟩ | q
    · cases q
    · obtain ⟨v, hv⟩ := vget q1
      rw [start_get hv] at e2
      cases e2
      exact .inl ((i2 i b).mpr ⟨q, hv⟩)
    · cases q
  · obtain ⟨q1, q2⟩ := (i2 i b).mp e
    have hil := hio i q1
    obtain ⟨c, e', hc, _⟩ := a.own i ds[i] _ q1 (List.getElem?_eq_getElem hil) q2
    cases e'
    refine ⟨⟨ds[i], ?_⟩, start_get q2, hc⟩
    rw [q1]
    exact startE_own (List.getElem?_eq_getElem hil)
theorem def_ok (F : FunD K x qual params body scope [] [] f fd) (S : FnScope N ps scope) (hn : d.n = N.length) (hnp : d.np = ps.length) (hchk : chkSs ⟨scope, fun _ => true, N⟩ d.body body = true) (hio : ∀ k, d.io = some k → k < d.np) (hG : G.io = d.io)
    (blt : ∀ b, b ∈ bltNs → mg (Str.ofString b) = none) (con : ∀ y e, G.con y = some e → ∃ v u, mg (Str.ofString y) = some u ∧ RelV v u ∧ ∀ H, Rep K H e v)
    (fns : ∀ g fs, G.fns g = some fs → ∃ fa fd ps, FnOk P w K mg base CX0 L fa fd ps (spF K fs) ∧ mg (Str.ofString g) = some (.ref fa) ∧ PySem.W.keepIn K (.ref fa) = true ∧ Binds K fd ps []) :
    FnOk P w K mg base CX0 (L + 1) f fd ps (spF K (semOf G d)) := by
  have hps : ps.length ≤ N.length := by
    have := congrArg List.length S.pre
    rw [List.length_take] at this
    omega
  have npOf : ∀ {ds : List PyData} {out : PyData × PyData}, (semOf G d).run ds = some out → ds.length = d.np := fun {ds out} e => by
    simp only [semOf] at e
    split at e
    · cases e
    · rename_i h
      exact Decidable.not_not.mp h
  refine F.ok S (fun vs H Q E h => ?_) fun cdv A outer s H vs Q E hr h => ?_
  · obtain ⟨O, ds, out, e, _, a, _⟩ := h
    rw [← a.len, npOf e, hnp]
  · obtain ⟨O, ds, out, e, hO, a, q⟩ := h
    have hl := npOf e
    have gx : GX (cxOf CX0 P w K mg base N qual scope f cdv A outer s H E).nox G L ⟨scope, fun _ => true, N⟩ := ⟨rfl, S.nd, hr, rfl, rfl, rfl, blt, con, fns⟩
    refine ⟨tSs K G d.body, PSs.nox (sndSs d.body body _ _ G L gx rfl (by unfold isFnB; rw [S.kind]) hchk), ?_⟩
    obtain ⟨C, k1, k2, k3, k4, k5, c⟩ := start_cor (N := N) (d := d) a hO (by rw [hl, hnp]; exact hps) (fun k z => by rw [hl]; exact hio k z) hn
    simp only [semOf] at e
    rw [if_neg (by rw [hl]; simp)] at e
    simp only [Option.bind_eq_some_iff] at e
    obtain ⟨⟨dd, fr, o⟩, e1, e2⟩ := e
    split at e2
    · cases e2
    rename_i hfr
    simp only [Option.some.injEq] at e2
    subst e2
    simp only [evDef, Option.bind_eq_some_iff] at e1
    obtain ⟨⟨fl, ρ'⟩, e3, o', e4, e5⟩ := e1
    rw [hG] at e3 e4
    have hoo : ∀ k, d.io = some k → ρ'[k]? = some (.own o') := fun k z => by
      rw [z] at e4
      simp only at e4
      split at e4
      · rename_i d1 h1
        simp only [Option.some.injEq] at e4
        subst e4
        exact h1
      · cases e4
    have fresh : (semOf G d).fresh = true → fr = true := fun z => by
      have z : d.fresh = true := z
      rw [z] at hfr
      cases fr with
      | true => rfl
      | false => exact absurd rfl hfr
    refine ⟨C, _, _, fl, ρ', ⟨k1, by rw [hG]; exact k4, c⟩, e3, ?_⟩
    cases fl with
    | next =>
      intro σ' H' c' s'
      simp only [Option.some.injEq, Prod.mk.injEq] at e5
      obtain ⟨rfl, rfl, rfl⟩ := e5
      have r : RetP C .none false ρ' .non H' := PostE.ret (G := G) (r := .val .none) (ρ := ρ') (σ := σ') (H := H') (Z := fun _ => False) (by rw [hG]; exact k4) ⟨c', Sub.refl, by simp only [Rep]⟩ rfl
      obtain ⟨p, so⟩ := ret_out (fs := semOf G d) k1 k2 k3 k5 r fresh hoo
      exact q _ _ p so
    | brk => cases e5
    | cont => cases e5
    | ret d2 f2 =>
      intro v H' r
      simp only [Option.some.injEq, Prod.mk.injEq] at e5
      obtain ⟨rfl, rfl, rfl⟩ := e5
      obtain ⟨p, so⟩ := ret_out (fs := semOf G d) k1 k2 k3 k5 r fresh hoo
      exact q _ _ p so
end
end Pz
end
section
set_option Elab.async false
set_option linter.all false
set_option maxRecDepth 100000
set_option maxHeartbeats 8000000
namespace Pz
open PySem PySem.Spec PyProof.Rows L2

/-! ### a whole program -/
def isDef (f : String) : Stmt → Bool
  | .FunctionDef (name := n) .. => n == Str.ofString f
  | _ => false
def findD (top : List Stmt) (f : String) : Stmt := (top.find? (isDef f)).getD (.Pass ⟨0, 0, 0, 0⟩)
def nodupB : List Str → Bool
  | [] => true
  | x :: xs => !xs.contains x && nodupB xs
theorem nodupB_ok : ∀ {l : List Str}, nodupB l = true → l.Nodup
  | [], _ => List.nodup_nil
  | x :: xs, h => by
    obtain ⟨h1, h2⟩ := b_and h
    refine List.nodup_cons.mpr ⟨fun m => ?_, nodupB_ok h2⟩
    rw [List.contains_iff_mem.mpr m] at h1
    cases h1
def scopeB (N ps : List Str) (sc : Scope) : Bool := (isFnB sc && (!sc.isCoroutine && !sc.isGenerator)) && ((nodupB N && decide (N.take ps.length = ps)) && ((ps.all fun x => match sc.names.lookup x with | some .local => true | some .cell => true | _ => false) && sc.names.all fun y => match y.2 with | .free => false | _ => true))
theorem scopeB_ok {N ps : List Str} {sc : Scope} (h : scopeB N ps sc = true) : FnScope N ps sc := by
  obtain ⟨h1, h2⟩ := b_and h
  obtain ⟨h3, h4⟩ := b_and h1
  obtain ⟨h5, h6⟩ := b_and h4
  obtain ⟨h7, h8⟩ := b_and h2
  obtain ⟨h9, h10⟩ := b_and h7
  obtain ⟨h11, h12⟩ := b_and h8
  refine ⟨isFn_ok h3, by simpa using h5, by simpa using h6, nodupB_ok h9, of_decide_eq_true h10, fun x hx => ?_, fun y hy e => ?_⟩
  · have := List.all_eq_true.mp h11 x hx
    split at this
    · exact .inl (by assumption)
    · exact .inr (by assumption)
    · cases this
  · have := List.all_eq_true.mp h12 y hy
    rw [e] at this
    cases this
/-- plain parameters only -/
def plainArgs (a : Arguments) (ps : List Str) : Bool := (a.posonlyargs.isEmpty && (a.vararg.isNone && a.kwonlyargs.isEmpty)) && ((a.kwarg.isNone && a.defaults.isEmpty) && decide (a.args.map (·.arg) = ps))
def psOf (N : List String) (d : DefI) : List Str := (N.take d.np).map Str.ofString
def chkDef (st : Stmt) (N : List String) (d : DefI) : Bool :=
  ((scopeB (N.map Str.ofString) (psOf N d) (defScope st) && decide (d.n = N.length)) && (decide (d.np ≤ N.length) && plainArgs (defArgs st) (psOf N d))) &&
    ((match d.io with | some k => decide (k < d.np) | none => true) && chkSs ⟨defScope st, fun _ => true, N.map Str.ofString⟩ d.body (defBody st))

section
variable (P : Program) (w : World) (K : PySem.W.Frag) (mg : Str → Option Value) (base : Heap)
def FnFact (L : Nat) (f : String) (fs : FnSem) : Prop := ∃ fa fd ps, FnOk P w K mg base CX0 L fa fd ps (spF K fs) ∧ mg (Str.ofString f) = some (.ref fa) ∧ PySem.W.keepIn K (.ref fa) = true ∧ Binds K fd ps []
def FnFactA (L : Nat) (f : String) (fs : FnSem) : Prop := ∃ fa fd ps, (∀ base, FnOk P w K mg base CX0 L fa fd ps (spF K fs)) ∧ mg (Str.ofString f) = some (.ref fa) ∧ PySem.W.keepIn K (.ref fa) = true ∧ Binds K fd ps []
structure DefFact (f : String) (N : List String) (d : DefI) : Prop where
  ex : ∃ fa fd st, FunD K (Str.ofString f) (Str.ofString f) (defArgs st) (defBody st) (defScope st) [] [] fa fd ∧ mg (Str.ofString f) = some (.ref fa) ∧ Binds K fd (psOf N d) [] ∧ chkDef st N d = true
end
section
variable {P : Program} {w : World} {K : PySem.W.Frag} {mg : Str → Option Value} {base : Heap}
theorem FnFact.mono {j k : Nat} {f : String} {fs : FnSem} (h : j ≤ k) (x : FnFact P w K mg base j f fs) : FnFact P w K mg base k f fs := by
  obtain ⟨fa, fd, ps, h1, h2, h3, h4⟩ := x
  exact ⟨fa, fd, ps, h1.mono h, h2, h3, h4⟩
theorem FnFactA.at {L : Nat} {f : String} {fs : FnSem} (x : FnFactA P w K mg L f fs) : FnFact P w K mg base L f fs := by
  obtain ⟨fa, fd, ps, h1, h2, h3, h4⟩ := x
  exact ⟨fa, fd, ps, h1 base, h2, h3, h4⟩
theorem tbl_ok {Pr : ProgI} (nm : String → List String) (hd : ∀ f d, Pr.defs.lookup f = some d → DefFact K mg f (nm f) d) (blt : ∀ b, b ∈ bltNs → mg (Str.ofString b) = none) (con : ∀ y e, Pr.con.lookup y = some e → ∃ v u, mg (Str.ofString y) = some u ∧ RelV v u ∧ ∀ H, Rep K H e v)
    (ext : ∀ n f fs, Pr.ext (tbl Pr n) f = some fs → (∀ g gs, tbl Pr n g = some gs → FnFactA P w K mg (4 * n) g gs) → FnFactA P w K mg (4 * (n + 1)) f fs) : ∀ n f fs, tbl Pr n f = some fs → FnFactA P w K mg (4 * n) f fs
  | 0, f, fs, e => by simp [tbl] at e
  | n + 1, f, fs, e => by
    have ih := tbl_ok nm hd blt con ext n
    simp only [tbl] at e
    split at e
    · rename_i d h1
      simp only [Option.some.injEq] at e
      subst e
      obtain ⟨fa, fd, st, F, m1, m2, c⟩ := (hd f d h1).ex
      obtain ⟨c1, c2⟩ := b_and c
      obtain ⟨c3, c4⟩ := b_and c1
      obtain ⟨c5, c6⟩ := b_and c3
      obtain ⟨c7, c8⟩ := b_and c4
      obtain ⟨c9, c10⟩ := b_and c2
      have hl : (psOf (nm f) d).length = d.np := by
        unfold psOf
        rw [List.length_map, List.length_take]
        have := of_decide_eq_true c7
        omega
      have hio : ∀ k, d.io = some k → k < d.np := fun k z => by
        rw [z] at c9
        exact of_decide_eq_true c9
      refine ⟨fa, fd, psOf (nm f) d, fun base => (def_ok (G := ⟨tbl Pr n, fun x => Pr.con.lookup x, d.io, Pr.fuel⟩) (L := 4 * n) F (scopeB_ok c5) (by rw [List.length_map]; exact of_decide_eq_true c6) hl.symm c10 hio rfl blt con fun g gs e => (ih g gs e).at).mono (by omega), m1, F.kp, m2⟩
    · exact ext n f fs e ih
end
end Pz
end
section
set_option Elab.async false
set_option linter.all false
set_option maxRecDepth 100000
set_option maxHeartbeats 8000000
namespace Pz
open PySem PySem.Spec PyProof.Rows L2

/-! ### a def that raises, and the one that looks whether it does -/
/-- isinstance(e, (c1, c2, ..)), e the exception that the suite holds -/
theorem call_isET {X : Cx} {a D : Addr} {oe : Obj} {pn : List (Addr × Obj)} (C : ExcC X.K D) (hz : Zc (.ref D) none oe) (hf : ∃ vs, oe.data = .fields vs) :
    CallR (X.suite a ((a, oe) :: pn)) (.builtin "isinstance") (fun xs H Q => ∃ (tp : Addr) (cs : List V) (us : List Value) (b : Bool), xs = [.ref a, .ref tp] ∧ H tp = some (.tup cs) ∧ Paired ClsV cs us ∧ PySem.W.kitAny X.K (.ref D) us = some b ∧ Q (.bl b) H) := by
  intro pins s σ H xs ws Q I rv hq
  obtain ⟨tp, cs, us, b, rfl, ht, hp, e, q⟩ := hq
  obtain ⟨w1, w2, rfl, r1, r2⟩ := vals2 rv
  cases r1
  cases r2
  obtain ⟨hget, _⟩ := I.pin (a, oe) (List.mem_append.mpr (.inl List.mem_cons_self))
  obtain ⟨vs, hv⟩ := hf
  have at_ : PySem.W.InstAt s.heap a oe D none := by
    obtain ⟨o1, o2, o3, o4⟩ := oe
    obtain ⟨h1, h2⟩ := hz
    dsimp only at h1 h2 hv
    subst h1 h2 hv
    exact ⟨hget, rfl, rfl, trivial⟩
  obtain ⟨_, its, rt, o, g1, g2, n, g3⟩ := (show ObjOk X.prog X.w H s.heap tp (.tup cs) from I.hok tp _ ht)
  have ei := ClsV.all hp rt
  subst ei
  obtain ⟨c1, c2, c3, c4⟩ := o
  simp only at g2 g3
  subst g2 g3
  exact PySem.W.kia_tup (PySem.W.handS_kitx_exc C.hg C.hk C.hs C.hd C.ha C.hn C.ht C.hm) I.kIn at_ g1 e (fun z => nomatch z) fun tk => ⟨.bl b, H, I.kept (t' := tk) fun _ _ z => z, rfl, q⟩

def spChk (K : PySem.W.Frag) (D : Addr) (fs : FnSem) : Sp := fun vs H Q E => ∃ O d0 d1 b o, fs.run [d0, d1] = some (.bool b, o) ∧ (∀ a, O a → H a ≠ none) ∧ ArgsOk K H (hide H O) O none [d0, d1] vs ∧ (b = true → ∀ H', Sub H H' → Q .non H') ∧ (b = false → ∀ H', Sub H H' → E (.ref D) none H')
def kcOf (st : Stmt) (N : List String) : KC := ⟨defScope st, fun _ => true, N.map Str.ofString⟩
def testX (t : String) : PExp := .call t (.cons (.v 0) (.cons (.v 1) .nil))
def chkCheck (st : Stmt) (N : List String) (t x : String) : Bool := ((scopeB (N.map Str.ofString) ((N.take 2).map Str.ofString) (defScope st) && decide (2 ≤ N.length)) && plainArgs (defArgs st) ((N.take 2).map Str.ofString)) && (match defBody st with
  | [.If (.UnaryOp .Not e _) [.Raise (some (.Call (.Name y _) [.Constant (.str _) _ _] [] _)) none _] [] _] => glOk (kcOf st N) x y && chkE (kcOf st N) (testX t) e
  | _ => false)
structure ClsFacts (K : PySem.W.Frag) (mg : Str → Option Value) (x : String) (D : Addr) : Prop where
  exc : PySem.W.excIn K D He.veBase "ValueError.__new__" = true
  glo : mg (Str.ofString x) = some (.ref D)
  kp : PySem.W.keepIn K (.ref D) = true
  sub : PySem.W.subIn K (.ref D) (.type "BaseException") = some true
  ty : PySem.W.typeIn K (.ref D) = some (.type "type")
section
variable {P : Program} {w : World} {K : PySem.W.Frag} {mg : Str → Option Value} {base : Heap} {L : Nat}
/-- the evaluator that knows one def -/
def oneG (t : String) (fs : FnSem) : EvG := ⟨fun f => if f = t then some fs else none, fun _ => none, none, 0⟩
theorem oneG_fns {t : String} {fs : FnSem} (h : FnFact P w K mg base L t fs) : ∀ g gs, (oneG t fs).fns g = some gs → FnFact P w K mg base L g gs := fun g gs e => by
  simp only [oneG] at e
  split at e
  · rename_i q
    simp only [Option.some.injEq] at e
    subst e; subst q
    exact h
  · cases e
theorem ev_test {t : String} {fs : FnSem} {n : Nat} {d0 d1 : PyData} {b : Bool} {o : PyData} (hio : fs.io = none) (hfr : fs.fresh = false) (e : fs.run [d0, d1] = some (.bool b, o)) :
    evE (oneG t fs) (testX t) (startE n none [d0, d1]) = some (.val (.bool b), startE n none [d0, d1]) := by
  simp only [testX, evE, evEs, oneG, if_true, Option.bind_some, startE, List.map_cons, List.map_nil, List.cons_append, List.getElem?_cons_zero, List.getElem?_cons_succ, evCall, peeks, peek, e, hio, hfr, locs, List.isEmpty_nil, Bool.or_true, resRV]
  rfl
theorem chk_ok {x : String} {st : Stmt} {f : Addr} {fd : FuncData} {N : List String} {fs : FnSem} {t c : String} {D : Addr} (F : FunD K (Str.ofString c) (Str.ofString c) (defArgs st) (defBody st) (defScope st) [] [] f fd) (h : chkCheck st N t x = true) (cl : ClsFacts K mg x D) (blt : ∀ b, b ∈ bltNs → mg (Str.ofString b) = none)
    (T : FnFact P w K mg base L t fs) (hio : fs.io = none) (hfr : fs.fresh = false) : FnOk P w K mg base (L2.CX P w) (L + 1) f fd ((N.take 2).map Str.ofString) (spChk K D fs) := by
  obtain ⟨h0, h2⟩ := b_and h
  obtain ⟨h1, _⟩ := b_and h0
  obtain ⟨h3, h4⟩ := b_and h1
  have S := scopeB_ok h3
  have hN : 2 ≤ N.length := of_decide_eq_true h4
  have hps : ((N.take 2).map Str.ofString).length = 2 := by rw [List.length_map, List.length_take]; omega
  refine F.ok S (fun vs H Q E q => ?_) fun cdv A outer s H vs Q E hr q => ?_
  · obtain ⟨O, d0, d1, b, o, _, _, a, _⟩ := q
    rw [← a.len, hps]; rfl
  · split at h2
    · rename_i e p1 y p2 m j p3 p4 p5 p6 hb
      obtain ⟨h5, h6⟩ := b_and h2
      rw [hb]
      have gx : GX (cxOf (L2.CX P w) P w K mg base (N.map Str.ofString) (Str.ofString c) (defScope st) f cdv A outer s H E) (oneG t fs) L (kcOf st N) := ⟨rfl, S.nd, hr, rfl, rfl, rfl, blt, (fun _ _ z => (nomatch z)), oneG_fns T⟩
      obtain ⟨g1, g2, g3⟩ := glOk_ok gx h5
      subst g1
      have tst := snd_notT (pos := p1) (sndE (testX t) e _ _ _ _ gx h6).2
      have rs : PS (cxOf (L2.CX P w) P w K mg base (N.map Str.ofString) (Str.ofString c) (defScope st) f cdv A outer s H E) (.Raise (some (.Call (.Name (Str.ofString x) p2) [.Constant (.str m) j p3] [] p4)) none p5) _ := ps_raise rfl (takes_of rfl rfl rfl rfl) (pmk_own PySem.F.excBase_ValueError cl.exc cl.glo cl.kp (raises_own cl.sub cl.ty) g2 g3)
      refine ⟨_, pss_one (ps_if tst (pss_one rs) pss_nil), ?_⟩
      obtain ⟨O, d0, d1, b, o, q1, q2, q3, q4, q5⟩ := q
      obtain ⟨C, k1, k2, k3, k4, k5, cr⟩ := start_cor (N := N.map Str.ofString) (d := ⟨2, (N.map Str.ofString).length, none, false, .nil⟩) q3 q2 (by rw [List.length_map]; exact hN) (fun _ z => nomatch z) rfl
      have ev : evE (oneG t fs) (.not (testX t)) (startE (N.map Str.ofString).length none [d0, d1]) = some (.val (.bool (!b)), startE (N.map Str.ofString).length none [d0, d1]) := by
        rw [evE, ev_test hio hfr q1]; rfl
      refine ⟨C, _, _, _, _, !b, ⟨k1, k4, cr⟩, ev, rfl, fun H' c' s' => ?_⟩
      have sub : Sub H H' := fun a u z => c'.frm a u (by rw [k3]; exact z) fun i z => by
        have := (k5 i a).mp z
        exact nomatch this.1
      cases b with
      | true =>
        simp only [Bool.not_true, Bool.false_eq_true, if_false]
        exact q4 rfl H' sub
      | false =>
        simp only [Bool.not_false, if_true]
        exact q5 rfl H' sub
    · cases h2

def nmIs (e : Expr) (n : Str) : Bool := match e with
  | .Name y _ => y == n
  | _ => false
/-- try: check(run, persons) except x as n: return isinstance(n, d) and isinstance(n, ValueError) and (not isinstance(n, (n1, n2))); return False -/
def chkRefused (st : Stmt) (N : List String) (c x d n1 n2 : String) : Bool := ((scopeB (N.map Str.ofString) ((N.take 2).map Str.ofString) (defScope st) && decide (N.length = 3)) && plainArgs (defArgs st) ((N.take 2).map Str.ofString)) && (match defBody st with
  | [.Try [.Expr (.Call (.Name y _) [a0, a1] [] _) _] [.ExceptHandler (some (.Name z _)) (some n) [.Return (some (.BoolOp .And [.Call (.Name i1 _) [.Name e1 _, .Name r1 _] [] _, .Call (.Name i2 _) [.Name e2 _, .Name r2 _] [] _, .UnaryOp .Not (.Call (.Name i3 _) [.Name e3 _, .Tuple [.Name m1 _, .Name m2 _] _ _] [] _) _] _)) _] _] [] [] _, .Return (some (.Constant (.bool false) _ _)) _] =>
    ((glOk (kcOf st N) c y && (chkE (kcOf st N) (.v 0) a0 && chkE (kcOf st N) (.v 1) a1)) && ((glOk (kcOf st N) x z && decide ((kcOf st N).N[2]? = some n)) && (decide ((defScope st).names.lookup n = some .local) && (nostar a0 && nostar a1)))) &&
    (((glOk (kcOf st N) "isinstance" i1 && glOk (kcOf st N) "isinstance" i2) && (glOk (kcOf st N) "isinstance" i3 && glOk (kcOf st N) d r1)) && ((glOk (kcOf st N) "ValueError" r2 && (glOk (kcOf st N) n1 m1 && glOk (kcOf st N) n2 m2)) && (visOk (kcOf st N) 2 e1 && (visOk (kcOf st N) 2 e2 && visOk (kcOf st N) 2 e3))))
  | _ => false)
structure ExcFacts (K : PySem.W.Frag) (mg : Str → Option Value) (x d n1 n2 : String) (D X1 A1 A2 : Addr) : Prop where
  ec : ExcC K D
  gx : mg (Str.ofString x) = some (.ref X1)
  gd : mg (Str.ofString d) = some (.ref D)
  g1 : mg (Str.ofString n1) = some (.ref A1)
  g2 : mg (Str.ofString n2) = some (.ref A2)
  nv : mg (Str.ofString "ValueError") = none
  ex : PySem.W.exmOne K (.ref D) (.ref X1) = some true
  i1 : PySem.W.kitOne K (.ref D) (.ref D) = some true
  i2 : PySem.W.kitOne K (.ref D) (.type "ValueError") = some true
  i3 : PySem.W.kitAny K (.ref D) [.ref A1, .ref A2] = some false
theorem boot_ve : bootBuiltins (Str.ofString "ValueError") = some (.type "ValueError") := by decide +kernel
theorem ev_args {G : EvG} {n : Nat} {d0 d1 : PyData} : evEs G (.cons (.v 0) (.cons (.v 1) .nil)) (startE n none [d0, d1]) = some ([.val d0, .val d1], startE n none [d0, d1]) := by
  simp only [evEs, evE, Option.bind_some, startE, List.map_cons, List.map_nil, List.cons_append, List.getElem?_cons_zero, List.getElem?_cons_succ]
/-- the suite: what is caught is of the right class -/
theorem suite_ok {X : Cx} {L2' : Nat} {kc : KC} {G : EvG} {a D A1 A2 X1 : Addr} {oe : Obj} {pn : List (Addr × Obj)} {x d n1 n2 : String} {i1 i2 i3 e1 e2 e3 r1 r2 m1 m2 : Str} {p1 p2 p3 p4 p5 p6 p7 p8 p9 p10 p11 p12 p13 p14 p15 p16 p17 : Pos} {kk : Nat} (g : GX X G L2' kc) (E : ExcFacts X.K X.mg x d n1 n2 D X1 A1 A2) (hz : Zc (.ref D) none oe) (hf : ∃ vs, oe.data = .fields vs)
    (q1 : glOk kc "isinstance" i1 = true) (q2 : glOk kc "isinstance" i2 = true) (q3 : glOk kc "isinstance" i3 = true) (q4 : glOk kc d r1 = true) (q5 : glOk kc "ValueError" r2 = true) (q6 : glOk kc n1 m1 = true) (q7 : glOk kc n2 m2 = true) (v1 : visOk kc 2 e1 = true) (v2 : visOk kc 2 e2 = true) (v3 : visOk kc 2 e3 = true) :
    PSs (X.suite a ((a, oe) :: pn)) [.Return (some (.BoolOp .And [.Call (.Name i1 p1) [.Name e1 p2, .Name r1 p3] [] p4, .Call (.Name i2 p5) [.Name e2 p6, .Name r2 p7] [] p8, .UnaryOp .Not (.Call (.Name i3 p9) [.Name e3 p10, .Tuple [.Name m1 p11, .Name m2 p12] kk p13] [] p14) p15] p16)) p17]
      (fun D' σ H => σ[2]? = some (some (.ref a)) ∧ ∀ H', Sub H H' → D'.rt (.bl true) H') := by
  obtain ⟨a1, a2, a3⟩ := glOk_ok g q1
  obtain ⟨b1, b2, b3⟩ := glOk_ok g q2
  obtain ⟨c1, c2, c3⟩ := glOk_ok g q3
  obtain ⟨d1, d2, d3⟩ := glOk_ok g q4
  obtain ⟨f1, f2, f3⟩ := glOk_ok g q5
  obtain ⟨g1, g2, g3⟩ := glOk_ok g q6
  obtain ⟨h1, h2, h3⟩ := glOk_ok g q7
  obtain ⟨u1, u2, u3, u4⟩ := visOk_ok g v1
  obtain ⟨w1, w2, w3, w4⟩ := visOk_ok g v2
  obtain ⟨z1, z2, z3, z4⟩ := visOk_ok g v3
  subst a1 b1 c1 d1 f1 g1 h1
  have mi : X.mg (Str.ofString "isinstance") = none := g.blt _ (by decide)
  have isi1 := pe_callB (X := X.suite a ((a, oe) :: pn)) (p := p1) (pos := p4) (call_isE E.ec hz hf) a2 mi boot_isinstance (pa_cons (pe_var (pos := p2) u1 u2 u3 u4) (pa_cons (pe_glob (v := .ref D) (pos := p3) d2 E.gd rfl d3) pa_nil)) (by decide) a3
  have isi2 := pe_callB (X := X.suite a ((a, oe) :: pn)) (p := p5) (pos := p8) (call_isE E.ec hz hf) b2 mi boot_isinstance (pa_cons (pe_var (pos := p6) w1 w2 w3 w4) (pa_cons (pe_bltn (v := .ty "ValueError") (pos := p7) f2 E.nv boot_ve rfl (by decide) f3) pa_nil)) (by decide) b3
  have isi3 := pe_callB (X := X.suite a ((a, oe) :: pn)) (p := p9) (pos := p14) (call_isET E.ec hz hf) c2 mi boot_isinstance (pa_cons (pe_var (pos := p10) z1 z2 z3 z4) (pa_cons (pe_tup (x1 := kk) (pos := p13) (pa_cons (pe_glob (v := .ref A1) (pos := p11) g2 E.g1 rfl g3) (pa_cons (pe_glob (v := .ref A2) (pos := p12) h2 E.g2 rfl h3) pa_nil))) pa_nil)) (by decide) c3
  refine PSs.imp (pss_one (ps_ret (pe_and (pos := p16) isi1 (pe_and (pos := p16) isi2 (pe_one (pe_not (pos := p15) isi3)))))) fun D' σ H q => ?_
  obtain ⟨hσ, q⟩ := q
  refine ⟨.ref a, hσ, .ref D, .ref D, true, rfl, fun u hu => hu, E.i1, true, rfl, ?_⟩
  rw [if_pos rfl]
  refine ⟨.ref a, hσ, .ty "ValueError", .type "ValueError", true, rfl, fun u hu => hu, E.i2, true, rfl, ?_⟩
  rw [if_pos rfl]
  refine ⟨.ref a, hσ, by show 2 ≤ sizeLine; rw [sizeLine_eq]; decide, fun tp n => ?_⟩
  refine ⟨tp, _, [.ref A1, .ref A2], false, rfl, upd_same, .cons (.own A1) (.cons (.own A2) .nil), E.i3, false, rfl, ?_⟩
  exact q _ (sub_upd n)
theorem GX.tr {X : Cx} {G : EvG} {L' : Nat} {k : KC} (g : GX X G L' k) (pn : List (Addr × Obj)) (xe : Value → Shared → Prop) : GX (X.tr pn xe) G L' k := ⟨g.calm, g.nd, g.room, g.sc, g.fn, g.N, g.blt, g.con, g.fns⟩
theorem sub_of {C : PCtx} {Z : Addr → Prop} {H H' : Hp} {σ : L2.St} {ρ : PEnv} (c : Cor C Z H' σ ρ) (h0 : C.H0 = H) (hio : ∀ i a, C.io ≠ some (i, a)) : Sub H H' := fun a u z => c.frm a u (by rw [h0]; exact z) fun i => hio i a
theorem refused_ok {st : Stmt} {f fc : Addr} {fd fdc : FuncData} {psc : List Str} {N : List String} {fs : FnSem} {rn c x d n1 n2 : String} {D X1 A1 A2 : Addr} (F : FunD K (Str.ofString rn) (Str.ofString rn) (defArgs st) (defBody st) (defScope st) [] [] f fd) (h : chkRefused st N c x d n1 n2 = true) (E0 : ExcFacts K mg x d n1 n2 D X1 A1 A2)
    (blt : ∀ b, b ∈ bltNs → mg (Str.ofString b) = none) (Fc : FnOk P w K mg base (L2.CX P w) L fc fdc psc (spChk K D fs)) (gc : mg (Str.ofString c) = some (.ref fc)) (kc : PySem.W.keepIn K (.ref fc) = true) (bc : Binds K fdc psc []) :
    FnOk P w K mg base CX0 (L + 1) f fd ((N.take 2).map Str.ofString) (spF K (refSem fs)) := by
  obtain ⟨h1, h2⟩ := b_and h
  obtain ⟨h3, _⟩ := b_and h1
  obtain ⟨h4, h5⟩ := b_and h3
  have S := scopeB_ok h4
  have hN : N.length = 3 := of_decide_eq_true h5
  have hps : ((N.take 2).map Str.ofString).length = 2 := by rw [List.length_map, List.length_take]; omega
  have two : ∀ {ds : List PyData} {out : PyData × PyData}, (refSem fs).run ds = some out → ∃ d0 d1 b o, ds = [d0, d1] ∧ fs.run [d0, d1] = some (.bool b, o) ∧ out = (.bool (!b), .none) := fun {ds out} e => by
    simp only [refSem] at e
    split at e
    · rename_i d0 d1
      obtain ⟨⟨r1, r2⟩, e1, e2⟩ := Option.bind_eq_some_iff.mp e
      cases r1 <;> simp only [Option.some.injEq] at e2 <;> first | (cases e2; done) | skip
      exact ⟨d0, d1, _, r2, rfl, e1, e2.symm⟩
    · cases e
  refine F.ok S (fun vs H Q E q => ?_) fun cdv A outer s H vs Q E hr q => ?_
  · obtain ⟨O, ds, out, e, _, a, _⟩ := q
    obtain ⟨d0, d1, b, o, rfl, _, _⟩ := two e
    rw [← a.len, hps]; rfl
  · split at h2
    · rename_i y py a0 a1 pc pe z pz n i1 pi1 e1 pe1 r1 pr1 pcall1 i2 pi2 e2 pe2 r2 pr2 pcall2 i3 pi3 e3 pe3 m1 pm1 m2 pm2 kt pt pcall3 pnot pbool pret ph ptry kf pf pret2 hb
      rw [hb]
      obtain ⟨k1, k2⟩ := b_and h2
      obtain ⟨k3, k4⟩ := b_and k1
      obtain ⟨k5, k6⟩ := b_and k3
      obtain ⟨k7, k8⟩ := b_and k6
      obtain ⟨k9, k10⟩ := b_and k4
      obtain ⟨k11, k12⟩ := b_and k9
      obtain ⟨k13, k14⟩ := b_and k10
      obtain ⟨k15, k16⟩ := b_and k14
      obtain ⟨j1, j2⟩ := b_and k2
      obtain ⟨j3, j4⟩ := b_and j1
      obtain ⟨j5, j6⟩ := b_and j3
      obtain ⟨j7, j8⟩ := b_and j4
      obtain ⟨j9, j10⟩ := b_and j2
      obtain ⟨j11, j12⟩ := b_and j9
      obtain ⟨j13, j14⟩ := b_and j12
      obtain ⟨j15, j16⟩ := b_and j10
      obtain ⟨j17, j18⟩ := b_and j16
      have gx : GX (cxOf CX0 P w K mg base (N.map Str.ofString) (Str.ofString rn) (defScope st) f cdv A outer s H E).nox (⟨fun _ => none, fun _ => none, none, 0⟩ : EvG) L (kcOf st N) := ⟨rfl, S.nd, hr, rfl, rfl, rfl, blt, (fun _ _ z => (nomatch z)), (fun _ _ z => (nomatch z))⟩
      obtain ⟨c1, c2, c3⟩ := glOk_ok gx k5
      obtain ⟨x1, x2, x3⟩ := glOk_ok gx k11
      subst c1 x1
      have hln : (cxOf CX0 P w K mg base (N.map Str.ofString) (Str.ofString rn) (defScope st) f cdv A outer s H E).nox.env.kindOf n = some .local := by
        show (defScope st).names.lookup n = _
        exact of_decide_eq_true k13
      have body : ∀ (W : WX) (pn : List (Addr × Obj)) (xe : Value → Shared → Prop), Takes ((cxOf CX0 P w K mg base (N.map Str.ofString) (Str.ofString rn) (defScope st) f cdv A outer s H E).nox.tr pn xe) W → PassesOwn (model P w) (A.deeper (envOfC (Str.ofString rn) (defScope st) s.heap.objs.size f cdv)) (envOfC (Str.ofString rn) (defScope st) s.heap.objs.size f cdv) xe → PSs ((cxOf CX0 P w K mg base (N.map Str.ofString) (Str.ofString rn) (defScope st) f cdv A outer s H E).nox.tr pn xe) [.Expr (.Call (.Name (Str.ofString c) py) [a0, a1] [] pc) pe] (tDrop (tCallS (spChk K D fs) (WE W) (tEs K ⟨fun _ => none, fun _ => none, none, 0⟩ (.cons (.v 0) (.cons (.v 1) .nil))))) := fun W pn xe tk _ => by
        have gt := gx.tr pn xe
        have pa := sndEs (.cons (.v 0) (.cons (.v 1) .nil)) [a0, a1] _ _ _ _ gt (by simp only [chkEs, k15, k16, Bool.true_and, k7, k8, Bool.and_self])
        exact pss_one (ps_expr (pe_callS (X := ((cxOf CX0 P w K mg base (N.map Str.ofString) (Str.ofString rn) (defScope st) f cdv A outer s H E).nox.tr pn xe)) Fc hr c2 gc kc bc (fun σ => passAt tk σ) pa c3 (star1 k15) (plains fun e he => by
          simp only [List.mem_cons, List.not_mem_nil, or_false] at he
          rw [he]; exact k16)) rfl)
      have tr := ps_try_as (X := (cxOf CX0 P w K mg base (N.map Str.ofString) (Str.ofString rn) (defScope st) f cdv A outer s H E).nox) (i := 2) (c := .ref X1) (np := pz) (pos' := ph) (pos := ptry) (ts := fun a cls dd D' σ H => cls = .ref D ∧ dd = none ∧ σ[2]? = some (some (.ref a)) ∧ ∀ H', Sub H H' → D'.rt (.bl true) H') rfl rfl S.nd (of_decide_eq_true k12) hln ⟨x2, x3, .inl E0.gx⟩ takes0 body
        (fun a oe cls dd pn hz hf => ⟨fun pins s' σ H D' I q => by
          obtain ⟨rfl, rfl, q⟩ := q
          exact (suite_ok (p1 := pi1) (p2 := pe1) (p3 := pr1) (p4 := pcall1) (p5 := pi2) (p6 := pe2) (p7 := pr2) (p8 := pcall2) (p9 := pi3) (p10 := pe3) (p11 := pm1) (p12 := pm2) (p13 := pt) (p14 := pcall3) (p15 := pnot) (p16 := pbool) (p17 := pret) (kk := kt) gx E0 hz hf j5 j6 j7 j8 j11 j13 j14 j15 j17 j18).run pins s' σ H D' I q⟩)
      refine ⟨_, PSs.nox (pss_cons tr (pss_one (ps_ret pe_bl))), ?_⟩
      obtain ⟨O, ds, out, e, hO, ar, qq⟩ := q
      obtain ⟨d0, d1, b, o, rfl, er, rfl⟩ := two e
      obtain ⟨C, g1, g2, g3, g4, g5, cr⟩ := start_cor (N := N.map Str.ofString) (d := ⟨2, (N.map Str.ofString).length, none, false, .nil⟩) ar hO (by rw [List.length_map, hN]; exact Nat.le_succ 2) (fun _ z => nomatch z) rfl
      have nio : ∀ i a, C.io ≠ some (i, a) := fun i a z => nomatch ((g5 i a).mp z).1
      have out_ok : ∀ (bb : Bool) (H' : Hp), bb = (!b) → Sub H H' → Q (.bl bb) H' := fun bb H' eb sb => by
        subst eb
        exact qq _ _ 0 ⟨fun a u _ e => sb a u e, fun z => (nomatch z), fun _ => by simp only [Rep], fun k a z => (nomatch z)⟩
      refine ⟨C, fun _ => False, startE (N.map Str.ofString).length none [d0, d1], [.val d0, .val d1], _, ⟨g1, g4, cr⟩, ev_args, fun vs' H1 p => ?_⟩
      obtain ⟨cc, ss, vv⟩ := p
      have s01 : Sub H H1 := sub_of cc g3 nio
      cases vv with
      | cons r0 vv =>
        cases vv with
        | cons r1' vv =>
          cases vv
          rename_i v0 v1
          refine ⟨Hid C _ _ _, d0, d1, b, o, er, fun a z => cc.hidLive z, ⟨rfl, fun k dd v _ z1 z2 => ?_, fun k dd v z => (nomatch z)⟩, fun eb H' sb => ?_, fun eb H' sb => ?_⟩
          · rw [← g1]
            match k with
            | 0 =>
              simp only [List.getElem?_cons_zero, Option.some.injEq] at z1 z2
              subst z1; subst z2; exact r0
            | 1 =>
              simp only [List.getElem?_cons_succ, List.getElem?_cons_zero, Option.some.injEq] at z1 z2
              subst z1; subst z2; exact r1'
            | k + 2 => simp at z1
          · exact out_ok false H' (by rw [eb]; rfl) (s01.trans sb)
          · refine ⟨true, E0.ex, fun _ a ha => ⟨rfl, rfl, ?_, fun H'' s'' => out_ok true H'' (by rw [eb]; rfl) (s01.trans (sb.trans s''))⟩, fun z => (nomatch z)⟩
            rw [List.getElem?_set_self]
            rw [cc.len, startE_len (by rw [List.length_map, hN]; exact Nat.le_succ 2), List.length_map, hN]
            decide
    · cases h2
end
end Pz
end
section
set_option Elab.async false
set_option linter.all false
set_option maxRecDepth 100000
set_option maxHeartbeats 8000000
namespace Pz
open PySem PySem.Spec PyProof.Rows L2

/-! ### the head: what the text's top leaves -/
def obsQ (pred : PySem.W.Frag → Bool) (fn : List He.DefD) (K : PySem.W.Frag) : He.AlD := (pred K && fn.all fun d => d.ok K, fn.map fun d => He.fnW K d.at_)
def SaysQ (pred : PySem.W.Frag → Bool) (fn : List He.DefD) (K : PySem.W.Frag) : Prop := obsQ pred fn K = He.valD fn
def obsQG (n : Nat) (pred : PySem.W.Frag → Bool) (fn : List He.DefD) (g : Addr → Option Obj) : He.AlD := obsQ pred fn (He.frG g (He.asD g n))
def hookQ (n : Nat) (pred : PySem.W.Frag → Bool) (fn : List He.DefD) : PySem.W.Hook where
  α := He.AlD
  obs := fun s => obsQG n pred fn s.heap.get?
  val := fun _ => He.valD fn
  says := fun _ h => ∃ K : PySem.W.Frag, K.In h ∧ SaysQ pred fn K
  of := fun _ _ e => ⟨_, He.frG_in, e⟩
  keeps := fun _ _ _ ⟨K, hK, c⟩ k => ⟨K, PySem.W.Frag.In.keeps hK k, c⟩
theorem obsQG_eq {n : Nat} {pred : PySem.W.Frag → Bool} {fn : List He.DefD} {g : Addr → Option Obj} {s : Shared} (h : ∀ a, g a = s.heap.get? a) : obsQG n pred fn g = (hookQ n pred fn).obs s := by
  have e : g = s.heap.get? := funext h
  rw [e] <;> rfl
theorem SaysQ.pr {pred : PySem.W.Frag → Bool} {fn : List He.DefD} {K : PySem.W.Frag} (c : SaysQ pred fn K) : pred K = true :=
  (b_and (show (pred K && fn.all fun d => d.ok K) = true from congrArg (fun z : He.AlD => z.1) c)).1
theorem SaysQ.def_ {pred : PySem.W.Frag → Bool} {fn : List He.DefD} {K : PySem.W.Frag} (c : SaysQ pred fn K) {d : He.DefD} (h : d ∈ fn) : ∃ fd, FunD K d.name d.qual d.params d.body d.scope (d.dvs K) (d.kws K) (He.fAd K d.at_) fd := by
  have c2 := (b_and (show (pred K && fn.all fun d => d.ok K) = true from congrArg (fun z : He.AlD => z.1) c)).2
  have e : fn.map (fun d => He.fnW K d.at_) = fn.map He.DefD.val := congrArg (fun z : He.AlD => z.2) c
  obtain ⟨i, hi, e0⟩ := List.mem_iff_getElem.mp h
  have h1 : fn[i]? = some d := by rw [List.getElem?_eq_getElem hi, e0]
  have e2 : (fn.map fun d => He.fnW K d.at_)[i]? = (fn.map He.DefD.val)[i]? := by rw [e]
  rw [List.getElem?_map, List.getElem?_map, h1] at e2
  exact He.DefD.funD (Option.some.inj e2) (List.all_eq_true.mp c2 d h)

/-- one def of the text: its name, its place -/
def dd (top : List Stmt) (p : String × Nat) : He.DefD :=
  let st := top.getD p.2 (.Pass ⟨0, 0, 0, 0⟩)
  ⟨(Str.ofString p.1, none), Str.ofString p.1, Str.ofString p.1, defArgs st, defBody st, defScope st, [], []⟩
def stOf (top : List Stmt) (i : Nat) : Stmt := top.getD i (.Pass ⟨0, 0, 0, 0⟩)
def BindOk (st : Stmt) (ps : List Str) : Prop := ∀ (x qual : Str) (body : List Stmt) (scope : Scope) (kV doc pm : Value) (an : Option Addr) (cdv ct : Value) (us : List Value), us.length = ps.length → bindArgs (PySem.W.fnOf x qual (defArgs st) body scope .none kV doc pm an cdv ct) ⟨us, []⟩ = pure (ps.zip us)
/-- the facts of classes -/
def eqF (a b : Option (Option Value)) : Bool := decide (a = b)
def clsB (K : PySem.W.Frag) (x d n1 n2 : String) : Bool :=
  let D := He.ga K (Str.ofString d)
  let B := Value.ref D
  ((eqF (PySem.W.findIn K B "__getattribute__") (some (some (.builtin "BaseException.__getattribute__"))) && eqF (PySem.W.findIn K B "__getattr__") (some none)) &&
    ((decide (PySem.W.subIn K B (.type "BaseException") = some true) && PySem.W.hasDictIn K D) && (eqF (PySem.W.findIn K B "__class__") (some (some (.builtin "object.__class__"))) && eqF (PySem.W.specialIn K (.builtin "object.__class__") "__get__") (some (some (.builtin "getset_descriptor.__get__")))))) &&
  (((decide (PySem.W.takesIn K (.builtin "object.__class__") = some true) && decide (PySem.W.mroIn K D (.type "object") = some true)) && (decide (PySem.W.exmOne K B (.ref (He.ga K (Str.ofString x))) = some true) && decide (PySem.W.kitOne K B B = some true))) &&
    ((decide (PySem.W.kitOne K B (.type "ValueError") = some true) && decide (PySem.W.kitAny K B [.ref (He.ga K (Str.ofString n1)), .ref (He.ga K (Str.ofString n2))] = some false)) &&
      ((PySem.W.excIn K D He.veBase "ValueError.__new__" && PySem.W.keepIn K B) && decide (PySem.W.typeIn K B = some (.type "type")))))
def gloB (K : PySem.W.Frag) (x : String) : Bool := (He.Fa.glo (Str.ofString x)).ok K
def freeB (K : PySem.W.Frag) (x : String) : Bool := (He.Fa.free (Str.ofString x)).ok K
section
variable {K : PySem.W.Frag} {h : Heap} {mg : Str → Option Value} {x d n1 n2 : String}
theorem gloB_ok (X : K.In h) (G : h.Ns mainGlobals mg) {y : String} (c : gloB K y = true) : mg (Str.ofString y) = some (.ref (He.ga K (Str.ofString y))) := He.glo_ok X G c
theorem freeB_ok (X : K.In h) (G : h.Ns mainGlobals mg) {y : String} (c : freeB K y = true) : mg (Str.ofString y) = none := He.free_ok X G c
theorem clsB_ok (X : K.In h) (G : h.Ns mainGlobals mg) (c : clsB K x d n1 n2 = true) (gx : gloB K x = true) (gd : gloB K d = true) (g1 : gloB K n1 = true) (g2 : gloB K n2 = true) (nv : freeB K "ValueError" = true) :
    ExcFacts K mg x d n1 n2 (He.ga K (Str.ofString d)) (He.ga K (Str.ofString x)) (He.ga K (Str.ofString n1)) (He.ga K (Str.ofString n2)) ∧ ClsFacts K mg d (He.ga K (Str.ofString d)) := by
  simp only [clsB, Bool.and_eq_true, decide_eq_true_eq, eqF] at c
  obtain ⟨⟨⟨a1, a2⟩, ⟨a3, a4⟩, a5, a6⟩, ⟨⟨b1, b2⟩, b3, b4⟩, ⟨b5, b6⟩, ⟨b7, b8⟩, b9⟩ := c
  exact ⟨⟨⟨a1, a2, a3, a4, a5, a6, b1, b2⟩, gloB_ok X G gx, gloB_ok X G gd, gloB_ok X G g1, gloB_ok X G g2, freeB_ok X G nv, b3, b4, b5, b6⟩, ⟨b7, gloB_ok X G gd, b8, a3, b9⟩⟩
end
structure RefRow where
  rn : String
  t : String
  c : String
  x : String
  d : String
  n1 : String
  n2 : String
  i : Nat
  ci : Nat
  N : List String
  cN : List String
/-- what the top is asked for -/
def predQ (rows : List (String × Nat)) (refs : List RefRow) (K : PySem.W.Frag) : Bool :=
  ((rows.all fun p => gloB K p.1) && ((bltNs.all fun b => freeB K b) && freeB K "ValueError")) && (refs.all fun r => (gloB K r.x && gloB K r.d) && ((gloB K r.n1 && gloB K r.n2) && clsB K r.x r.d r.n1 r.n2))
structure TextQ where
  top : List Stmt
  rows : List (String × Nat)
  refs : List RefRow
  P : ProgI
  names : List (String × List String)
def chkTable (T : TextQ) : Bool := T.P.defs.all fun p => (match T.rows.lookup p.1, T.names.lookup p.1 with
  | some i, some N => chkDef (stOf T.top i) N p.2
  | _, _ => false)
def chkRefs (T : TextQ) : Bool := T.refs.all fun r => (decide (T.rows.lookup r.rn = some r.i) && decide (T.rows.lookup r.c = some r.ci)) && (chkRefused (stOf T.top r.i) r.N r.c r.x r.d r.n1 r.n2 && chkCheck (stOf T.top r.ci) r.cN r.t r.d)
theorem mem_of_lookup' {α : Type} {l : List (String × α)} {x : String} {a : α} (h : l.lookup x = some a) : (x, a) ∈ l := by
  induction l with
  | nil => cases h
  | cons p l ih =>
    rw [List.lookup_cons] at h
    split at h
    · rename_i e
      simp only [Option.some.injEq] at h
      subst h
      have : x = p.1 := by simpa using e
      rw [this]
      exact List.mem_cons_self
    · exact List.mem_cons_of_mem _ (ih h)
section
variable {P : Program} {w : World} {K : PySem.W.Frag} {mg : Str → Option Value} {h : Heap}
theorem text_ok {T : TextQ} (c1 : chkTable T = true) (c2 : chkRefs T = true) (hext : T.P.ext = refExt (T.refs.map fun r => (r.rn, r.t))) (hcon : T.P.con = []) (bd : ∀ i N d, (∃ f, T.rows.lookup f = some i ∧ T.names.lookup f = some N ∧ T.P.defs.lookup f = some d) → BindOk (stOf T.top i) (psOf N d))
    (bd2 : ∀ r, r ∈ T.refs → BindOk (stOf T.top r.i) ((r.N.take 2).map Str.ofString) ∧ BindOk (stOf T.top r.ci) ((r.cN.take 2).map Str.ofString))
    (X : K.In h) (G : h.Ns mainGlobals mg) (S : SaysQ (predQ T.rows T.refs) (T.rows.map (dd T.top)) K) : ∀ n f fs, tbl T.P n f = some fs → FnFactA P w K mg (4 * n) f fs := by
  have pr := S.pr
  obtain ⟨p1, p2⟩ := b_and pr
  obtain ⟨p3, p4⟩ := b_and p1
  obtain ⟨p5, p6⟩ := b_and p4
  have blt : ∀ b, b ∈ bltNs → mg (Str.ofString b) = none := fun b hb => freeB_ok X G (List.all_eq_true.mp p5 b hb)
  have fun_ : ∀ {f : String} {i : Nat}, T.rows.lookup f = some i → ∃ fd, FunD K (Str.ofString f) (Str.ofString f) (defArgs (stOf T.top i)) (defBody (stOf T.top i)) (defScope (stOf T.top i)) [] [] (He.ga K (Str.ofString f)) fd ∧ mg (Str.ofString f) = some (.ref (He.ga K (Str.ofString f))) := fun {f i} hl => by
    have hm := mem_of_lookup' hl
    obtain ⟨fd, F⟩ := S.def_ (d := dd T.top (f, i)) (List.mem_map.mpr ⟨_, hm, rfl⟩)
    exact ⟨fd, F, gloB_ok X G (List.all_eq_true.mp p3 _ hm)⟩
  have binds : ∀ {f : String} {i : Nat} {fa : Addr} {fd : FuncData} {ps : List Str}, FunD K (Str.ofString f) (Str.ofString f) (defArgs (stOf T.top i)) (defBody (stOf T.top i)) (defScope (stOf T.top i)) [] [] fa fd → BindOk (stOf T.top i) ps → Binds K fd ps [] := fun F b => F.bindsN fun kV doc pm an cdv ct us hl => b _ _ _ _ kV doc pm an cdv ct us hl
  refine tbl_ok (fun f => (T.names.lookup f).getD []) (fun f d hl => ?_) blt (fun y e z => by rw [hcon] at z; cases z) fun n f fs e ih => ?_
  · have q := List.all_eq_true.mp c1 (f, d) (mem_of_lookup' hl)
    simp only at q
    split at q
    · rename_i i N e1 e2
      obtain ⟨fd, F, m⟩ := fun_ e1
      rw [e2]
      exact ⟨_, fd, stOf T.top i, F, m, binds F (bd i N d ⟨f, e1, e2, hl⟩), q⟩
    · cases q
  · rw [hext] at e
    simp only [refExt] at e
    split at e
    · rename_i t ht
      obtain ⟨fs', e1, e2⟩ := Option.bind_eq_some_iff.mp e
      split at e2
      · rename_i hc
        obtain ⟨h1, h2⟩ := b_and hc
        simp only [Option.some.injEq] at e2
        subst e2
        obtain ⟨r, hr, er⟩ := List.mem_map.mp (mem_of_lookup' ht)
        simp only [Prod.mk.injEq] at er
        obtain ⟨er1, er2⟩ := er
        subst er1 er2
        have q := List.all_eq_true.mp c2 r hr
        obtain ⟨q1, q2⟩ := b_and q
        obtain ⟨q3, q4⟩ := b_and q1
        obtain ⟨q5, q6⟩ := b_and q2
        have k := List.all_eq_true.mp p2 r hr
        obtain ⟨k1, k2⟩ := b_and k
        obtain ⟨k3, k4⟩ := b_and k1
        obtain ⟨k5, k6⟩ := b_and k2
        obtain ⟨k7, k8⟩ := b_and k5
        obtain ⟨E, Cl⟩ := clsB_ok X G k6 k3 k4 k7 k8 p6
        obtain ⟨fd, F, m⟩ := fun_ (of_decide_eq_true q3)
        obtain ⟨fdc, Fc, mc⟩ := fun_ (of_decide_eq_true q4)
        obtain ⟨b1, b2⟩ := bd2 r hr
        have ck := fun base => chk_ok (P := P) (w := w) (base := base) Fc q6 Cl blt (ih _ _ e1).at (by simpa using h1) (by simpa using h2)
        have rk := fun base => refused_ok F q5 E blt (ck base) mc Fc.kp (binds Fc b2)
        exact ⟨_, fd, _, fun base => (rk base).mono (by omega), m, F.kp, binds F b1⟩
      · cases e2
    · cases e
end
end Pz
end
section
set_option Elab.async false
set_option linter.all false
set_option maxRecDepth 100000
set_option maxHeartbeats 8000000
namespace Pz
open PySem PySem.Spec PyProof.Rows L2
theorem look_zip {n : Str} : ∀ {ps : List Str} {us : List Value}, n ∈ ps → us.length = ps.length → ((ps.zip us).lookup n).isSome = true
  | [], _, h, _ => nomatch h
  | p :: ps, [], _, hl => by simp at hl
  | p :: ps, u :: us, h, hl => by
    rw [List.zip_cons_cons, List.lookup_cons]
    split
    · rfl
    · rename_i ne
      rcases List.mem_cons.mp h with e | h
      · subst e; simp at ne
      · exact look_zip h (by simpa using hl)
theorem zip_self : ∀ {ps : List Str} {us : List Value} {l : List (Str × Value)}, ps.Nodup → us.length = ps.length → (∀ p, p ∈ l → p.1 ∉ ps) → ps.filterMap (fun n => ((l ++ ps.zip us).lookup n).map fun v => (n, v)) = ps.zip us
  | [], us, l, _, _, _ => rfl
  | p :: ps, [], l, _, hl, _ => by simp at hl
  | p :: ps, u :: us, l, nd, hl, hn => by
    obtain ⟨h1, h2⟩ := List.nodup_cons.mp nd
    have look : (l ++ (p :: ps).zip (u :: us)).lookup p = some u := by
      rw [List.lookup_append]
      have : l.lookup p = none := by
        rw [List.lookup_eq_none_iff]
        intro q hq
        have := hn q hq
        simp only [List.mem_cons, not_or] at this
        simpa using fun e => this.1 (by simpa using e.symm)
      rw [this, List.zip_cons_cons, List.lookup_cons]
      simp
    rw [List.filterMap_cons, look]
    simp only [Option.map_some]
    rw [List.zip_cons_cons]
    congr 1
    have := zip_self (l := l ++ [(p, u)]) h2 (by simpa using hl) fun q hq => by
      rcases List.mem_append.mp hq with hq | hq
      · have := hn q hq
        simp only [List.mem_cons, not_or] at this
        exact this.2
      · simp only [List.mem_cons, List.not_mem_nil, or_false] at hq
        rw [hq]; exact h1
    rw [List.append_assoc] at this
    exact this
theorem bind_plain {st : Stmt} {ps : List Str} (h : plainArgs (defArgs st) ps = true) (nd : ps.Nodup) : BindOk st ps := by
  intro x qual body scope kV doc pm an cdv ct us hl
  obtain ⟨h1, h2⟩ := b_and h
  obtain ⟨h3, h4⟩ := b_and h1
  obtain ⟨h5, h6⟩ := b_and h4
  obtain ⟨h7, h8⟩ := b_and h2
  obtain ⟨h9, h10⟩ := b_and h7
  have e8 := of_decide_eq_true h8
  generalize defArgs st = a at *
  obtain ⟨po, ar, va, ko, kd, kw, df⟩ := a
  simp only [List.isEmpty_iff, Option.isNone_iff_eq_none] at h3 h5 h6 h9 h10 e8
  subst h3 h5 h6 h9 h10
  have miss : (ps.filter fun n => ((ps.zip us).lookup n).isNone) = [] := by
    rw [List.filter_eq_nil_iff]
    intro n hn
    have := look_zip hn hl
    cases q : (ps.zip us).lookup n with
    | none => rw [q] at this; cases this
    | some v => simp
  have zs : ps.filterMap (fun n => ((ps.zip us).lookup n).map fun v => (n, v)) = ps.zip us := by
    have := zip_self (l := []) nd hl fun p hp => nomatch hp
    simpa using this
  unfold bindArgs PySem.W.fnOf
  have sq : seqItems? Value.none = pure none := rfl
  simp only [List.map_nil, List.nil_append, e8, hl, List.forIn_nil, pure_bind, sq, Option.getD_none, List.size_toArray, Nat.lt_irrefl, decide_false, Bool.false_and, Bool.false_eq_true, if_false, List.length_nil, Nat.zero_sub, List.drop_nil, Nat.sub_zero, List.append_nil]
  simp only [List.take_length, miss, List.isEmpty_nil, Bool.not_true, Bool.false_eq_true, if_false, List.drop_length, List.zip_nil_right, List.forIn_nil, pure_bind, zs]
theorem nodup_take {N : List String} {n : Nat} (h : (N.map Str.ofString).Nodup) : ((N.take n).map Str.ofString).Nodup := by
  exact h.sublist (List.Sublist.map _ (List.take_sublist _ _))
theorem text_all {P : Program} {w : World} {K : PySem.W.Frag} {mg : Str → Option Value} {h : Heap} {T : TextQ} (c1 : chkTable T = true) (c2 : chkRefs T = true) (hext : T.P.ext = refExt (T.refs.map fun r => (r.rn, r.t))) (hcon : T.P.con = [])
    (X : K.In h) (G : h.Ns mainGlobals mg) (S : SaysQ (predQ T.rows T.refs) (T.rows.map (dd T.top)) K) : ∀ n f fs, tbl T.P n f = some fs → FnFactA P w K mg (4 * n) f fs := by
  refine text_ok c1 c2 hext hcon (fun i N d ⟨f, e1, e2, e3⟩ => ?_) (fun r hr => ?_) X G S
  · have q := List.all_eq_true.mp c1 (f, d) (mem_of_lookup' e3)
    simp only [e1, e2] at q
    obtain ⟨q1, q2⟩ := b_and q
    obtain ⟨q3, q4⟩ := b_and q1
    obtain ⟨q5, q6⟩ := b_and q3
    obtain ⟨q7, q8⟩ := b_and q4
    exact bind_plain q8 (nodup_take (scopeB_ok q5).nd)
  · have q := List.all_eq_true.mp c2 r hr
    obtain ⟨q1, q2⟩ := b_and q
    obtain ⟨q5, q6⟩ := b_and q2
    obtain ⟨r1, r2⟩ := b_and q5
    obtain ⟨r3, r4⟩ := b_and r1
    obtain ⟨r5, r6⟩ := b_and r3
    obtain ⟨s1, s2⟩ := b_and q6
    obtain ⟨s3, s4⟩ := b_and s1
    obtain ⟨s5, s6⟩ := b_and s3
    exact ⟨bind_plain r4 (nodup_take (scopeB_ok r5).nd), bind_plain s4 (nodup_take (scopeB_ok s5).nd)⟩
/-- one def of the text, at a level -/
theorem text_def {P : Program} {w : World} {K : PySem.W.Frag} {mg : Str → Option Value} {h : Heap} {T : TextQ} (c1 : chkTable T = true) (c2 : chkRefs T = true) (hext : T.P.ext = refExt (T.refs.map fun r => (r.rn, r.t))) (hcon : T.P.con = [])
    (X : K.In h) (G : h.Ns mainGlobals mg) (S : SaysQ (predQ T.rows T.refs) (T.rows.map (dd T.top)) K) {f : String} {d : DefI} {i : Nat} {N : List String} (e1 : T.rows.lookup f = some i) (e2 : T.names.lookup f = some N) (e3 : T.P.defs.lookup f = some d) (n : Nat) :
    ∃ fd, (∀ base, FnOk P w K mg base CX0 (4 * n + 1) (He.ga K (Str.ofString f)) fd (psOf N d) (spF K (semOf ⟨tbl T.P n, fun x => T.P.con.lookup x, d.io, T.P.fuel⟩ d))) ∧ mg (Str.ofString f) = some (.ref (He.ga K (Str.ofString f))) ∧
      ∀ (s : Shared) (us : List Value), us.length = (psOf N d).length → BindsTo s fd ⟨us, []⟩ ((psOf N d).zip us) := by
  have all := text_all (P := P) (w := w) c1 c2 hext hcon X G S
  obtain ⟨p1, p2⟩ := b_and S.pr
  obtain ⟨p3, p4⟩ := b_and p1
  obtain ⟨p5, p6⟩ := b_and p4
  have blt : ∀ b, b ∈ bltNs → mg (Str.ofString b) = none := fun b hb => freeB_ok X G (List.all_eq_true.mp p5 b hb)
  have hm := mem_of_lookup' e1
  obtain ⟨fd, F⟩ := S.def_ (d := dd T.top (f, i)) (List.mem_map.mpr ⟨_, hm, rfl⟩)
  have F : FunD K (Str.ofString f) (Str.ofString f) (defArgs (stOf T.top i)) (defBody (stOf T.top i)) (defScope (stOf T.top i)) [] [] (He.ga K (Str.ofString f)) fd := F
  have q := List.all_eq_true.mp c1 (f, d) (mem_of_lookup' e3)
  simp only [e1, e2] at q
  obtain ⟨q1, q2⟩ := b_and q
  obtain ⟨q3, q4⟩ := b_and q1
  obtain ⟨q5, q6⟩ := b_and q3
  obtain ⟨q7, q8⟩ := b_and q4
  obtain ⟨q9, q10⟩ := b_and q2
  have hl : (psOf N d).length = d.np := by
    unfold psOf
    rw [List.length_map, List.length_take]
    have := of_decide_eq_true q7
    omega
  have hio : ∀ k, d.io = some k → k < d.np := fun k z => by
    rw [z] at q9
    exact of_decide_eq_true q9
  have bp := bind_plain q8 (nodup_take (scopeB_ok q5).nd)
  refine ⟨fd, fun base => def_ok (G := ⟨tbl T.P n, fun x => T.P.con.lookup x, d.io, T.P.fuel⟩) (L := 4 * n) F (scopeB_ok q5) (by rw [List.length_map]; exact of_decide_eq_true q6) hl.symm q10 hio rfl blt (fun y e z => by
    have z : T.P.con.lookup y = some e := z
    rw [hcon] at z; cases z) fun g gs e => (all n g gs e).at, gloB_ok X G (List.all_eq_true.mp p3 _ hm), fun s us hu => ?_⟩
  exact F.bindsA (fun kV doc pm an cdv ct us hl => bp _ _ _ _ kV doc pm an cdv ct us hl) s us hu
/-- the law's own promise -/
def spLaw (K : PySem.W.Frag) : Sp := fun vs H Q _ => ∃ (a : Addr) (ns : List Int), vs = [.ref a] ∧ ns.length ≤ 63 ∧ SqL K H a (ns.map V.int) ∧ ∀ H', Q (.bl true) H'
theorem law_of {K : PySem.W.Frag} {fs : FnSem} (hio : fs.io = none) (hfr : fs.fresh = false) (main : ∀ ns : List Int, ns.length ≤ 63 → ∃ o, fs.run [frzD ns] = some (.bool true, o)) (vs : List V) (H : Hp) (Q : VK) (E : XK) (h : spLaw K vs H Q E) : spF K fs vs H Q E := by
  obtain ⟨a, ns, rfl, hl, hS, hQ⟩ := h
  obtain ⟨o, e⟩ := main ns hl
  have sub : Sub H (hide H fun _ => False) := fun b u z => hide_of (fun z => z) z
  refine ⟨fun _ => False, [frzD ns], _, e, fun a z => z.elim, ⟨rfl, fun k d v _ z1 z2 => ?_, fun k d v z => ?_⟩, fun v H' p so => ?_⟩
  · match k with
    | 0 =>
      simp only [List.getElem?_cons_zero, Option.some.injEq] at z1 z2
      subst z1; subst z2
      simp only [frzD, Rep, rng_frz (frzOf_frz ns), frzOf_frz]
      exact ⟨a, rfl, SqL.mono sub hS⟩
    | k + 1 => simp at z1
  · rw [hio] at z; cases z
  · have r := so.old hfr
    have : v = .bl true := by simpa only [Rep] using r
    rw [this]
    exact hQ H'
end Pz
end
section
set_option Elab.async false
set_option linter.all false
set_option maxRecDepth 100000
namespace K79
open PySem Pz
def b_bit_rows : PStms :=
    (.cons (.asg 1 (.lst (.cons (.tup .nil) .nil)))
      (.cons (.for_ (.nm 2) (.r1 (.v 0)) (.cons (.asg 1 (.comp2 [3, 4] [4] (.nm 3) (.of (.v 1)) .no (.nm 4) (.of (.tup (.cons (.int 0) (.cons (.int 1) .nil)))) .no (.bin .add (.v 3) (.tup (.cons (.v 4) .nil)))))
      .nil) [2])
      (.cons (.ret (.blt .tuple (.cons (.v 1) .nil)))
      .nil)))
def b_is_right_round : PStms :=
    (.cons (.ite (.not (.blt .all (.cons (.comp [2, 3] (.tp [2, 3]) (.of (.v 0)) .no (.and (.cons (.chain .le .lt (.int 0) (.v 2) (.v 1)) (.cons (.chain .le .lt (.int 0) (.v 3) (.v 1)) (.cons (.cmp .ne (.v 2) (.v 3)) .nil))))) .nil))) (.cons (.ret (.bl false))
      .nil) .nil)
      (.cons (.ret (.blt .all (.cons (.comp [4] (.nm 4) (.r2 (.int 1) (.blt .len (.cons (.v 0) .nil))) .no (.cmp .lt (.idx (.v 0) (.bin .sub (.v 4) (.int 1))) (.idx (.v 0) (.v 4)))) .nil)))
      .nil))
def b_is_round_run : PStms :=
    (.cons (.asgT [2, 3] (.v 0))
      (.cons (.ite (.or (.cons (.cmp .ne (.blt .len (.cons (.v 2) .nil)) (.v 1)) (.cons (.not (.blt .all (.cons (.comp [4] (.nm 4) (.of (.v 2)) .no (.cmp .isin (.v 4) (.tup (.cons (.int 0) (.cons (.int 1) .nil))))) .nil))) .nil))) (.cons (.ret (.bl false))
      .nil) .nil)
      (.cons (.ret (.blt .all (.cons (.comp [5] (.nm 5) (.of (.v 3)) .no (.call "is_right_round" (.cons (.v 5) (.cons (.v 1) .nil)))) .nil)))
      .nil)))
def b_check_round_run : PStms :=
    (.cons (.ite (.not (.call "is_round_run" (.cons (.v 0) (.cons (.v 1) .nil)))) (.cons .raise_
      .nil) .nil)
      .nil)
def b_views_behind_round : PStms :=
    (.cons (.ret (.comp [4] (.nm 4) (.r1 (.blt .len (.cons (.v 0) .nil))) .no (.tup (.cons (.idx (.v 0) (.v 4)) (.cons (.blt .tuple (.cons (.comp [2, 3] (.tp [2, 3]) (.of (.v 1)) (.yes (.cmp .eq (.v 3) (.v 4))) (.tup (.cons (.v 2) (.cons (.idx (.v 0) (.v 2)) .nil)))) .nil)) .nil)))))
      .nil)
def b_round_views : PStms :=
    (.cons (.asgT [1, 2] (.v 0))
      (.cons (.asg 3 (.blt .list (.cons (.v 1) .nil)))
      (.cons (.for_ (.nm 4) (.of (.v 2)) (.cons (.asg 3 (.call "views_behind_round" (.cons (.v 3) (.cons (.v 4) .nil))))
      .nil) [4])
      (.cons (.ret (.v 3))
      .nil))))
def b_round_view : PStms :=
    (.cons (.ret (.idx (.call "round_views" (.cons (.v 0) .nil)) (.v 1)))
      .nil)
def b_round_past : PStms :=
    (.cons (.asgT [2, 3] (.v 0))
      (.cons (.asg 4 (.lst (.cons (.v 1) .nil)))
      (.cons (.asg 5 (.lst .nil))
      (.cons (.for_ (.nm 6) (.of (.revs (.v 3))) (.cons (.asg 7 (.blt .tuple (.cons (.comp [8, 9] (.tp [8, 9]) (.of (.v 6)) (.yes (.cmp .isin (.v 9) (.v 4))) (.tup (.cons (.v 8) (.cons (.v 9) .nil)))) .nil)))
      (.cons (.asg 4 (.bin .add (.v 4) (.comp [8, 9] (.tp [8, 9]) (.of (.v 7)) .no (.v 8))))
      (.cons (.ex (.app 5 (.v 7)))
      .nil))) [6, 7])
      (.cons (.ret (.tup (.cons (.blt .tuple (.cons (.comp [8] (.nm 8) (.r1 (.blt .len (.cons (.v 2) .nil))) .no (.ife (.cmp .isin (.v 8) (.v 4)) (.idx (.v 2) (.v 8)) (.int 0))) .nil)) (.cons (.blt .tuple (.cons (.revs (.v 5)) .nil)) .nil))))
      .nil)))))
def b_heard_in_run : PStms :=
    (.cons (.asg 2 (.comp [3] (.nm 3) (.r1 (.blt .len (.cons (.idx (.v 0) (.int 0)) .nil))) .no (.lst (.cons (.v 3) .nil))))
      (.cons (.for_ (.nm 4) (.of (.idx (.v 0) (.int 1))) (.cons (.asg 2 (.comp [7] (.nm 7) (.r1 (.blt .len (.cons (.v 2) .nil))) .no (.bin .add (.idx (.v 2) (.v 7)) (.comp2 [3, 5, 6] [6] (.tp [3, 5]) (.of (.v 4)) (.yes (.cmp .eq (.v 5) (.v 7))) (.nm 6) (.of (.idx (.v 2) (.v 3))) .no (.v 6)))))
      .nil) [4])
      (.cons (.ret (.blt .tuple (.cons (.sset (.idx (.v 2) (.v 1))) .nil)))
      .nil)))
def b_run_of_rounds : PStms :=
    (.cons (.asgT [1, 2] (.v 0))
      (.cons (.asg 3 (.rngv (.blt .len (.cons (.v 1) .nil))))
      (.cons (.asg 4 (.comp [5] (.nm 5) (.of (.v 3)) (.yes (.cmp .eq (.idx (.v 1) (.v 5)) (.int 1))) (.tup (.cons (.str "note") (.cons (.v 5) (.cons (.int 1) .nil))))))
      (.cons (.asg 6 (.comp2 [5, 7] [7] (.nm 5) (.of (.v 3)) .no (.nm 7) (.of (.v 3)) (.yes (.cmp .ne (.v 5) (.v 7))) (.tup (.cons (.v 5) (.cons (.v 7) .nil)))))
      (.cons (.for_ (.nm 8) (.of (.v 2)) (.cons (.asg 9 (.blt .len (.cons (.v 4) .nil)))
      (.cons (.ex (.ext 4 (.comp [5, 7] (.tp [5, 7]) (.of (.v 6)) .no (.tup (.cons (.str "send") (.cons (.v 5) (.cons (.v 7) .nil)))))))
      (.cons (.ex (.ext 4 (.comp [5, 7] (.tp [5, 7]) (.of (.v 8)) .no (.tup (.cons (.str "get") (.cons (.v 7) (.cons (.bin .add (.v 9) (.index (.v 6) (.tup (.cons (.v 5) (.cons (.v 7) .nil))))) .nil)))))))
      .nil))) [8, 9])
      (.cons (.ret (.blt .tuple (.cons (.v 4) .nil)))
      .nil))))))
def b_rounds_that_may_be : PStms :=
    (.cons (.asg 1 (.lst (.cons (.tup .nil) .nil)))
      (.cons (.for_ (.nm 2) (.of (.comp2 [3, 4] [4] (.nm 3) (.r1 (.v 0)) .no (.nm 4) (.r1 (.v 0)) (.yes (.cmp .ne (.v 3) (.v 4))) (.tup (.cons (.v 3) (.cons (.v 4) .nil))))) (.cons (.asg 1 (.bin .add (.v 1) (.comp [5] (.nm 5) (.of (.v 1)) .no (.bin .add (.v 5) (.tup (.cons (.v 2) .nil))))))
      .nil) [2])
      (.cons (.ret (.blt .sorted (.cons (.v 1) .nil)))
      .nil)))
def b_all_round_runs : PStms :=
    (.cons (.asg 2 (.lst (.cons (.tup .nil) .nil)))
      (.cons (.for_ (.nm 3) (.r1 (.v 1)) (.cons (.asg 2 (.comp2 [4, 5] [5] (.nm 4) (.of (.v 2)) .no (.nm 5) (.of (.call "rounds_that_may_be" (.cons (.v 0) .nil))) .no (.bin .add (.v 4) (.tup (.cons (.v 5) .nil)))))
      .nil) [3])
      (.cons (.ret (.blt .tuple (.cons (.comp2 [6, 4] [4] (.nm 6) (.of (.call "bit_rows" (.cons (.v 0) .nil))) .no (.nm 4) (.of (.v 2)) .no (.tup (.cons (.v 6) (.cons (.v 4) .nil)))) .nil)))
      .nil)))
def b_is_right_get : PStms :=
    (.cons (.asgT [2, 3, 4] (.idx (.v 0) (.v 1)))
      (.cons (.ite (.or (.cons (.not (.chain .le .lt (.int 0) (.v 4) (.v 1))) (.cons (.cmp .ne (.idx (.idx (.v 0) (.v 4)) (.int 0)) (.str "send")) (.cons (.cmp .ne (.idx (.idx (.v 0) (.v 4)) (.int 2)) (.v 3)) .nil)))) (.cons (.ret (.bl false))
      .nil) .nil)
      (.cons (.ret (.blt .all (.cons (.comp [5] (.nm 5) (.of (.slice (.v 0) .no (.yes (.v 1)))) .no (.or (.cons (.cmp .ne (.idx (.v 5) (.int 0)) (.str "get")) (.cons (.cmp .ne (.idx (.v 5) (.int 2)) (.v 4)) .nil)))) .nil)))
      .nil)))
def b_is_right_deed : PStms :=
    (.cons (.asg 3 (.idx (.v 0) (.v 1)))
      (.cons (.ite (.not (.chain .le .lt (.int 0) (.idx (.v 3) (.int 1)) (.v 2))) (.cons (.ret (.bl false))
      .nil) .nil)
      (.cons (.ite (.cmp .eq (.idx (.v 3) (.int 0)) (.str "send")) (.cons (.ret (.and (.cons (.chain .le .lt (.int 0) (.idx (.v 3) (.int 2)) (.v 2)) (.cons (.cmp .ne (.idx (.v 3) (.int 2)) (.idx (.v 3) (.int 1))) .nil))))
      .nil) .nil)
      (.cons (.ret (.or (.cons (.cmp .eq (.idx (.v 3) (.int 0)) (.str "note")) (.cons (.call "is_right_get" (.cons (.v 0) (.cons (.v 1) .nil))) .nil))))
      .nil))))
def b_is_right_run : PStms :=
    (.cons (.ret (.blt .all (.cons (.comp [2] (.nm 2) (.r1 (.blt .len (.cons (.v 0) .nil))) .no (.call "is_right_deed" (.cons (.v 0) (.cons (.v 2) (.cons (.v 1) .nil))))) .nil)))
      .nil)
def b_check_message_run : PStms :=
    (.cons (.ite (.not (.call "is_right_run" (.cons (.v 0) (.cons (.v 1) .nil)))) (.cons .raise_
      .nil) .nil)
      .nil)
def b_law_draws : PStms :=
    (.cons (.asg 2 (.comp [3] (.nm 3) (.of (.v 0)) .no (.blt .int (.cons (.v 3) .nil))))
      (.cons (.ite (.cmp .eq (.blt .len (.cons (.v 2) .nil)) (.int 0)) (.cons (.ex (.app 2 (.int 0)))
      .nil) .nil)
      (.cons (.asg 4 (.blt .list (.cons (.v 2) .nil)))
      (.cons (.asg 5 (.lst .nil))
      (.cons (.for_ (.nm 6) (.r1 (.v 1)) (.cons (.asg 7 (.bin .mod (.v 6) (.blt .len (.cons (.v 2) .nil))))
      (.cons (.ite (.and (.cons (.cmp .ge (.idx (.v 2) (.v 7)) (.bin .pow (.int 10) (.int 18))) (.cons (.cmp .gt (.idx (.v 4) (.v 7)) (.int 0)) .nil))) (.cons (.ex (.app 5 (.bin .mod (.blt .int (.cons (.idx (.v 4) (.v 7)) .nil)) (.int 1000))))
      (.cons (.setI 4 (.v 7) (.bin .fdiv (.idx (.v 4) (.v 7)) (.int 1000)))
      .nil)) (.cons (.asg 8 (.bin .mod (.blt .int (.cons (.bin .add (.bin .add (.bin .mul (.idx (.v 2) (.v 7)) (.int 48271)) (.bin .mul (.v 6) (.int 69621))) (.int 11)) .nil)) (.int 2147483647)))
      (.cons (.ex (.app 5 (.bin .mod (.blt .int (.cons (.bin .add (.bin .add (.bin .mul (.v 8) (.v 8)) (.bin .mul (.int 3) (.v 8))) (.v 6)) .nil)) (.int 1000003))))
      .nil)))
      .nil)) [6, 7, 8])
      (.cons (.ex (.rev 5))
      (.cons (.ret (.v 5))
      .nil)))))))
def b_law_take : PStms :=
    (.cons (.ite (.cmp .eq (.blt .len (.cons (.v 0) .nil)) (.int 0)) (.cons (.ret (.int 0))
      .nil) .nil)
      (.cons (.ret (.bin .mod (.blt .int (.cons (.pop 0) .nil)) (.v 1)))
      .nil))
def b_law_cell : PStms :=
    (.cons (.ite (.cmp .eq (.blt .len (.cons (.v 0) .nil)) (.int 0)) (.cons (.ret (.int 0))
      .nil) .nil)
      (.cons (.asg 1 (.blt .int (.cons (.idx (.v 0) (.bin .mod (.bin .mod (.blt .int (.cons (.bin .sub (.blt .len (.cons (.v 0) .nil)) (.int 1)) .nil)) (.int 7)) (.blt .len (.cons (.v 0) .nil)))) .nil)))
      (.cons (.ite (.cmp .lt (.v 1) (.int 0)) (.cons (.ret (.neg (.bin .mod (.blt .int (.cons (.neg (.v 1)) .nil)) (.bin .pow (.int 10) (.int 60)))))
      .nil) .nil)
      (.cons (.ret (.bin .mod (.blt .int (.cons (.v 1) .nil)) (.bin .pow (.int 10) (.int 60))))
      .nil))))
def b_law_same : PStms :=
    (.cons (.ite (.isi (.v 1) "bool") (.cons (.ret (.and (.cons (.isi (.v 0) "bool") (.cons (.cmp .eq (.v 0) (.v 1)) .nil))))
      .nil) .nil)
      (.cons (.ite (.isi (.v 1) "int") (.cons (.ret (.and (.cons (.isi (.v 0) "int") (.cons (.not (.isi (.v 0) "bool")) (.cons (.cmp .eq (.v 0) (.v 1)) .nil)))))
      .nil) .nil)
      (.cons (.ite (.isi (.v 1) "str") (.cons (.ret (.and (.cons (.isi (.v 0) "str") (.cons (.cmp .eq (.v 0) (.v 1)) .nil))))
      .nil) .nil)
      (.cons (.ite (.cmp .isN (.v 1) .non) (.cons (.ret (.cmp .isN (.v 0) .non))
      .nil) .nil)
      (.cons (.ite (.or (.cons (.not (.isi (.v 0) "tuple")) (.cons (.cmp .ne (.blt .len (.cons (.v 0) .nil)) (.blt .len (.cons (.v 1) .nil))) .nil))) (.cons (.ret (.bl false))
      .nil) .nil)
      (.cons (.for_ (.nm 2) (.r1 (.blt .len (.cons (.v 1) .nil))) (.cons (.ite (.not (.call "_law_same" (.cons (.idx (.v 0) (.v 2)) (.cons (.idx (.v 1) (.v 2)) .nil)))) (.cons (.ret (.bl false))
      .nil) .nil)
      .nil) [2])
      (.cons (.ret (.bl true))
      .nil)))))))
def b_law_rows : PStms :=
    (.cons (.asg 1 (.lst (.cons (.tup .nil) .nil)))
      (.cons (.for_ (.nm 2) (.r1 (.v 0)) (.cons (.asg 3 (.lst .nil))
      (.cons (.for_ (.nm 4) (.of (.v 1)) (.cons (.asg 3 (.bin .add (.v 3) (.lst (.cons (.bin .add (.v 4) (.tup (.cons (.int 0) .nil))) (.cons (.bin .add (.v 4) (.tup (.cons (.int 1) .nil))) .nil)))))
      .nil) [4])
      (.cons (.asg 1 (.v 3))
      .nil))) [2, 3, 4])
      (.cons (.ret (.v 1))
      .nil)))
def b_law_round_run : PStms :=
    (.cons (.asg 3 (.blt .tuple (.cons (.comp [4] (.nm 4) (.r1 (.v 1)) .no (.call "_law_take" (.cons (.v 0) (.cons (.int 2) .nil)))) .nil)))
      (.cons (.asg 5 (.lst .nil))
      (.cons (.for_ (.nm 6) (.r1 (.v 2)) (.cons (.asg 7 (.lst .nil))
      (.cons (.for_ (.nm 4) (.r1 (.v 1)) (.cons (.asg 7 (.bin .add (.v 7) (.comp [8] (.nm 8) (.r1 (.v 1)) (.yes (.and (.cons (.cmp .ne (.v 4) (.v 8)) (.cons (.cmp .eq (.call "_law_take" (.cons (.v 0) (.cons (.int 3) .nil))) (.int 0)) .nil)))) (.tup (.cons (.v 4) (.cons (.v 8) .nil))))))
      .nil) [4])
      (.cons (.ex (.app 5 (.blt .tuple (.cons (.v 7) .nil))))
      .nil))) [4, 6, 7])
      (.cons (.ret (.tup (.cons (.v 3) (.cons (.blt .tuple (.cons (.v 5) .nil)) .nil))))
      .nil))))
def b_law_round_views : PStms :=
    (.cons (.asg 1 (.blt .list (.cons (.idx (.v 0) (.int 0)) .nil)))
      (.cons (.for_ (.nm 2) (.of (.idx (.v 0) (.int 1))) (.cons (.asg 3 (.lst .nil))
      (.cons (.for_ (.nm 4) (.r1 (.blt .len (.cons (.v 1) .nil))) (.cons (.ex (.app 3 (.tup (.cons (.idx (.v 1) (.v 4)) (.cons (.blt .tuple (.cons (.comp [5, 6] (.tp [5, 6]) (.of (.v 2)) (.yes (.cmp .eq (.v 6) (.v 4))) (.tup (.cons (.v 5) (.cons (.idx (.v 1) (.v 5)) .nil)))) .nil)) .nil)))))
      .nil) [4])
      (.cons (.asg 1 (.v 3))
      .nil))) [2, 3, 4])
      (.cons (.ret (.v 1))
      .nil)))
def b_law_round_past : PStms :=
    (.cons (.asgT [2, 3] (.v 0))
      (.cons (.asg 4 (.lst (.cons (.v 1) .nil)))
      (.cons (.asg 5 (.tup .nil))
      (.cons (.for_ (.nm 6) (.r3 (.bin .sub (.blt .len (.cons (.v 3) .nil)) (.int 1)) (.neg (.int 1)) (.neg (.int 1))) (.cons (.asg 7 (.blt .tuple (.cons (.comp [8] (.nm 8) (.of (.idx (.v 3) (.v 6))) (.yes (.cmp .isin (.idx (.v 8) (.int 1)) (.v 4))) (.v 8)) .nil)))
      (.cons (.asg 5 (.bin .add (.tup (.cons (.v 7) .nil)) (.v 5)))
      (.cons (.asg 4 (.bin .add (.v 4) (.comp [9, 10] (.tp [9, 10]) (.of (.v 7)) (.yes (.cmp .notin (.v 9) (.v 4))) (.v 9))))
      .nil))) [6, 7])
      (.cons (.ret (.tup (.cons (.blt .tuple (.cons (.comp [9] (.nm 9) (.r1 (.blt .len (.cons (.v 2) .nil))) .no (.bin .mul (.idx (.v 2) (.v 9)) (.blt .int (.cons (.cmp .isin (.v 9) (.v 4)) .nil)))) .nil)) (.cons (.v 5) .nil))))
      .nil)))))
def b_law_heard : PStms :=
    (.cons (.asg 2 (.lst .nil))
      (.cons (.for_ (.nm 3) (.r1 (.blt .len (.cons (.idx (.v 0) (.int 0)) .nil))) (.cons (.asg 4 (.lst (.cons (.v 3) .nil)))
      (.cons (.for_ (.nm 5) (.of (.idx (.v 0) (.int 1))) (.cons (.asg 4 (.bin .add (.v 4) (.comp [6, 7] (.tp [6, 7]) (.of (.v 5)) (.yes (.cmp .isin (.v 6) (.v 4))) (.v 7))))
      .nil) [5])
      (.cons (.ite (.cmp .isin (.v 1) (.v 4)) (.cons (.ex (.app 2 (.v 3)))
      .nil) .nil)
      .nil))) [3, 4, 5])
      (.cons (.ret (.v 2))
      .nil)))
def b_law_all_round_runs : PStms :=
    (.cons (.asg 2 (.lst (.cons (.tup .nil) .nil)))
      (.cons (.for_ (.nm 3) (.r1 (.v 0)) (.cons (.for_ (.nm 4) (.r1 (.v 0)) (.cons (.ite (.cmp .ne (.v 3) (.v 4)) (.cons (.asg 2 (.bin .add (.v 2) (.comp [5] (.nm 5) (.of (.v 2)) .no (.bin .add (.v 5) (.tup (.cons (.tup (.cons (.v 3) (.cons (.v 4) .nil))) .nil))))))
      .nil) .nil)
      .nil) [4])
      .nil) [3, 4])
      (.cons (.asg 6 (.lst (.cons (.tup .nil) .nil)))
      (.cons (.for_ (.nm 7) (.r1 (.v 1)) (.cons (.asg 8 (.lst .nil))
      (.cons (.for_ (.nm 9) (.of (.v 6)) (.cons (.asg 8 (.bin .add (.v 8) (.comp [5] (.nm 5) (.of (.blt .sorted (.cons (.v 2) .nil))) .no (.bin .add (.v 9) (.tup (.cons (.v 5) .nil))))))
      .nil) [9])
      (.cons (.asg 6 (.v 8))
      .nil))) [7, 8, 9])
      (.cons (.asg 10 (.lst .nil))
      (.cons (.for_ (.nm 11) (.of (.call "_law_rows" (.cons (.v 0) .nil))) (.cons (.asg 10 (.bin .add (.v 10) (.comp [9] (.nm 9) (.of (.v 6)) .no (.tup (.cons (.v 11) (.cons (.v 9) .nil))))))
      .nil) [11])
      (.cons (.ret (.v 10))
      .nil)))))))
def b_law_with : PStms :=
    (.cons (.ret (.bin .add (.bin .add (.slice (.v 0) .no (.yes (.v 1))) (.tup (.cons (.v 2) .nil))) (.slice (.v 0) (.yes (.bin .add (.v 1) (.int 1))) .no)))
      .nil)
def b_law_bent : PStms :=
    (.cons (.asgT [4, 5] (.v 1))
      (.cons (.asg 6 (.idx (.lst (.cons (.neg (.int 1)) (.cons (.v 2) (.cons (.bin .add (.v 2) (.blt .abs (.cons (.v 3) .nil))) .nil)))) (.call "_law_take" (.cons (.v 0) (.cons (.int 3) .nil)))))
      (.cons (.asg 7 (.call "_law_take" (.cons (.v 0) (.cons (.int 4) .nil))))
      (.cons (.ite (.cmp .eq (.v 7) (.int 0)) (.cons (.ret (.idx (.lst (.cons (.tup (.cons (.bin .add (.v 4) (.tup (.cons (.int 0) .nil))) (.cons (.v 5) .nil))) (.cons (.tup (.cons (.slice (.v 4) (.yes (.int 1)) .no) (.cons (.v 5) .nil))) (.cons (.tup (.cons (.call "_law_with" (.cons (.v 4) (.cons (.call "_law_take" (.cons (.v 0) (.cons (.v 2) .nil))) (.cons (.idx (.lst (.cons (.int 2) (.cons (.neg (.int 1)) (.cons (.bin .add (.v 3) (.bin .mul (.int 2) (.blt .int (.cons (.cmp .isin (.v 3) (.tup (.cons (.int 0) (.cons (.int 1) .nil)))) .nil)))) .nil)))) (.call "_law_take" (.cons (.v 0) (.cons (.int 3) .nil)))) .nil)))) (.cons (.v 5) .nil))) .nil)))) (.call "_law_take" (.cons (.v 0) (.cons (.int 3) .nil)))))
      .nil) .nil)
      (.cons (.asg 8 (.idx (.lst (.cons (.tup (.cons (.int 0) (.cons (.v 6) .nil))) (.cons (.tup (.cons (.v 6) (.cons (.int 0) .nil))) (.cons (.tup (.cons (.int 0) (.cons (.int 0) .nil))) (.cons (.tup (.cons (.v 6) (.cons (.v 6) .nil))) .nil))))) (.call "_law_take" (.cons (.v 0) (.cons (.int 4) .nil)))))
      (.cons (.ite (.cmp .eq (.blt .len (.cons (.v 5) .nil)) (.int 0)) (.cons (.ret (.tup (.cons (.v 4) (.cons (.tup (.cons (.tup (.cons (.v 8) .nil)) .nil)) .nil))))
      .nil) .nil)
      (.cons (.asg 9 (.call "_law_take" (.cons (.v 0) (.cons (.blt .len (.cons (.v 5) .nil)) .nil))))
      (.cons (.ite (.or (.cons (.cmp .lt (.v 7) (.int 3)) (.cons (.cmp .eq (.blt .len (.cons (.idx (.v 5) (.v 9)) .nil)) (.int 0)) .nil))) (.cons (.ret (.tup (.cons (.v 4) (.cons (.call "_law_with" (.cons (.v 5) (.cons (.v 9) (.cons (.blt .tuple (.cons (.blt .sorted (.cons (.bin .add (.idx (.v 5) (.v 9)) (.tup (.cons (.v 8) .nil))) .nil)) .nil)) .nil)))) .nil))))
      .nil) .nil)
      (.cons (.ret (.tup (.cons (.v 4) (.cons (.call "_law_with" (.cons (.v 5) (.cons (.v 9) (.cons (.idx (.lst (.cons (.bin .add (.idx (.v 5) (.v 9)) (.slice (.idx (.v 5) (.v 9)) .no (.yes (.int 1)))) (.cons (.bin .add (.slice (.idx (.v 5) (.v 9)) (.yes (.neg (.int 1))) .no) (.idx (.v 5) (.v 9))) .nil))) (.call "_law_take" (.cons (.v 0) (.cons (.int 2) .nil)))) .nil)))) .nil))))
      .nil)))))))))
def b_law_clockless : PStms :=
    (.cons (.asgT [1, 2] (.v 0))
      (.cons (.asg 3 (.blt .len (.cons (.v 1) .nil)))
      (.cons (.asg 4 (.comp [5] (.nm 5) (.r1 (.v 3)) (.yes (.cmp .eq (.idx (.v 1) (.v 5)) (.int 1))) (.tup (.cons (.str "note") (.cons (.v 5) (.cons (.int 1) .nil))))))
      (.cons (.for_ (.nm 6) (.of (.v 2)) (.cons (.asg 7 (.lst .nil))
      (.cons (.for_ (.nm 5) (.r1 (.v 3)) (.cons (.asg 7 (.bin .add (.v 7) (.comp [8] (.nm 8) (.r1 (.v 3)) (.yes (.cmp .ne (.v 5) (.v 8))) (.tup (.cons (.v 5) (.cons (.v 8) .nil))))))
      .nil) [5])
      (.cons (.asg 9 (.blt .len (.cons (.v 4) .nil)))
      (.cons (.asg 4 (.bin .add (.bin .add (.v 4) (.comp [5, 8] (.tp [5, 8]) (.of (.v 7)) .no (.tup (.cons (.str "send") (.cons (.v 5) (.cons (.v 8) .nil)))))) (.comp [5, 8] (.tp [5, 8]) (.of (.v 6)) .no (.tup (.cons (.str "get") (.cons (.v 8) (.cons (.bin .add (.v 9) (.index (.v 7) (.tup (.cons (.v 5) (.cons (.v 8) .nil))))) .nil)))))))
      .nil)))) [5, 6, 7, 9])
      (.cons (.ret (.blt .tuple (.cons (.v 4) .nil)))
      .nil)))))
def b_law_is_told : PStms :=
    (.cons (.asg 2 (.call "_law_round_views" (.cons (.v 0) .nil)))
      (.cons (.for_ (.nm 3) (.r1 (.v 1)) (.cons (.asg 4 (.call "_law_heard" (.cons (.v 0) (.cons (.v 3) .nil))))
      (.cons (.asg 5 (.call "_law_round_past" (.cons (.v 0) (.cons (.v 3) .nil))))
      (.cons (.ite (.or (.cons (.not (.call "_law_same" (.cons (.call "round_view" (.cons (.v 0) (.cons (.v 3) .nil))) (.cons (.idx (.v 2) (.v 3)) .nil)))) (.cons (.not (.call "_law_same" (.cons (.call "heard_in_run" (.cons (.v 0) (.cons (.v 3) .nil))) (.cons (.blt .tuple (.cons (.v 4) .nil)) .nil)))) (.cons (.not (.call "_law_same" (.cons (.call "round_past" (.cons (.v 0) (.cons (.v 3) .nil))) (.cons (.v 5) .nil)))) .nil)))) (.cons (.ret (.bl false))
      .nil) .nil)
      (.cons (.ite (.or (.cons (.cmp .ne (.idx (.call "_law_round_views" (.cons (.v 5) .nil)) (.v 3)) (.idx (.v 2) (.v 3))) (.cons (.not (.call "_law_same" (.cons (.call "round_view" (.cons (.v 5) (.cons (.v 3) .nil))) (.cons (.idx (.v 2) (.v 3)) .nil)))) .nil))) (.cons (.ret (.bl false))
      .nil) .nil)
      (.cons (.for_ (.nm 6) (.r1 (.v 1)) (.cons (.asg 7 (.tup (.cons (.call "_law_with" (.cons (.idx (.v 0) (.int 0)) (.cons (.v 6) (.cons (.bin .sub (.int 1) (.idx (.idx (.v 0) (.int 0)) (.v 6))) .nil)))) (.cons (.idx (.v 0) (.int 1)) .nil))))
      (.cons (.ite (.cmp .ne (.cmp .eq (.call "round_view" (.cons (.v 7) (.cons (.v 3) .nil))) (.call "round_view" (.cons (.v 0) (.cons (.v 3) .nil)))) (.cmp .notin (.v 6) (.v 4))) (.cons (.ret (.bl false))
      .nil) .nil)
      .nil)) [6, 7])
      .nil))))) [3, 4, 5, 6, 7])
      (.cons (.asg 8 (.call "_law_clockless" (.cons (.v 0) .nil)))
      (.cons (.ret (.and (.cons (.call "_law_same" (.cons (.call "run_of_rounds" (.cons (.v 0) .nil)) (.cons (.v 8) .nil))) (.cons (.cmp .isN (.call "check_message_run" (.cons (.call "run_of_rounds" (.cons (.v 0) .nil)) (.cons (.v 1) .nil))) .non) .nil))))
      .nil))))
def b_law : PStms :=
    (.cons (.asg 1 (.call "_law_draws" (.cons (.v 0) (.cons (.int 200) .nil))))
      (.cons (.asg 2 (.call "_law_cell" (.cons (.v 0) .nil)))
      (.cons (.asg 3 (.bin .add (.int 1) (.call "_law_take" (.cons (.v 1) (.cons (.int 4) .nil)))))
      (.cons (.asg 4 (.call "_law_round_run" (.cons (.v 1) (.cons (.v 3) (.cons (.call "_law_take" (.cons (.v 1) (.cons (.int 5) .nil))) .nil)))))
      (.cons (.ite (.or (.cons (.cmp .notN (.call "check_round_run" (.cons (.v 4) (.cons (.v 3) .nil))) .non) (.cons (.not (.call "_law_is_told" (.cons (.v 4) (.cons (.v 3) .nil)))) (.cons (.not (.call "_law_is_told" (.cons (.v 4) (.cons (.v 3) .nil)))) .nil)))) (.cons (.ret (.bl false))
      .nil) .nil)
      (.cons (.for_ (.nm 5) (.r1 (.int 4)) (.cons (.ite (.not (.call "_law_is_refused" (.cons (.call "_law_bent" (.cons (.v 1) (.cons (.v 4) (.cons (.v 3) (.cons (.v 2) .nil))))) (.cons (.v 3) .nil)))) (.cons (.ret (.bl false))
      .nil) .nil)
      .nil) [5])
      (.cons (.asgT [6, 7] (.idx (.lst (.cons (.tup (.cons (.int 1) (.cons (.int 3) .nil))) (.cons (.tup (.cons (.int 2) (.cons (.int 0) .nil))) (.cons (.tup (.cons (.int 2) (.cons (.int 1) .nil))) (.cons (.tup (.cons (.int 2) (.cons (.int 2) .nil))) (.cons (.tup (.cons (.int 3) (.cons (.int 0) .nil))) .nil)))))) (.call "_law_take" (.cons (.v 1) (.cons (.int 5) .nil)))))
      (.cons (.ite (.not (.call "_law_same" (.cons (.call "all_round_runs" (.cons (.v 6) (.cons (.v 7) .nil))) (.cons (.blt .tuple (.cons (.call "_law_all_round_runs" (.cons (.v 6) (.cons (.v 7) .nil))) .nil)) .nil)))) (.cons (.ret (.bl false))
      .nil) .nil)
      (.cons (.asg 8 (.tup (.cons (.tup (.cons (.int 1) (.cons (.int 0) (.cons (.int 0) .nil)))) (.cons (.tup (.cons (.tup (.cons (.tup (.cons (.int 0) (.cons (.int 1) .nil))) (.cons (.tup (.cons (.int 2) (.cons (.int 1) .nil))) .nil))) (.cons (.tup (.cons (.tup (.cons (.int 1) (.cons (.int 2) .nil))) .nil)) .nil))) .nil))))
      (.cons (.ite (.or (.cons (.not (.call "_law_same" (.cons (.call "round_view" (.cons (.v 8) (.cons (.int 2) .nil))) (.cons (.tup (.cons (.tup (.cons (.int 0) (.cons (.tup .nil) .nil))) (.cons (.tup (.cons (.tup (.cons (.int 1) (.cons (.tup (.cons (.int 0) (.cons (.tup (.cons (.tup (.cons (.int 0) (.cons (.int 1) .nil))) (.cons (.tup (.cons (.int 2) (.cons (.int 0) .nil))) .nil))) .nil))) .nil))) .nil)) .nil))) .nil)))) (.cons (.not (.call "_law_same" (.cons (.call "round_view" (.cons (.v 8) (.cons (.int 0) .nil))) (.cons (.tup (.cons (.tup (.cons (.int 1) (.cons (.tup .nil) .nil))) (.cons (.tup .nil) .nil))) .nil)))) .nil))) (.cons (.ret (.bl false))
      .nil) .nil)
      (.cons (.ite (.or (.cons (.not (.call "_law_same" (.cons (.call "heard_in_run" (.cons (.v 8) (.cons (.int 2) .nil))) (.cons (.tup (.cons (.int 0) (.cons (.int 1) (.cons (.int 2) .nil)))) .nil)))) (.cons (.not (.call "_law_same" (.cons (.call "heard_in_run" (.cons (.v 8) (.cons (.int 1) .nil))) (.cons (.tup (.cons (.int 0) (.cons (.int 1) (.cons (.int 2) .nil)))) .nil)))) (.cons (.not (.call "_law_same" (.cons (.call "heard_in_run" (.cons (.v 8) (.cons (.int 0) .nil))) (.cons (.tup (.cons (.int 0) .nil)) .nil)))) .nil)))) (.cons (.ret (.bl false))
      .nil) .nil)
      (.cons (.asg 9 (.tup (.cons (.tup (.cons (.int 1) (.cons (.int 1) (.cons (.int 0) .nil)))) (.cons (.tup (.cons (.tup (.cons (.tup (.cons (.int 1) (.cons (.int 2) .nil))) .nil)) (.cons (.tup (.cons (.tup (.cons (.int 0) (.cons (.int 1) .nil))) .nil)) .nil))) .nil))))
      (.cons (.ite (.or (.cons (.not (.call "_law_same" (.cons (.call "round_past" (.cons (.v 9) (.cons (.int 2) .nil))) (.cons (.tup (.cons (.tup (.cons (.int 0) (.cons (.int 1) (.cons (.int 0) .nil)))) (.cons (.tup (.cons (.tup (.cons (.tup (.cons (.int 1) (.cons (.int 2) .nil))) .nil)) (.cons (.tup .nil) .nil))) .nil))) .nil)))) (.cons (.not (.call "_law_same" (.cons (.call "heard_in_run" (.cons (.v 9) (.cons (.int 2) .nil))) (.cons (.tup (.cons (.int 1) (.cons (.int 2) .nil))) .nil)))) .nil))) (.cons (.ret (.bl false))
      .nil) .nil)
      (.cons (.asg 10 (.tup (.cons (.tup (.cons (.str "note") (.cons (.int 0) (.cons (.int 1) .nil)))) (.cons (.tup (.cons (.str "send") (.cons (.int 0) (.cons (.int 1) .nil)))) (.cons (.tup (.cons (.str "send") (.cons (.int 1) (.cons (.int 0) .nil)))) (.cons (.tup (.cons (.str "get") (.cons (.int 1) (.cons (.int 1) .nil)))) (.cons (.tup (.cons (.str "send") (.cons (.int 0) (.cons (.int 1) .nil)))) (.cons (.tup (.cons (.str "send") (.cons (.int 1) (.cons (.int 0) .nil)))) (.cons (.tup (.cons (.str "get") (.cons (.int 0) (.cons (.int 5) .nil)))) .nil)))))))))
      (.cons (.ite (.or (.cons (.not (.call "_law_same" (.cons (.call "run_of_rounds" (.cons (.tup (.cons (.tup (.cons (.int 1) (.cons (.int 0) .nil))) (.cons (.tup (.cons (.tup (.cons (.tup (.cons (.int 0) (.cons (.int 1) .nil))) .nil)) (.cons (.tup (.cons (.tup (.cons (.int 1) (.cons (.int 0) .nil))) .nil)) .nil))) .nil))) .nil)) (.cons (.v 10) .nil)))) (.cons (.not (.call "_law_is_told" (.cons (.v 8) (.cons (.int 3) .nil)))) (.cons (.not (.call "_law_is_told" (.cons (.v 9) (.cons (.int 3) .nil)))) .nil)))) (.cons (.ret (.bl false))
      .nil) .nil)
      (.cons (.ret (.and (.cons (.call "_law_same" (.cons (.call "all_round_runs" (.cons (.int 1) (.cons (.int 2) .nil))) (.cons (.tup (.cons (.tup (.cons (.tup (.cons (.int 0) .nil)) (.cons (.tup (.cons (.tup .nil) (.cons (.tup .nil) .nil))) .nil))) (.cons (.tup (.cons (.tup (.cons (.int 1) .nil)) (.cons (.tup (.cons (.tup .nil) (.cons (.tup .nil) .nil))) .nil))) .nil))) .nil))) (.cons (.call "_law_same" (.cons (.slice (.call "all_round_runs" (.cons (.int 2) (.cons (.int 1) .nil))) .no (.yes (.int 3))) (.cons (.tup (.cons (.tup (.cons (.tup (.cons (.int 0) (.cons (.int 0) .nil))) (.cons (.tup (.cons (.tup .nil) .nil)) .nil))) (.cons (.tup (.cons (.tup (.cons (.int 0) (.cons (.int 0) .nil))) (.cons (.tup (.cons (.tup (.cons (.tup (.cons (.int 0) (.cons (.int 1) .nil))) .nil)) .nil)) .nil))) (.cons (.tup (.cons (.tup (.cons (.int 0) (.cons (.int 0) .nil))) (.cons (.tup (.cons (.tup (.cons (.tup (.cons (.int 0) (.cons (.int 1) .nil))) (.cons (.tup (.cons (.int 1) (.cons (.int 0) .nil))) .nil))) .nil)) .nil))) .nil)))) .nil))) .nil))))
      .nil))))))))))))))))
def defsT : List (String × DefI) := [
  ("bit_rows", ⟨1, 5, none, false, b_bit_rows⟩),
  ("is_right_round", ⟨2, 5, none, false, b_is_right_round⟩),
  ("is_round_run", ⟨2, 6, none, false, b_is_round_run⟩),
  ("check_round_run", ⟨2, 2, none, false, b_check_round_run⟩),
  ("views_behind_round", ⟨2, 5, none, false, b_views_behind_round⟩),
  ("round_views", ⟨1, 5, none, false, b_round_views⟩),
  ("round_view", ⟨2, 2, none, false, b_round_view⟩),
  ("round_past", ⟨2, 10, none, false, b_round_past⟩),
  ("heard_in_run", ⟨2, 8, none, false, b_heard_in_run⟩),
  ("run_of_rounds", ⟨1, 10, none, false, b_run_of_rounds⟩),
  ("rounds_that_may_be", ⟨1, 6, none, false, b_rounds_that_may_be⟩),
  ("all_round_runs", ⟨2, 7, none, false, b_all_round_runs⟩),
  ("is_right_get", ⟨2, 6, none, false, b_is_right_get⟩),
  ("is_right_deed", ⟨3, 4, none, false, b_is_right_deed⟩),
  ("is_right_run", ⟨2, 3, none, false, b_is_right_run⟩),
  ("check_message_run", ⟨2, 2, none, false, b_check_message_run⟩),
  ("_law_draws", ⟨2, 9, none, true, b_law_draws⟩),
  ("_law_take", ⟨2, 2, some 0, false, b_law_take⟩),
  ("_law_cell", ⟨1, 2, none, false, b_law_cell⟩),
  ("_law_same", ⟨2, 3, none, false, b_law_same⟩),
  ("_law_rows", ⟨1, 5, none, false, b_law_rows⟩),
  ("_law_round_run", ⟨3, 9, some 0, false, b_law_round_run⟩),
  ("_law_round_views", ⟨1, 7, none, false, b_law_round_views⟩),
  ("_law_round_past", ⟨2, 11, none, false, b_law_round_past⟩),
  ("_law_heard", ⟨2, 8, none, false, b_law_heard⟩),
  ("_law_all_round_runs", ⟨2, 12, none, false, b_law_all_round_runs⟩),
  ("_law_with", ⟨3, 3, none, false, b_law_with⟩),
  ("_law_bent", ⟨4, 10, some 0, false, b_law_bent⟩),
  ("_law_clockless", ⟨1, 10, none, false, b_law_clockless⟩),
  ("_law_is_told", ⟨2, 9, none, false, b_law_is_told⟩),
  ("law", ⟨1, 11, none, false, b_law⟩)]
def namesT : List (String × List String) := [
  ("bit_rows", ["many", "rows", "k", "row", "bit"]),
  ("is_right_round", ["pairs", "persons", "a", "b", "k"]),
  ("is_round_run", ["run", "persons", "notes", "rounds", "bit", "pairs"]),
  ("check_round_run", ["run", "persons"]),
  ("views_behind_round", ["views", "pairs", "a", "c", "b"]),
  ("round_views", ["run", "notes", "rounds", "views", "pairs"]),
  ("round_view", ["run", "person"]),
  ("round_past", ["run", "person", "notes", "rounds", "needed", "kept", "pairs", "own", "a", "b"]),
  ("heard_in_run", ["run", "person", "heard", "a", "pairs", "other", "c", "b"]),
  ("run_of_rounds", ["run", "notes", "rounds", "persons", "deeds", "a", "sendings", "b", "pairs", "first"]),
  ("rounds_that_may_be", ["persons", "rounds", "pair", "a", "b", "own"]),
  ("all_round_runs", ["persons", "many", "rows", "_", "row", "own", "notes"]),
  ("is_right_get", ["run", "number", "name", "person", "sending", "deed"]),
  ("is_right_deed", ["run", "number", "persons", "deed"]),
  ("is_right_run", ["run", "persons", "number"]),
  ("check_message_run", ["run", "persons"]),
  ("_law_draws", ["script", "many", "cells", "cell", "rest", "draws", "k", "at", "once"]),
  ("_law_take", ["draws", "many"]),
  ("_law_cell", ["script", "cell"]),
  ("_law_same", ["actual", "due", "k"]),
  ("_law_rows", ["many", "rows", "k", "longer", "row"]),
  ("_law_round_run", ["draws", "persons", "many", "notes", "a", "rounds", "k", "pairs", "b"]),
  ("_law_round_views", ["run", "views", "pairs", "later", "b", "a", "other"]),
  ("_law_round_past", ["run", "person", "notes", "rounds", "reached", "kept", "k", "own", "pair", "a", "b"]),
  ("_law_heard", ["run", "person", "found", "c", "reached", "pairs", "a", "b"]),
  ("_law_all_round_runs", ["persons", "many", "rounds", "a", "b", "own", "rows", "k", "longer", "row", "found", "notes"]),
  ("_law_with", ["row", "k", "item"]),
  ("_law_bent", ["draws", "run", "persons", "cell", "notes", "rounds", "bad", "pick", "pair", "k"]),
  ("_law_clockless", ["run", "notes", "rounds", "persons", "deeds", "a", "pairs", "sent", "b", "first"]),
  ("_law_is_told", ["run", "persons", "views", "a", "heard", "past", "c", "other", "due"]),
  ("law", ["script", "draws", "cell", "persons", "run", "turn", "few", "many", "passed", "back", "due"])]
def conT : List (String × PyData) := []
def P0 : ProgI := ⟨defsT, conT, 100000, refExt [("_law_is_refused", "is_round_run")]⟩
def ran (o : Option FnSem) (ds : List PyData) : Option PyData := o.bind fun fs => (fs.run ds).map (·.1)
def isTr : Option PyData → Bool
  | some (.bool true) => true
  | _ => false
end K79
end
section
set_option Elab.async false
set_option linter.all false
set_option maxRecDepth 1000000
set_option maxHeartbeats 0
namespace K79
open PySem PySem.Spec PyProof.Rows L2 Pz
def top : List Stmt := PySem.Challenge.pw_everyknower_k79_rounds_with_losses_told.main.body
def rowsQ : List (String × Nat) := [("bit_rows", 6), ("is_right_round", 8), ("is_round_run", 9), ("check_round_run", 10), ("views_behind_round", 11), ("round_views", 12), ("round_view", 13), ("round_past", 14), ("heard_in_run", 15), ("run_of_rounds", 16), ("rounds_that_may_be", 17), ("all_round_runs", 18), ("is_right_get", 20), ("is_right_deed", 21), ("is_right_run", 22), ("check_message_run", 23), ("_law_draws", 25), ("_law_take", 26), ("_law_cell", 27), ("_law_same", 28), ("_law_rows", 29), ("_law_round_run", 30), ("_law_round_views", 31), ("_law_round_past", 32), ("_law_heard", 33), ("_law_all_round_runs", 34), ("_law_is_refused", 35), ("_law_with", 36), ("_law_bent", 37), ("_law_clockless", 38), ("_law_is_told", 39), ("law", 40)]
def refsQ : List RefRow := [⟨"_law_is_refused", "is_round_run", "check_round_run", "KnowError", "InvalidRun", "InvalidNet", "InvalidWorld", 35, 10, ["run", "persons", "e"], ["run", "persons"]⟩]
def TQ : TextQ := ⟨top, rowsQ, refsQ, P0, namesT⟩
theorem c1 : chkTable TQ = true := by decide +kernel
theorem c2 : chkRefs TQ = true := by decide +kernel
def fnQ : List He.DefD := rowsQ.map (dd top)
abbrev R : PySem.W.OpenRow := PySem.W.OpenLaw.row PySem.Challenge.rw_everyknower_k79_rounds_with_losses_told
abbrev hk : PySem.W.Hook := hookQ 4 (predQ rowsQ refsQ) fnQ
def ob (s : PySem.W.SharedT) : He.AlD := obsQG 4 (predQ rowsQ refsQ) fnQ (HandSHeadRun.getT s)
theorem ob_eq (s : PySem.W.SharedT) : ob s = hk.obs s.abs := obsQG_eq (HandSHeadRun.getT_eq s)
def ls0 : List PySem.Str := ["KnowError", "InvalidWorld", "InvalidRun", "InvalidNet", "bit_rows", "is_right_round", "is_round_run", "check_round_run", "views_behind_round", "round_views", "round_view", "round_past", "heard_in_run", "run_of_rounds", "rounds_that_may_be", "all_round_runs", "is_right_get", "is_right_deed", "is_right_run", "check_message_run"]
def ls1 : List PySem.Str := ["_law_draws", "_law_take", "_law_cell", "_law_same", "_law_rows", "_law_round_run", "_law_round_views", "_law_round_past", "_law_heard", "_law_all_round_runs", "_law_is_refused", "_law_with", "_law_bent", "_law_clockless", "_law_is_told"]
abbrev looseQ : List PySem.Str := ls0 ++ ls1
theorem run (w : World) : HandSHeadRun.RunEq R (PySem.W.view R.prog [40]) hk ob 3000 looseQ w := by
  intro os
  kernel_rfl
end K79
end
section
set_option Elab.async false
set_option linter.all false
set_option maxRecDepth 100000
namespace Pz
open PySem
/-! ### reckoning with the evaluator, in plain Lean -/
theorem evComp_all {g : Items} {f : PyData → PEnv → Option (List PyData × PEnv)} {ρ : PEnv} (out : PyData → List PyData) (hg : guardOk g ρ = true) : ∀ {ds : List PyData}, (∀ d, d ∈ ds → f d ρ = some (out d, ρ)) → evComp g f ds ρ = some (ds.flatMap out, ρ)
  | [], _ => by simp only [evComp, hg, if_true, List.flatMap_nil]
  | d :: ds, h => by
    simp only [evComp, hg, if_true, h d List.mem_cons_self, Option.bind_some, evComp_all out hg fun d hd => h d (List.mem_cons_of_mem _ hd), List.flatMap_cons]
theorem evComp_map {g : Items} {f : PyData → PEnv → Option (List PyData × PEnv)} {ρ : PEnv} (out : PyData → PyData) (hg : guardOk g ρ = true) {ds : List PyData} (h : ∀ d, d ∈ ds → f d ρ = some ([out d], ρ)) : evComp g f ds ρ = some (ds.map out, ρ) := by
  rw [evComp_all (fun d => [out d]) hg h, List.map_eq_flatMap]
theorem guard_none {ds : List PyData} {ρ : PEnv} : guardOk ⟨ds, none⟩ ρ = true := rfl
/-- a loop that goes on, by its steps -/
theorem evFor_steps {α : Type} {g : Items} {f : PyData → PEnv → Option (Flw × PEnv)} (E : α → PEnv) (step : α → PyData → α) (ok : α → Prop) (hg : g.at_ = none) :
    ∀ {ds : List PyData} {a : α}, ok a → (∀ d a, d ∈ ds → ok a → f d (E a) = some (.next, E (step a d)) ∧ ok (step a d)) → evFor g f ds (E a) = some (.next, E (ds.foldl step a))
  | [], a, _, _ => by
    have : guardOk g (E a) = true := by simp only [guardOk, hg]
    simp only [evFor, this, if_true, List.foldl_nil]
  | d :: ds, a, h0, h => by
    have : guardOk g (E a) = true := by simp only [guardOk, hg]
    obtain ⟨h1, h2⟩ := h d a List.mem_cons_self h0
    simp only [evFor, this, if_true, h1, Option.bind_some, List.foldl_cons]
    exact evFor_steps E step ok hg h2 fun d a hd => h d a (List.mem_cons_of_mem _ hd)
theorem run_plain {G : EvG} {d : DefI} {ds : List PyData} {v : PyData} {fr : Bool} {ρ' : PEnv} (hl : ds.length = d.np) (hG : G.io = none) (hf : d.fresh = false) (e : evSs G d.body (startE d.n none ds) = some (.ret v fr, ρ')) : (semOf G d).run ds = some (v, .none) := by
  simp only [semOf, hl, ne_eq, not_true, if_false, evDef, hG, e, Option.bind_some, hf, Bool.false_and, Bool.false_eq_true]
theorem run_plain' {G : EvG} {d : DefI} {ds : List PyData} {v : PyData} (hl : ds.length = d.np) (hG : G.io = none) (hf : d.fresh = false) (e : ∃ fr ρ', evSs G d.body (startE d.n none ds) = some (.ret v fr, ρ')) : (semOf G d).run ds = some (v, .none) := by
  obtain ⟨fr, ρ', e⟩ := e
  exact run_plain hl hG hf e
theorem evSs_cons {G : EvG} {s : PStm} {r : PStms} {ρ ρ1 : PEnv} (h : evSt G s ρ = some (.next, ρ1)) : evSs G (.cons s r) ρ = evSs G r ρ1 := by
  simp only [evSs, h, Option.bind_some]
theorem evSs_ret {G : EvG} {s : PStm} {r : PStms} {ρ ρ1 : PEnv} {v : PyData} {fr : Bool} (h : evSt G s ρ = some (.ret v fr, ρ1)) : evSs G (.cons s r) ρ = some (.ret v fr, ρ1) := by
  simp only [evSs, h, Option.bind_some]
theorem shp_int (i : Int) : shp (.int i) = true := by
  simp [shp, SeqAt.shaped, PyData.canLay0, PyData.depth]
theorem eqv_int (i j : Int) : PyData.eqv (.int i) (.int j) = (i == j) := by simp only [PyData.eqv]
/-! ### judgements: what an expression gives, the slots as they were -/
def Va (G : EvG) (ρ : PEnv) (e : PExp) (d : PyData) : Prop := evE G e ρ = some (.val d, ρ)
def Tm (G : EvG) (ρ : PEnv) (e : PExp) (d : PyData) : Prop := evE G e ρ = some (.tmp d, ρ)
/-- as an operand -/
def Pk (G : EvG) (ρ : PEnv) (e : PExp) (d : PyData) : Prop := ∃ r, evE G e ρ = some (r, ρ) ∧ peek r ρ = some d
/-- as something that is kept -/
def St (G : EvG) (ρ : PEnv) (e : PExp) (d : PyData) : Prop := ∃ r, evE G e ρ = some (r, ρ) ∧ settle G.io r ρ = some (d, ρ)
inductive Pks (G : EvG) (ρ : PEnv) : PExps → List PyData → Prop where
  | nil : Pks G ρ .nil []
  | cons {e : PExp} {r : PExps} {d : PyData} {ds : List PyData} (h : Pk G ρ e d) (t : Pks G ρ r ds) : Pks G ρ (.cons e r) (d :: ds)
inductive Sts (G : EvG) (ρ : PEnv) : PExps → List PyData → Prop where
  | nil : Sts G ρ .nil []
  | cons {e : PExp} {r : PExps} {d : PyData} {ds : List PyData} (h : St G ρ e d) (t : Sts G ρ r ds) : Sts G ρ (.cons e r) (d :: ds)
section
variable {G : EvG} {ρ : PEnv} {e a b c : PExp} {d x y z : PyData} {es : PExps} {ds : List PyData} {i : Nat}
theorem Va.pk (h : Va G ρ e d) : Pk G ρ e d := ⟨_, h, rfl⟩
theorem Tm.pk (h : Tm G ρ e d) : Pk G ρ e d := ⟨_, h, rfl⟩
theorem Va.st (h : Va G ρ e d) : St G ρ e d := ⟨_, h, rfl⟩
theorem Tm.st (h : Tm G ρ e d) : St G ρ e d := ⟨_, h, rfl⟩
theorem pk_own (h : ρ[i]? = some (.own d)) : Pk G ρ (.v i) d := ⟨.loc i, by simp only [evE, h], by simp only [peek, h]⟩
theorem va_v (h : ρ[i]? = some (.val d)) : Va G ρ (.v i) d := by simp only [Va, evE, h]
theorem va_non : Va G ρ .non .none := by simp only [Va, evE]
theorem va_bl {k : Bool} : Va G ρ (.bl k) (.bool k) := by simp only [Va, evE]
theorem va_int {k : Int} : Va G ρ (.int k) (.int k) := by simp only [Va, evE]
theorem va_str {k : String} : Va G ρ (.str k) (.str (Str.ofString k)) := by simp only [Va, evE]
theorem va_bin {op : BOp} (ha : Pk G ρ a x) (hb : Pk G ρ b y) (h : bopD op x y = some (.val d)) : Va G ρ (.bin op a b) d := by
  obtain ⟨r1, e1, p1⟩ := ha
  obtain ⟨r2, e2, p2⟩ := hb
  simp only [Va, evE, e1, e2, p1, p2, h, Option.bind_some]
theorem tm_bin {op : BOp} (ha : Pk G ρ a x) (hb : Pk G ρ b y) (h : bopD op x y = some (.tmp d)) : Tm G ρ (.bin op a b) d := by
  obtain ⟨r1, e1, p1⟩ := ha
  obtain ⟨r2, e2, p2⟩ := hb
  simp only [Tm, evE, e1, e2, p1, p2, h, Option.bind_some]
theorem va_cmp {op : COp} {k : Bool} (ha : Pk G ρ a x) (hb : Pk G ρ b y) (h : cmpD op x y = some k) : Va G ρ (.cmp op a b) (.bool k) := by
  obtain ⟨r1, e1, p1⟩ := ha
  obtain ⟨r2, e2, p2⟩ := hb
  simp only [Va, evE, e1, e2, p1, p2, h, Option.bind_some]
theorem va_chain {o1 o2 : COp} {k1 k2 : Bool} (ha : Pk G ρ a x) (hb : Pk G ρ b y) (hc : Pk G ρ c z) (h1 : cmpD o1 x y = some k1) (h2 : cmpD o2 y z = some k2) : Va G ρ (.chain o1 o2 a b c) (.bool (k1 && k2)) := by
  obtain ⟨r1, e1, p1⟩ := ha
  obtain ⟨r2, e2, p2⟩ := hb
  obtain ⟨r3, e3, p3⟩ := hc
  cases k1 <;> simp [Va, evE, e1, e2, e3, p1, p2, p3, h1, h2]
theorem va_chain_no {o1 o2 : COp} (ha : Pk G ρ a x) (hb : Pk G ρ b y) (h1 : cmpD o1 x y = some false) : Va G ρ (.chain o1 o2 a b c) (.bool false) := by
  obtain ⟨r1, e1, p1⟩ := ha
  obtain ⟨r2, e2, p2⟩ := hb
  simp [Va, evE, e1, e2, p1, p2, h1]
theorem va_neg {k : Int} (ha : Pk G ρ a (.int k)) : Va G ρ (.neg a) (.int (-k)) := by
  obtain ⟨r1, e1, p1⟩ := ha
  simp only [Va, evE, e1, p1, toInt, Option.bind_some]
theorem va_not {k : Bool} (ha : Pk G ρ a (.bool k)) : Va G ρ (.not a) (.bool (!k)) := by
  obtain ⟨r1, e1, p1⟩ := ha
  simp only [Va, evE, e1, p1, toBool, Option.bind_some]
theorem va_idx (ha : Pk G ρ a x) (hb : Pk G ρ b y) (h : idxD x y = some d) : Va G ρ (.idx a b) d := by
  obtain ⟨r1, e1, p1⟩ := ha
  obtain ⟨r2, e2, p2⟩ := hb
  simp only [Va, evE, e1, e2, p1, p2, h, Option.bind_some]
theorem va_revs (ha : Pk G ρ a x) (h : revD x = some (.val d)) : Va G ρ (.revs a) d := by
  obtain ⟨r1, e1, p1⟩ := ha
  simp only [Va, evE, e1, p1, h, Option.bind_some]
theorem tm_revs (ha : Pk G ρ a x) (h : revD x = some (.tmp d)) : Tm G ρ (.revs a) d := by
  obtain ⟨r1, e1, p1⟩ := ha
  simp only [Tm, evE, e1, p1, h, Option.bind_some]
def Ob (G : EvG) (ρ : PEnv) (o : PExpO) (v : Option Int) : Prop := evO G o ρ = some (v, ρ)
theorem ob_no : Ob G ρ .no none := by simp only [Ob, evO]
theorem ob_yes {k : Int} (ha : Pk G ρ a (.int k)) : Ob G ρ (.yes a) (some k) := by
  obtain ⟨r1, e1, p1⟩ := ha
  simp only [Ob, evO, e1, p1, toInt, Option.bind_some]
theorem va_slice {lo hi : PExpO} {l h : Option Int} (ha : Pk G ρ a x) (h1 : Ob G ρ lo l) (h2 : Ob G ρ hi h) (hs : sliceD x l h = some (.val d)) : Va G ρ (.slice a lo hi) d := by
  obtain ⟨r1, e1, p1⟩ := ha
  simp only [Ob] at h1 h2
  simp only [Va, evE, e1, p1, h1, h2, hs, Option.bind_some]
theorem tm_slice {lo hi : PExpO} {l h : Option Int} (ha : Pk G ρ a x) (h1 : Ob G ρ lo l) (h2 : Ob G ρ hi h) (hs : sliceD x l h = some (.tmp d)) : Tm G ρ (.slice a lo hi) d := by
  obtain ⟨r1, e1, p1⟩ := ha
  simp only [Ob] at h1 h2
  simp only [Tm, evE, e1, p1, h1, h2, hs, Option.bind_some]
theorem Pks.ev (h : Pks G ρ es ds) : ∃ rs, evEs G es ρ = some (rs, ρ) ∧ peeks rs ρ = some ds := by
  induction h with
  | nil => exact ⟨[], by simp only [evEs], rfl⟩
  | cons h t ih =>
    obtain ⟨r, e1, p1⟩ := h
    obtain ⟨rs, e2, p2⟩ := ih
    exact ⟨r :: rs, by simp only [evEs, e1, e2, Option.bind_some], by simp only [peeks, p1, p2, Option.bind_some]⟩
theorem Sts.ev (h : Sts G ρ es ds) : ∃ rs, evEs G es ρ = some (rs, ρ) ∧ settles G.io rs ρ = some (ds, ρ) := by
  induction h with
  | nil => exact ⟨[], by simp only [evEs], rfl⟩
  | cons h t ih =>
    obtain ⟨r, e1, p1⟩ := h
    obtain ⟨rs, e2, p2⟩ := ih
    exact ⟨r :: rs, by simp only [evEs, e1, e2, Option.bind_some], by simp only [settles, p1, p2, Option.bind_some]⟩
theorem va_tup (h : Sts G ρ es ds) (hl : ds.length ≤ lim) : Va G ρ (.tup es) (.tuple ds) := by
  obtain ⟨rs, e1, p1⟩ := h.ev
  simp only [Va, evE, e1, p1, Option.bind_some, hl, if_true]
theorem tm_lst (h : Sts G ρ es ds) (hl : ds.length ≤ lim) : Tm G ρ (.lst es) (.list ds) := by
  obtain ⟨rs, e1, p1⟩ := h.ev
  simp only [Tm, evE, e1, p1, Option.bind_some, hl, if_true]
theorem va_blt {f : Bf} (h : Pks G ρ es ds) (hb : bfD f ds = some (.val d)) : Va G ρ (.blt f es) d := by
  obtain ⟨rs, e1, p1⟩ := h.ev
  simp only [Va, evE, e1, p1, hb, Option.bind_some]
theorem tm_blt {f : Bf} (h : Pks G ρ es ds) (hb : bfD f ds = some (.tmp d)) : Tm G ρ (.blt f es) d := by
  obtain ⟨rs, e1, p1⟩ := h.ev
  simp only [Tm, evE, e1, p1, hb, Option.bind_some]
theorem va_ife {k : Bool} (hc : Pk G ρ c (.bool k)) (ha : k = true → Va G ρ a d) (hb : k = false → Va G ρ b d) : Va G ρ (.ife c a b) d := by
  obtain ⟨r1, e1, p1⟩ := hc
  cases k with
  | true => simpa only [Va, evE, e1, p1, toBool, Option.bind_some, if_true] using ha rfl
  | false => simpa only [Va, evE, e1, p1, toBool, Option.bind_some, Bool.false_eq_true, if_false] using hb rfl
theorem va_isi {t : String} {k : Bool} (ha : Pk G ρ a x) (h : isiD x t = some k) : Va G ρ (.isi a t) (.bool k) := by
  obtain ⟨r1, e1, p1⟩ := ha
  simp only [Va, evE, e1, p1, h, Option.bind_some]
theorem va_index {n : Nat} {zs : List PyData} (ha : Pk G ρ a (.list zs)) (hb : Pk G ρ b y) (s1 : shp (.list zs) = true) (s2 : shp y = true) (h : idxOf y zs 0 = some n) : Va G ρ (.index a b) (.int (n : Nat)) := by
  obtain ⟨r1, e1, p1⟩ := ha
  obtain ⟨r2, e2, p2⟩ := hb
  simp only [Va, evE, e1, e2, p1, p2, listOf, s1, s2, h, Option.bind_some, Bool.and_self, if_true]
theorem va_rngv {k : Int} (ha : Pk G ρ a (.int k)) (h : small62 k = true) : Va G ρ (.rngv a) (.dict [(.none, .int 0), (.none, .int k)]) := by
  obtain ⟨r1, e1, p1⟩ := ha
  simp only [Va, evE, e1, p1, toInt, h, Option.bind_some, if_true]
theorem tm_sset {zs : List PyData} {ns : List Int} (ha : Pk G ρ a (.list zs)) (h : intsOf zs = some ns) (h1 : ns.length ≤ 4000) (h2 : (sortU ns).length < 64) : Tm G ρ (.sset a) (.list ((sortU ns).map .int)) := by
  obtain ⟨r1, e1, p1⟩ := ha
  simp only [Tm, evE, e1, p1, listOf, h, Option.bind_some, h1, h2, decide_true, Bool.and_self, if_true]
/-- calls of defs that change nothing -/
theorem ev_call {f : String} {fs : FnSem} {o : PyData} (hf : G.fns f = some fs) (hio : fs.io = none) (h : Sts G ρ es ds) (hn : ∀ rs, evEs G es ρ = some (rs, ρ) → locs rs = []) (hr : fs.run ds = some (d, o)) : evE G (.call f es) ρ = some (resRV fs.fresh d, ρ) := by
  obtain ⟨rs, e1, p1⟩ := h.ev
  have hl := hn rs e1
  have pk : peeks rs ρ = some ds := by
    have key : ∀ (rs : List RV) (ds : List PyData), locs rs = [] → settles G.io rs ρ = some (ds, ρ) → peeks rs ρ = some ds := fun rs => by
      induction rs with
      | nil => intro ds _ h; simp only [settles, Option.some.injEq, Prod.mk.injEq] at h; simp only [peeks, h.1]
      | cons r rs ih =>
        intro ds hl h
        cases r with
        | loc i => simp [locs] at hl
        | val d =>
          simp only [settles, settle, Option.bind_some, Option.bind_eq_some_iff] at h
          obtain ⟨⟨ds', ρ'⟩, h1, h2⟩ := h
          simp only [Option.some.injEq, Prod.mk.injEq] at h2
          obtain ⟨rfl, rfl⟩ := h2
          simp only [peeks, peek, Option.bind_some, ih ds' hl h1]
        | tmp d =>
          simp only [settles, settle, Option.bind_some, Option.bind_eq_some_iff] at h
          obtain ⟨⟨ds', ρ'⟩, h1, h2⟩ := h
          simp only [Option.some.injEq, Prod.mk.injEq] at h2
          obtain ⟨rfl, rfl⟩ := h2
          simp only [peeks, peek, Option.bind_some, ih ds' hl h1]
    exact key rs ds hl p1
  simp only [evE, hf, Option.bind_some, e1, evCall, pk, hr, hio, hl, List.isEmpty_nil, Bool.or_true, if_true]
/-- tests -/
def Cn (G : EvG) (ρ : PEnv) (o : PExpO) (k : Bool) : Prop := evC G o ρ = some (k, ρ)
theorem cn_no : Cn G ρ .no true := by simp only [Cn, evC]
theorem cn_yes {k : Bool} (ha : Pk G ρ a (.bool k)) : Cn G ρ (.yes a) k := by
  obtain ⟨r1, e1, p1⟩ := ha
  simp only [Cn, evC, e1, p1, toBool, Option.bind_some]
/-- what is walked -/
def Sc (G : EvG) (ρ : PEnv) (s : PSrc) (ds : List PyData) : Prop := evS G s ρ = some (⟨ds, none⟩, ρ)
theorem sc_lst (h : Va G ρ a (.list ds)) : Sc G ρ (.of a) ds := by
  have h : evE G a ρ = some (.val (.list ds), ρ) := h
  simp only [Sc, evS, h, Option.bind_some]
theorem sc_tup (h : Va G ρ a (.tuple ds)) : Sc G ρ (.of a) ds := by
  have h : evE G a ρ = some (.val (.tuple ds), ρ) := h
  simp only [Sc, evS, h, Option.bind_some]
theorem sc_tmp (h : Tm G ρ a (.list ds)) : Sc G ρ (.of a) ds := by
  have h : evE G a ρ = some (.tmp (.list ds), ρ) := h
  simp only [Sc, evS, h, Option.bind_some]
theorem sc_r1 {k : Int} (ha : Pk G ρ a (.int k)) (h : small62 k = true) : Sc G ρ (.r1 a) (rangeD 0 k) := by
  obtain ⟨r1, e1, p1⟩ := ha
  simp only [Sc, evS, e1, p1, toInt, h, Option.bind_some, if_true]
theorem sc_r2 {k l : Int} (ha : Pk G ρ a (.int k)) (hb : Pk G ρ b (.int l)) (h : small62 k = true) (h2 : small62 l = true) : Sc G ρ (.r2 a b) (rangeD k l) := by
  obtain ⟨r1, e1, p1⟩ := ha
  obtain ⟨r2, e2, p2⟩ := hb
  simp only [Sc, evS, e1, e2, p1, p2, toInt, h, h2, Option.bind_some, Bool.and_self, if_true]
theorem sc_r3 {k l : Int} (ha : Pk G ρ a (.int k)) (hb : Pk G ρ b (.int l)) (hc : Pk G ρ c (.int (-1))) (h : small62 k = true) (h2 : small62 l = true) : Sc G ρ (.r3 a b c) (rangeDn k l) := by
  obtain ⟨r1, e1, p1⟩ := ha
  obtain ⟨r2, e2, p2⟩ := hb
  obtain ⟨r3, e3, p3⟩ := hc
  simp only [Sc, evS, e1, e2, e3, p1, p2, p3, toInt, h, h2, Option.bind_some, Bool.and_self, decide_true, if_true]
/-- a comprehension whose turns leave the slots as they are -/
theorem tm_comp {own : List Nat} {t : PT_} {s : PSrc} {cc : PExpO} {ρ2 : PEnv} (out : PyData → List PyData) (h1 : Sc G ρ s ds) (h2 : wipeE own ρ = some ρ2)
    (ht : ∀ d, d ∈ ds → ∃ ρ3, assignT G.io t d ρ2 = some ρ3 ∧ unE own ρ3 = ρ2 ∧ ((Cn G ρ3 cc false ∧ out d = []) ∨ (Cn G ρ3 cc true ∧ ∃ v, St G ρ3 e v ∧ out d = [v]))) (hl : (ds.flatMap out).length ≤ lim) (hb : backE own ρ ρ2 = ρ) :
    Tm G ρ (.comp own t s cc e) (.list (ds.flatMap out)) := by
  have h1 : evS G s ρ = some (⟨ds, none⟩, ρ) := h1
  simp only [Tm, evE, h1, Option.bind_some, h2]
  rw [evComp_all out rfl fun d hd => ?_]
  · simp only [Option.bind_some, hl, if_true, hb]
  · obtain ⟨ρ3, g1, g2, g3 | ⟨g3, v, ⟨r, g4, g5⟩, g6⟩⟩ := ht d hd
    · obtain ⟨g3, g4⟩ := g3
      have g3 : evC G cc ρ3 = some (false, ρ3) := g3
      simp only [g1, Option.bind_some, g3, Bool.false_eq_true, if_false, g2, g4]
    · have g3 : evC G cc ρ3 = some (true, ρ3) := g3
      simp only [g1, Option.bind_some, g3, if_true, g4, g5, g2, g6]
end
theorem atI_nat {α : Type} {l : List α} {n : Nat} {x : α} (h : l[n]? = some x) : L2.atI l (n : Int) = some x := by
  have hl := (List.getElem?_eq_some_iff.mp h).1
  unfold L2.atI L2.ixN
  rw [if_pos (Int.natCast_nonneg n)]
  simp [hl]
  rw [List.getElem?_eq_getElem hl] at h
  exact Option.some.inj h
theorem flatMap_filter {α : Type} (l : List α) (p : α → Bool) (f : α → PyData) : (l.flatMap fun x => if p x then [f x] else []) = (l.filter p).map f := by
  induction l with
  | nil => rfl
  | cons a l ih =>
    rw [List.flatMap_cons, ih, List.filter_cons]
    split <;> rfl
/-- a def whose body is one return -/
theorem rt_va {G : EvG} {ρ : PEnv} {e : PExp} {d : PyData} (h : Va G ρ e d) : evSt G (.ret e) ρ = some (.ret d false, ρ) := by
  have h : evE G e ρ = some (.val d, ρ) := h
  simp only [evSt, h, Option.bind_some, retOf]
theorem rt_tm {G : EvG} {ρ : PEnv} {e : PExp} {d : PyData} (h : Tm G ρ e d) : evSt G (.ret e) ρ = some (.ret d true, ρ) := by
  have h : evE G e ρ = some (.tmp d, ρ) := h
  simp only [evSt, h, Option.bind_some, retOf]
theorem rangeD0 (n : Nat) : rangeD 0 n = (List.range n).map fun (k : Nat) => .int (k : Int) := by
  unfold rangeD
  simp
theorem mem_range0 {n : Nat} {d : PyData} (h : d ∈ rangeD 0 n) : ∃ k : Nat, k < n ∧ d = .int (k : Int) := by
  rw [rangeD0] at h
  obtain ⟨k, h1, h2⟩ := List.mem_map.mp h
  exact ⟨k, List.mem_range.mp h1, h2.symm⟩
theorem small_nat {n : Nat} (h : n ≤ 1000000) : small62 (n : Int) = true := by
  unfold small62
  rw [Bool.and_eq_true]
  exact ⟨decide_eq_true (by omega), decide_eq_true (by omega)⟩
theorem lim_ge {n : Nat} (h : n ≤ 1000000) : n ≤ lim := by unfold lim; omega
theorem flat_one {l : List PyData} {g : PyData → PyData} : l.flatMap (fun d => [g d]) = l.map g := (List.map_eq_flatMap ..).symm
/-! ### arguments of calls -/
inductive Ars (G : EvG) (ρ : PEnv) : PExps → List PyData → Prop where
  | nil : Ars G ρ .nil []
  | va {e : PExp} {r : PExps} {d : PyData} {ds : List PyData} (h : Va G ρ e d) (t : Ars G ρ r ds) : Ars G ρ (.cons e r) (d :: ds)
  | tm {e : PExp} {r : PExps} {d : PyData} {ds : List PyData} (h : Tm G ρ e d) (t : Ars G ρ r ds) : Ars G ρ (.cons e r) (d :: ds)
section
variable {G : EvG} {ρ : PEnv} {e a b c : PExp} {d d1 x y z o : PyData} {es : PExps} {ds : List PyData} {i : Nat} {f : String} {fs : FnSem}
theorem Ars.ev (h : Ars G ρ es ds) : ∃ rs, evEs G es ρ = some (rs, ρ) ∧ locs rs = [] ∧ ∀ ρ', peeks rs ρ' = some ds := by
  induction h with
  | nil => exact ⟨[], by simp only [evEs], rfl, fun _ => rfl⟩
  | @va e r d ds h t ih =>
    obtain ⟨rs, e2, l, p2⟩ := ih
    have h : evE G e ρ = some (.val d, ρ) := h
    exact ⟨.val d :: rs, by simp only [evEs, h, e2, Option.bind_some], l, fun ρ' => by simp only [peeks, peek, p2, Option.bind_some]⟩
  | @tm e r d ds h t ih =>
    obtain ⟨rs, e2, l, p2⟩ := ih
    have h : evE G e ρ = some (.tmp d, ρ) := h
    exact ⟨.tmp d :: rs, by simp only [evEs, h, e2, Option.bind_some], l, fun ρ' => by simp only [peeks, peek, p2, Option.bind_some]⟩
theorem ev_callA (hf : G.fns f = some fs) (hio : fs.io = none) (h : Ars G ρ es ds) (hr : fs.run ds = some (d, o)) : evE G (.call f es) ρ = some (resRV fs.fresh d, ρ) := by
  obtain ⟨rs, e1, l, p⟩ := h.ev
  simp only [evE, hf, e1, evCall, p, hr, hio, l, List.isEmpty_nil, Bool.or_true, if_true, Option.bind_some]
theorem va_callA (hf : G.fns f = some fs) (hio : fs.io = none) (hfr : fs.fresh = false) (h : Ars G ρ es ds) (hr : fs.run ds = some (d, o)) : Va G ρ (.call f es) d := by
  have := ev_callA hf hio h hr
  rw [hfr] at this
  exact this
theorem ev_call_lend (hf : G.fns f = some fs) (hio : fs.io = none) (hi : ρ[i]? = some (.own d1)) (hG : G.io ≠ some i) (hx : fixd d = false) (h : Ars G ρ es ds) (hr : fs.run (d1 :: ds) = some (d, o)) : evE G (.call f (.cons (.v i) es)) ρ = some (resRV fs.fresh d, ρ.set i (.val d1)) := by
  obtain ⟨rs, e1, l, p⟩ := h.ev
  have h1 : evE G (.v i) ρ = some (.loc i, ρ) := by simp only [evE, hi]
  have p2 : peeks (.loc i :: rs) ρ = some (d1 :: ds) := by simp only [peeks, peek, hi, p, Option.bind_some]
  simp [evE, hf, evEs, h1, e1, evCall, p2, hr, hio, locs, l, hx, lendAll, hi, hG]
theorem va_call_fix (hf : G.fns f = some fs) (hio : fs.io = none) (hfr : fs.fresh = false) (hi : ρ[i]? = some (.own d1)) (hx : fixd d = true) (h : Ars G ρ es ds) (hr : fs.run (d1 :: ds) = some (d, o)) : Va G ρ (.call f (.cons (.v i) es)) d := by
  obtain ⟨rs, e1, l, p⟩ := h.ev
  have h1 : evE G (.v i) ρ = some (.loc i, ρ) := by simp only [evE, hi]
  have p2 : peeks (.loc i :: rs) ρ = some (d1 :: ds) := by simp only [peeks, peek, hi, p, Option.bind_some]
  simp [Va, evE, hf, evEs, hi, e1, evCall, p2, hr, hio, hx, resRV, hfr]
theorem ev_call_io (hf : G.fns f = some fs) (hio : fs.io = some 0) (hi : ρ[i]? = some (.own d1)) (h : Ars G ρ es ds) (hr : fs.run (d1 :: ds) = some (d, o)) : evE G (.call f (.cons (.v i) es)) ρ = some (resRV fs.fresh d, ρ.set i (.own o)) := by
  obtain ⟨rs, e1, l, p⟩ := h.ev
  have h1 : evE G (.v i) ρ = some (.loc i, ρ) := by simp only [evE, hi]
  have p2 : peeks (.loc i :: rs) ρ = some (d1 :: ds) := by simp only [peeks, peek, hi, p, Option.bind_some]
  simp [evE, hf, evEs, h1, e1, evCall, p2, hr, hio, l, hi]
/-! ### statements -/
theorem nx_asg {ρ1 : PEnv} (h : evE G e ρ = some (.val d, ρ1)) (hs : setV G.io ρ1 i d = some (ρ1.set i (.val d))) : evSt G (.asg i e) ρ = some (.next, ρ1.set i (.val d)) := by
  simp only [evSt, h, settle, hs, Option.bind_some]
theorem nx_asg_tm {ρ1 : PEnv} (h : evE G e ρ = some (.tmp d, ρ1)) (hs : setO G.io ρ1 i d = some (ρ1.set i (.own d))) : evSt G (.asg i e) ρ = some (.next, ρ1.set i (.own d)) := by
  simp only [evSt, h, hs, Option.bind_some]
theorem nx_asgT {is : List Nat} {ρ1 ρ2 : PEnv} {ds : List PyData} (h : evE G e ρ = some (.val (.tuple ds), ρ1)) (hs : setVs G.io ρ1 is ds = some ρ2) : evSt G (.asgT is e) ρ = some (.next, ρ2) := by
  simp only [evSt, h, settle, hs, Option.bind_some]
theorem nx_if {ρ2 : PEnv} {c : PExp} {a b : PStms} {k : Bool} {fl : Flw} (h : Pk G ρ c (.bool k)) (ha : k = true → evSs G a ρ = some (fl, ρ2)) (hb : k = false → evSs G b ρ = some (fl, ρ2)) : evSt G (.ite c a b) ρ = some (fl, ρ2) := by
  obtain ⟨r1, e1, p1⟩ := h
  cases k with
  | true => simpa only [evSt, e1, p1, toBool, Option.bind_some, if_true] using ha rfl
  | false => simpa only [evSt, e1, p1, toBool, Option.bind_some, Bool.false_eq_true, if_false] using hb rfl
theorem nx_for {ρ1 ρ2 : PEnv} {t : PT_} {s : PSrc} {b : PStms} {kill : List Nat} {ds : List PyData} {fl : Flw} (h : Sc G ρ s ds) (hk : killS G.io kill ρ = some ρ1) (hf : evFor ⟨ds, none⟩ (fun d ρ2 => (assignT G.io t d ρ2).bind fun ρ3 => (evSs G b ρ3).bind (turnK G.io kill)) ds ρ1 = some (fl, ρ2)) : evSt G (.for_ t s b kill) ρ = some (fl, ρ2) := by
  have h : evS G s ρ = some (⟨ds, none⟩, ρ) := h
  simp only [evSt, h, given, hk, hf, Option.bind_some]
/-- a turn that goes on -/
theorem turn_next {G : EvG} {t : PT_} {b : PStms} {kill : List Nat} {d : PyData} {ρ ρ3 ρ4 ρ5 : PEnv} (h1 : assignT G.io t d ρ = some ρ3) (h2 : evSs G b ρ3 = some (.next, ρ4)) (h3 : killS G.io kill ρ4 = some ρ5) :
    ((assignT G.io t d ρ).bind fun ρ3 => (evSs G b ρ3).bind (turnK G.io kill)) = some (.next, ρ5) := by
  simp only [h1, h2, turnK, h3, Option.bind_some]
theorem tm_comp' {own : List Nat} {t : PT_} {s : PSrc} {cc : PExpO} {ρ2 : PEnv} {X : List PyData} (out : PyData → List PyData) (h1 : Sc G ρ s ds) (h2 : wipeE own ρ = some ρ2)
    (ht : ∀ d, d ∈ ds → ∃ ρ3, assignT G.io t d ρ2 = some ρ3 ∧ unE own ρ3 = ρ2 ∧ ((Cn G ρ3 cc false ∧ out d = []) ∨ (Cn G ρ3 cc true ∧ ∃ v, St G ρ3 e v ∧ out d = [v]))) (hb : backE own ρ ρ2 = ρ) (hX : ds.flatMap out = X) (hl : X.length ≤ lim) :
    Tm G ρ (.comp own t s cc e) (.list X) := by
  subst hX
  exact tm_comp out h1 h2 ht hl hb
theorem evSs_nil : evSs G .nil ρ = some (.next, ρ) := by simp only [evSs]
end
/-- a loop over coded things, by its steps -/
theorem evFor_enc {α β : Type} {g : Items} {f : PyData → PEnv → Option (Flw × PEnv)} (enc : β → PyData) (E : α → PEnv) (step : α → β → α) (ok : α → Prop) (hg : g.at_ = none) :
    ∀ {l : List β} {a : α}, ok a → (∀ b a, b ∈ l → ok a → f (enc b) (E a) = some (.next, E (step a b)) ∧ ok (step a b)) → evFor g f (l.map enc) (E a) = some (.next, E (l.foldl step a)) ∧ ok (l.foldl step a)
  | [], a, h0, _ => by
    have : guardOk g (E a) = true := by simp only [guardOk, hg]
    simp only [List.map_nil, evFor, this, if_true, List.foldl_nil]
    exact ⟨trivial, h0⟩
  | b :: l, a, h0, h => by
    have : guardOk g (E a) = true := by simp only [guardOk, hg]
    obtain ⟨h1, h2⟩ := h b a List.mem_cons_self h0
    simp only [List.map_cons, evFor, this, if_true, h1, Option.bind_some, List.foldl_cons]
    exact evFor_enc enc E step ok hg h2 fun b a hd => h b a (List.mem_cons_of_mem _ hd)
def slot (own : Bool) (d : PyData) : PSlot := if own then .own d else .val d
end Pz
end
section
set_option Elab.async false
set_option linter.all false
set_option maxRecDepth 100000
namespace Pz
open PySem
/-! ### goal-directed rules: what is said of the turns, the slots are found -/
section
variable {G : EvG} {ρ ρ1 ρ2 : PEnv} {e a b c : PExp} {d v x y z : PyData} {es : PExps} {ds : List PyData} {i : Nat} {β : Type}
/-- what is walked, with the slot that owns it -/
def Sg (G : EvG) (ρ : PEnv) (s : PSrc) (g : Items) : Prop := evS G s ρ = some (g, ρ)
theorem Sc.g {s : PSrc} (h : Sc G ρ s ds) : Sg G ρ s ⟨ds, none⟩ := h
theorem sg_own (h : ρ[i]? = some (.own (.list ds))) : Sg G ρ (.of (.v i)) ⟨ds, some i⟩ := by
  have e1 : evE G (.v i) ρ = some (.loc i, ρ) := by simp only [evE, h]
  simp only [Sg, evS, e1, Option.bind_some, h]
theorem guard_own (h : ρ[i]? = some (.own (.list ds))) : guardOk ⟨ds, some i⟩ ρ = true := by
  simp only [guardOk, h, sameL_refl]
theorem evComp_enc {g : Items} {f : PyData → PEnv → Option (List PyData × PEnv)} {ρ : PEnv} (enc : β → PyData) (out : β → List PyData) (hg : guardOk g ρ = true) : ∀ {l : List β}, (∀ b, b ∈ l → f (enc b) ρ = some (out b, ρ)) → evComp g f (l.map enc) ρ = some (l.flatMap out, ρ)
  | [], _ => by simp only [List.map_nil, evComp, hg, if_true, List.flatMap_nil]
  | d :: ds, h => by
    simp only [List.map_cons, evComp, hg, if_true, h d List.mem_cons_self, Option.bind_some, evComp_enc enc out hg fun d hd => h d (List.mem_cons_of_mem _ hd), List.flatMap_cons]
/-- one turn of a comprehension -/
def Tn (G : EvG) (own : List Nat) (t : PT_) (cc : PExpO) (e : PExp) (ρ2 : PEnv) (d : PyData) (os : List PyData) : Prop :=
  ∃ ρ3, assignT G.io t d ρ2 = some ρ3 ∧ unE own ρ3 = ρ2 ∧ ∃ k, Cn G ρ3 cc k ∧ ((k = false ∧ os = []) ∨ (k = true ∧ ∃ v, St G ρ3 e v ∧ os = [v]))
theorem Tn.ev {own : List Nat} {t : PT_} {cc : PExpO} {os : List PyData} (h : Tn G own t cc e ρ2 d os) :
    ((assignT G.io t d ρ2).bind fun ρ3 => (evC G cc ρ3).bind fun k => if k.1 then (evE G e k.2).bind fun r => (settle G.io r.1 r.2).bind fun q => some ([q.1], unE own q.2) else some ([], unE own k.2)) = some (os, ρ2) := by
  obtain ⟨ρ3, g1, g2, k, g3, ⟨rfl, g4⟩ | ⟨rfl, v, ⟨r, g4, g5⟩, g6⟩⟩ := h
  · have g3 : evC G cc ρ3 = some (false, ρ3) := g3
    simp only [g1, Option.bind_some, g3, Bool.false_eq_true, if_false, g2, g4]
  · have g3 : evC G cc ρ3 = some (true, ρ3) := g3
    simp only [g1, Option.bind_some, g3, if_true, g4, g5, g2, g6]
theorem tn_map {own : List Nat} {t : PT_} {ρ3 : PEnv} (h1 : assignT G.io t d ρ2 = some ρ3) (h2 : unE own ρ3 = ρ2) (h : St G ρ3 e v) : Tn G own t .no e ρ2 d [v] := ⟨ρ3, h1, h2, true, cn_no, .inr ⟨rfl, v, h, rfl⟩⟩
theorem tn_if {own : List Nat} {t : PT_} {ρ3 : PEnv} {k : Bool} (h1 : assignT G.io t d ρ2 = some ρ3) (h2 : unE own ρ3 = ρ2) (hc : Pk G ρ3 c (.bool k)) (h : k = true → St G ρ3 e v) : Tn G own t (.yes c) e ρ2 d (if k then [v] else []) := by
  refine ⟨ρ3, h1, h2, k, cn_yes hc, ?_⟩
  cases k with
  | false => exact .inl ⟨rfl, rfl⟩
  | true => exact .inr ⟨rfl, v, h rfl, rfl⟩
theorem tm_cg {own : List Nat} {t : PT_} {s : PSrc} {cc : PExpO} {X : List PyData} {at_ : Option Nat} (enc : β → PyData) (l : List β) (out : β → List PyData) (h1 : Sg G ρ s ⟨l.map enc, at_⟩) (h2 : wipeE own ρ = some ρ2)
    (hg : guardOk ⟨l.map enc, at_⟩ ρ2 = true) (ht : ∀ b, b ∈ l → Tn G own t cc e ρ2 (enc b) (out b)) (hb : backE own ρ ρ2 = ρ) (hX : l.flatMap out = X) (hl : X.length ≤ lim) :
    Tm G ρ (.comp own t s cc e) (.list X) := by
  subst hX
  have h1 : evS G s ρ = some (⟨l.map enc, at_⟩, ρ) := h1
  simp only [Tm, evE, h1, Option.bind_some, h2]
  rw [evComp_enc enc out hg fun b hb => (ht b hb).ev]
  simp only [Option.bind_some, hl, if_true, hb]
/-- without a test -/
theorem tm_map {own : List Nat} {t : PT_} {s : PSrc} (enc : β → PyData) (l : List β) (val : β → PyData) (h1 : Sc G ρ s (l.map enc)) (h2 : wipeE own ρ = some ρ2)
    (ht : ∀ b, b ∈ l → Tn G own t .no e ρ2 (enc b) [val b]) (hb : backE own ρ ρ2 = ρ) (hl : l.length ≤ 1000000) : Tm G ρ (.comp own t s .no e) (.list (l.map val)) :=
  tm_cg enc l (fun b => [val b]) h1.g h2 rfl ht hb (List.map_eq_flatMap ..).symm (lim_ge (by rw [List.length_map]; exact hl))
/-- with a test -/
theorem filter_flat (l : List β) (p : β → Bool) (f : β → PyData) : (l.flatMap fun x => if p x then [f x] else []) = (l.filter p).map f := by
  induction l with
  | nil => rfl
  | cons a l ih =>
    rw [List.flatMap_cons, ih, List.filter_cons]
    split <;> rfl
theorem tm_filter {own : List Nat} {t : PT_} {s : PSrc} (enc : β → PyData) (l : List β) (k : β → Bool) (val : β → PyData) (h1 : Sc G ρ s (l.map enc)) (h2 : wipeE own ρ = some ρ2)
    (ht : ∀ b, b ∈ l → Tn G own t (.yes c) e ρ2 (enc b) (if k b then [val b] else [])) (hb : backE own ρ ρ2 = ρ) (hl : l.length ≤ 1000000) : Tm G ρ (.comp own t s (.yes c) e) (.list ((l.filter k).map val)) :=
  tm_cg enc l (fun b => if k b then [val b] else []) h1.g h2 rfl ht hb (filter_flat l k val) (lim_ge (by rw [List.length_map]; exact Nat.le_trans (List.length_filter_le _ _) hl))
theorem sc_rng {n : Nat} (ha : Pk G ρ a (.int (n : Int))) (h : n ≤ 1000000) : Sc G ρ (.r1 a) ((List.range n).map fun k => .int ((k : Nat) : Int)) := by
  rw [← rangeD0]
  exact sc_r1 ha (small_nat h)
/-! and, or -/
inductive Ds (G : EvG) (ρ : PEnv) : PExps → Bool → Prop where
  | one {e : PExp} {k : Bool} (h : Pk G ρ e (.bool k)) : Ds G ρ (.cons e .nil) k
  | yes {e e' : PExp} {r : PExps} (h : Pk G ρ e (.bool true)) : Ds G ρ (.cons e (.cons e' r)) true
  | no {e e' : PExp} {r : PExps} {k : Bool} (h : Pk G ρ e (.bool false)) (t : Ds G ρ (.cons e' r) k) : Ds G ρ (.cons e (.cons e' r)) k
theorem ds_cons {e' : PExp} {r : PExps} {k l : Bool} (h : Pk G ρ e (.bool k)) (t : k = false → Ds G ρ (.cons e' r) l) : Ds G ρ (.cons e (.cons e' r)) (k || l) := by
  cases k with
  | true => exact .yes h
  | false => exact .no h (t rfl)
theorem va_or {k : Bool} (h : Ds G ρ es k) : Va G ρ (.or es) (.bool k) := by
  induction h with
  | one h =>
    obtain ⟨r, e1, p1⟩ := h
    simp only [Va, evE, evOr, e1, p1, toBool, Option.bind_some]
  | yes h =>
    obtain ⟨r, e1, p1⟩ := h
    simp only [Va, evE, evOr, e1, p1, toBool, Option.bind_some, if_true]
  | no h t ih =>
    obtain ⟨r, e1, p1⟩ := h
    simp only [Va, evE] at ih
    simp only [Va, evE, evOr, e1, p1, toBool, Option.bind_some, Bool.false_eq_true, if_false, ih]
inductive Cj (G : EvG) (ρ : PEnv) : PExps → Bool → Prop where
  | one {e : PExp} {k : Bool} (h : Pk G ρ e (.bool k)) : Cj G ρ (.cons e .nil) k
  | no {e e' : PExp} {r : PExps} (h : Pk G ρ e (.bool false)) : Cj G ρ (.cons e (.cons e' r)) false
  | yes {e e' : PExp} {r : PExps} {k : Bool} (h : Pk G ρ e (.bool true)) (t : Cj G ρ (.cons e' r) k) : Cj G ρ (.cons e (.cons e' r)) k
theorem cj_cons {e' : PExp} {r : PExps} {k l : Bool} (h : Pk G ρ e (.bool k)) (t : k = true → Cj G ρ (.cons e' r) l) : Cj G ρ (.cons e (.cons e' r)) (k && l) := by
  cases k with
  | true => exact .yes h (t rfl)
  | false => exact .no h
theorem va_and {k : Bool} (h : Cj G ρ es k) : Va G ρ (.and es) (.bool k) := by
  induction h with
  | one h =>
    obtain ⟨r, e1, p1⟩ := h
    simp only [Va, evE, evAnd, e1, p1, toBool, Option.bind_some]
  | no h =>
    obtain ⟨r, e1, p1⟩ := h
    simp only [Va, evE, evAnd, e1, p1, toBool, Option.bind_some, Bool.false_eq_true, if_false]
  | yes h t ih =>
    obtain ⟨r, e1, p1⟩ := h
    simp only [Va, evE] at ih
    simp only [Va, evE, evAnd, e1, p1, toBool, Option.bind_some, if_true, ih]
/-! ### blocks -/
def Bk (G : EvG) (b : PStms) (ρ : PEnv) (fl : Flw) (ρ' : PEnv) : Prop := evSs G b ρ = some (fl, ρ')
/-- a block that gives a value -/
def Rt (G : EvG) (b : PStms) (ρ : PEnv) (v : PyData) : Prop := ∃ fr ρ', Bk G b ρ (.ret v fr) ρ'
variable {s : PStm} {r : PStms} {fl : Flw} {bl bl' : PStms}
theorem Bk.nil : Bk G .nil ρ .next ρ := by simp only [Bk, evSs]
theorem Bk.cons (h : evSt G s ρ = some (.next, ρ1)) (t : Bk G r ρ1 fl ρ2) : Bk G (.cons s r) ρ fl ρ2 := by
  have t : evSs G r ρ1 = some (fl, ρ2) := t
  simp only [Bk, evSs, h, Option.bind_some, t]
theorem Bk.end {b' : Bool} (h : evSt G s ρ = some (.ret v b', ρ1)) : Bk G (.cons s r) ρ (.ret v b') ρ1 := by
  simp only [Bk, evSs, h, Option.bind_some]
theorem Rt.cons (h : evSt G s ρ = some (.next, ρ1)) (t : Rt G r ρ1 v) : Rt G (.cons s r) ρ v := by
  obtain ⟨fr, ρ', t⟩ := t
  exact ⟨fr, ρ', Bk.cons h t⟩
theorem Rt.ret (h : ∃ fr ρ', evSt G s ρ = some (.ret v fr, ρ')) : Rt G (.cons s r) ρ v := by
  obtain ⟨fr, ρ', t⟩ := h
  exact ⟨fr, ρ', Bk.end t⟩
theorem Rt.va (h : Va G ρ e v) : Rt G (.cons (.ret e) r) ρ v := .ret ⟨_, _, rt_va h⟩
theorem Rt.tm (h : Tm G ρ e v) : Rt G (.cons (.ret e) r) ρ v := .ret ⟨_, _, rt_tm h⟩
theorem Rt.own (hG : G.io ≠ some i) (h : ρ[i]? = some (.own v)) : Rt G (.cons (.ret (.v i)) r) ρ v := by
  have e1 : evE G (.v i) ρ = some (.loc i, ρ) := by simp only [evE, h]
  exact .ret ⟨true, ρ, by simp only [evSt, e1, Option.bind_some, retOf, hG, if_false, h]⟩
theorem Rt.run {D : DefI} {ds : List PyData} (e : Rt G D.body (startE D.n none ds) v) (hl : ds.length = D.np := by rfl) (hG : G.io = none := by rfl) (hf : D.fresh = false := by rfl) : (semOf G D).run ds = some (v, .none) := by
  obtain ⟨fr, ρ', e⟩ := e
  exact run_plain hl hG hf e
/-- a test that does not hold, and nothing behind else -/
theorem st_skip (h : Pk G ρ c (.bool false)) : evSt G (.ite c bl .nil) ρ = some (.next, ρ) := nx_if h (fun h => nomatch h) fun _ => evSs_nil
theorem st_if {k : Bool} (h : Pk G ρ c (.bool k)) (ha : k = true → Bk G bl ρ fl ρ2) (hb : k = false → Bk G bl' ρ fl ρ2) : evSt G (.ite c bl bl') ρ = some (fl, ρ2) := nx_if h ha hb
theorem Rt.ite_ret (h : Pk G ρ c (.bool true)) (ha : Rt G bl ρ v) : Rt G (.cons (.ite c bl bl') r) ρ v := by
  obtain ⟨fr, ρ', t⟩ := ha
  exact .ret ⟨fr, ρ', nx_if h (fun _ => t) fun h => nomatch h⟩
theorem st_va (h : Va G ρ e d) (hs : setV G.io ρ i d = some ρ1) : evSt G (.asg i e) ρ = some (.next, ρ1) := by
  have h : evE G e ρ = some (.val d, ρ) := h
  simp only [evSt, h, settle, hs, Option.bind_some]
theorem st_tm (h : Tm G ρ e d) (hs : setO G.io ρ i d = some ρ1) : evSt G (.asg i e) ρ = some (.next, ρ1) := by
  have h : evE G e ρ = some (.tmp d, ρ) := h
  simp only [evSt, h, hs, Option.bind_some]
theorem st_tup {is : List Nat} (h : Va G ρ e (.tuple ds)) (hs : setVs G.io ρ is ds = some ρ1) : evSt G (.asgT is e) ρ = some (.next, ρ1) := by
  have h : evE G e ρ = some (.val (.tuple ds), ρ) := h
  simp only [evSt, h, settle, hs, Option.bind_some]
theorem st_app (hi : ρ[i]? = some (.own (.list ds))) (h : St G ρ e d) (hl : ds.length < 1000000) : evSt G (.ex (.app i e)) ρ = some (.next, ρ.set i (.own (.list (ds ++ [d])))) := by
  obtain ⟨r, e1, p1⟩ := h
  have : ds.length < lim := Nat.lt_of_lt_of_le hl (lim_ge (Nat.le_refl _))
  simp only [evSt, evE, hi, e1, p1, Option.bind_some, this, if_true]
theorem st_ext {xs : List PyData} (hi : ρ[i]? = some (.own (.list ds))) (h : St G ρ e (.list xs)) (hl : ds.length + xs.length ≤ 1000000) : evSt G (.ex (.ext i e)) ρ = some (.next, ρ.set i (.own (.list (ds ++ xs)))) := by
  obtain ⟨r, e1, p1⟩ := h
  have := lim_ge hl
  simp only [evSt, evE, hi, e1, p1, Option.bind_some, this, if_true]
/-- a loop whose turns go on -/
theorem st_for {α : Type} {t : PT_} {s : PSrc} {kill : List Nat} (enc : β → PyData) (l : List β) (E : α → PEnv) (step : α → β → α) (ok : α → Prop) (a0 : α) (h : Sc G ρ s (l.map enc)) (hk : killS G.io kill ρ = some (E a0)) (h0 : ok a0)
    (ht : ∀ b a, b ∈ l → ok a → ∃ ρ3 ρ4, assignT G.io t (enc b) (E a) = some ρ3 ∧ Bk G bl ρ3 .next ρ4 ∧ killS G.io kill ρ4 = some (E (step a b)) ∧ ok (step a b)) : evSt G (.for_ t s bl kill) ρ = some (.next, E (l.foldl step a0)) := by
  refine nx_for h hk (evFor_enc enc E step ok rfl h0 fun b a hb ha => ?_).1
  obtain ⟨ρ3, ρ4, h1, h2, h3, h4⟩ := ht b a hb ha
  exact ⟨turn_next h1 h2 h3, h4⟩
theorem foldl_ok {α : Type} {step : α → β → α} {ok : α → Prop} : ∀ {l : List β} {a0 : α}, ok a0 → (∀ b a, b ∈ l → ok a → ok (step a b)) → ok (l.foldl step a0)
  | [], _, h0, _ => h0
  | b :: l, a, h0, h => by
    rw [List.foldl_cons]
    exact foldl_ok (h b a List.mem_cons_self h0) fun b a hb => h b a (List.mem_cons_of_mem _ hb)
theorem va_tupl (h : Pk G ρ e (.list ds)) : Va G ρ (.blt .tuple (.cons e .nil)) (.tuple ds) := va_blt (.cons h .nil) rfl
theorem va_lenL (h : Pk G ρ e (.list ds)) : Va G ρ (.blt .len (.cons e .nil)) (.int (ds.length : Nat)) := va_blt (.cons h .nil) rfl
theorem va_lenT (h : Pk G ρ e (.tuple ds)) : Va G ρ (.blt .len (.cons e .nil)) (.int (ds.length : Nat)) := va_blt (.cons h .nil) rfl
theorem bools_map {l : List β} (f : β → Bool) : boolsOf (l.map fun b => .bool (f b)) = some (l.map f) := by
  induction l with
  | nil => rfl
  | cons a l ih => simp only [List.map_cons, boolsOf, ih, Option.map_some]
theorem va_allB {l : List β} {f : β → Bool} (h : Pk G ρ e (.list (l.map fun b => .bool (f b)))) : Va G ρ (.blt .all (.cons e .nil)) (.bool (l.all f)) := by
  refine va_blt (.cons h .nil) ?_
  simp only [bfD, bools_map, Option.map_some, List.all_map]
  rfl
theorem va_add {i j : Int} (ha : Pk G ρ a (.int i)) (hb : Pk G ρ b (.int j)) : Va G ρ (.bin .add a b) (.int (i + j)) := va_bin ha hb rfl
theorem va_sub {i j : Int} (ha : Pk G ρ a (.int i)) (hb : Pk G ρ b (.int j)) : Va G ρ (.bin .sub a b) (.int (i - j)) := va_bin ha hb rfl
theorem va_addT {xs ys : List PyData} (ha : Pk G ρ a (.tuple xs)) (hb : Pk G ρ b (.tuple ys)) (hl : xs.length + ys.length ≤ 1000000) : Va G ρ (.bin .add a b) (.tuple (xs ++ ys)) := va_bin ha hb (by simp only [bopD, lim_ge hl, if_true])
theorem tm_addL {xs ys : List PyData} (ha : Pk G ρ a (.list xs)) (hb : Pk G ρ b (.list ys)) (hl : xs.length + ys.length ≤ 1000000) : Tm G ρ (.bin .add a b) (.list (xs ++ ys)) := tm_bin ha hb (by simp only [bopD, lim_ge hl, if_true])
/-! slots of which it is not known whether they own -/
theorem pk_slot {o : Bool} (h : ρ[i]? = some (slot o d)) : Pk G ρ (.v i) d := by
  cases o with
  | true => exact pk_own h
  | false => exact (va_v h).pk
theorem Rt.slot {o : Bool} (hG : G.io ≠ some i) (h : ρ[i]? = some (slot o v)) : Rt G (.cons (.ret (.v i)) r) ρ v := by
  cases o with
  | true => exact Rt.own hG h
  | false => exact Rt.va (va_v h)
theorem set_same : ∀ {ρ : PEnv} {i : Nat} {x : PSlot}, ρ[i]? = some x → ρ.set i x = ρ
  | [], _, _, h => by simp at h
  | y :: ρ, 0, x, h => by simp at h; rw [List.set_cons_zero, h]
  | y :: ρ, i + 1, x, h => by simp at h; rw [List.set_cons_succ, set_same h]
theorem ev_call_slot {f : String} {fs : FnSem} {o : Bool} {d1 out : PyData} (hf : G.fns f = some fs) (hio : fs.io = none) (hi : ρ[i]? = some (slot o d1)) (hG : G.io ≠ some i) (hx : fixd d = false) (h : Ars G ρ es ds) (hr : fs.run (d1 :: ds) = some (d, out)) : evE G (.call f (.cons (.v i) es)) ρ = some (resRV fs.fresh d, ρ.set i (.val d1)) := by
  cases o with
  | true => exact ev_call_lend hf hio hi hG hx h hr
  | false =>
    have hi : ρ[i]? = some (.val d1) := hi
    rw [set_same hi]
    exact ev_callA hf hio (.va (va_v hi) h) hr
theorem st_move {k : Nat} (h : ρ[k]? = some (.own d)) (hG : G.io ≠ some k) (hs : setV G.io (ρ.set k (.val d)) i d = some ρ1) : evSt G (.asg i (.v k)) ρ = some (.next, ρ1) := by
  have e1 : evE G (.v k) ρ = some (.loc k, ρ) := by simp only [evE, h]
  simp only [evSt, e1, Option.bind_some, settle, h, hG, if_false, hs]
/-- a loop by what has been gone through -/
theorem evFor_pre {g : Items} {f : PyData → PEnv → Option (Flw × PEnv)} (enc : β → PyData) (E : List β → PEnv) (hg : g.at_ = none) :
    ∀ (suf pre : List β), (∀ p b q, pre ++ suf = p ++ b :: q → f (enc b) (E p) = some (.next, E (p ++ [b]))) → evFor g f (suf.map enc) (E pre) = some (.next, E (pre ++ suf))
  | [], pre, _ => by
    have : guardOk g (E pre) = true := by simp only [guardOk, hg]
    simp only [List.map_nil, evFor, this, if_true, List.append_nil]
  | b :: suf, pre, h => by
    have : guardOk g (E pre) = true := by simp only [guardOk, hg]
    have e : pre ++ b :: suf = (pre ++ [b]) ++ suf := by rw [List.append_assoc]; rfl
    simp only [List.map_cons, evFor, this, if_true, h pre b suf rfl, Option.bind_some]
    rw [e]
    exact evFor_pre enc E hg suf (pre ++ [b]) fun p b' q hp => h p b' q (by rw [e]; exact hp)
theorem st_forP {t : PT_} {s : PSrc} {kill : List Nat} (enc : β → PyData) (l : List β) (E : List β → PEnv) (h : Sc G ρ s (l.map enc)) (hk : killS G.io kill ρ = some (E []))
    (ht : ∀ p b q, l = p ++ b :: q → ∃ ρ3 ρ4, assignT G.io t (enc b) (E p) = some ρ3 ∧ Bk G bl ρ3 .next ρ4 ∧ killS G.io kill ρ4 = some (E (p ++ [b]))) : evSt G (.for_ t s bl kill) ρ = some (.next, E l) := by
  refine nx_for h hk ?_
  have := evFor_pre (g := ⟨l.map enc, none⟩) (f := fun d ρ2 => (assignT G.io t d ρ2).bind fun ρ3 => (evSs G bl ρ3).bind (turnK G.io kill)) enc E rfl l [] fun p b q hp => ?_
  · exact this
  · obtain ⟨ρ3, ρ4, h1, h2, h3⟩ := ht p b q hp
    exact turn_next h1 h2 h3
theorem Bk.one (h : evSt G s ρ = some (.next, ρ1)) : Bk G (.cons s .nil) ρ .next ρ1 := Bk.cons h Bk.nil
/-! two loops in one comprehension -/
def Tn2 (G : EvG) (own own2 : List Nat) (t : PT_) (cc : PExpO) (t2 : PT_) (s2 : PSrc) (c2 : PExpO) (e : PExp) (ρ2 : PEnv) (d : PyData) (os : List PyData) : Prop :=
  ∃ ρ3, assignT G.io t d ρ2 = some ρ3 ∧ ∃ k, Cn G ρ3 cc k ∧ ((k = false ∧ os = [] ∧ unE own ρ3 = ρ2) ∨ (k = true ∧ ∃ g ρ4, Sg G ρ3 s2 g ∧ unE own2 ρ3 = ρ4 ∧ unE own ρ4 = ρ2 ∧
    evComp g (fun d' ρ4 => (assignT G.io t2 d' ρ4).bind fun ρ5 => (evC G c2 ρ5).bind fun k2 => if k2.1 then (evE G e k2.2).bind fun r => (settle G.io r.1 r.2).bind fun q => some ([q.1], unE own2 q.2) else some ([], unE own2 k2.2)) g.ds ρ4 = some (os, ρ4)))
theorem Tn2.ev {own own2 : List Nat} {t t2 : PT_} {cc c2 : PExpO} {s2 : PSrc} {os : List PyData} (h : Tn2 G own own2 t cc t2 s2 c2 e ρ2 d os) :
    ((assignT G.io t d ρ2).bind fun ρ3 => (evC G cc ρ3).bind fun k => if k.1 then
          (evS G s2 k.2).bind fun p2 => (evComp p2.1 (fun d' ρ4 => (assignT G.io t2 d' ρ4).bind fun ρ5 => (evC G c2 ρ5).bind fun k2 => if k2.1 then (evE G e k2.2).bind fun r => (settle G.io r.1 r.2).bind fun q => some ([q.1], unE own2 q.2) else some ([], unE own2 k2.2)) p2.1.ds (unE own2 p2.2)).bind fun q => some (q.1, unE own q.2)
        else some ([], unE own k.2)) = some (os, ρ2) := by
  obtain ⟨ρ3, g1, k, g3, ⟨rfl, rfl, g4⟩ | ⟨rfl, g, ρ4, g4, g5, g6, g7⟩⟩ := h
  · have g3 : evC G cc ρ3 = some (false, ρ3) := g3
    simp only [g1, Option.bind_some, g3, Bool.false_eq_true, if_false, g4]
  · have g3 : evC G cc ρ3 = some (true, ρ3) := g3
    have g4 : evS G s2 ρ3 = some (g, ρ3) := g4
    simp only [g1, Option.bind_some, g3, if_true, g4, g5, g7, g6]
theorem tn2_in {γ : Type} {own own2 : List Nat} {t t2 : PT_} {cc c2 : PExpO} {s2 : PSrc} {ρ3 ρ4 : PEnv} {at2 : Option Nat} {k : Bool} (enc2 : γ → PyData) (l2 : List γ) (out2 : γ → List PyData) (h1 : assignT G.io t d ρ2 = some ρ3) (hc : Cn G ρ3 cc k) (h3 : unE own ρ3 = ρ2) (h4 : unE own2 ρ3 = ρ4) (h5 : unE own ρ4 = ρ2)
    (hs : k = true → Sg G ρ3 s2 ⟨l2.map enc2, at2⟩) (hg : guardOk ⟨l2.map enc2, at2⟩ ρ4 = true) (ht : ∀ b, b ∈ l2 → k = true → Tn G own2 t2 c2 e ρ4 (enc2 b) (out2 b)) : Tn2 G own own2 t cc t2 s2 c2 e ρ2 d (if k then l2.flatMap out2 else []) := by
  refine ⟨ρ3, h1, k, hc, ?_⟩
  cases k with
  | false => exact .inl ⟨rfl, rfl, h3⟩
  | true => exact .inr ⟨rfl, _, ρ4, hs rfl, h4, h5, evComp_enc enc2 out2 hg fun b hb => (ht b hb rfl).ev⟩
theorem tm_cg2 {own own2 : List Nat} {t t2 : PT_} {s s2 : PSrc} {cc c2 : PExpO} {X : List PyData} {at_ : Option Nat} (enc : β → PyData) (l : List β) (out : β → List PyData) (h1 : Sg G ρ s ⟨l.map enc, at_⟩) (h2 : wipeE own ρ = some ρ2)
    (hg : guardOk ⟨l.map enc, at_⟩ ρ2 = true) (ht : ∀ b, b ∈ l → Tn2 G own own2 t cc t2 s2 c2 e ρ2 (enc b) (out b)) (hb : backE own ρ ρ2 = ρ) (hX : l.flatMap out = X) (hl : X.length ≤ lim) :
    Tm G ρ (.comp2 own own2 t s cc t2 s2 c2 e) (.list X) := by
  subst hX
  have h1 : evS G s ρ = some (⟨l.map enc, at_⟩, ρ) := h1
  simp only [Tm, evE, h1, Option.bind_some, h2]
  rw [evComp_enc enc out hg fun b hb => (ht b hb).ev]
  simp only [Option.bind_some, hl, if_true, hb]
theorem st_app_if {k : Bool} (hc : Pk G ρ c (.bool k)) (hi : ρ[i]? = some (.own (.list ds))) (h : k = true → St G ρ e d) (hl : ds.length < 1000000) : evSt G (.ite c (.cons (.ex (.app i e)) .nil) .nil) ρ = some (.next, ρ.set i (.own (.list (ds ++ if k then [d] else [])))) := by
  refine st_if hc (fun hk => ?_) fun hk => ?_
  · subst hk
    exact Bk.one (st_app hi (h rfl) hl)
  · subst hk
    rw [if_neg Bool.false_ne_true, List.append_nil, set_same hi]
    exact Bk.nil
end
end Pz
end
section
set_option Elab.async false
set_option linter.all false
set_option maxRecDepth 1000000
set_option maxHeartbeats 4000000
namespace K79
open PySem Pz
abbrev Pr := Nat × Nat
def encI (n : Nat) : PyData := .int (n : Int)
def encP (p : Pr) : PyData := .tuple [.int p.1, .int p.2]
def encR (r : List Pr) : PyData := .tuple (r.map encP)
def encN (ns : List Nat) : List PyData := ns.map encI
def encRun (ns : List Nat) (rs : List (List Pr)) : PyData := .tuple [.tuple (encN ns), .tuple (rs.map encR)]
def gk (j : Nat) (io : Option Nat) : EvG := ⟨tbl P0 j, fun x => P0.con.lookup x, io, P0.fuel⟩
/-- the sizes that the run's parts have -/
structure Okr (p : Nat) (ns : List Nat) (rs : List (List Pr)) : Prop where
  n : ns.length = p
  pl : p ≤ 10
  r : rs.length ≤ 10
  e : ∀ r, r ∈ rs → (∀ q, q ∈ r → q.1 < p ∧ q.2 < p) ∧ r.length ≤ 100
theorem getD_some {vs : List PyData} {n : Nat} (h : n < vs.length) : vs[n]? = some (vs.getD n .none) := by
  rw [List.getD_eq_getElem?_getD, List.getElem?_eq_getElem h]; rfl
theorem eq_nat (a b : Nat) : cmpD .eq (.int (a : Int)) (.int (b : Int)) = some (a == b) := by
  simp only [cmpD, shp_int, Bool.and_self, if_true, eqv_int]
  congr 1
  rw [Bool.eq_iff_iff]
  simp only [beq_iff_eq]
  omega
theorem ne_nat (a b : Nat) : cmpD .ne (.int (a : Int)) (.int (b : Int)) = some (a != b) := by
  have := eq_nat a b
  simp only [cmpD, shp_int, Bool.and_self, if_true, Option.some.injEq] at this ⊢
  rw [this]; rfl
theorem idx_list {vs : List PyData} {n : Nat} (h : n < vs.length) : idxD (.list vs) (.int (n : Int)) = some (vs.getD n .none) := by
  show L2.atI vs (n : Int) = _
  exact atI_nat (getD_some h)
theorem idx_tup {vs : List PyData} {n : Nat} (h : n < vs.length) : idxD (.tuple vs) (.int (n : Int)) = some (vs.getD n .none) := by
  show L2.atI vs (n : Int) = _
  exact atI_nat (getD_some h)
theorem encN_len (ns : List Nat) : (encN ns).length = ns.length := by unfold encN; rw [List.length_map]
theorem encN_get {ns : List Nat} {n : Nat} (h : n < ns.length) : (encN ns).getD n .none = .int ((ns.getD n 0 : Nat) : Int) := by
  unfold encN
  rw [List.getD_eq_getElem?_getD, List.getD_eq_getElem?_getD, List.getElem?_map, List.getElem?_eq_getElem h]
  rfl
/-! views_behind_round -/
def F_vbr (j : Nat) : FnSem := semOf (gk j none) ⟨2, 5, none, false, b_views_behind_round⟩
theorem t_vbr (j : Nat) : tbl P0 (j + 1) "views_behind_round" = some (F_vbr j) := rfl
def vbr1 (vs : List PyData) (r : List Pr) (b : Nat) : PyData := .tuple [vs.getD b .none, .tuple ((r.filter fun p => p.2 == b).map fun p => .tuple [.int p.1, vs.getD p.1 .none])]
def vbr (vs : List PyData) (r : List Pr) : List PyData := (List.range vs.length).map (vbr1 vs r)
theorem vbr_len (vs : List PyData) (r : List Pr) : (vbr vs r).length = vs.length := by
  unfold vbr
  rw [List.length_map, List.length_range]
theorem w_vbr (j : Nat) (vs : List PyData) (r : List Pr) (hv : ∀ p, p ∈ r → p.1 < vs.length) (hl : vs.length ≤ 1000) (hp : r.length ≤ 1000) : (F_vbr j).run [.list vs, encR r] = some (.list (vbr vs r), .none) := by
  refine Rt.run (Rt.tm ?_)
  refine tm_map encI (List.range vs.length) (vbr1 vs r) (sc_rng (va_lenL (va_v rfl).pk).pk (by omega)) rfl (fun b hb => tn_map rfl rfl (Va.st ?_)) rfl (by simp; omega)
  refine va_tup (.cons (va_idx (va_v rfl).pk (va_v rfl).pk (idx_list (List.mem_range.mp hb))).st (.cons (Va.st (va_tupl (Tm.pk ?_))) .nil)) (lim_ge (by simp))
  refine tm_filter encP r (fun p => p.2 == b) (fun p => .tuple [.int p.1, vs.getD p.1 .none]) (sc_tup (va_v rfl)) rfl (fun p hpm => ?_) rfl (by omega)
  refine tn_if rfl rfl (va_cmp (va_v rfl).pk (va_v rfl).pk (eq_nat _ _)).pk fun _ => Va.st ?_
  exact va_tup (.cons (va_v rfl).st (.cons (va_idx (va_v rfl).pk (va_v rfl).pk (idx_list (hv p hpm))).st .nil)) (lim_ge (by simp))
/-! round_views, round_view -/
def rviews (ns : List Nat) (rs : List (List Pr)) : List PyData := rs.foldl vbr (encN ns)
theorem rviews_len (ns : List Nat) (rs : List (List Pr)) : (rviews ns rs).length = ns.length := by
  unfold rviews
  have : ∀ (rs : List (List Pr)) (vs : List PyData), (rs.foldl vbr vs).length = vs.length := fun rs => by
    induction rs with
    | nil => intro vs; rfl
    | cons r rs ih => intro vs; rw [List.foldl_cons, ih, vbr_len]
  rw [this, encN_len]
def F_rv (j : Nat) : FnSem := semOf (gk j none) ⟨1, 5, none, false, b_round_views⟩
theorem t_rv (j : Nat) : tbl P0 (j + 1) "round_views" = some (F_rv j) := rfl
theorem w_rv (j : Nat) {p : Nat} {ns : List Nat} {rs : List (List Pr)} (h : Okr p ns rs) : (F_rv (j + 1)).run [encRun ns rs] = some (.list (rviews ns rs), .none) := by
  have fold : ∀ (rs : List (List Pr)) (a : Bool × List PyData), (rs.foldl (fun a r => (false, vbr a.2 r)) a).2 = rs.foldl vbr a.2 := fun rs => by
    induction rs with
    | nil => intro a; rfl
    | cons r rs ih => intro a; rw [List.foldl_cons, List.foldl_cons, ih]
  refine Rt.run (Rt.cons (st_tup (va_v rfl) rfl) (Rt.cons (st_tm (tm_blt (.cons (va_v rfl).pk .nil) rfl) rfl) (Rt.cons (st_for encR rs
    (fun (a : Bool × List PyData) => [.val (encRun ns rs), .val (.tuple (encN ns)), .val (.tuple (rs.map encR)), slot a.1 (.list a.2), .un]) (fun a r => (false, vbr a.2 r)) (fun a => a.2.length = p) (true, encN ns)
    (sc_tup (va_v rfl)) rfl (by show (encN ns).length = p; rw [encN_len, h.n]) fun r a hr ha => ?_) ?_)))
  · have hh := h.e r hr
    have run := w_vbr j a.2 r (fun q hq => by rw [ha]; exact (hh.1 q hq).1) (by have := h.pl; omega) (by have := hh.2; omega)
    obtain ⟨own, vs⟩ := a
    cases own with
    | true => exact ⟨_, _, rfl, Bk.cons (nx_asg (ev_call_lend (fs := F_vbr j) (t_vbr j) rfl rfl (by simp [gk]) rfl (.va (va_v rfl) .nil) run) rfl) Bk.nil, rfl, by rw [vbr_len]; exact ha⟩
    | false => exact ⟨_, _, rfl, Bk.cons (nx_asg (ev_callA (fs := F_vbr j) (t_vbr j) rfl (.va (va_v rfl) (.va (va_v rfl) .nil)) run) rfl) Bk.nil, rfl, by rw [vbr_len]; exact ha⟩
  · have := fold rs (true, encN ns)
    generalize rs.foldl (fun a r => (false, vbr a.2 r)) (true, encN ns) = a at *
    obtain ⟨own, vs⟩ := a
    obtain rfl : vs = rviews ns rs := this
    cases own with
    | true => exact Rt.own (by simp [gk]) rfl
    | false => exact Rt.va (va_v rfl)
def F_rw (j : Nat) : FnSem := semOf (gk j none) ⟨2, 2, none, false, b_round_view⟩
theorem t_rw (j : Nat) : tbl P0 (j + 1) "round_view" = some (F_rw j) := rfl
theorem w_rw (j : Nat) {p : Nat} {ns : List Nat} {rs : List (List Pr)} (h : Okr p ns rs) {a : Nat} (ha : a < p) : (F_rw (j + 2)).run [encRun ns rs, .int (a : Int)] = some ((rviews ns rs).getD a .none, .none) :=
  Rt.run (Rt.va (va_idx (va_callA (fs := F_rv (j + 1)) (t_rv (j + 1)) rfl rfl (.va (va_v rfl) .nil) (w_rv j h)).pk (va_v rfl).pk (idx_list (by rw [rviews_len, h.n]; exact ha))))
end K79
end
section
set_option Elab.async false
set_option linter.all false
set_option maxRecDepth 100000
namespace Pz
open PySem
/-! ### plain data without bools: to be equal is to be the same -/
def Pl : Nat → PyData → Prop
  | _, .none => True
  | _, .int _ => True
  | _, .str s => PyData.strOk s = true
  | n + 1, .tuple ds => ∀ d, d ∈ ds → Pl n d
  | n + 1, .list ds => ∀ d, d ∈ ds → Pl n d
  | _, _ => False
theorem Pl.int {n : Nat} {i : Int} : Pl n (.int i) := by cases n <;> simp only [Pl]
theorem Pl.none {n : Nat} : Pl n .none := by cases n <;> simp only [Pl]
theorem Pl.str {n : Nat} {s : Str} (h : PyData.strOk s = true) : Pl n (.str s) := by cases n <;> simpa only [Pl] using h
theorem Pl.tup {n : Nat} {ds : List PyData} (h : ∀ d, d ∈ ds → Pl n d) : Pl (n + 1) (.tuple ds) := by simpa only [Pl] using h
theorem Pl.lst {n : Nat} {ds : List PyData} (h : ∀ d, d ∈ ds → Pl n d) : Pl (n + 1) (.list ds) := by simpa only [Pl] using h
theorem Pl.tup' {n : Nat} {ds : List PyData} (h : Pl (n + 1) (.tuple ds)) : ∀ d, d ∈ ds → Pl n d := by simpa only [Pl] using h
theorem Pl.up : ∀ {n : Nat} {d : PyData}, Pl n d → Pl (n + 1) d
  | n, .none, _ => .none
  | n, .int _, _ => .int
  | n, .str _, h => .str (by cases n <;> simpa only [Pl] using h)
  | 0, .tuple _, h => by simp only [Pl] at h
  | 0, .list _, h => by simp only [Pl] at h
  | n + 1, .tuple ds, h => by
    simp only [Pl] at h
    exact .tup fun d hd => (h d hd).up
  | n + 1, .list ds, h => by
    simp only [Pl] at h
    exact .lst fun d hd => (h d hd).up
  | 0, .bool _, h => by simp only [Pl] at h
  | 0, .dict _, h => by simp only [Pl] at h
  | n + 1, .bool _, h => by simp only [Pl] at h
  | n + 1, .dict _, h => by simp only [Pl] at h
theorem Pl.le {n m : Nat} {d : PyData} (h : Pl n d) (hm : n ≤ m) : Pl m d := by
  induction hm with
  | refl => exact h
  | step _ ih => exact ih.up
theorem layAll_of {ds : List PyData} (h : ∀ d, d ∈ ds → d.canLay0 = true) : PyData.canLayAll0 ds = true := by
  induction ds with
  | nil => simp only [PyData.canLayAll0]
  | cons d ds ih => simp only [PyData.canLayAll0, h d List.mem_cons_self, ih fun d hd => h d (List.mem_cons_of_mem _ hd), Bool.and_self]
theorem depthAll_of {n : Nat} {ds : List PyData} (h : ∀ d, d ∈ ds → d.depth ≤ n) : PyData.depthAll ds ≤ n := by
  induction ds with
  | nil => simp only [PyData.depthAll]; omega
  | cons d ds ih =>
    simp only [PyData.depthAll]
    have h1 := h d List.mem_cons_self
    have h2 := ih fun d hd => h d (List.mem_cons_of_mem _ hd)
    omega
theorem Pl.lay : ∀ {n : Nat} {d : PyData}, Pl n d → d.canLay0 = true ∧ d.depth ≤ n + 1
  | n, .none, _ => by simp [PyData.canLay0, PyData.depth]
  | n, .int _, _ => by simp [PyData.canLay0, PyData.depth]
  | n, .str s, h => by
    have h : PyData.strOk s = true := by cases n <;> simpa only [Pl] using h
    simp [PyData.canLay0, PyData.depth, h]
  | 0, .tuple _, h => by simp only [Pl] at h
  | 0, .list _, h => by simp only [Pl] at h
  | n + 1, .tuple ds, h => by
    simp only [Pl] at h
    simp only [PyData.canLay0, PyData.depth]
    have := depthAll_of fun d hd => (h d hd).lay.2
    exact ⟨layAll_of fun d hd => (h d hd).lay.1, by omega⟩
  | n + 1, .list ds, h => by
    simp only [Pl] at h
    simp only [PyData.canLay0, PyData.depth]
    have := depthAll_of fun d hd => (h d hd).lay.2
    exact ⟨layAll_of fun d hd => (h d hd).lay.1, by omega⟩
  | 0, .bool _, h => by simp only [Pl] at h
  | 0, .dict _, h => by simp only [Pl] at h
  | n + 1, .bool _, h => by simp only [Pl] at h
  | n + 1, .dict _, h => by simp only [Pl] at h
theorem Pl.shp {n : Nat} {d : PyData} (h : Pl n d) (hn : n ≤ 63) : shp d = true := by
  obtain ⟨h1, h2⟩ := h.lay
  unfold Pz.shp SeqAt.shaped
  rw [h1, Bool.true_and]
  exact decide_eq_true (by omega)
theorem eqv_refl_pl {n : Nat} {d : PyData} (h : Pl n d) : PyData.eqv d d = true := SeqAt.eqv_refl d h.lay.1
theorem eqvAll_eq {as : List PyData} (H : ∀ a, a ∈ as → ∀ b n m, Pl n a → Pl m b → PyData.eqv a b = true → a = b) : ∀ {bs : List PyData} {n m : Nat}, (∀ d, d ∈ as → Pl n d) → (∀ d, d ∈ bs → Pl m d) → PyData.eqvAll as bs = true → as = bs := by
  induction as with
  | nil =>
    intro bs n m _ _ h
    cases bs with
    | nil => rfl
    | cons b bs => simp only [PyData.eqvAll] at h; cases h
  | cons a as ih =>
    intro bs n m ha hb h
    cases bs with
    | nil => simp only [PyData.eqvAll] at h; cases h
    | cons b bs =>
      simp only [PyData.eqvAll, Bool.and_eq_true] at h
      rw [H a List.mem_cons_self b n m (ha a List.mem_cons_self) (hb b List.mem_cons_self) h.1, ih (fun x hx => H x (List.mem_cons_of_mem _ hx)) (fun d hd => ha d (List.mem_cons_of_mem _ hd)) (fun d hd => hb d (List.mem_cons_of_mem _ hd)) h.2]
theorem eqv_eq : ∀ {n : Nat} {a b : PyData} {m : Nat}, Pl n a → Pl m b → PyData.eqv a b = true → a = b
  | n, a, b, m, h1, h2, h => by
    cases a with
    | none => cases b <;> first | rfl | (simp only [PyData.eqv] at h; cases h)
    | bool x => cases n <;> simp only [Pl] at h1
    | dict x => cases n <;> simp only [Pl] at h1
    | int i =>
      cases b with
      | int j => simp only [PyData.eqv, beq_iff_eq] at h; rw [h]
      | bool j => cases m <;> simp only [Pl] at h2
      | _ => simp only [PyData.eqv] at h; cases h
    | str i =>
      cases b with
      | str j => simp only [PyData.eqv, beq_iff_eq] at h; rw [h]
      | _ => simp only [PyData.eqv] at h; cases h
    | tuple as =>
      cases n with
      | zero => simp only [Pl] at h1
      | succ n =>
        cases b with
        | tuple bs =>
          cases m with
          | zero => simp only [Pl] at h2
          | succ m =>
            simp only [Pl] at h1 h2
            simp only [PyData.eqv] at h
            rw [eqvAll_eq (fun a ha b n' m' q1 q2 q => eqv_eq (n := n) (h1 a ha) q2 q) h1 h2 h]
        | _ => simp only [PyData.eqv] at h; cases h
    | list as =>
      cases n with
      | zero => simp only [Pl] at h1
      | succ n =>
        cases b with
        | list bs =>
          cases m with
          | zero => simp only [Pl] at h2
          | succ m =>
            simp only [Pl] at h1 h2
            simp only [PyData.eqv] at h
            rw [eqvAll_eq (fun a ha b n' m' q1 q2 q => eqv_eq (n := n) (h1 a ha) q2 q) h1 h2 h]
        | _ => simp only [PyData.eqv] at h; cases h
theorem eq_pl {n m : Nat} {a b : PyData} (h1 : Pl n a) (h2 : Pl m b) (hn : n ≤ 63) (hm : m ≤ 63) {k : Bool} (h : k = true ↔ a = b) : cmpD .eq a b = some k := by
  simp only [cmpD, h1.shp hn, h2.shp hm, Bool.and_self, if_true]
  congr 1
  rw [Bool.eq_iff_iff, h]
  exact ⟨eqv_eq h1 h2, fun e => by subst e; exact eqv_refl_pl h1⟩
theorem ne_pl {n m : Nat} {a b : PyData} (h1 : Pl n a) (h2 : Pl m b) (hn : n ≤ 63) (hm : m ≤ 63) {k : Bool} (h : k = true ↔ a ≠ b) : cmpD .ne a b = some k := by
  have := eq_pl h1 h2 hn hm (k := !k) (by cases k <;> simp_all)
  simp only [cmpD, h1.shp hn, h2.shp hm, Bool.and_self, if_true, Option.some.injEq] at this ⊢
  rw [this, Bool.not_not]
/-! one of a list of numbers -/
theorem pl_nats {n : Nat} {l : List Nat} : ∀ d, d ∈ l.map (fun n : Nat => PyData.int (n : Int)) → Pl n d := fun d hd => by
  obtain ⟨k, _, rfl⟩ := List.mem_map.mp hd
  exact .int
theorem any_nats (l : List Nat) (x : Nat) : ((l.map fun n : Nat => PyData.int (n : Int)).any fun z => PyData.eqv z (.int (x : Int))) = l.contains x := by
  induction l with
  | nil => rfl
  | cons a l ih =>
    rw [List.map_cons, List.any_cons, ih, List.contains_cons, eqv_int]
    congr 1
    rw [Bool.eq_iff_iff]
    simp only [beq_iff_eq]
    omega
theorem isin_nats (l : List Nat) (x : Nat) : cmpD .isin (.int (x : Int)) (.list (l.map fun n : Nat => PyData.int (n : Int))) = some (l.contains x) := by
  have : shp (.list (l.map fun n : Nat => PyData.int (n : Int))) = true := (Pl.lst (n := 0) pl_nats).shp (by omega)
  simp only [cmpD, shp_int, this, Bool.and_self, if_true, any_nats]
theorem notin_nats (l : List Nat) (x : Nat) : cmpD .notin (.int (x : Int)) (.list (l.map fun n : Nat => PyData.int (n : Int))) = some (!l.contains x) := by
  have : shp (.list (l.map fun n : Nat => PyData.int (n : Int))) = true := (Pl.lst (n := 0) pl_nats).shp (by omega)
  simp only [cmpD, shp_int, this, Bool.and_self, if_true, any_nats]
end Pz
end
section
set_option Elab.async false
set_option linter.all false
set_option maxRecDepth 1000000
set_option maxHeartbeats 4000000
namespace K79
open PySem Pz
theorem pre_mem {α : Type} {l p q : List α} {b : α} (h : l = p ++ b :: q) : b ∈ l := by
  rw [h]; exact List.mem_append_right _ List.mem_cons_self
theorem pre_len {α : Type} {l p q : List α} {b : α} (h : l = p ++ b :: q) : p.length < l.length := by
  rw [h, List.length_append, List.length_cons]; omega
/-! _law_round_views -/
def F_lrv (j : Nat) : FnSem := semOf (gk j none) ⟨1, 7, none, false, b_law_round_views⟩
theorem t_lrv (j : Nat) : tbl P0 (j + 1) "_law_round_views" = some (F_lrv j) := rfl
theorem fold_len (l : List (List Pr)) (vs : List PyData) : (l.foldl vbr vs).length = vs.length := by
  induction l generalizing vs with
  | nil => rfl
  | cons r l ih => rw [List.foldl_cons, ih, vbr_len]
theorem w_lrv (j : Nat) {p : Nat} {ns : List Nat} {rs : List (List Pr)} (h : Okr p ns rs) : (F_lrv j).run [encRun ns rs] = some (.list (rviews ns rs), .none) := by
  refine Rt.run (Rt.cons (st_tm (tm_blt (.cons (va_idx (d := .tuple (encN ns)) (va_v rfl).pk va_int.pk rfl).pk .nil) rfl) rfl) (Rt.cons (st_forP encR rs
    (fun pre => [.val (encRun ns rs), slot pre.isEmpty (.list (pre.foldl vbr (encN ns))), .un, .un, .un, .un, .un])
    (sc_tup (va_idx (va_v rfl).pk va_int.pk rfl)) rfl fun pre r suf hr => ?_) (Rt.slot (by simp [gk]) rfl)))
  have hh := h.e r (pre_mem hr)
  have hp := h.pl
  have hn := h.n
  have hl : (pre.foldl vbr (encN ns)).length = p := by rw [fold_len, encN_len, hn]
  rw [List.foldl_append]
  generalize pre.foldl vbr (encN ns) = vs at *
  have he : (pre ++ [r]).isEmpty = false := by simp
  rw [he]
  refine ⟨_, _, rfl, Bk.cons (st_tm (tm_lst .nil (by simp [lim])) rfl) (Bk.cons (st_forP encI (List.range vs.length) (fun p2 => [.val (encRun ns rs), slot pre.isEmpty (.list vs), .val (encR r), .own (.list (p2.map (vbr1 vs r))), .un, .un, .un])
      (sc_rng (va_lenL (pk_slot rfl)).pk (by omega)) rfl fun p2 b q hb => ?_) (Bk.one (st_move rfl (by simp [gk]) rfl))), rfl⟩
  have hb' := List.mem_range.mp (pre_mem hb)
  have hb2 := pre_len hb
  rw [List.length_range] at hb2
  refine ⟨_, _, rfl, Bk.one (st_app rfl (Va.st ?_) (by rw [List.length_map]; omega)), by rw [List.map_append]; rfl⟩
  refine va_tup (.cons (va_idx (pk_slot rfl) (va_v rfl).pk (idx_list hb')).st (.cons (Va.st (va_tupl (Tm.pk ?_))) .nil)) (lim_ge (by simp))
  refine tm_filter encP r (fun p => p.2 == b) (fun p => .tuple [.int p.1, vs.getD p.1 .none]) (sc_tup (va_v rfl)) rfl (fun p hpm => ?_) rfl (by omega)
  refine tn_if rfl rfl (va_cmp (va_v rfl).pk (va_v rfl).pk (eq_nat _ _)).pk fun _ => Va.st ?_
  exact va_tup (.cons (va_v rfl).st (.cons (va_idx (pk_slot rfl) (va_v rfl).pk (idx_list (by have := (hh.1 p hpm).1; omega))).st .nil)) (lim_ge (by simp))
end K79
end
section
set_option Elab.async false
set_option linter.all false
set_option maxRecDepth 1000000
set_option maxHeartbeats 4000000
namespace K79
open PySem Pz
/-! round_past -/
def bstep (s : List Nat × List (List Pr)) (r : List Pr) : List Nat × List (List Pr) := (s.1 ++ (r.filter fun p => s.1.contains p.2).map (·.1), s.2 ++ [r.filter fun p => s.1.contains p.2])
def bfold (a : Nat) (l : List (List Pr)) : List Nat × List (List Pr) := l.foldl bstep ([a], [])
theorem bfold_len (a : Nat) (l : List (List Pr)) (h : ∀ r, r ∈ l → r.length ≤ 100) : (bfold a l).1.length ≤ 1 + 100 * l.length ∧ (bfold a l).2.length = l.length := by
  have : ∀ (l : List (List Pr)) (s : List Nat × List (List Pr)), (∀ r, r ∈ l → r.length ≤ 100) → (l.foldl bstep s).1.length ≤ s.1.length + 100 * l.length ∧ (l.foldl bstep s).2.length = s.2.length + l.length := fun l => by
    induction l with
    | nil => intro s h; simp
    | cons r l ih =>
      intro s h
      have h1 := ih (bstep s r) fun r hr => h r (List.mem_cons_of_mem _ hr)
      have h2 : (bstep s r).1.length ≤ s.1.length + 100 := by
        unfold bstep
        simp only [List.length_append, List.length_map]
        have := List.length_filter_le (fun p : Pr => s.1.contains p.2) r
        have := h r List.mem_cons_self
        omega
      have h3 : (bstep s r).2.length = s.2.length + 1 := by unfold bstep; simp
      rw [List.foldl_cons, List.length_cons]
      omega
  have := this l ([a], []) h
  simp only [List.length_cons, List.length_nil, Nat.zero_add] at this
  exact this
def pastN (a : Nat) (ns : List Nat) (rs : List (List Pr)) : List Nat := (List.range ns.length).map fun c => if (bfold a rs.reverse).1.contains c then ns.getD c 0 else 0
def pastR (a : Nat) (rs : List (List Pr)) : List (List Pr) := (bfold a rs.reverse).2.reverse
def F_rp (j : Nat) : FnSem := semOf (gk j none) ⟨2, 10, none, false, b_round_past⟩
theorem t_rp (j : Nat) : tbl P0 (j + 1) "round_past" = some (F_rp j) := rfl
theorem w_rp (j : Nat) {p : Nat} {ns : List Nat} {rs : List (List Pr)} (h : Okr p ns rs) (a : Nat) : (F_rp j).run [encRun ns rs, .int (a : Int)] = some (encRun (pastN a ns rs) (pastR a rs), .none) := by
  have hr0 := h.r
  have hn := h.n
  have hpl := h.pl
  have hb := bfold_len a rs.reverse fun r hr => (h.e r (List.mem_reverse.mp hr)).2
  rw [List.length_reverse] at hb
  refine Rt.run (Rt.cons (st_tup (va_v rfl) rfl) (Rt.cons (st_tm (tm_lst (.cons (va_v rfl).st .nil) (by simp [lim])) rfl) (Rt.cons (st_tm (tm_lst .nil (by simp [lim])) rfl) (Rt.cons (st_forP encR rs.reverse
    (fun pre => [.val (encRun ns rs), .val (.int (a : Int)), .val (.tuple (encN ns)), .val (.tuple (rs.map encR)), .own (.list (encN (bfold a pre).1)), .own (.list ((bfold a pre).2.map encR)), .un, .un, .un, .un])
    (sc_tup (by rw [List.map_reverse]; exact va_revs (va_v rfl).pk rfl)) rfl fun pre r suf hr => ?_) (Rt.va ?_)))))
  · have hb := bfold_len a pre fun r' hr' => (h.e r' (List.mem_reverse.mp (by rw [hr]; exact List.mem_append_left _ hr'))).2
    have hl := pre_len hr
    rw [List.length_reverse] at hl
    have hh := h.e r (List.mem_reverse.mp (pre_mem hr))
    have hs : bfold a (pre ++ [r]) = bstep (bfold a pre) r := by unfold bfold; rw [List.foldl_append]; rfl
    rw [hs]
    generalize bfold a pre = s at *
    have hfl := List.length_filter_le (fun p : Pr => s.1.contains p.2) r
    refine ⟨_, _, rfl, Bk.cons (st_va (va_tupl (ds := (r.filter fun p => s.1.contains p.2).map encP) (Tm.pk ?_)) rfl) (Bk.cons (st_tm (tm_addL (xs := encN s.1) (ys := (r.filter fun p => s.1.contains p.2).map fun p => .int (p.1 : Int)) (pk_own rfl) (Tm.pk ?_) ?_) rfl) (Bk.one (st_app rfl (va_v rfl).st ?_))), ?_⟩
    · refine tm_filter encP r (fun p => s.1.contains p.2) encP (sc_tup (va_v rfl)) rfl (fun p hp => tn_if rfl rfl (va_cmp (va_v rfl).pk (pk_own rfl) (isin_nats s.1 p.2)).pk fun _ => Va.st ?_) rfl (by omega)
      exact va_tup (.cons (va_v rfl).st (.cons (va_v rfl).st .nil)) (lim_ge (by simp))
    · exact tm_map encP (r.filter fun p => s.1.contains p.2) (fun p => .int (p.1 : Int)) (sc_tup (va_v rfl)) rfl (fun p hp => tn_map rfl rfl (va_v rfl).st) rfl (by omega)
    · rw [encN_len, List.length_map]; omega
    · rw [List.length_map]; omega
    · have e1 : encN (bstep s r).1 = encN s.1 ++ (r.filter fun p => s.1.contains p.2).map fun p => .int (p.1 : Int) := by
        unfold bstep encN
        rw [List.map_append, List.map_map]
        rfl
      have e2 : (bstep s r).2.map encR = s.2.map encR ++ [encR (r.filter fun p => s.1.contains p.2)] := by
        unfold bstep
        rw [List.map_append]
        rfl
      rw [e1, e2]
      rfl
  · have e1 : encN (pastN a ns rs) = (List.range ns.length).map fun c => .int (((if (bfold a rs.reverse).1.contains c then ns.getD c 0 else 0 : Nat)) : Int) := by
      unfold pastN encN
      rw [List.map_map]
      rfl
    have e2 : (pastR a rs).map encR = ((bfold a rs.reverse).2.map encR).reverse := by
      unfold pastR
      rw [List.map_reverse]
    unfold encRun
    rw [e1, e2]
    generalize bfold a rs.reverse = s at *
    refine va_tup (.cons (Va.st (va_tupl (Tm.pk ?_))) (.cons (Va.st (va_tupl (Tm.pk (tm_revs (pk_own rfl) rfl)))) .nil)) (lim_ge (by simp))
    refine tm_map encI (List.range ns.length) (fun c => .int (((if s.1.contains c then ns.getD c 0 else 0 : Nat)) : Int)) (sc_rng (by rw [← encN_len]; exact (va_lenT (va_v rfl).pk).pk) (by omega)) rfl (fun c hc => tn_map rfl rfl (Va.st ?_)) rfl (by simp; omega)
    have hc := List.mem_range.mp hc
    refine va_ife (va_cmp (va_v rfl).pk (pk_own rfl) (isin_nats s.1 c)).pk (fun hk => ?_) fun hk => ?_
    · rw [if_pos hk, ← encN_get hc]
      exact va_idx (va_v rfl).pk (va_v rfl).pk (idx_tup (by rw [encN_len]; exact hc))
    · rw [if_neg (by rw [hk]; exact Bool.false_ne_true)]
      exact va_int
end K79
end
section
set_option Elab.async false
set_option linter.all false
set_option maxRecDepth 1000000
set_option maxHeartbeats 4000000
namespace K79
open PySem Pz
theorem range_pre {n k : Nat} {p q : List Nat} (h : List.range n = p ++ k :: q) : k = p.length ∧ p.length < n := by
  have hl := pre_len h
  rw [List.length_range] at hl
  have h1 : (List.range n)[p.length]? = some p.length := by rw [List.getElem?_range hl]
  rw [h, List.getElem?_append_right (Nat.le_refl _), Nat.sub_self, List.getElem?_cons_zero] at h1
  exact ⟨Option.some.inj h1, hl⟩
/-! _law_round_past -/
def lstep (s : List Nat × List (List Pr)) (r : List Pr) : List Nat × List (List Pr) := (s.1 ++ ((r.filter fun p => s.1.contains p.2).filter fun p => !s.1.contains p.1).map (·.1), (r.filter fun p => s.1.contains p.2) :: s.2)
def lfold (a : Nat) (l : List (List Pr)) : List Nat × List (List Pr) := l.foldl lstep ([a], [])
theorem lfold_bfold (a : Nat) (l : List (List Pr)) : (∀ x, (lfold a l).1.contains x = (bfold a l).1.contains x) ∧ (lfold a l).2 = (bfold a l).2.reverse := by
  have : ∀ (l : List (List Pr)) (s t : List Nat × List (List Pr)), (∀ x, s.1.contains x = t.1.contains x) → s.2 = t.2.reverse → (∀ x, (l.foldl lstep s).1.contains x = (l.foldl bstep t).1.contains x) ∧ (l.foldl lstep s).2 = (l.foldl bstep t).2.reverse := fun l => by
    induction l with
    | nil => intro s t h1 h2; exact ⟨h1, h2⟩
    | cons r l ih =>
      intro s t h1 h2
      rw [List.foldl_cons, List.foldl_cons]
      have ef : (r.filter fun p => s.1.contains p.2) = r.filter fun p => t.1.contains p.2 := by
        congr 1
        funext p
        exact h1 p.2
      refine ih _ _ (fun x => ?_) ?_
      · unfold lstep bstep
        rw [Bool.eq_iff_iff]
        simp only [List.contains_iff_mem, List.mem_append, List.mem_map, List.mem_filter, Bool.not_eq_true']
        have h1' : ∀ x, x ∈ s.1 ↔ x ∈ t.1 := fun x => by rw [← List.contains_iff_mem, ← List.contains_iff_mem, h1 x]
        constructor
        · rintro (h | ⟨p, ⟨⟨h3, h4⟩, h5⟩, rfl⟩)
          · exact .inl ((h1' x).mp h)
          · exact .inr ⟨p, ⟨h3, (h1' _).mp h4⟩, rfl⟩
        · rintro (h | ⟨p, ⟨h3, h4⟩, rfl⟩)
          · exact .inl ((h1' x).mpr h)
          · by_cases hp : p.1 ∈ s.1
            · exact .inl hp
            · refine .inr ⟨p, ⟨⟨h3, (h1' _).mpr h4⟩, ?_⟩, rfl⟩
              cases hc : s.1.contains p.1 with
              | false => rfl
              | true => exact absurd (List.contains_iff_mem.mp hc) hp
      · unfold lstep bstep
        rw [ef, h2, List.reverse_append]
        rfl
  exact this l _ _ (fun _ => rfl) rfl
theorem lfold_len (a : Nat) (l : List (List Pr)) (h : ∀ r, r ∈ l → r.length ≤ 100) : (lfold a l).1.length ≤ 1 + 100 * l.length ∧ (lfold a l).2.length = l.length := by
  have : ∀ (l : List (List Pr)) (s : List Nat × List (List Pr)), (∀ r, r ∈ l → r.length ≤ 100) → (l.foldl lstep s).1.length ≤ s.1.length + 100 * l.length ∧ (l.foldl lstep s).2.length = s.2.length + l.length := fun l => by
    induction l with
    | nil => intro s h; simp
    | cons r l ih =>
      intro s h
      have h1 := ih (lstep s r) fun r hr => h r (List.mem_cons_of_mem _ hr)
      have h2 : (lstep s r).1.length ≤ s.1.length + 100 := by
        unfold lstep
        simp only [List.length_append, List.length_map]
        have := List.length_filter_le (fun p : Pr => s.1.contains p.2) r
        have := List.length_filter_le (fun p : Pr => !s.1.contains p.1) (r.filter fun p => s.1.contains p.2)
        have := h r List.mem_cons_self
        omega
      have h3 : (lstep s r).2.length = s.2.length + 1 := by unfold lstep; simp
      rw [List.foldl_cons, List.length_cons]
      omega
  have := this l ([a], []) h
  simp only [List.length_cons, List.length_nil, Nat.zero_add] at this
  exact this
theorem down {n : Nat} : rangeDn ((n : Int) - 1) (-1) = (List.range n).map fun (k : Nat) => .int ((n : Int) - 1 - (k : Int)) := by
  unfold rangeDn
  have : ((n : Int) - 1 - -1).toNat = n := by omega
  rw [this]
theorem small_of {i : Int} (h1 : -1000000 ≤ i) (h2 : i ≤ 1000000) : small62 i = true := by
  unfold small62
  rw [Bool.and_eq_true]
  exact ⟨decide_eq_true (by omega), decide_eq_true (by omega)⟩
theorem idx_tup_int {vs : List PyData} {i : Int} {n : Nat} (hi : i = (n : Int)) (h : n < vs.length) : idxD (.tuple vs) (.int i) = some (vs.getD n .none) := by
  subst hi
  exact idx_tup h
theorem getD_map {α : Type} {f : α → PyData} {l : List α} {n : Nat} {x : α} (h : l[n]? = some x) : (l.map f).getD n .none = f x := by
  rw [List.getD_eq_getElem?_getD, List.getElem?_map, h]; rfl
theorem mul_bool (n : Nat) (k : Bool) : bopD .mul (.int (n : Int)) (.int (if k then 1 else 0)) = some (.val (.int ((if k then n else 0 : Nat) : Int))) := by
  cases k with
  | true =>
    have : small64 1 = true := rfl
    simp [bopD, this]
  | false =>
    have : small64 0 = true := rfl
    simp [bopD, this]
def F_lrp (j : Nat) : FnSem := semOf (gk j none) ⟨2, 11, none, false, b_law_round_past⟩
theorem t_lrp (j : Nat) : tbl P0 (j + 1) "_law_round_past" = some (F_lrp j) := rfl
theorem w_lrp (j : Nat) {p : Nat} {ns : List Nat} {rs : List (List Pr)} (h : Okr p ns rs) (a : Nat) : (F_lrp j).run [encRun ns rs, .int (a : Int)] = some (encRun (pastN a ns rs) (pastR a rs), .none) := by
  have hr0 := h.r
  have hn := h.n
  have hpl := h.pl
  have hb := lfold_len a rs.reverse fun r hr => (h.e r (List.mem_reverse.mp hr)).2
  rw [List.length_reverse] at hb
  refine Rt.run (Rt.cons (st_tup (va_v rfl) rfl) (Rt.cons (st_tm (tm_lst (.cons (va_v rfl).st .nil) (by simp [lim])) rfl) (Rt.cons (st_va (va_tup .nil (by simp [lim])) rfl) (Rt.cons (st_forP (fun (k : Nat) => .int ((rs.length : Int) - 1 - (k : Int))) (List.range rs.length)
    (fun pre => [.val (encRun ns rs), .val (.int (a : Int)), .val (.tuple (encN ns)), .val (.tuple (rs.map encR)), .own (.list (encN (lfold a (rs.reverse.take pre.length)).1)), .val (.tuple ((lfold a (rs.reverse.take pre.length)).2.map encR)), .un, .un, .un, .un, .un])
    (by rw [← down]; exact sc_r3 (va_sub (by rw [← List.length_map (f := encR)]; exact (va_lenT (va_v rfl).pk).pk) va_int.pk).pk (va_neg va_int.pk).pk (va_neg va_int.pk).pk (small_of (by omega) (by omega)) rfl) rfl fun pre k suf hr => ?_) (Rt.va ?_)))))
  · obtain ⟨rfl, hk⟩ := range_pre hr
    have hb := lfold_len a (rs.reverse.take pre.length) fun r' hr' => (h.e r' (List.mem_reverse.mp (List.mem_of_mem_take hr'))).2
    have hb2 : (rs.reverse.take pre.length).length = pre.length := by rw [List.length_take, List.length_reverse]; omega
    have hg : rs.reverse[pre.length]? = some (rs.reverse[pre.length]'(by rw [List.length_reverse]; exact hk)) := List.getElem?_eq_getElem _
    generalize rs.reverse[pre.length]'(by rw [List.length_reverse]; exact hk) = r at hg
    have hrm : r ∈ rs := List.mem_reverse.mp (List.mem_of_getElem? hg)
    have hh := h.e r hrm
    have hs : lfold a (rs.reverse.take (pre ++ [pre.length]).length) = lstep (lfold a (rs.reverse.take pre.length)) r := by
      rw [List.length_append, List.length_cons, List.length_nil, List.take_add_one, hg]
      unfold lfold
      rw [List.foldl_append]
      rfl
    rw [hs]
    have hx : rs[rs.length - 1 - pre.length]? = some r := by
      rw [List.getElem?_reverse hk] at hg
      exact hg
    generalize lfold a (rs.reverse.take pre.length) = s at *
    have hfl := List.length_filter_le (fun p : Pr => s.1.contains p.2) r
    have hfl2 := List.length_filter_le (fun p : Pr => !s.1.contains p.1) (r.filter fun p => s.1.contains p.2)
    have vr : ∀ x4 x5 x7 x8 x9 x10, Va (gk j none) [.val (encRun ns rs), .val (.int (a : Int)), .val (.tuple (encN ns)), .val (.tuple (rs.map encR)), x4, x5, .val (.int ((rs.length : Int) - 1 - (pre.length : Int))), x7, x8, x9, x10] (.idx (.v 3) (.v 6)) (encR r) := fun x4 x5 x7 x8 x9 x10 => by
      refine va_idx (va_v rfl).pk (va_v rfl).pk ?_
      rw [idx_tup_int (n := rs.length - 1 - pre.length) (by omega) (by rw [List.length_map]; omega), getD_map hx]
    refine ⟨_, _, rfl, Bk.cons (st_va (va_tupl (ds := (r.filter fun p => s.1.contains p.2).map encP) (Tm.pk ?_)) rfl) (Bk.cons (st_va (va_addT (xs := [encR (r.filter fun p => s.1.contains p.2)]) (ys := s.2.map encR) (va_tup (.cons (va_v rfl).st .nil) (lim_ge (by simp))).pk (va_v rfl).pk ?_) rfl) (Bk.one (st_tm (tm_addL (xs := encN s.1) (ys := ((r.filter fun p => s.1.contains p.2).filter fun p => !s.1.contains p.1).map fun p => .int (p.1 : Int)) (pk_own rfl) (Tm.pk ?_) ?_) rfl))), ?_⟩
    · exact tm_filter encP r (fun p => s.1.contains p.2) encP (sc_tup (vr ..)) rfl (fun p hp => tn_if rfl rfl (va_cmp (va_idx (va_v rfl).pk va_int.pk rfl).pk (pk_own rfl) (isin_nats s.1 p.2)).pk fun _ => (va_v rfl).st) rfl (by omega)
    · rw [List.length_map, List.length_cons, List.length_nil]; omega
    · exact tm_filter encP (r.filter fun p => s.1.contains p.2) (fun p => !s.1.contains p.1) (fun p => .int (p.1 : Int)) (sc_tup (va_v rfl)) rfl (fun p hp => tn_if rfl rfl (va_cmp (va_v rfl).pk (pk_own rfl) (notin_nats s.1 p.1)).pk fun _ => (va_v rfl).st) rfl (by omega)
    · rw [encN_len, List.length_map]; omega
    · have e1 : encN (lstep s r).1 = encN s.1 ++ ((r.filter fun p => s.1.contains p.2).filter fun p => !s.1.contains p.1).map fun p => .int (p.1 : Int) := by
        unfold lstep encN
        rw [List.map_append, List.map_map]
        rfl
      rw [e1]
      rfl
  · have et : rs.reverse.take (List.range rs.length).length = rs.reverse := by rw [List.length_range, ← List.length_reverse, List.take_length]
    have e1 : encN (pastN a ns rs) = (List.range ns.length).map fun c => .int (((if (lfold a rs.reverse).1.contains c then ns.getD c 0 else 0 : Nat)) : Int) := by
      unfold pastN encN
      rw [List.map_map]
      refine List.map_congr_left fun c _ => ?_
      rw [(lfold_bfold a rs.reverse).1 c]
      rfl
    have e2 : (pastR a rs).map encR = (lfold a rs.reverse).2.map encR := by
      unfold pastR
      rw [(lfold_bfold a rs.reverse).2]
    unfold encRun
    rw [e1, e2, et]
    generalize lfold a rs.reverse = s at *
    refine va_tup (.cons (Va.st (va_tupl (Tm.pk ?_))) (.cons (va_v rfl).st .nil)) (lim_ge (by simp))
    refine tm_map encI (List.range ns.length) (fun c => .int (((if s.1.contains c then ns.getD c 0 else 0 : Nat)) : Int)) (sc_rng (by rw [← encN_len]; exact (va_lenT (va_v rfl).pk).pk) (by omega)) rfl (fun c hc => tn_map rfl rfl (Va.st ?_)) rfl (by simp; omega)
    have hc := List.mem_range.mp hc
    refine va_bin (x := .int (ns.getD c 0 : Nat)) (Va.pk ?_) (va_blt (.cons (va_cmp (va_v rfl).pk (pk_own rfl) (isin_nats s.1 c)).pk .nil) rfl).pk (mul_bool _ _)
    rw [← encN_get hc]
    exact va_idx (va_v rfl).pk (va_v rfl).pk (idx_tup (by rw [encN_len]; exact hc))
end K79
end
section
set_option Elab.async false
set_option linter.all false
set_option maxRecDepth 1000000
set_option maxHeartbeats 4000000
namespace K79
open PySem Pz
/-! heard_in_run -/
def encL (l : List Nat) : PyData := .list (encN l)
def hin (H : List (List Nat)) (r : List Pr) (b : Nat) : List Nat := (r.filter fun q => q.2 == b).flatMap fun q => H.getD q.1 []
def hstep (H : List (List Nat)) (r : List Pr) : List (List Nat) := (List.range H.length).map fun b => H.getD b [] ++ hin H r b
def heard (n : Nat) (rs : List (List Pr)) : List (List Nat) := rs.foldl hstep ((List.range n).map fun a => [a])
theorem flatMap_le {α β : Type} {l : List α} {f : α → List β} {k m : Nat} (h : ∀ x, x ∈ l → (f x).length ≤ k) (hm : l.length ≤ m) : (l.flatMap f).length ≤ m * k := by
  induction l generalizing m with
  | nil => simp
  | cons a l ih =>
    cases m with
    | zero => simp at hm
    | succ m =>
      have h1 := h a List.mem_cons_self
      have h2 := ih (fun x hx => h x (List.mem_cons_of_mem _ hx)) (m := m) (by simp at hm; exact hm)
      rw [List.flatMap_cons, List.length_append, Nat.succ_mul]
      omega
theorem getD_le {H : List (List Nat)} {k : Nat} (h : ∀ l, l ∈ H → l.length ≤ k) (i : Nat) : (H.getD i []).length ≤ k := by
  rw [List.getD_eq_getElem?_getD]
  by_cases hi : i < H.length
  · rw [List.getElem?_eq_getElem hi]
    exact h _ (List.getElem_mem hi)
  · rw [List.getElem?_eq_none (by omega)]
    simp
theorem hin_len {H : List (List Nat)} {r : List Pr} {b k : Nat} (h : ∀ l, l ∈ H → l.length ≤ k) (hr : (r.filter fun q => q.2 == b).length ≤ 3) : (hin H r b).length ≤ 3 * k :=
  flatMap_le (fun q _ => getD_le h q.1) hr
theorem hstep_len (H : List (List Nat)) (r : List Pr) : (hstep H r).length = H.length := by
  unfold hstep
  rw [List.length_map, List.length_range]
theorem heard_len (n : Nat) (rs : List (List Pr)) : (heard n rs).length = n := by
  have : ∀ (rs : List (List Pr)) (H : List (List Nat)), (rs.foldl hstep H).length = H.length := fun rs => by
    induction rs with
    | nil => intro H; rfl
    | cons r rs ih => intro H; rw [List.foldl_cons, ih, hstep_len]
  unfold heard
  rw [this, List.length_map, List.length_range]
theorem heard_size (n : Nat) (rs : List (List Pr)) (h : ∀ r, r ∈ rs → ∀ b, (r.filter fun q => q.2 == b).length ≤ 3) : ∀ l, l ∈ heard n rs → l.length ≤ 4 ^ rs.length := by
  have : ∀ (rs : List (List Pr)) (H : List (List Nat)) (k : Nat), (∀ r, r ∈ rs → ∀ b, (r.filter fun q => q.2 == b).length ≤ 3) → (∀ l, l ∈ H → l.length ≤ k) → ∀ l, l ∈ rs.foldl hstep H → l.length ≤ k * 4 ^ rs.length := fun rs => by
    induction rs with
    | nil => intro H k _ h l hl; simpa using h l hl
    | cons r rs ih =>
      intro H k h1 h2 l hl
      rw [List.foldl_cons] at hl
      have := ih (hstep H r) (k * 4) (fun r' hr' => h1 r' (List.mem_cons_of_mem _ hr')) (fun l hl => by
        obtain ⟨b, hb, rfl⟩ := List.mem_map.mp hl
        rw [List.length_append]
        have := getD_le h2 b
        have := hin_len h2 (h1 r List.mem_cons_self b)
        omega) l hl
      rw [List.length_cons, Nat.pow_succ]
      calc l.length ≤ k * 4 * 4 ^ rs.length := this
        _ = k * (4 ^ rs.length * 4) := by rw [Nat.mul_assoc, Nat.mul_comm 4]
  intro l hl
  have := this rs _ 1 h (fun l hl => by
    obtain ⟨b, hb, rfl⟩ := List.mem_map.mp hl
    simp) l hl
  omega
theorem ints_encN (l : List Nat) : intsOf (encN l) = some (l.map fun n : Nat => (n : Int)) := by
  induction l with
  | nil => rfl
  | cons a l ih =>
    unfold encN at ih ⊢
    simp only [List.map_cons, encI, intsOf] at ih ⊢
    rw [ih]
    rfl
def heardT (n : Nat) (rs : List (List Pr)) (a : Nat) : List PyData := (sortU (((heard n rs).getD a []).map fun n : Nat => (n : Int))).map .int
def F_hr (j : Nat) : FnSem := semOf (gk j none) ⟨2, 8, none, false, b_heard_in_run⟩
theorem t_hr (j : Nat) : tbl P0 (j + 1) "heard_in_run" = some (F_hr j) := rfl
theorem getD_encL {H : List (List Nat)} {b : Nat} (hb : b < H.length) : (H.map encL).getD b .none = encL (H.getD b []) := by
  rw [getD_map (List.getElem?_eq_getElem hb), List.getD_eq_getElem?_getD, List.getElem?_eq_getElem hb]
  rfl
theorem idx_encL {H : List (List Nat)} {b : Nat} (hb : b < H.length) : idxD (.list (H.map encL)) (.int (b : Int)) = some (.list (encN (H.getD b []))) := by
  rw [idx_list (by rw [List.length_map]; exact hb), getD_encL hb]
  rfl
theorem w_hr (j : Nat) {p : Nat} {ns : List Nat} {rs : List (List Pr)} (h : Okr p ns rs) (h4 : rs.length ≤ 4) (h3 : ∀ r, r ∈ rs → ∀ b, (r.filter fun q => q.2 == b).length ≤ 3) {a : Nat} (ha : a < p)
    (hu : (sortU (((heard p rs).getD a []).map fun n : Nat => (n : Int))).length < 64) : (F_hr j).run [encRun ns rs, .int (a : Int)] = some (.tuple (heardT p rs a), .none) := by
  have hn := h.n
  have hpl := h.pl
  have pw : ∀ k, k ≤ 4 → 4 ^ k ≤ 256 := fun k hk => Nat.pow_le_pow_right (by omega) hk
  refine Rt.run (Rt.cons (st_tm (tm_map encI (List.range p) (fun a => encL [a]) (sc_rng (by rw [← hn, ← encN_len]; exact (va_lenT (va_idx (va_v rfl).pk va_int.pk rfl).pk).pk) (by omega)) rfl (fun c hc => tn_map rfl rfl (Tm.st (tm_lst (.cons (va_v rfl).st .nil) (lim_ge (Nat.le_of_ble_eq_true rfl))))) rfl (by simp; omega)) rfl)
    (Rt.cons (st_forP encR rs (fun pre => [.val (encRun ns rs), .val (.int (a : Int)), .own (.list ((heard p pre).map encL)), .un, .un, .un, .un, .un]) (sc_tup (va_idx (va_v rfl).pk va_int.pk rfl)) ?_ fun pre r suf hr => ?_) (Rt.va ?_)))
  · unfold heard
    rw [List.foldl_nil, List.map_map]
    rfl
  · have hh := h.e r (pre_mem hr)
    have hl := heard_len p pre
    have hz := heard_size p pre fun r' hr' => h3 r' (by rw [hr]; exact List.mem_append_left _ hr')
    have hz : ∀ l, l ∈ heard p pre → l.length ≤ 256 := fun l hl => Nat.le_trans (hz l hl) (pw _ (by have := pre_len hr; omega))
    have hb3 := h3 r (pre_mem hr)
    have hs : heard p (pre ++ [r]) = hstep (heard p pre) r := by unfold heard; rw [List.foldl_append]; rfl
    rw [hs]
    generalize heard p pre = H at *
    have es : (hstep H r).map encL = (List.range H.length).map fun b => encL (H.getD b [] ++ hin H r b) := by
      unfold hstep
      rw [List.map_map]
      rfl
    rw [es]
    refine ⟨_, _, rfl, Bk.one (st_tm (tm_map encI (List.range H.length) (fun b => encL (H.getD b [] ++ hin H r b)) (sc_rng (by rw [← List.length_map (f := encL)]; exact (va_lenL (pk_own rfl)).pk) (by omega)) rfl (fun b hb => tn_map rfl rfl (Tm.st ?_)) rfl (by rw [List.length_range]; omega)) rfl), rfl⟩
    have hb := List.mem_range.mp hb
    have hq := hin_len hz (hb3 b)
    have hg := getD_le hz b
    have ea : encN (H.getD b [] ++ hin H r b) = encN (H.getD b []) ++ encN (hin H r b) := by unfold encN; rw [List.map_append]
    rw [show encL (H.getD b [] ++ hin H r b) = .list (encN (H.getD b [] ++ hin H r b)) from rfl, ea]
    refine tm_addL (Va.pk (va_idx (pk_own rfl) (va_v rfl).pk (idx_encL hb))) (Tm.pk ?_) (by rw [encN_len, encN_len]; omega)
    refine tm_cg2 encP r (fun q => if q.2 == b then (H.getD q.1 []).flatMap fun c => [encI c] else []) (sc_tup (va_v rfl)).g rfl rfl (fun q hq => ?_) rfl ?_ (lim_ge (by rw [encN_len]; omega))
    · refine tn2_in encI (H.getD q.1 []) (fun c => [encI c]) rfl (cn_yes (va_cmp (va_v rfl).pk (va_v rfl).pk (eq_nat _ _)).pk) rfl rfl rfl (fun _ => Sc.g (sc_lst (va_idx (pk_own rfl) (va_v rfl).pk (idx_encL (by have := (hh.1 q hq).1; omega))))) rfl fun c hc _ => ?_
      exact tn_map rfl rfl (va_v rfl).st
    · unfold hin encN
      rw [List.map_flatMap]
      clear es hs ea hq hb3 hh hr
      induction r with
      | nil => rfl
      | cons q r ih =>
        rw [List.flatMap_cons, ih, List.filter_cons]
        cases q.2 == b with
        | false => rfl
        | true =>
          rw [if_pos rfl, if_pos rfl, List.flatMap_cons]
          congr 1
          rw [List.map_eq_flatMap]
  · have hl := heard_len p rs
    have hz := getD_le (heard_size p rs h3) a
    refine va_tupl (Tm.pk ?_)
    refine tm_sset (Va.pk (va_idx (pk_own rfl) (va_v rfl).pk (idx_encL (by rw [hl]; exact ha)))) (ints_encN _) ?_ hu
    rw [List.length_map]
    have := pw rs.length h4
    omega
end K79
end
section
set_option Elab.async false
set_option linter.all false
set_option maxRecDepth 1000000
set_option maxHeartbeats 4000000
namespace K79
open PySem Pz
/-! _law_heard -/
def fstep (s : List Nat) (r : List Pr) : List Nat := s ++ (r.filter fun q => s.contains q.1).map (·.2)
def reach (c : Nat) (rs : List (List Pr)) : List Nat := rs.foldl fstep [c]
def foundL (p : Nat) (rs : List (List Pr)) (a : Nat) : List Nat := (List.range p).filter fun c => (reach c rs).contains a
theorem reach_len (c : Nat) (l : List (List Pr)) (h : ∀ r, r ∈ l → r.length ≤ 100) : (reach c l).length ≤ 1 + 100 * l.length := by
  have : ∀ (l : List (List Pr)) (s : List Nat), (∀ r, r ∈ l → r.length ≤ 100) → (l.foldl fstep s).length ≤ s.length + 100 * l.length := fun l => by
    induction l with
    | nil => intro s h; simp
    | cons r l ih =>
      intro s h
      have h1 := ih (fstep s r) fun r hr => h r (List.mem_cons_of_mem _ hr)
      have h2 : (fstep s r).length ≤ s.length + 100 := by
        unfold fstep
        rw [List.length_append, List.length_map]
        have := List.length_filter_le (fun p : Pr => s.contains p.1) r
        have := h r List.mem_cons_self
        omega
      rw [List.foldl_cons, List.length_cons]
      omega
  exact this l [c] h
def F_lh (j : Nat) : FnSem := semOf (gk j none) ⟨2, 8, none, false, b_law_heard⟩
theorem t_lh (j : Nat) : tbl P0 (j + 1) "_law_heard" = some (F_lh j) := rfl
theorem w_lh (j : Nat) {p : Nat} {ns : List Nat} {rs : List (List Pr)} (h : Okr p ns rs) (a : Nat) : (F_lh j).run [encRun ns rs, .int (a : Int)] = some (.list (encN (foundL p rs a)), .none) := by
  have hn := h.n
  have hpl := h.pl
  have hr0 := h.r
  refine Rt.run (Rt.cons (st_tm (tm_lst .nil (lim_ge (Nat.zero_le _))) rfl) (Rt.cons (st_forP encI (List.range p) (fun pre => [.val (encRun ns rs), .val (.int (a : Int)), .own (.list (encN (pre.filter fun c => (reach c rs).contains a))), .un, .un, .un, .un, .un])
    (sc_rng (by rw [← hn, ← encN_len]; exact (va_lenT (va_idx (va_v rfl).pk va_int.pk rfl).pk).pk) (by omega)) rfl fun pre c suf hc => ?_) (Rt.own (fun h => nomatch h) rfl)))
  have hpre := pre_len hc
  rw [List.length_range] at hpre
  have hfl := List.length_filter_le (fun c => (reach c rs).contains a) pre
  have lp : evSt (gk j none) (.for_ (.nm 5) (.of (.idx (.v 0) (.int 1))) (.cons (.asg 4 (.bin .add (.v 4) (.comp [6, 7] (.tp [6, 7]) (.of (.v 5)) (.yes (.cmp .isin (.v 6) (.v 4))) (.v 7)))) .nil) [5]) [.val (encRun ns rs), .val (.int (a : Int)), .own (.list (encN (pre.filter fun c => (reach c rs).contains a))), .val (encI c), .own (.list (encN [c])), .un, .un, .un] =
      some (.next, [.val (encRun ns rs), .val (.int (a : Int)), .own (.list (encN (pre.filter fun c => (reach c rs).contains a))), .val (encI c), .own (.list (encN (reach c rs))), .un, .un, .un]) := by
    refine st_forP encR rs (fun p2 => [.val (encRun ns rs), .val (.int (a : Int)), .own (.list (encN (pre.filter fun c => (reach c rs).contains a))), .val (encI c), .own (.list (encN (reach c p2))), .un, .un, .un]) (sc_tup (va_idx (va_v rfl).pk va_int.pk rfl)) rfl fun p2 r suf hr => ?_
    have hh := h.e r (pre_mem hr)
    have hl := reach_len c p2 fun r' hr' => (h.e r' (by rw [hr]; exact List.mem_append_left _ hr')).2
    have hp2 := pre_len hr
    have hs : reach c (p2 ++ [r]) = fstep (reach c p2) r := by unfold reach; rw [List.foldl_append]; rfl
    rw [hs]
    generalize reach c p2 = s at *
    have hf := List.length_filter_le (fun q : Pr => s.contains q.1) r
    have es : encN (fstep s r) = encN s ++ (r.filter fun q => s.contains q.1).map fun q => .int (q.2 : Int) := by
      unfold fstep encN
      rw [List.map_append, List.map_map]
      rfl
    rw [es]
    refine ⟨_, _, rfl, Bk.one (st_tm (tm_addL (pk_own rfl) (Tm.pk (tm_filter encP r (fun q => s.contains q.1) (fun q => .int (q.2 : Int)) (sc_tup (va_v rfl)) rfl (fun q hq => tn_if rfl rfl (va_cmp (va_v rfl).pk (pk_own rfl) (isin_nats s q.1)).pk fun _ => (va_v rfl).st) rfl (by omega))) (by rw [encN_len, List.length_map]; omega)) rfl), rfl⟩
  have ep : encN ((pre ++ [c]).filter fun c => (reach c rs).contains a) = encN (pre.filter fun c => (reach c rs).contains a) ++ if (reach c rs).contains a then [encI c] else [] := by
    rw [List.filter_append, List.filter_cons, List.filter_nil]
    unfold encN
    rw [List.map_append]
    split <;> rfl
  rw [ep]
  exact ⟨_, _, rfl, Bk.cons (st_tm (tm_lst (.cons (va_v rfl).st .nil) (lim_ge (Nat.le_of_ble_eq_true rfl))) rfl) (Bk.cons lp (Bk.one (st_app_if (va_cmp (va_v rfl).pk (pk_own rfl) (isin_nats (reach c rs) a)).pk rfl (fun _ => (va_v rfl).st) (by rw [encN_len]; omega)))), rfl⟩
end K79
end
section
set_option Elab.async false
set_option linter.all false
set_option maxRecDepth 1000000
set_option maxHeartbeats 4000000
namespace K79
open PySem Pz
theorem asc_eq : ∀ {l m : List Int}, l.Pairwise (· < ·) → m.Pairwise (· < ·) → (∀ x, x ∈ l ↔ x ∈ m) → l = m
  | [], [], _, _, _ => rfl
  | [], b :: m, _, _, h => absurd ((h b).mpr List.mem_cons_self) (List.not_mem_nil)
  | a :: l, [], _, _, h => absurd ((h a).mp List.mem_cons_self) (List.not_mem_nil)
  | a :: l, b :: m, h1, h2, h => by
    obtain ⟨p1, p2⟩ := List.pairwise_cons.mp h1
    obtain ⟨q1, q2⟩ := List.pairwise_cons.mp h2
    have e : a = b := by
      have ha := (h a).mp List.mem_cons_self
      have hb := (h b).mpr List.mem_cons_self
      rcases List.mem_cons.mp ha with e | e
      · exact e
      · rcases List.mem_cons.mp hb with e2 | e2
        · exact e2.symm
        · have := q1 a e
          have := p1 b e2
          omega
    subst e
    rw [asc_eq p2 q2 fun x => ?_]
    constructor
    · intro hx
      rcases List.mem_cons.mp ((h x).mp (List.mem_cons_of_mem _ hx)) with e | e
      · subst e
        exact absurd (p1 x hx) (by omega)
      · exact e
    · intro hx
      rcases List.mem_cons.mp ((h x).mpr (List.mem_cons_of_mem _ hx)) with e | e
      · subst e
        exact absurd (q1 x hx) (by omega)
      · exact e
theorem mem_insU {i x : Int} : ∀ {l : List Int}, x ∈ insU i l ↔ x = i ∨ x ∈ l
  | [] => by simp [insU]
  | j :: r => by
    unfold insU
    split
    · simp
    · split
      · rename_i _ h
        subst h
        simp
      · rw [List.mem_cons, mem_insU, List.mem_cons]
        constructor
        · rintro (h | h | h)
          · exact .inr (.inl h)
          · exact .inl h
          · exact .inr (.inr h)
        · rintro (h | h | h)
          · exact .inr (.inl h)
          · exact .inl h
          · exact .inr (.inr h)
theorem asc_insU {i : Int} : ∀ {l : List Int}, l.Pairwise (· < ·) → (insU i l).Pairwise (· < ·)
  | [], _ => by simp [insU]
  | j :: r, h => by
    obtain ⟨p1, p2⟩ := List.pairwise_cons.mp h
    unfold insU
    split
    · rename_i hij
      refine List.pairwise_cons.mpr ⟨fun x hx => ?_, h⟩
      rcases List.mem_cons.mp hx with e | e
      · subst e; exact hij
      · have := p1 x e; omega
    · split
      · exact h
      · refine List.pairwise_cons.mpr ⟨fun x hx => ?_, asc_insU p2⟩
        rcases mem_insU.mp hx with e | e
        · subst e; omega
        · exact p1 x e
theorem mem_sortU {x : Int} {l : List Int} : x ∈ sortU l ↔ x ∈ l := by
  unfold sortU
  induction l with
  | nil => rfl
  | cons a l ih => rw [List.foldr_cons, mem_insU, ih, List.mem_cons]
theorem asc_sortU (l : List Int) : (sortU l).Pairwise (· < ·) := by
  unfold sortU
  induction l with
  | nil => exact List.Pairwise.nil
  | cons a l ih => exact asc_insU ih
/-- who has been heard from: backward and forward -/
theorem mem_fstep {s : List Nat} {r : List Pr} {x : Nat} : x ∈ fstep s r ↔ x ∈ s ∨ ∃ q, q ∈ r ∧ q.1 ∈ s ∧ q.2 = x := by
  unfold fstep
  rw [List.mem_append, List.mem_map]
  constructor
  · rintro (h | ⟨q, h, e⟩)
    · exact .inl h
    · obtain ⟨h1, h2⟩ := List.mem_filter.mp h
      exact .inr ⟨q, h1, List.contains_iff_mem.mp h2, e⟩
  · rintro (h | ⟨q, h1, h2, e⟩)
    · exact .inl h
    · exact .inr ⟨q, List.mem_filter.mpr ⟨h1, List.contains_iff_mem.mpr h2⟩, e⟩
theorem getD_hstep {H : List (List Nat)} {r : List Pr} {a : Nat} (ha : a < H.length) : (hstep H r).getD a [] = H.getD a [] ++ hin H r a := by
  unfold hstep
  rw [List.getD_eq_getElem?_getD, List.getElem?_map, List.getElem?_range ha]
  rfl
theorem mem_hin {H : List (List Nat)} {r : List Pr} {a c : Nat} : c ∈ hin H r a ↔ ∃ q, q ∈ r ∧ q.2 = a ∧ c ∈ H.getD q.1 [] := by
  unfold hin
  rw [List.mem_flatMap]
  constructor
  · rintro ⟨q, h1, h2⟩
    obtain ⟨h3, h4⟩ := List.mem_filter.mp h1
    exact ⟨q, h3, of_decide_eq_true h4, h2⟩
  · rintro ⟨q, h1, h2, h3⟩
    exact ⟨q, List.mem_filter.mpr ⟨h1, decide_eq_true h2⟩, h3⟩
theorem heard_reach {p : Nat} (c : Nat) : ∀ (rs : List (List Pr)) (H : List (List Nat)) (s : List Nat), (∀ r, r ∈ rs → ∀ q, q ∈ r → q.1 < p ∧ q.2 < p) → H.length = p → (∀ a, a < p → (c ∈ H.getD a [] ↔ a ∈ s)) → ∀ a, a < p → (c ∈ (rs.foldl hstep H).getD a [] ↔ a ∈ rs.foldl fstep s)
  | [], H, s, _, _, h, a, ha => h a ha
  | r :: rs, H, s, hr, hl, h, a, ha => by
    rw [List.foldl_cons, List.foldl_cons]
    refine heard_reach c rs (hstep H r) (fstep s r) (fun r' h' => hr r' (List.mem_cons_of_mem _ h')) (by rw [hstep_len, hl]) (fun b hb => ?_) a ha
    rw [getD_hstep (by omega), List.mem_append, mem_hin, mem_fstep, h b hb]
    have hr := hr r List.mem_cons_self
    constructor
    · rintro (h1 | ⟨q, h1, h2, h3⟩)
      · exact .inl h1
      · exact .inr ⟨q, h1, (h q.1 (hr q h1).1).mp h3, h2⟩
    · rintro (h1 | ⟨q, h1, h2, h3⟩)
      · exact .inl h1
      · exact .inr ⟨q, h1, h3, (h q.1 (hr q h1).1).mpr h2⟩
theorem heard_iff {p : Nat} {rs : List (List Pr)} (hr : ∀ r, r ∈ rs → ∀ q, q ∈ r → q.1 < p ∧ q.2 < p) {c a : Nat} (ha : a < p) : c ∈ (heard p rs).getD a [] ↔ c < p ∧ a ∈ reach c rs := by
  by_cases hc : c < p
  · rw [show (c < p ∧ a ∈ reach c rs ↔ a ∈ reach c rs) from ⟨fun h => h.2, fun h => ⟨hc, h⟩⟩]
    refine heard_reach c rs _ [c] hr (by rw [List.length_map, List.length_range]) (fun b hb => ?_) a ha
    rw [List.getD_eq_getElem?_getD, List.getElem?_map, List.getElem?_range hb]
    simp [eq_comm]
  · refine ⟨fun h => ?_, fun h => absurd h.1 hc⟩
    exfalso
    have : ∀ (rs : List (List Pr)) (H : List (List Nat)), (∀ l, l ∈ H → ∀ x, x ∈ l → x < p) → ∀ l, l ∈ rs.foldl hstep H → ∀ x, x ∈ l → x < p := fun rs => by
      induction rs with
      | nil => intro H h; exact h
      | cons r rs ih =>
        intro H h
        rw [List.foldl_cons]
        refine ih (hstep H r) fun l hl x hx => ?_
        have gd : ∀ i x, x ∈ H.getD i [] → x < p := fun i x hx => by
          rw [List.getD_eq_getElem?_getD] at hx
          by_cases hi : i < H.length
          · rw [List.getElem?_eq_getElem hi] at hx
            exact h _ (List.getElem_mem hi) x hx
          · rw [List.getElem?_eq_none (by omega)] at hx
            simp at hx
        obtain ⟨b, hb, rfl⟩ := List.mem_map.mp hl
        rcases List.mem_append.mp hx with hx | hx
        · exact gd b x hx
        · obtain ⟨q, _, _, h3⟩ := mem_hin.mp hx
          exact gd q.1 x h3
    have k := this rs ((List.range p).map fun a => [a]) (fun l hl x hx => by
      obtain ⟨b, hb, rfl⟩ := List.mem_map.mp hl
      rw [List.mem_singleton] at hx
      subst hx
      exact List.mem_range.mp hb)
    have hlen := heard_len p rs
    rw [List.getD_eq_getElem?_getD, List.getElem?_eq_getElem (by omega)] at h
    exact hc (k _ (List.getElem_mem (by rw [show rs.foldl hstep ((List.range p).map fun a => [a]) = heard p rs from rfl]; omega)) c h)
theorem heardT_eq {p : Nat} {rs : List (List Pr)} (hr : ∀ r, r ∈ rs → ∀ q, q ∈ r → q.1 < p ∧ q.2 < p) {a : Nat} (ha : a < p) : sortU (((heard p rs).getD a []).map fun n : Nat => (n : Int)) = (foundL p rs a).map fun n : Nat => (n : Int) := by
  refine asc_eq (asc_sortU _) ?_ fun x => ?_
  · unfold foundL
    refine List.Pairwise.map (R := (· < ·)) _ (fun a b h => by omega) (List.Pairwise.filter _ List.pairwise_lt_range)
  · rw [mem_sortU, List.mem_map, List.mem_map]
    have : ∀ n, n ∈ (heard p rs).getD a [] ↔ n ∈ foundL p rs a := fun n => by
      rw [heard_iff hr ha]
      unfold foundL
      rw [List.mem_filter, List.mem_range, List.contains_iff_mem]
    constructor
    · rintro ⟨n, h1, h2⟩; exact ⟨n, (this n).mp h1, h2⟩
    · rintro ⟨n, h1, h2⟩; exact ⟨n, (this n).mpr h1, h2⟩
end K79
end
section
set_option Elab.async false
set_option linter.all false
set_option maxRecDepth 1000000
set_option maxHeartbeats 4000000
namespace K79
open PySem Pz
/-! _law_with -/
def withD (row : List PyData) (k : Nat) (x : PyData) : List PyData := row.take k ++ [x] ++ row.drop (k + 1)
def F_w (j : Nat) : FnSem := semOf (gk j none) ⟨3, 3, none, false, b_law_with⟩
theorem t_w (j : Nat) : tbl P0 (j + 1) "_law_with" = some (F_w j) := rfl
theorem cut_lo {ds : List PyData} {k : Nat} (h : k ≤ ds.length) : cutD ds none (some (k : Int)) = ds.take k := by
  unfold cutD
  have e1 : HT.sIx ds.length 0 none = 0 := rfl
  have e2 : HT.sIx ds.length ds.length (some (k : Int)) = k := by rw [HT.sIx_nat]; omega
  rw [e1, e2]
  simp
theorem cut_hi {ds : List PyData} {k : Nat} (h : k ≤ ds.length) : cutD ds (some (k : Int)) none = ds.drop k := by
  unfold cutD
  have e1 : HT.sIx ds.length ds.length none = ds.length := rfl
  have e2 : HT.sIx ds.length 0 (some (k : Int)) = k := by rw [HT.sIx_nat]; omega
  rw [e1, e2]
  rw [List.take_of_length_le (by simp)]
theorem w_w (j : Nat) {row : List PyData} {k : Nat} {x : PyData} (hk : k < row.length) (hl : row.length ≤ 1000) : (F_w j).run [.tuple row, .int (k : Int), x] = some (.tuple (withD row k x), .none) := by
  refine Rt.run (Rt.va ?_)
  unfold withD
  refine va_addT (Va.pk (va_addT (Va.pk (va_slice (va_v rfl).pk ob_no (ob_yes (va_v rfl).pk) ?_)) (va_tup (.cons (va_v rfl).st .nil) (lim_ge (Nat.le_of_ble_eq_true rfl))).pk ?_)) (Va.pk (va_slice (l := some ((k : Int) + 1)) (va_v rfl).pk (ob_yes (va_add (va_v rfl).pk va_int.pk).pk) ob_no ?_)) ?_
  · simp only [sliceD, cut_lo (Nat.le_of_lt hk)]
  · rw [List.length_take, List.length_cons, List.length_nil]; omega
  · rw [show ((k : Int) + 1) = ((k + 1 : Nat) : Int) from rfl]; simp only [sliceD, cut_hi (show k + 1 ≤ row.length from hk)]
  · rw [List.length_append, List.length_take, List.length_cons, List.length_nil, List.length_drop]; omega
end K79
end
section
set_option Elab.async false
set_option linter.all false
set_option maxRecDepth 1000000
set_option maxHeartbeats 4000000
namespace K79
open PySem Pz
/-- tuples of tuples of numbers and names -/
def Tp : Nat → PyData → Prop
  | _, .none => True
  | _, .int _ => True
  | _, .str s => PyData.strOk s = true
  | n + 1, .tuple ds => ds.length ≤ 1000000 ∧ ∀ d, d ∈ ds → Tp n d
  | _, _ => False
theorem Tp.int {n : Nat} {i : Int} : Tp n (.int i) := by cases n <;> simp only [Tp]
theorem Tp.str {n : Nat} {s : Str} (h : PyData.strOk s = true) : Tp n (.str s) := by cases n <;> simpa only [Tp] using h
theorem Tp.tup {n : Nat} {ds : List PyData} (hl : ds.length ≤ 1000000) (h : ∀ d, d ∈ ds → Tp n d) : Tp (n + 1) (.tuple ds) := by simpa only [Tp] using ⟨hl, h⟩
theorem Tp.pl : ∀ {n : Nat} {d : PyData}, Tp n d → Pl n d
  | n, .none, _ => .none
  | n, .int _, _ => .int
  | n, .str s, h => .str (by cases n <;> simpa only [Tp] using h)
  | 0, .tuple _, h => by simp only [Tp] at h
  | n + 1, .tuple ds, h => by
    simp only [Tp] at h
    exact .tup fun d hd => (h.2 d hd).pl
  | 0, .list _, h => by simp only [Tp] at h
  | n + 1, .list _, h => by simp only [Tp] at h
  | 0, .bool _, h => by simp only [Tp] at h
  | 0, .dict _, h => by simp only [Tp] at h
  | n + 1, .bool _, h => by simp only [Tp] at h
  | n + 1, .dict _, h => by simp only [Tp] at h
def F_s (j : Nat) : FnSem := semOf (gk j none) ⟨2, 3, none, false, b_law_same⟩
theorem t_s (j : Nat) : tbl P0 (j + 1) "_law_same" = some (F_s j) := rfl
theorem w_s (j : Nat) : ∀ {n : Nat} {x : PyData}, n ≤ 63 → Tp n x → (F_s (j + n)).run [x, x] = some (.bool true, .none)
  | n, .none, _, _ => Rt.run (Rt.cons (st_skip (va_isi (va_v rfl).pk rfl).pk) (Rt.cons (st_skip (va_isi (va_v rfl).pk rfl).pk) (Rt.cons (st_skip (va_isi (va_v rfl).pk rfl).pk) (Rt.ite_ret (va_cmp (va_v rfl).pk va_non.pk rfl).pk (Rt.va (va_cmp (va_v rfl).pk va_non.pk rfl))))))
  | n, .int i, _, _ => Rt.run (Rt.cons (st_skip (va_isi (va_v rfl).pk rfl).pk) (Rt.ite_ret (va_isi (va_v rfl).pk rfl).pk (Rt.va (va_and (.yes (va_isi (va_v rfl).pk rfl).pk (.yes (va_not (va_isi (k := false) (va_v rfl).pk rfl).pk).pk (.one (va_cmp (va_v rfl).pk (va_v rfl).pk (eq_pl (n := 0) (m := 0) .int .int (by omega) (by omega) (by simp))).pk)))))))
  | n, .str s, _, h => by
    have hs : Pl 0 (.str s) := .str (by cases n <;> simpa only [Tp] using h)
    exact Rt.run (Rt.cons (st_skip (va_isi (va_v rfl).pk rfl).pk) (Rt.cons (st_skip (va_isi (va_v rfl).pk rfl).pk) (Rt.ite_ret (va_isi (va_v rfl).pk rfl).pk (Rt.va (va_and (.yes (va_isi (va_v rfl).pk rfl).pk (.one (va_cmp (va_v rfl).pk (va_v rfl).pk (eq_pl hs hs (by omega) (by omega) (by simp))).pk)))))))
  | 0, .tuple _, _, h => by simp only [Tp] at h
  | n + 1, .tuple ds, hn, h => by
    simp only [Tp] at h
    refine Rt.run (Rt.cons (st_skip (va_isi (va_v rfl).pk rfl).pk) (Rt.cons (st_skip (va_isi (va_v rfl).pk rfl).pk) (Rt.cons (st_skip (va_isi (va_v rfl).pk rfl).pk) (Rt.cons (st_skip (va_cmp (va_v rfl).pk va_non.pk rfl).pk)
      (Rt.cons (st_skip (va_or (.no (va_not (va_isi (k := true) (va_v rfl).pk rfl).pk).pk (.one (va_cmp (va_lenT (va_v rfl).pk).pk (va_lenT (va_v rfl).pk).pk (ne_pl (n := 0) (m := 0) .int .int (by omega) (by omega) (by simp))).pk))).pk)
      (Rt.cons (st_forP encI (List.range ds.length) (fun _ => [.val (.tuple ds), .val (.tuple ds), .un]) (sc_rng (va_lenT (va_v rfl).pk).pk h.1) rfl fun p k q hk => ?_) (Rt.va va_bl)))))))
    have hk := List.mem_range.mp (pre_mem hk)
    refine ⟨_, _, rfl, Bk.one (st_skip (va_not (k := true) (Va.pk (va_callA (fs := F_s (j + n)) (t_s (j + n)) rfl rfl (.va (va_idx (va_v rfl).pk (va_v rfl).pk (idx_tup hk)) (.va (va_idx (va_v rfl).pk (va_v rfl).pk (idx_tup hk)) .nil)) (w_s j (by omega) ?_)))).pk), rfl⟩
    refine h.2 _ ?_
    rw [List.getD_eq_getElem?_getD, List.getElem?_eq_getElem hk]
    exact List.getElem_mem hk
  | 0, .list _, _, h => by simp only [Tp] at h
  | n + 1, .list _, _, h => by simp only [Tp] at h
  | 0, .bool _, _, h => by simp only [Tp] at h
  | 0, .dict _, _, h => by simp only [Tp] at h
  | n + 1, .bool _, _, h => by simp only [Tp] at h
  | n + 1, .dict _, _, h => by simp only [Tp] at h
end K79
end
section
set_option Elab.async false
set_option linter.all false
set_option maxRecDepth 1000000
set_option maxHeartbeats 4000000
namespace K79
open PySem Pz
/-! deeds -/
def noteD (c : Nat) : PyData := .tuple [.str (Str.ofString "note"), .int c, .int 1]
def sendD (q : Pr) : PyData := .tuple [.str (Str.ofString "send"), .int q.1, .int q.2]
def sends (p : Nat) : List Pr := (List.range p).flatMap fun a => ((List.range p).filter fun b => a != b).map fun b => (a, b)
def gotD (p : Nat) (f : Nat) (q : Pr) : PyData := .tuple [.str (Str.ofString "get"), .int q.2, .int ((f + (sends p).idxOf q : Nat) : Int)]
def dstep (p : Nat) (D : List PyData) (r : List Pr) : List PyData := D ++ (sends p).map sendD ++ r.map (gotD p D.length)
def deeds (p : Nat) (ns : List Nat) (rs : List (List Pr)) : List PyData := rs.foldl (dstep p) (((List.range p).filter fun c => ns.getD c 0 == 1).map noteD)
theorem eqv_encP (a b : Pr) : PyData.eqv (encP a) (encP b) = (a == b) := by
  unfold encP
  simp only [PyData.eqv, PyData.eqvAll, eqv_int, Bool.and_true]
  rw [Bool.eq_iff_iff]
  simp only [Bool.and_eq_true, beq_iff_eq]
  constructor
  · rintro ⟨h1, h2⟩
    exact Prod.ext (by omega) (by omega)
  · rintro rfl
    exact ⟨rfl, rfl⟩
theorem idxOf_enc {q : Pr} : ∀ {l : List Pr} {n : Nat}, q ∈ l → idxOf (encP q) (l.map encP) n = some (n + l.idxOf q)
  | [], _, h => absurd h List.not_mem_nil
  | a :: l, n, h => by
    rw [List.map_cons]
    unfold idxOf
    rw [eqv_encP, List.idxOf_cons]
    cases hq : a == q with
    | true => simp
    | false =>
      rw [if_neg Bool.false_ne_true]
      have hm : q ∈ l := by
        rcases List.mem_cons.mp h with e | e
        · subst e; simp at hq
        · exact e
      rw [idxOf_enc hm]
      simp only [cond_false]
      congr 1
      omega
theorem pl_encP {n : Nat} (q : Pr) : Pl (n + 1) (encP q) := .tup fun d hd => by
  simp only [List.mem_cons, List.not_mem_nil, or_false] at hd
  rcases hd with rfl | rfl <;> exact .int
theorem pl_encR {n : Nat} (r : List Pr) : ∀ d, d ∈ r.map encP → Pl (n + 1) d := fun d hd => by
  obtain ⟨q, _, rfl⟩ := List.mem_map.mp hd
  exact pl_encP q
theorem mem_sends {p : Nat} {q : Pr} : q ∈ sends p ↔ q.1 < p ∧ q.2 < p ∧ q.1 ≠ q.2 := by
  unfold sends
  rw [List.mem_flatMap]
  constructor
  · rintro ⟨a, h1, h2⟩
    obtain ⟨b, h3, rfl⟩ := List.mem_map.mp h2
    obtain ⟨h4, h5⟩ := List.mem_filter.mp h3
    exact ⟨List.mem_range.mp h1, List.mem_range.mp h4, by simpa using h5⟩
  · rintro ⟨h1, h2, h3⟩
    exact ⟨q.1, List.mem_range.mpr h1, List.mem_map.mpr ⟨q.2, List.mem_filter.mpr ⟨List.mem_range.mpr h2, by simpa using h3⟩, rfl⟩⟩
theorem va_addN {G : EvG} {ρ : PEnv} {a b : PExp} {i j : Nat} (ha : Pk G ρ a (.int (i : Int))) (hb : Pk G ρ b (.int (j : Int))) : Va G ρ (.bin .add a b) (.int ((i + j : Nat) : Int)) := va_bin ha hb rfl
theorem flat_map1 {α : Type} {l : List α} {f : α → PyData} : (l.flatMap fun x => [f x]) = l.map f := (List.map_eq_flatMap ..).symm
theorem rngOf_n (i j : Int) : rngOf [(.none, .int i), (.none, .int j)] = some (i, j) := rfl
theorem sc_rngv {G : EvG} {ρ : PEnv} {e : PExp} {n : Nat} (h : Va G ρ e (.dict [(.none, .int 0), (.none, .int (n : Int))])) (hn : n ≤ 1000000) : Sc G ρ (.of e) ((List.range n).map encI) := by
  have h : evE G e ρ = some (.val (.dict [(.none, .int 0), (.none, .int (n : Int))]), ρ) := h
  have h2 : small62 (0 : Int) = true := small_of (by omega) (by omega)
  have h3 := small_nat hn
  have e2 : (List.range n).map encI = rangeD 0 n := (rangeD0 n).symm
  rw [e2]
  unfold Sc
  rw [evS, h, Option.bind_some]
  simp only [rngOf_n]
  rw [h2, h3]
  rfl
/-! run_of_rounds -/
theorem sends_len (p : Nat) (hp : p ≤ 10) : (sends p).length ≤ 100 := by
  unfold sends
  refine Nat.le_trans (flatMap_le (k := 10) (m := 10) (fun a _ => ?_) (by rw [List.length_range]; exact hp)) (by omega)
  rw [List.length_map]
  refine Nat.le_trans (List.length_filter_le _ _) (by rw [List.length_range]; exact hp)
theorem deeds_len (p : Nat) (ns : List Nat) (rs : List (List Pr)) (hp : p ≤ 10) (h : ∀ r, r ∈ rs → r.length ≤ 100) : (deeds p ns rs).length ≤ 10 + 200 * rs.length := by
  have : ∀ (l : List (List Pr)) (D : List PyData), (∀ r, r ∈ l → r.length ≤ 100) → (l.foldl (dstep p) D).length ≤ D.length + 200 * l.length := fun l => by
    induction l with
    | nil => intro s h; simp
    | cons r l ih =>
      intro s h
      have h1 := ih (dstep p s r) fun r hr => h r (List.mem_cons_of_mem _ hr)
      have h2 : (dstep p s r).length ≤ s.length + 200 := by
        unfold dstep
        rw [List.length_append, List.length_append, List.length_map, List.length_map]
        have := sends_len p hp
        have := h r List.mem_cons_self
        omega
      rw [List.foldl_cons, List.length_cons]
      omega
  have k := this rs (((List.range p).filter fun c => ns.getD c 0 == 1).map noteD) h
  have := List.length_filter_le (fun c => ns.getD c 0 == 1) (List.range p)
  rw [List.length_map] at k
  rw [List.length_range] at this
  unfold deeds
  omega
def F_ror (j : Nat) : FnSem := semOf (gk j none) ⟨1, 10, none, false, b_run_of_rounds⟩
theorem t_ror (j : Nat) : tbl P0 (j + 1) "run_of_rounds" = some (F_ror j) := rfl
theorem w_ror (j : Nat) {p : Nat} {ns : List Nat} {rs : List (List Pr)} (h : Okr p ns rs) (hne : ∀ r, r ∈ rs → ∀ q, q ∈ r → q.1 ≠ q.2) : (F_ror j).run [encRun ns rs] = some (.tuple (deeds p ns rs), .none) := by
  have hn := h.n
  have hpl := h.pl
  have hr0 := h.r
  have hsl := sends_len p hpl
  let P : PyData := .dict [(.none, .int 0), (.none, .int (p : Int))]
  refine Rt.run (Rt.cons (st_tup (va_v rfl) rfl) (Rt.cons (st_va (d := P) (va_rngv (by rw [← hn, ← encN_len]; exact (va_lenT (va_v rfl).pk).pk) (small_nat (by omega))) rfl) (Rt.cons (st_tm (tm_filter encI (List.range p) (fun c => ns.getD c 0 == 1) noteD (sc_rngv (va_v rfl) (by omega)) rfl (fun c hc => tn_if rfl rfl (va_cmp (y := .int ((1 : Nat) : Int)) (Va.pk (va_idx (va_v rfl).pk (va_v rfl).pk ((idx_tup (by rw [encN_len, hn]; exact List.mem_range.mp hc)).trans (by rw [encN_get (by rw [hn]; exact List.mem_range.mp hc)])))) va_int.pk (eq_nat _ _)).pk fun _ => Va.st ?_) rfl (by rw [List.length_range]; omega)) rfl)
    (Rt.cons (st_tm (d := .list ((sends p).map encP)) (tm_cg2 encI (List.range p) (fun a => if true then (List.range p).flatMap fun b => if a != b then [encP (a, b)] else [] else []) (sc_rngv (va_v rfl) (by omega)).g rfl rfl (fun a ha => ?_) rfl ?_ ?_) rfl)
    (Rt.cons (st_forP encR rs (fun pre => [.val (encRun ns rs), .val (.tuple (encN ns)), .val (.tuple (rs.map encR)), .val P, .own (.list (deeds p ns pre)), .un, .own (.list ((sends p).map encP)), .un, .un, .un]) (sc_tup (va_v rfl)) rfl fun pre r suf hr => ?_) (Rt.va (va_tupl (pk_own rfl))))))))
  · exact va_tup (.cons va_str.st (.cons (va_v rfl).st (.cons va_int.st .nil))) (lim_ge (Nat.le_of_ble_eq_true rfl))
  · refine tn2_in encI (List.range p) (fun b => if a != b then [encP (a, b)] else []) rfl cn_no rfl rfl rfl (fun _ => (sc_rngv (va_v rfl) (by omega)).g) rfl fun b hb _ => ?_
    exact tn_if rfl rfl (va_cmp (va_v rfl).pk (va_v rfl).pk (ne_nat _ _)).pk fun _ => Va.st (va_tup (.cons (va_v rfl).st (.cons (va_v rfl).st .nil)) (lim_ge (Nat.le_of_ble_eq_true rfl)))
  · unfold sends
    rw [List.map_flatMap]
    congr 1
    funext a
    rw [if_pos rfl, filter_flat, List.map_map]
    rfl
  · rw [List.length_map]
    exact lim_ge (by omega)
  · have hh := h.e r (pre_mem hr)
    have hd := deeds_len p ns pre hpl fun r' hr' => (h.e r' (by rw [hr]; exact List.mem_append_left _ hr')).2
    have hp2 := pre_len hr
    have hs : deeds p ns (pre ++ [r]) = dstep p (deeds p ns pre) r := by unfold deeds; rw [List.foldl_append]; rfl
    rw [hs]
    generalize deeds p ns pre = D at *
    unfold dstep
    refine ⟨_, _, rfl, Bk.cons (st_va (va_lenL (pk_own rfl)) rfl) (Bk.cons (st_ext (xs := (sends p).map sendD) rfl (Tm.st ?_) ?_) (Bk.one (st_ext (ds := D ++ (sends p).map sendD) (xs := r.map (gotD p D.length)) rfl (Tm.st ?_) ?_))), rfl⟩
    · refine tm_cg encP (sends p) (fun q => [sendD q]) (sg_own rfl) rfl (guard_own rfl) (fun q hq => tn_map rfl rfl (Va.st ?_)) rfl flat_map1 (lim_ge (by rw [List.length_map]; omega))
      exact va_tup (.cons va_str.st (.cons (va_v rfl).st (.cons (va_v rfl).st .nil))) (lim_ge (Nat.le_of_ble_eq_true rfl))
    · rw [List.length_map]; omega
    · refine tm_map encP r (gotD p D.length) (sc_tup (va_v rfl)) rfl (fun q hq => tn_map rfl rfl (Va.st ?_)) rfl (by omega)
      refine va_tup (.cons va_str.st (.cons (va_v rfl).st (.cons (Va.st (va_addN (va_v rfl).pk (Va.pk (va_index (pk_own rfl) (va_tup (ds := [.int q.1, .int q.2]) (.cons (va_v rfl).st (.cons (va_v rfl).st .nil)) (lim_ge (Nat.le_of_ble_eq_true rfl))).pk (Pl.shp (n := 2) (.lst (pl_encR _)) (by omega)) (Pl.shp (n := 1) (pl_encP q) (by omega)) ((idxOf_enc (q := q) (l := sends p) (n := 0) (mem_sends.mpr ⟨(hh.1 q hq).1, (hh.1 q hq).2, hne r (pre_mem hr) q hq⟩)).trans (by rw [Nat.zero_add])))))) .nil))) (lim_ge (Nat.le_of_ble_eq_true rfl))
    · rw [List.length_append, List.length_map, List.length_map]; omega
end K79
end
section
set_option Elab.async false
set_option linter.all false
set_option maxRecDepth 100000
namespace Pz
open PySem
/-! ### rules for slots that change -/
section
variable {G : EvG} {ρ ρ1 ρ2 ρ3 : PEnv} {e a b c : PExp} {d v x y z o : PyData} {es : PExps} {ds : List PyData} {i : Nat} {β : Type} {r r1 r2 : RV} {rs : List RV} {f : String} {fs : FnSem}
theorem evComp_inv {g : Items} {f : PyData → PEnv → Option (List PyData × PEnv)} (hg : g.at_ = none) (enc : β → PyData) (I : List β → List PyData → PEnv → Prop) :
    ∀ (suf pre : List β) (out : List PyData) (ρ : PEnv), I pre out ρ → (∀ p b q out ρ, pre ++ suf = p ++ b :: q → I p out ρ → ∃ os ρ', f (enc b) ρ = some (os, ρ') ∧ I (p ++ [b]) (out ++ os) ρ') → ∃ os ρ', evComp g f (suf.map enc) ρ = some (os, ρ') ∧ I (pre ++ suf) (out ++ os) ρ'
  | [], pre, out, ρ, h, _ => by
    have : guardOk g ρ = true := by simp only [guardOk, hg]
    exact ⟨[], ρ, by simp only [List.map_nil, evComp, this, if_true], by simpa using h⟩
  | b :: suf, pre, out, ρ, h, H => by
    have hg' : guardOk g ρ = true := by simp only [guardOk, hg]
    have e : pre ++ b :: suf = (pre ++ [b]) ++ suf := by rw [List.append_assoc]; rfl
    obtain ⟨os, ρ', h1, h2⟩ := H pre b suf out ρ rfl h
    obtain ⟨os2, ρ2, h3, h4⟩ := evComp_inv hg enc I suf (pre ++ [b]) (out ++ os) ρ' h2 fun p b' q out ρ hp => H p b' q out ρ (by rw [e]; exact hp)
    refine ⟨os ++ os2, ρ2, by simp only [List.map_cons, evComp, hg', if_true, h1, h3, Option.bind_some], ?_⟩
    rw [e, ← List.append_assoc]
    exact h4
theorem evFor_inv {g : Items} {f : PyData → PEnv → Option (Flw × PEnv)} (hg : g.at_ = none) (enc : β → PyData) (I : List β → PEnv → Prop) :
    ∀ (suf pre : List β) (ρ : PEnv), I pre ρ → (∀ p b q ρ, pre ++ suf = p ++ b :: q → I p ρ → ∃ ρ', f (enc b) ρ = some (.next, ρ') ∧ I (p ++ [b]) ρ') → ∃ ρ', evFor g f (suf.map enc) ρ = some (.next, ρ') ∧ I (pre ++ suf) ρ'
  | [], pre, ρ, h, _ => by
    have : guardOk g ρ = true := by simp only [guardOk, hg]
    exact ⟨ρ, by simp only [List.map_nil, evFor, this, if_true], by simpa using h⟩
  | b :: suf, pre, ρ, h, H => by
    have hg' : guardOk g ρ = true := by simp only [guardOk, hg]
    have e : pre ++ b :: suf = (pre ++ [b]) ++ suf := by rw [List.append_assoc]; rfl
    obtain ⟨ρ', h1, h2⟩ := H pre b suf ρ rfl h
    obtain ⟨ρ2, h3, h4⟩ := evFor_inv hg enc I suf (pre ++ [b]) ρ' h2 fun p b' q ρ hp => H p b' q ρ (by rw [e]; exact hp)
    refine ⟨ρ2, by simp only [List.map_cons, evFor, hg', if_true, h1, h3, Option.bind_some], ?_⟩
    rw [e]
    exact h4
/-- an expression, with the slots behind it -/
def Ev (G : EvG) (ρ : PEnv) (e : PExp) (r : RV) (ρ' : PEnv) : Prop := evE G e ρ = some (r, ρ')
def Es (G : EvG) (ρ : PEnv) (es : PExps) (rs : List RV) (ρ' : PEnv) : Prop := evEs G es ρ = some (rs, ρ')
theorem Va.ev (h : Va G ρ e d) : Ev G ρ e (.val d) ρ := h
theorem Tm.ev (h : Tm G ρ e d) : Ev G ρ e (.tmp d) ρ := h
theorem Ev.va (h : Ev G ρ e (.val d) ρ) : Va G ρ e d := h
theorem es_nil : Es G ρ .nil [] ρ := by simp only [Es, evEs]
theorem es_cons (h : Ev G ρ e r ρ1) (t : Es G ρ1 es rs ρ2) : Es G ρ (.cons e es) (r :: rs) ρ2 := by
  have h : evE G e ρ = some (r, ρ1) := h
  have t : evEs G es ρ1 = some (rs, ρ2) := t
  simp only [Es, evEs, h, t, Option.bind_some]
theorem ev_bin {op : BOp} (ha : Ev G ρ a r1 ρ1) (hb : Ev G ρ1 b r2 ρ2) (p1 : peek r1 ρ2 = some x) (p2 : peek r2 ρ2 = some y) (h : bopD op x y = some r) : Ev G ρ (.bin op a b) r ρ2 := by
  have ha : evE G a ρ = some (r1, ρ1) := ha
  have hb : evE G b ρ1 = some (r2, ρ2) := hb
  simp only [Ev, evE, ha, hb, p1, p2, h, Option.bind_some]
theorem ev_cmp {op : COp} {k : Bool} (ha : Ev G ρ a r1 ρ1) (hb : Ev G ρ1 b r2 ρ2) (p1 : peek r1 ρ2 = some x) (p2 : peek r2 ρ2 = some y) (h : cmpD op x y = some k) : Ev G ρ (.cmp op a b) (.val (.bool k)) ρ2 := by
  have ha : evE G a ρ = some (r1, ρ1) := ha
  have hb : evE G b ρ1 = some (r2, ρ2) := hb
  simp only [Ev, evE, ha, hb, p1, p2, h, Option.bind_some]
theorem ev_idx (ha : Ev G ρ a r1 ρ1) (hb : Ev G ρ1 b r2 ρ2) (p1 : peek r1 ρ2 = some x) (p2 : peek r2 ρ2 = some y) (h : idxD x y = some d) : Ev G ρ (.idx a b) (.val d) ρ2 := by
  have ha : evE G a ρ = some (r1, ρ1) := ha
  have hb : evE G b ρ1 = some (r2, ρ2) := hb
  simp only [Ev, evE, ha, hb, p1, p2, h, Option.bind_some]
theorem ev_tup (h : Es G ρ es rs ρ1) (hs : settles G.io rs ρ1 = some (ds, ρ2)) (hl : ds.length ≤ lim) : Ev G ρ (.tup es) (.val (.tuple ds)) ρ2 := by
  have h : evEs G es ρ = some (rs, ρ1) := h
  simp only [Ev, evE, h, hs, Option.bind_some, hl, if_true]
theorem ev_lst (h : Es G ρ es rs ρ1) (hs : settles G.io rs ρ1 = some (ds, ρ2)) (hl : ds.length ≤ lim) : Ev G ρ (.lst es) (.tmp (.list ds)) ρ2 := by
  have h : evEs G es ρ = some (rs, ρ1) := h
  simp only [Ev, evE, h, hs, Option.bind_some, hl, if_true]
theorem ev_blt {f : Bf} (h : Es G ρ es rs ρ1) (hp : peeks rs ρ1 = some ds) (hb : bfD f ds = some r) : Ev G ρ (.blt f es) r ρ1 := by
  have h : evEs G es ρ = some (rs, ρ1) := h
  simp only [Ev, evE, h, hp, hb, Option.bind_some]
theorem ev_not {k : Bool} (ha : Ev G ρ a (.val (.bool k)) ρ1) : Ev G ρ (.not a) (.val (.bool (!k))) ρ1 := by
  have ha : evE G a ρ = some (.val (.bool k), ρ1) := ha
  simp only [Ev, evE, ha, peek, toBool, Option.bind_some]
/-- a call by values alone -/
theorem ev_callV (hf : G.fns f = some fs) (hio : fs.io = none) (h : Es G ρ es rs ρ1) (hl : locs rs = []) (hp : peeks rs ρ1 = some ds) (hr : fs.run ds = some (d, o)) : Ev G ρ (.call f es) (resRV fs.fresh d) ρ1 := by
  have h : evEs G es ρ = some (rs, ρ1) := h
  simp only [Ev, evE, hf, h, evCall, hp, hr, hio, hl, List.isEmpty_nil, Bool.or_true, if_true, Option.bind_some]
/-- a call that changes what slot i owns, its first argument; the others by values -/
theorem ev_callIO (hf : G.fns f = some fs) (hio : fs.io = some 0) (h : Es G ρ es rs ρ1) (hl : locs rs = []) (hi : ρ[i]? = some (.own z)) (hi1 : ρ1[i]? = some (.own x)) (hp : peeks rs ρ1 = some ds) (hr : fs.run (x :: ds) = some (d, o)) : Ev G ρ (.call f (.cons (.v i) es)) (resRV fs.fresh d) (ρ1.set i (.own o)) := by
  have h : evEs G es ρ = some (rs, ρ1) := h
  have p2 : peeks (.loc i :: rs) ρ1 = some (x :: ds) := by simp only [peeks, peek, hi1, hp, Option.bind_some]
  simp [Ev, evE, hf, evEs, hi, h, evCall, p2, hr, hio, hl, hi1]
theorem run_next {D : DefI} {ds : List PyData} {ρ' : PEnv} (e : Bk G D.body (startE D.n none ds) .next ρ') (hl : ds.length = D.np := by rfl) (hG : G.io = none := by rfl) (hf : D.fresh = false := by rfl) : (semOf G D).run ds = some (.none, .none) := by
  have e : evSs G D.body (startE D.n none ds) = some (.next, ρ') := e
  simp only [semOf, hl, ne_eq, not_true, if_false, evDef, hG, e, Option.bind_some, hf, Bool.false_and, Bool.false_eq_true]
/-- a def that changes its first argument -/
theorem run_io {D : DefI} {ds : List PyData} {ρ' : PEnv} {fr : Bool} (e : Bk G D.body (startE D.n (some 0) ds) (.ret v fr) ρ') (hl : ds.length = D.np) (hG : G.io = some 0) (hf : D.fresh = false) (ho : ρ'[0]? = some (.own o)) : (semOf G D).run ds = some (v, o) := by
  have e : evSs G D.body (startE D.n (some 0) ds) = some (.ret v fr, ρ') := e
  simp only [semOf, hl, ne_eq, not_true, if_false, evDef, hG, e, Option.bind_some, ho, hf, Bool.false_and, Bool.false_eq_true]
theorem run_fresh {D : DefI} {ds : List PyData} {ρ' : PEnv} (e : Bk G D.body (startE D.n none ds) (.ret v true) ρ') (hl : ds.length = D.np := by rfl) (hG : G.io = none := by rfl) : (semOf G D).run ds = some (v, .none) := by
  have e : evSs G D.body (startE D.n none ds) = some (.ret v true, ρ') := e
  simp only [semOf, hl, ne_eq, not_true, if_false, evDef, hG, e, Option.bind_some, Bool.not_true, Bool.and_false, Bool.false_eq_true]
/-- statements by Ev -/
theorem sv_asg (h : Ev G ρ e (.val d) ρ1) (hs : setV G.io ρ1 i d = some ρ2) : evSt G (.asg i e) ρ = some (.next, ρ2) := by
  have h : evE G e ρ = some (.val d, ρ1) := h
  simp only [evSt, h, settle, hs, Option.bind_some]
theorem sv_tm (h : Ev G ρ e (.tmp d) ρ1) (hs : setO G.io ρ1 i d = some ρ2) : evSt G (.asg i e) ρ = some (.next, ρ2) := by
  have h : evE G e ρ = some (.tmp d, ρ1) := h
  simp only [evSt, h, hs, Option.bind_some]
theorem sv_tup {is : List Nat} (h : Ev G ρ e (.val (.tuple ds)) ρ1) (hs : setVs G.io ρ1 is ds = some ρ2) : evSt G (.asgT is e) ρ = some (.next, ρ2) := by
  have h : evE G e ρ = some (.val (.tuple ds), ρ1) := h
  simp only [evSt, h, settle, hs, Option.bind_some]
theorem sv_ret (h : Ev G ρ e (.val d) ρ1) : evSt G (.ret e) ρ = some (.ret d false, ρ1) := by
  have h : evE G e ρ = some (.val d, ρ1) := h
  simp only [evSt, h, Option.bind_some, retOf]
theorem sv_retT (h : Ev G ρ e (.tmp d) ρ1) : evSt G (.ret e) ρ = some (.ret d true, ρ1) := by
  have h : evE G e ρ = some (.tmp d, ρ1) := h
  simp only [evSt, h, Option.bind_some, retOf]
theorem sv_if {k : Bool} {bl bl' : PStms} {fl : Flw} (h : Ev G ρ c (.val (.bool k)) ρ1) (ha : k = true → Bk G bl ρ1 fl ρ2) (hb : k = false → Bk G bl' ρ1 fl ρ2) : evSt G (.ite c bl bl') ρ = some (fl, ρ2) := by
  have h : evE G c ρ = some (.val (.bool k), ρ1) := h
  cases k with
  | true => simpa only [Bk, evSt, h, peek, toBool, Option.bind_some, if_true] using ha rfl
  | false => simpa only [Bk, evSt, h, peek, toBool, Option.bind_some, Bool.false_eq_true, if_false] using hb rfl
theorem sv_skip {bl : PStms} (h : Ev G ρ c (.val (.bool false)) ρ1) : evSt G (.ite c bl .nil) ρ = some (.next, ρ1) := sv_if h (fun h => nomatch h) fun _ => Bk.nil
theorem Bk.more {s : PStm} {r : PStms} {fl : Flw} (h : evSt G s ρ = some (.next, ρ1)) (t : Bk G r ρ1 fl ρ2) : Bk G (.cons s r) ρ fl ρ2 := Bk.cons h t
/-- or, its parts changing slots -/
theorem ev_or1 {k : Bool} (h : Ev G ρ e (.val (.bool k)) ρ1) : evOr G (.cons e .nil) ρ = some (.val (.bool k), ρ1) := by
  have h : evE G e ρ = some (.val (.bool k), ρ1) := h
  simp only [evOr, h, peek, toBool, Option.bind_some]
theorem ev_orN {e' : PExp} {q : RV × PEnv} (h : Ev G ρ e (.val (.bool false)) ρ1) (t : evOr G (.cons e' es) ρ1 = some q) : evOr G (.cons e (.cons e' es)) ρ = some q := by
  have h : evE G e ρ = some (.val (.bool false), ρ1) := h
  simp only [evOr, h, peek, toBool, Option.bind_some, Bool.false_eq_true, if_false, t]
theorem ev_orY {e' : PExp} (h : Ev G ρ e (.val (.bool true)) ρ1) : evOr G (.cons e (.cons e' es)) ρ = some (.val (.bool true), ρ1) := by
  have h : evE G e ρ = some (.val (.bool true), ρ1) := h
  simp only [evOr, h, peek, toBool, Option.bind_some, if_true]
theorem ev_or (h : evOr G es ρ = some (r, ρ1)) : Ev G ρ (.or es) r ρ1 := by simpa only [Ev, evE] using h
theorem ev_and1 {k : Bool} (h : Ev G ρ e (.val (.bool k)) ρ1) : evAnd G (.cons e .nil) ρ = some (.val (.bool k), ρ1) := by
  have h : evE G e ρ = some (.val (.bool k), ρ1) := h
  simp only [evAnd, h, peek, toBool, Option.bind_some]
theorem ev_andY {e' : PExp} {q : RV × PEnv} (h : Ev G ρ e (.val (.bool true)) ρ1) (t : evAnd G (.cons e' es) ρ1 = some q) : evAnd G (.cons e (.cons e' es)) ρ = some q := by
  have h : evE G e ρ = some (.val (.bool true), ρ1) := h
  simp only [evAnd, h, peek, toBool, Option.bind_some, if_true, t]
theorem ev_andN {e' : PExp} (h : Ev G ρ e (.val (.bool false)) ρ1) : evAnd G (.cons e (.cons e' es)) ρ = some (.val (.bool false), ρ1) := by
  have h : evE G e ρ = some (.val (.bool false), ρ1) := h
  simp only [evAnd, h, peek, toBool, Option.bind_some, Bool.false_eq_true, if_false]
theorem ev_and (h : evAnd G es ρ = some (r, ρ1)) : Ev G ρ (.and es) r ρ1 := by simpa only [Ev, evE] using h
/-- a loop with an invariant -/
theorem sv_for {t : PT_} {s : PSrc} {bl : PStms} {kill : List Nat} (enc : β → PyData) (l : List β) (I : List β → PEnv → Prop) (h : Sc G ρ s (l.map enc)) (hk : killS G.io kill ρ = some ρ1) (h0 : I [] ρ1)
    (ht : ∀ p b q ρ, l = p ++ b :: q → I p ρ → ∃ ρ3 ρ4 ρ5, assignT G.io t (enc b) ρ = some ρ3 ∧ Bk G bl ρ3 .next ρ4 ∧ killS G.io kill ρ4 = some ρ5 ∧ I (p ++ [b]) ρ5) : ∃ ρ', evSt G (.for_ t s bl kill) ρ = some (.next, ρ') ∧ I l ρ' := by
  obtain ⟨ρ', h1, h2⟩ := evFor_inv (g := ⟨l.map enc, none⟩) (f := fun d ρ2 => (assignT G.io t d ρ2).bind fun ρ3 => (evSs G bl ρ3).bind (turnK G.io kill)) rfl enc I l [] ρ1 h0 fun p b q ρ hp hI => by
    obtain ⟨ρ3, ρ4, ρ5, g1, g2, g3, g4⟩ := ht p b q ρ hp hI
    exact ⟨ρ5, turn_next g1 g2 g3, g4⟩
  exact ⟨ρ', nx_for h hk h1, h2⟩
/-- a comprehension with an invariant -/
theorem ev_comp {own : List Nat} {t : PT_} {s : PSrc} {cc : PExpO} (enc : β → PyData) (l : List β) (I : List β → List PyData → PEnv → Prop) (h : Sc G ρ s (l.map enc)) (h2 : wipeE own ρ = some ρ1) (h0 : I [] [] ρ1)
    (ht : ∀ p b q out ρ, l = p ++ b :: q → I p out ρ → ∃ ρ3 ρ4 k, assignT G.io t (enc b) ρ = some ρ3 ∧ evC G cc ρ3 = some (k, ρ4) ∧
      ((k = false ∧ I (p ++ [b]) out (unE own ρ4)) ∨ (k = true ∧ ∃ r v ρ5 ρ6, Ev G ρ4 e r ρ5 ∧ settle G.io r ρ5 = some (v, ρ6) ∧ I (p ++ [b]) (out ++ [v]) (unE own ρ6))))
    (hl : ∀ out ρ, I l out ρ → out.length ≤ lim) : ∃ out ρ', Ev G ρ (.comp own t s cc e) (.tmp (.list out)) (backE own ρ ρ') ∧ I l out ρ' := by
  have h : evS G s ρ = some (⟨l.map enc, none⟩, ρ) := h
  obtain ⟨out, ρ', h3, h4⟩ := evComp_inv (g := ⟨l.map enc, none⟩) (f := fun d ρ2 => (assignT G.io t d ρ2).bind fun ρ3 => (evC G cc ρ3).bind fun k => if k.1 then (evE G e k.2).bind fun r => (settle G.io r.1 r.2).bind fun q => some ([q.1], unE own q.2) else some ([], unE own k.2)) rfl enc I l [] [] ρ1 h0 fun p b q out ρ hp hI => by
    obtain ⟨ρ3, ρ4, k, g1, g2, ⟨rfl, g3⟩ | ⟨rfl, r, v, ρ5, ρ6, g3, g4, g5⟩⟩ := ht p b q out ρ hp hI
    · exact ⟨[], unE own ρ4, by simp only [g1, g2, Option.bind_some, Bool.false_eq_true, if_false], by rw [List.append_nil]; exact g3⟩
    · have g3 : evE G e ρ4 = some (r, ρ5) := g3
      exact ⟨[v], unE own ρ6, by simp only [g1, g2, Option.bind_some, if_true, g3, g4], g5⟩
  refine ⟨out, ρ', ?_, h4⟩
  simp only [List.nil_append] at h4
  have := hl out ρ' h4
  simp only [Ev, evE, h, Option.bind_some, h2]
  rw [h3]
  simp only [Option.bind_some, this, if_true]
theorem ec_yes {k : Bool} (h : Ev G ρ c (.val (.bool k)) ρ1) : evC G (.yes c) ρ = some (k, ρ1) := by
  have h : evE G c ρ = some (.val (.bool k), ρ1) := h
  simp only [evC, h, peek, toBool, Option.bind_some]
end
end Pz
end
section
set_option Elab.async false
set_option linter.all false
set_option maxRecDepth 1000000
set_option maxHeartbeats 4000000
namespace K79
open PySem Pz
/-! _law_clockless -/
def sendsP (p : Nat) (l : List Nat) : List Pr := l.flatMap fun a => ((List.range p).filter fun b => a != b).map fun b => (a, b)
theorem sendsP_len (p : Nat) (l : List Nat) (hp : p ≤ 10) (hl : l.length ≤ 10) : (sendsP p l).length ≤ 100 := by
  unfold sendsP
  refine Nat.le_trans (flatMap_le (k := 10) (m := 10) (fun a _ => ?_) hl) (by omega)
  rw [List.length_map]
  refine Nat.le_trans (List.length_filter_le _ _) (by rw [List.length_range]; exact hp)
def F_lc (j : Nat) : FnSem := semOf (gk j none) ⟨1, 10, none, false, b_law_clockless⟩
theorem t_lc (j : Nat) : tbl P0 (j + 1) "_law_clockless" = some (F_lc j) := rfl
theorem w_lc (j : Nat) {p : Nat} {ns : List Nat} {rs : List (List Pr)} (h : Okr p ns rs) (hne : ∀ r, r ∈ rs → ∀ q, q ∈ r → q.1 ≠ q.2) : (F_lc j).run [encRun ns rs] = some (.tuple (deeds p ns rs), .none) := by
  have hn := h.n
  have hpl := h.pl
  have hr0 := h.r
  have hsl := sends_len p hpl
  refine Rt.run (Rt.cons (st_tup (va_v rfl) rfl) (Rt.cons (st_va (d := .int (p : Int)) (by rw [← hn, ← encN_len]; exact va_lenT (va_v rfl).pk) rfl) (Rt.cons (st_tm (tm_filter encI (List.range p) (fun c => ns.getD c 0 == 1) noteD (sc_rng (va_v rfl).pk (by omega)) rfl (fun c hc => tn_if rfl rfl (va_cmp (y := .int ((1 : Nat) : Int)) (Va.pk (va_idx (va_v rfl).pk (va_v rfl).pk ((idx_tup (by rw [encN_len, hn]; exact List.mem_range.mp hc)).trans (by rw [encN_get (by rw [hn]; exact List.mem_range.mp hc)])))) va_int.pk (eq_nat _ _)).pk fun _ => Va.st ?_) rfl (by rw [List.length_range]; omega)) rfl)
    (Rt.cons (st_forP encR rs (fun pre => [.val (encRun ns rs), .val (.tuple (encN ns)), .val (.tuple (rs.map encR)), .val (.int (p : Int)), .own (.list (deeds p ns pre)), .un, .un, .un, .un, .un]) (sc_tup (va_v rfl)) rfl fun pre r suf hr => ?_) (Rt.va (va_tupl (pk_own rfl)))))))
  · exact va_tup (.cons va_str.st (.cons (va_v rfl).st (.cons va_int.st .nil))) (lim_ge (Nat.le_of_ble_eq_true rfl))
  · have hh := h.e r (pre_mem hr)
    have hd := deeds_len p ns pre hpl fun r' hr' => (h.e r' (by rw [hr]; exact List.mem_append_left _ hr')).2
    have hp2 := pre_len hr
    have hs : deeds p ns (pre ++ [r]) = dstep p (deeds p ns pre) r := by unfold deeds; rw [List.foldl_append]; rfl
    rw [hs]
    generalize deeds p ns pre = D at *
    unfold dstep
    have lp : evSt (gk j none) (.for_ (.nm 5) (.r1 (.v 3)) (.cons (.asg 7 (.bin .add (.v 7) (.comp [8] (.nm 8) (.r1 (.v 3)) (.yes (.cmp .ne (.v 5) (.v 8))) (.tup (.cons (.v 5) (.cons (.v 8) .nil)))))) .nil) [5]) [.val (encRun ns rs), .val (.tuple (encN ns)), .val (.tuple (rs.map encR)), .val (.int (p : Int)), .own (.list D), .un, .val (encR r), .own (.list []), .un, .un] =
        some (.next, [.val (encRun ns rs), .val (.tuple (encN ns)), .val (.tuple (rs.map encR)), .val (.int (p : Int)), .own (.list D), .un, .val (encR r), .own (.list ((sends p).map encP)), .un, .un]) := by
      refine st_forP encI (List.range p) (fun p2 => [.val (encRun ns rs), .val (.tuple (encN ns)), .val (.tuple (rs.map encR)), .val (.int (p : Int)), .own (.list D), .un, .val (encR r), .own (.list ((sendsP p p2).map encP)), .un, .un]) (sc_rng (va_v rfl).pk (by omega)) rfl fun p2 a q2 ha => ?_
      have ha2 := pre_len ha
      rw [List.length_range] at ha2
      have hl2 := sendsP_len p p2 hpl (by omega)
      have es : (sendsP p (p2 ++ [a])).map encP = (sendsP p p2).map encP ++ ((List.range p).filter fun b => a != b).map fun b => encP (a, b) := by
        unfold sendsP
        rw [List.flatMap_append, List.map_append]
        simp only [List.flatMap_cons, List.flatMap_nil, List.append_nil, List.map_map]
        rfl
      rw [es]
      have hf := List.length_filter_le (fun b => a != b) (List.range p)
      rw [List.length_range] at hf
      refine ⟨_, _, rfl, Bk.one (st_tm (tm_addL (pk_own rfl) (Tm.pk (tm_filter encI (List.range p) (fun b => a != b) (fun b => encP (a, b)) (sc_rng (va_v rfl).pk (by omega)) rfl (fun b hb => tn_if rfl rfl (va_cmp (va_v rfl).pk (va_v rfl).pk (ne_nat _ _)).pk fun _ => Va.st ?_) rfl (by rw [List.length_range]; omega))) (by rw [List.length_map, List.length_map]; omega)) rfl), rfl⟩
      exact va_tup (.cons (va_v rfl).st (.cons (va_v rfl).st .nil)) (lim_ge (Nat.le_of_ble_eq_true rfl))
    refine ⟨_, _, rfl, Bk.cons (st_tm (tm_lst .nil (lim_ge (Nat.zero_le _))) rfl) (Bk.cons lp (Bk.cons (st_va (va_lenL (pk_own rfl)) rfl) (Bk.one (st_tm (tm_addL (xs := D ++ (sends p).map sendD) (ys := r.map (gotD p D.length)) (Tm.pk (tm_addL (pk_own rfl) (Tm.pk ?_) ?_)) (Tm.pk ?_) ?_) rfl)))), rfl⟩
    · refine tm_cg encP (sends p) (fun q => [sendD q]) (sg_own rfl) rfl (guard_own rfl) (fun q hq => tn_map rfl rfl (Va.st ?_)) rfl flat_map1 (lim_ge (by rw [List.length_map]; omega))
      exact va_tup (.cons va_str.st (.cons (va_v rfl).st (.cons (va_v rfl).st .nil))) (lim_ge (Nat.le_of_ble_eq_true rfl))
    · rw [List.length_map]; omega
    · refine tm_map encP r (gotD p D.length) (sc_tup (va_v rfl)) rfl (fun q hq => tn_map rfl rfl (Va.st ?_)) rfl (by omega)
      refine va_tup (.cons va_str.st (.cons (va_v rfl).st (.cons (Va.st (va_addN (va_v rfl).pk (Va.pk (va_index (pk_own rfl) (va_tup (ds := [.int q.1, .int q.2]) (.cons (va_v rfl).st (.cons (va_v rfl).st .nil)) (lim_ge (Nat.le_of_ble_eq_true rfl))).pk (Pl.shp (n := 2) (.lst (pl_encR _)) (by omega)) (Pl.shp (n := 1) (pl_encP q) (by omega)) ((idxOf_enc (q := q) (l := sends p) (n := 0) (mem_sends.mpr ⟨(hh.1 q hq).1, (hh.1 q hq).2, hne r (pre_mem hr) q hq⟩)).trans (by rw [Nat.zero_add])))))) .nil))) (lim_ge (Nat.le_of_ble_eq_true rfl))
    · rw [List.length_append, List.length_map, List.length_map]; omega
end K79
end
section
set_option Elab.async false
set_option linter.all false
set_option maxRecDepth 1000000
set_option maxHeartbeats 4000000
namespace K79
open PySem Pz
/-! a past looks the same -/
def cutS (S : List Nat) (l : List (List Pr)) : List Nat × List (List Pr) := l.foldl bstep (S, [])
theorem cutS_acc : ∀ (l : List (List Pr)) (S : List Nat) (acc : List (List Pr)), l.foldl bstep (S, acc) = ((cutS S l).1, acc ++ (cutS S l).2)
  | [], S, acc => by simp [cutS]
  | r :: l, S, acc => by
    have e1 : (r :: l).foldl bstep (S, acc) = l.foldl bstep (S ++ (r.filter fun p => S.contains p.2).map (·.1), acc ++ [r.filter fun p => S.contains p.2]) := rfl
    have e2 : cutS S (r :: l) = l.foldl bstep (S ++ (r.filter fun p => S.contains p.2).map (·.1), [] ++ [r.filter fun p => S.contains p.2]) := rfl
    rw [e1, e2, cutS_acc l, cutS_acc l _ ([] ++ _)]
    simp [List.append_assoc]
def ownR (S : List Nat) (r : List Pr) : List Pr := r.filter fun p => S.contains p.2
theorem cutS_cons (r : List Pr) (l : List (List Pr)) (S : List Nat) : cutS S (r :: l) = ((cutS (S ++ (ownR S r).map (·.1)) l).1, ownR S r :: (cutS (S ++ (ownR S r).map (·.1)) l).2) := by
  show l.foldl bstep (bstep (S, []) r) = _
  rw [show bstep (S, []) r = (S ++ (ownR S r).map (·.1), [ownR S r]) from rfl, cutS_acc]
  rfl
def cutN (S : List Nat) (ns : List Nat) : List Nat := (List.range ns.length).map fun c => if S.contains c then ns.getD c 0 else 0
theorem cutN_len (S ns : List Nat) : (cutN S ns).length = ns.length := by unfold cutN; rw [List.length_map, List.length_range]
theorem getD_range {α : Type} {f : Nat → α} {n b : Nat} {x : α} (h : b < n) : ((List.range n).map f).getD b x = f b := by
  rw [List.getD_eq_getElem?_getD, List.getElem?_map, List.getElem?_range h]; rfl
theorem rviews_snoc (ns : List Nat) (rs : List (List Pr)) (r : List Pr) : rviews ns (rs ++ [r]) = vbr (rviews ns rs) r := by
  unfold rviews
  rw [List.foldl_append]
  rfl
theorem vbr_get {vs : List PyData} {r : List Pr} {b : Nat} (h : b < vs.length) : (vbr vs r).getD b .none = vbr1 vs r b := getD_range h
theorem cut_mem {S : List Nat} : ∀ {l : List (List Pr)} {S : List Nat}, ∀ x, x ∈ S → x ∈ (cutS S l).1
  | [], S, x, h => h
  | r :: l, S, x, h => by
    rw [cutS_cons]
    exact cut_mem (S := S) x (List.mem_append_left _ h)
theorem view_cut {p : Nat} {ns : List Nat} (hn : ns.length = p) : ∀ (l : List (List Pr)) (S : List Nat) (b : Nat), (∀ r, r ∈ l → ∀ q, q ∈ r → q.1 < p ∧ q.2 < p) → b ∈ S → b < p →
    (rviews (cutN (cutS S l).1 ns) (cutS S l).2.reverse).getD b .none = (rviews ns l.reverse).getD b .none
  | [], S, b, _, hb, hp => by
    show (encN (cutN S ns)).getD b .none = (encN ns).getD b .none
    rw [encN_get (by rw [cutN_len]; omega), encN_get (by omega)]
    unfold cutN
    rw [getD_range (by omega), if_pos (List.contains_iff_mem.mpr hb)]
  | r :: l, S, b, hr, hb, hp => by
    have ih := fun b => view_cut hn l (S ++ (ownR S r).map (·.1)) b fun r' h' => hr r' (List.mem_cons_of_mem _ h')
    rw [cutS_cons]
    simp only
    rw [List.reverse_cons, List.reverse_cons, rviews_snoc, rviews_snoc]
    generalize hA : rviews (cutN (cutS (S ++ (ownR S r).map (·.1)) l).1 ns) (cutS (S ++ (ownR S r).map (·.1)) l).2.reverse = A at *
    have hAl : A.length = p := by rw [← hA, rviews_len, cutN_len, hn]
    have hBl : (rviews ns l.reverse).length = p := by rw [rviews_len, hn]
    generalize rviews ns l.reverse = B at *
    rw [vbr_get (by omega), vbr_get (by omega)]
    unfold vbr1
    rw [ih b (List.mem_append_left _ hb) hp]
    have ef : (ownR S r).filter (fun q => q.2 == b) = r.filter fun q => q.2 == b := by
      unfold ownR
      rw [List.filter_filter]
      refine List.filter_congr fun q _ => ?_
      cases hq : q.2 == b with
      | false => rfl
      | true =>
        rw [Bool.true_and, eq_of_beq hq]
        exact List.contains_iff_mem.mpr hb
    rw [ef]
    congr 2
    congr 1
    congr 1
    refine List.map_congr_left fun q hq => ?_
    obtain ⟨h1, h2⟩ := List.mem_filter.mp hq
    have h2 := eq_of_beq h2
    rw [ih q.1 (List.mem_append_right _ (List.mem_map.mpr ⟨q, List.mem_filter.mpr ⟨h1, by rw [h2]; exact List.contains_iff_mem.mpr hb⟩, rfl⟩)) (hr r List.mem_cons_self q h1).1]
theorem past_view {p : Nat} {ns : List Nat} {rs : List (List Pr)} (h : Okr p ns rs) {a : Nat} (ha : a < p) : (rviews (pastN a ns rs) (pastR a rs)).getD a .none = (rviews ns rs).getD a .none := by
  have := view_cut h.n rs.reverse [a] a (fun r hr => (h.e r (List.mem_reverse.mp hr)).1) List.mem_cons_self ha
  rw [List.reverse_reverse] at this
  exact this
theorem cut_sub : ∀ (l : List (List Pr)) (S : List Nat) (r : List Pr), r ∈ (cutS S l).2 → ∃ r0, r0 ∈ l ∧ r.Sublist r0
  | [], S, r, h => by simp [cutS] at h
  | r1 :: l, S, r, h => by
    rw [cutS_cons] at h
    rcases List.mem_cons.mp h with rfl | h
    · exact ⟨r1, List.mem_cons_self, List.filter_sublist⟩
    · obtain ⟨r0, h1, h2⟩ := cut_sub l _ r h
      exact ⟨r0, List.mem_cons_of_mem _ h1, h2⟩
theorem past_sub {a : Nat} {rs : List (List Pr)} {r : List Pr} (h : r ∈ pastR a rs) : ∃ r0, r0 ∈ rs ∧ r.Sublist r0 := by
  obtain ⟨r0, h1, h2⟩ := cut_sub rs.reverse [a] r (List.mem_reverse.mp h)
  exact ⟨r0, List.mem_reverse.mp h1, h2⟩
theorem pastN_len (a : Nat) (ns : List Nat) (rs : List (List Pr)) : (pastN a ns rs).length = ns.length := by unfold pastN; rw [List.length_map, List.length_range]
theorem pastR_len (a : Nat) (rs : List (List Pr)) (h : ∀ r, r ∈ rs → r.length ≤ 100) : (pastR a rs).length = rs.length := by
  unfold pastR
  rw [List.length_reverse, (bfold_len a rs.reverse fun r hr => h r (List.mem_reverse.mp hr)).2, List.length_reverse]
theorem past_ok {p : Nat} {ns : List Nat} {rs : List (List Pr)} (h : Okr p ns rs) (a : Nat) : Okr p (pastN a ns rs) (pastR a rs) := by
  refine ⟨by rw [pastN_len, h.n], h.pl, by rw [pastR_len a rs fun r hr => (h.e r hr).2]; exact h.r, fun r hr => ?_⟩
  obtain ⟨r0, h1, h2⟩ := past_sub hr
  have := h.e r0 h1
  exact ⟨fun q hq => this.1 q (h2.subset hq), Nat.le_trans h2.length_le this.2⟩
/-! another note -/
theorem flip_fold {p : Nat} : ∀ (rs : List (List Pr)) (vs ws : List PyData) (R : List Nat), (∀ r, r ∈ rs → ∀ q, q ∈ r → q.1 < p ∧ q.2 < p) → vs.length = p → ws.length = p → (∀ b, b < p → (vs.getD b .none = ws.getD b .none ↔ b ∉ R)) →
    ∀ b, b < p → ((rs.foldl vbr vs).getD b .none = (rs.foldl vbr ws).getD b .none ↔ b ∉ rs.foldl fstep R)
  | [], vs, ws, R, _, _, _, h, b, hb => h b hb
  | r :: rs, vs, ws, R, hr, h1, h2, h, b, hb => by
    rw [List.foldl_cons, List.foldl_cons, List.foldl_cons]
    refine flip_fold rs (vbr vs r) (vbr ws r) (fstep R r) (fun r' h' => hr r' (List.mem_cons_of_mem _ h')) (by rw [vbr_len, h1]) (by rw [vbr_len, h2]) (fun b hb => ?_) b hb
    rw [vbr_get (by omega), vbr_get (by omega), mem_fstep]
    unfold vbr1
    simp only [PyData.tuple.injEq, List.cons.injEq, and_true]
    rw [List.map_inj_left, h b hb]
    constructor
    · rintro ⟨h3, h4⟩ (h5 | ⟨q, h5, h6, h7⟩)
      · exact h3 h5
      · have h8 := h4 q (List.mem_filter.mpr ⟨h5, by rw [h7]; exact beq_self_eq_true b⟩)
        simp only [PyData.tuple.injEq, List.cons.injEq, and_true, true_and] at h8
        exact (h q.1 (hr r List.mem_cons_self q h5).1).mp h8 h6
    · intro h3
      refine ⟨fun h4 => h3 (.inl h4), fun q hq => ?_⟩
      obtain ⟨h5, h6⟩ := List.mem_filter.mp hq
      rw [(h q.1 (hr r List.mem_cons_self q h5).1).mpr fun h7 => h3 (.inr ⟨q, h5, h7, eq_of_beq h6⟩)]
def flipN (ns : List Nat) (c : Nat) : List Nat := ns.set c (1 - ns.getD c 0)
theorem flip_view {p : Nat} {ns : List Nat} {rs : List (List Pr)} (h : Okr p ns rs) (hb : ∀ n, n ∈ ns → n ≤ 1) {a c : Nat} (ha : a < p) (hc : c < p) : (rviews (flipN ns c) rs).getD a .none = (rviews ns rs).getD a .none ↔ a ∉ reach c rs := by
  have hn := h.n
  have hl : (flipN ns c).length = p := by unfold flipN; rw [List.length_set, hn]
  refine flip_fold rs (encN (flipN ns c)) (encN ns) [c] (fun r hr => (h.e r hr).1) (by rw [encN_len, hl]) (by rw [encN_len, hn]) (fun b hb' => ?_) a ha
  rw [encN_get (by omega), encN_get (by omega), List.mem_singleton]
  unfold flipN
  simp only [PyData.int.injEq]
  have hc2 : ns.getD c 0 ≤ 1 := by
    rw [List.getD_eq_getElem?_getD, List.getElem?_eq_getElem (by omega)]
    exact hb _ (List.getElem_mem (by omega))
  by_cases e : b = c
  · subst e
    rw [List.getD_eq_getElem?_getD (l := ns.set _ _), List.getElem?_set_self (by omega), Option.getD_some]
    constructor
    · intro h1; omega
    · intro h1; exact absurd rfl h1
  · rw [List.getD_eq_getElem?_getD (l := ns.set _ _), List.getElem?_set_ne (fun h => e h.symm), ← List.getD_eq_getElem?_getD]
    exact ⟨fun _ => e, fun _ => rfl⟩
/-! kinds of views -/
theorem Tp.none {n : Nat} : Tp n .none := by cases n <;> simp only [Tp]
theorem Tp.up : ∀ {n : Nat} {d : PyData}, Tp n d → Tp (n + 1) d
  | n, .none, _ => .none
  | n, .int _, _ => .int
  | n, .str _, h => .str (by cases n <;> simpa only [Tp] using h)
  | 0, .tuple _, h => by simp only [Tp] at h
  | n + 1, .tuple ds, h => by
    simp only [Tp] at h
    exact .tup h.1 fun d hd => (h.2 d hd).up
  | 0, .list _, h => by simp only [Tp] at h
  | n + 1, .list _, h => by simp only [Tp] at h
  | 0, .bool _, h => by simp only [Tp] at h
  | 0, .dict _, h => by simp only [Tp] at h
  | n + 1, .bool _, h => by simp only [Tp] at h
  | n + 1, .dict _, h => by simp only [Tp] at h
theorem Tp.le {n m : Nat} {d : PyData} (h : Tp n d) (hm : n ≤ m) : Tp m d := by
  induction hm with
  | refl => exact h
  | step _ ih => exact ih.up
theorem tp_getD {n : Nat} {vs : List PyData} (h : ∀ v, v ∈ vs → Tp n v) (b : Nat) : Tp n (vs.getD b .none) := by
  rw [List.getD_eq_getElem?_getD]
  by_cases hb : b < vs.length
  · rw [List.getElem?_eq_getElem hb]
    exact h _ (List.getElem_mem hb)
  · rw [List.getElem?_eq_none (by omega)]
    exact .none
theorem tp2 {n : Nat} {x y : PyData} (hx : Tp n x) (hy : Tp n y) : Tp (n + 1) (.tuple [x, y]) := .tup (by simp) fun d hd => by
  simp only [List.mem_cons, List.not_mem_nil, or_false] at hd
  rcases hd with rfl | rfl
  · exact hx
  · exact hy
theorem tp3 {n : Nat} {x y z : PyData} (hx : Tp n x) (hy : Tp n y) (hz : Tp n z) : Tp (n + 1) (.tuple [x, y, z]) := .tup (by simp) fun d hd => by
  simp only [List.mem_cons, List.not_mem_nil, or_false] at hd
  rcases hd with rfl | rfl | rfl
  · exact hx
  · exact hy
  · exact hz
theorem tp_fold : ∀ (rs : List (List Pr)) (vs : List PyData) (n : Nat), (∀ r, r ∈ rs → r.length ≤ 100) → (∀ v, v ∈ vs → Tp n v) → ∀ v, v ∈ rs.foldl vbr vs → Tp (n + 3 * rs.length) v
  | [], vs, n, _, h => h
  | r :: rs, vs, n, hr, h => by
    rw [List.foldl_cons, List.length_cons]
    have : n + 3 * (rs.length + 1) = n + 3 + 3 * rs.length := by omega
    rw [this]
    refine tp_fold rs (vbr vs r) (n + 3) (fun r' h' => hr r' (List.mem_cons_of_mem _ h')) fun v hv => ?_
    obtain ⟨b, _, rfl⟩ := List.mem_map.mp hv
    have hl := List.length_filter_le (fun q : Pr => q.2 == b) r
    have hr := hr r List.mem_cons_self
    refine tp2 ((tp_getD h b).le (by omega)) (.tup (by rw [List.length_map]; omega) fun d hd => ?_)
    obtain ⟨q, _, rfl⟩ := List.mem_map.mp hd
    exact tp2 .int (tp_getD h q.1)
theorem tp_view {p : Nat} {ns : List Nat} {rs : List (List Pr)} (h : Okr p ns rs) (a : Nat) : Tp 30 ((rviews ns rs).getD a .none) := by
  have := tp_fold rs (encN ns) 0 (fun r hr => (h.e r hr).2) fun v hv => by
    obtain ⟨n, _, rfl⟩ := List.mem_map.mp hv
    exact .int
  exact tp_getD (fun v hv => (this v hv).le (by have := h.r; omega)) a
theorem tp_run {p : Nat} {ns : List Nat} {rs : List (List Pr)} (h : Okr p ns rs) : Tp 4 (encRun ns rs) := by
  have hn := h.n
  have hp := h.pl
  have hr0 := h.r
  refine tp2 (.tup (by rw [encN_len]; omega) fun d hd => ?_) (.tup (by rw [List.length_map]; omega) fun d hd => ?_)
  · obtain ⟨n, _, rfl⟩ := List.mem_map.mp hd
    exact .int
  · obtain ⟨r, hr, rfl⟩ := List.mem_map.mp hd
    refine .tup (by rw [List.length_map]; have := (h.e r hr).2; omega) fun d hd => ?_
    obtain ⟨q, _, rfl⟩ := List.mem_map.mp hd
    exact tp2 .int .int
end K79
end
section
set_option Elab.async false
set_option linter.all false
set_option maxRecDepth 1000000
set_option maxHeartbeats 4000000
namespace K79
open PySem Pz
/-! deeds, by their sorts -/
inductive De where
  | note (c : Nat) | send (a b : Nat) | get (b i : Nat)
def encD : De → PyData
  | .note c => noteD c
  | .send a b => sendD (a, b)
  | .get b i => .tuple [.str (Str.ofString "get"), .int b, .int i]
def dstep2 (p : Nat) (D : List De) (r : List Pr) : List De := D ++ (sends p).map (fun q => .send q.1 q.2) ++ r.map fun q => .get q.2 (D.length + (sends p).idxOf q)
def deeds2 (p : Nat) (ns : List Nat) (rs : List (List Pr)) : List De := rs.foldl (dstep2 p) (((List.range p).filter fun c => ns.getD c 0 == 1).map .note)
theorem dstep_enc (p : Nat) (D : List De) (r : List Pr) : dstep p (D.map encD) r = (dstep2 p D r).map encD := by
  unfold dstep dstep2
  rw [List.map_append, List.map_append, List.map_map, List.map_map, List.length_map]
  rfl
theorem deeds_enc (p : Nat) (ns : List Nat) (rs : List (List Pr)) : deeds p ns rs = (deeds2 p ns rs).map encD := by
  have : ∀ (rs : List (List Pr)) (D : List De), rs.foldl (dstep p) (D.map encD) = (rs.foldl (dstep2 p) D).map encD := fun rs => by
    induction rs with
    | nil => intro D; rfl
    | cons r rs ih => intro D; rw [List.foldl_cons, List.foldl_cons, dstep_enc, ih]
  unfold deeds deeds2
  rw [← this, List.map_map]
  rfl
def GoodAt (p : Nat) (D : List De) (k : Nat) : De → Prop
  | .note c => c < p
  | .send a b => a < p ∧ b < p ∧ a ≠ b
  | .get b i => b < p ∧ i < k ∧ (∃ a, D[i]? = some (.send a b)) ∧ ∀ k' b' : Nat, k' < k → D[k']? ≠ some (.get b' i)
def Good (p : Nat) (D : List De) : Prop := ∀ k d, D[k]? = some d → GoodAt p D k d
/-! the walks -/
theorem encD_get (D : List De) {k : Nat} {d : De} (h : D[k]? = some d) : idxD (.tuple (D.map encD)) (.int (k : Int)) = some (encD d) := by
  have hl := (List.getElem?_eq_some_iff.mp h).1
  rw [idx_tup (by rw [List.length_map]; exact hl), getD_map h]
theorem neS1 : cmpD .ne (.str (Str.ofString "send")) (.str (Str.ofString "send")) = some false := by decide +kernel
theorem neS2 : cmpD .ne (.str (Str.ofString "note")) (.str (Str.ofString "get")) = some true := by decide +kernel
theorem neS3 : cmpD .ne (.str (Str.ofString "send")) (.str (Str.ofString "get")) = some true := by decide +kernel
theorem neS4 : cmpD .ne (.str (Str.ofString "get")) (.str (Str.ofString "get")) = some false := by decide +kernel
theorem eqS1 : cmpD .eq (.str (Str.ofString "note")) (.str (Str.ofString "send")) = some false := by decide +kernel
theorem eqS2 : cmpD .eq (.str (Str.ofString "send")) (.str (Str.ofString "send")) = some true := by decide +kernel
theorem eqS3 : cmpD .eq (.str (Str.ofString "get")) (.str (Str.ofString "send")) = some false := by decide +kernel
theorem eqS4 : cmpD .eq (.str (Str.ofString "note")) (.str (Str.ofString "note")) = some true := by decide +kernel
theorem eqS5 : cmpD .eq (.str (Str.ofString "get")) (.str (Str.ofString "note")) = some false := by decide +kernel
theorem le0 (n : Nat) : cmpD .le (.int 0) (.int (n : Int)) = some true := by
  show some (decide ((0 : Int) ≤ (n : Int))) = _
  rw [decide_eq_true (by omega)]
theorem lt_nat {m n : Nat} (h : m < n) : cmpD .lt (.int (m : Int)) (.int (n : Int)) = some true := by
  show some (decide ((m : Int) < (n : Int))) = _
  rw [decide_eq_true (by omega)]
theorem va_in {G : EvG} {ρ : PEnv} {e b : PExp} {m n : Nat} (h : Pk G ρ e (.int (m : Int))) (hb : Pk G ρ b (.int (n : Int))) (hmn : m < n) : Va G ρ (.chain .le .lt (.int 0) e b) (.bool true) := va_chain va_int.pk h hb (le0 m) (lt_nat hmn)
def F_rg (j : Nat) : FnSem := semOf (gk j none) ⟨2, 6, none, false, b_is_right_get⟩
theorem t_rg (j : Nat) : tbl P0 (j + 1) "is_right_get" = some (F_rg j) := rfl
def notGot (i : Nat) : De → Bool
  | .get _ i' => i' != i
  | _ => true
theorem w_rg (j : Nat) {p : Nat} {D : List De} {k b i : Nat} (hl : D.length ≤ 100000) (h : D[k]? = some (.get b i)) (g : GoodAt p D k (.get b i)) : (F_rg j).run [.tuple (D.map encD), .int (k : Int)] = some (.bool true, .none) := by
  obtain ⟨g1, g2, ⟨a, g3⟩, g4⟩ := g
  have hk := (List.getElem?_eq_some_iff.mp h).1
  refine Rt.run (Rt.cons (st_tup (va_idx (va_v rfl).pk (va_v rfl).pk (encD_get D h)) rfl) (Rt.cons (st_skip (Va.pk (va_or (ds_cons (k := false) (Va.pk (va_not (k := true) (va_in (va_v rfl).pk (va_v rfl).pk g2).pk)) fun _ => ds_cons (k := false) (Va.pk (va_cmp (Va.pk (va_idx (Va.pk (va_idx (va_v rfl).pk (va_v rfl).pk (encD_get D g3))) va_int.pk rfl)) va_str.pk neS1)) fun _ => .one (k := false) (Va.pk (va_cmp (Va.pk (va_idx (Va.pk (va_idx (va_v rfl).pk (va_v rfl).pk (encD_get D g3))) va_int.pk rfl)) (va_v rfl).pk ((ne_nat b b).trans (by simp)))))))) (Rt.va ?_)))
  have hall : (D.take k).all (notGot i) = true := by
    rw [List.all_eq_true]
    intro d hd
    obtain ⟨k', hk', e⟩ := List.mem_iff_getElem.mp hd
    rw [List.length_take] at hk'
    rw [List.getElem_take] at e
    cases d with
    | get b' i' =>
      unfold notGot
      by_cases hi : i' = i
      · subst hi
        exact absurd (List.getElem?_eq_some_iff.mpr ⟨by omega, e⟩) (g4 k' b' (by omega))
      · simpa using hi
    | _ => rfl
  rw [← hall]
  refine va_allB (Tm.pk (tm_map encD (D.take k) (fun d => .bool (notGot i d)) (sc_tup ?_) rfl (fun d hd => tn_map rfl rfl (Va.st ?_)) rfl (by rw [List.length_take]; omega)))
  · rw [List.map_take]
    exact va_slice (va_v rfl).pk ob_no (ob_yes (va_v rfl).pk) (by simp only [sliceD]; rw [cut_lo (by rw [List.length_map]; omega)])
  · cases d with
    | note c => exact va_or (ds_cons (k := true) (l := true) (Va.pk (va_cmp (Va.pk (va_idx (va_v rfl).pk va_int.pk rfl)) va_str.pk neS2)) fun h => nomatch h)
    | send a b => exact va_or (ds_cons (k := true) (l := true) (Va.pk (va_cmp (Va.pk (va_idx (va_v rfl).pk va_int.pk rfl)) va_str.pk neS3)) fun h => nomatch h)
    | get b' i' => exact va_or (ds_cons (k := false) (Va.pk (va_cmp (Va.pk (va_idx (va_v rfl).pk va_int.pk rfl)) va_str.pk neS4)) fun _ => .one (Va.pk (va_cmp (Va.pk (va_idx (va_v rfl).pk va_int.pk rfl)) (va_v rfl).pk (ne_nat _ _))))
def F_rd (j : Nat) : FnSem := semOf (gk j none) ⟨3, 4, none, false, b_is_right_deed⟩
theorem t_rd (j : Nat) : tbl P0 (j + 1) "is_right_deed" = some (F_rd j) := rfl
theorem w_rd (j : Nat) {p : Nat} {D : List De} {k : Nat} {d : De} (hl : D.length ≤ 100000) (h : D[k]? = some d) (g : GoodAt p D k d) : (F_rd (j + 1)).run [.tuple (D.map encD), .int (k : Int), .int (p : Int)] = some (.bool true, .none) := by
  refine Rt.run (Rt.cons (st_va (va_idx (va_v rfl).pk (va_v rfl).pk (encD_get D h)) rfl) ?_)
  cases d with
  | note c => exact Rt.cons (st_skip (Va.pk (va_not (k := true) (va_in (Va.pk (va_idx (va_v rfl).pk va_int.pk rfl)) (va_v rfl).pk g).pk))) (Rt.cons (st_skip (Va.pk (va_cmp (Va.pk (va_idx (va_v rfl).pk va_int.pk rfl)) va_str.pk eqS1))) (Rt.va (va_or (ds_cons (k := true) (l := true) (Va.pk (va_cmp (Va.pk (va_idx (va_v rfl).pk va_int.pk rfl)) va_str.pk eqS4)) fun h => nomatch h))))
  | send a b =>
    obtain ⟨g1, g2, g3⟩ := g
    exact Rt.cons (st_skip (Va.pk (va_not (k := true) (va_in (Va.pk (va_idx (va_v rfl).pk va_int.pk rfl)) (va_v rfl).pk g1).pk))) (Rt.ite_ret (Va.pk (va_cmp (Va.pk (va_idx (va_v rfl).pk va_int.pk rfl)) va_str.pk eqS2)) (Rt.va (va_and (.yes (Va.pk (va_in (Va.pk (va_idx (va_v rfl).pk va_int.pk rfl)) (va_v rfl).pk g2)) (.one (Va.pk (va_cmp (Va.pk (va_idx (va_v rfl).pk va_int.pk rfl)) (Va.pk (va_idx (va_v rfl).pk va_int.pk rfl)) ((ne_nat b a).trans (by simp; exact fun h => g3 h.symm)))))))))
  | get b i =>
    exact Rt.cons (st_skip (Va.pk (va_not (k := true) (va_in (Va.pk (va_idx (va_v rfl).pk va_int.pk rfl)) (va_v rfl).pk g.1).pk))) (Rt.cons (st_skip (Va.pk (va_cmp (Va.pk (va_idx (va_v rfl).pk va_int.pk rfl)) va_str.pk eqS3))) (Rt.va (va_or (ds_cons (k := false) (Va.pk (va_cmp (Va.pk (va_idx (va_v rfl).pk va_int.pk rfl)) va_str.pk eqS5)) fun _ => .one (Va.pk (va_callA (fs := F_rg j) (t_rg j) rfl rfl (.va (va_v rfl) (.va (va_v rfl) .nil)) (w_rg j hl h g)))))))
def F_rr (j : Nat) : FnSem := semOf (gk j none) ⟨2, 3, none, false, b_is_right_run⟩
theorem t_rr (j : Nat) : tbl P0 (j + 1) "is_right_run" = some (F_rr j) := rfl
theorem w_rr (j : Nat) {p : Nat} {D : List De} (hl : D.length ≤ 100000) (g : Good p D) : (F_rr (j + 2)).run [.tuple (D.map encD), .int (p : Int)] = some (.bool true, .none) := by
  refine Rt.run (Rt.va ?_)
  have : (List.range D.length).all (fun _ => true) = true := by simp
  rw [← this]
  refine va_allB (Tm.pk (tm_map encI (List.range D.length) (fun _ => .bool true) (sc_rng (by rw [← List.length_map (f := encD)]; exact (va_lenT (va_v rfl).pk).pk) (by omega)) rfl (fun k hk => tn_map rfl rfl (Va.st ?_)) rfl (by rw [List.length_range]; omega)))
  have hk := List.mem_range.mp hk
  have h : D[k]? = some D[k] := List.getElem?_eq_getElem hk
  exact va_callA (fs := F_rd (j + 1)) (t_rd (j + 1)) rfl rfl (.va (va_v rfl) (.va (va_v rfl) (.va (va_v rfl) .nil))) (w_rd j hl h (g k _ h))
def F_cmr (j : Nat) : FnSem := semOf (gk j none) ⟨2, 2, none, false, b_check_message_run⟩
theorem t_cmr (j : Nat) : tbl P0 (j + 1) "check_message_run" = some (F_cmr j) := rfl
theorem w_cmr (j : Nat) {p : Nat} {D : List De} (hl : D.length ≤ 100000) (g : Good p D) : (F_cmr (j + 3)).run [.tuple (D.map encD), .int (p : Int)] = some (.none, .none) :=
  run_next (Bk.one (st_skip (Va.pk (va_not (k := true) (Va.pk (va_callA (fs := F_rr (j + 2)) (t_rr (j + 2)) rfl rfl (.va (va_v rfl) (.va (va_v rfl) .nil)) (w_rr j hl g)))))))
/-! the deeds are right -/
theorem good_snoc {p : Nat} {D : List De} {d : De} (g : Good p D) (h : GoodAt p D D.length d) : Good p (D ++ [d]) := by
  have up : ∀ k e, k ≤ D.length → GoodAt p D k e → GoodAt p (D ++ [d]) k e := fun k e hk ge => by
    cases e with
    | note c => exact ge
    | send a b => exact ge
    | get b i =>
      obtain ⟨g1, g2, ⟨a, g3⟩, g4⟩ := ge
      refine ⟨g1, g2, ⟨a, ?_⟩, fun k' b' hk' => ?_⟩
      · rw [List.getElem?_append_left (by omega)]; exact g3
      · rw [List.getElem?_append_left (by omega)]; exact g4 k' b' hk'
  intro k e hk
  by_cases hkl : k < D.length
  · rw [List.getElem?_append_left hkl] at hk
    exact up k e (by omega) (g k e hk)
  · have := (List.getElem?_eq_some_iff.mp hk).1
    rw [List.length_append, List.length_cons, List.length_nil] at this
    have hk2 : k = D.length := by omega
    subst hk2
    rw [List.getElem?_append_right (Nat.le_refl _), Nat.sub_self, List.getElem?_cons_zero] at hk
    cases hk
    exact up _ _ (Nat.le_refl _) h
theorem good_app {p : Nat} : ∀ (X : List De) (D : List De), Good p D → (∀ pre d suf, X = pre ++ d :: suf → Good p (D ++ pre) → GoodAt p (D ++ pre) (D ++ pre).length d) → Good p (D ++ X)
  | [], D, g, _ => by rw [List.append_nil]; exact g
  | d :: X, D, g, h => by
    rw [show D ++ d :: X = (D ++ [d]) ++ X by rw [List.append_assoc]; rfl]
    have h0 := h [] d X rfl (by rw [List.append_nil]; exact g)
    rw [List.append_nil] at h0
    refine good_app X (D ++ [d]) (good_snoc g h0) fun pre e suf hp g' => ?_
    have := h (d :: pre) e suf (by rw [hp]; rfl) (by rw [show D ++ d :: pre = (D ++ [d]) ++ pre by rw [List.append_assoc]; rfl]; exact g')
    rw [show D ++ d :: pre = (D ++ [d]) ++ pre by rw [List.append_assoc]; rfl] at this
    exact this
theorem idxOf_inj {l : List Pr} {q q' : Pr} (h : q ∈ l) (h' : q' ∈ l) (e : l.idxOf q = l.idxOf q') : q = q' := by
  have h1 := List.idxOf_lt_length_iff.mpr h
  have h2 := List.idxOf_lt_length_iff.mpr h'
  have e1 : l[l.idxOf q]? = some q := by rw [List.getElem?_eq_getElem h1, List.getElem_idxOf h1]
  have e2 : l[l.idxOf q']? = some q' := by rw [List.getElem?_eq_getElem h2, List.getElem_idxOf h2]
  rw [e, e2] at e1
  exact (Option.some.inj e1).symm
theorem good_step {p : Nat} {D : List De} {r : List Pr} (g : Good p D) (hr : ∀ q, q ∈ r → q ∈ sends p) (hd : r.Nodup) : Good p (dstep2 p D r) := by
  unfold dstep2
  have gS : Good p (D ++ (sends p).map fun q => .send q.1 q.2) := by
    refine good_app _ D g fun pre d suf h _ => ?_
    have hm : d ∈ (sends p).map fun q => De.send q.1 q.2 := by rw [h]; exact List.mem_append_right _ List.mem_cons_self
    obtain ⟨q, hq, rfl⟩ := List.mem_map.mp hm
    exact mem_sends.mp hq
  refine good_app _ _ gS fun pre d suf h gp => ?_
  obtain ⟨r1, r2, hr12, rfl, h2⟩ := List.map_eq_append_iff.mp h
  obtain ⟨q, r3, hr3, rfl, rfl⟩ := List.map_eq_cons_iff.mp h2
  subst hr3
  have hq : q ∈ sends p := hr q (by rw [hr12]; exact List.mem_append_right _ List.mem_cons_self)
  have hi := List.idxOf_lt_length_iff.mpr hq
  have hlt : D.length + (sends p).idxOf q < (D ++ (sends p).map (fun q => De.send q.1 q.2) ++ r1.map fun q => De.get q.2 (D.length + (sends p).idxOf q)).length := by
    rw [List.length_append, List.length_append, List.length_map]; omega
  refine ⟨(mem_sends.mp hq).2.1, hlt, ⟨q.1, ?_⟩, fun k' b' hk' e => ?_⟩
  · rw [List.getElem?_append_left (by rw [List.length_append, List.length_map]; omega), List.getElem?_append_right (by omega), Nat.add_sub_cancel_left, List.getElem?_map, List.getElem?_eq_getElem hi, List.getElem_idxOf hi]
    rfl
  · have hm := List.mem_of_getElem? e
    rcases List.mem_append.mp hm with hm | hm
    · rcases List.mem_append.mp hm with hm | hm
      · obtain ⟨k2, hk2, e2⟩ := List.mem_iff_getElem.mp hm
        have := (g k2 _ (List.getElem?_eq_some_iff.mpr ⟨hk2, e2⟩)).2.1
        omega
      · obtain ⟨_, _, e3⟩ := List.mem_map.mp hm
        cases e3
    · obtain ⟨q', h1, e3⟩ := List.mem_map.mp hm
      simp only [De.get.injEq] at e3
      have hq' : q' ∈ sends p := hr q' (by rw [hr12]; exact List.mem_append_left _ h1)
      have := idxOf_inj hq' hq (by omega)
      subst this
      rw [hr12] at hd
      exact (List.nodup_append.mp hd).2.2 _ h1 _ List.mem_cons_self rfl
theorem good_deeds {p : Nat} {ns : List Nat} {rs : List (List Pr)} (hr : ∀ r, r ∈ rs → (∀ q, q ∈ r → q ∈ sends p) ∧ r.Nodup) : Good p (deeds2 p ns rs) := by
  have : ∀ (rs : List (List Pr)) (D : List De), Good p D → (∀ r, r ∈ rs → (∀ q, q ∈ r → q ∈ sends p) ∧ r.Nodup) → Good p (rs.foldl (dstep2 p) D) := fun rs => by
    induction rs with
    | nil => intro D g _; exact g
    | cons r rs ih =>
      intro D g h
      rw [List.foldl_cons]
      exact ih _ (good_step g (h r List.mem_cons_self).1 (h r List.mem_cons_self).2) fun r' h' => h r' (List.mem_cons_of_mem _ h')
  refine this rs _ (fun k d hk => ?_) hr
  obtain ⟨c, hc, rfl⟩ := List.mem_map.mp (List.mem_of_getElem? hk)
  exact List.mem_range.mp (List.mem_filter.mp hc).1
end K79
end
section
set_option Elab.async false
set_option linter.all false
set_option maxRecDepth 1000000
set_option maxHeartbeats 4000000
namespace K79
open PySem Pz
/-! right round runs -/
structure GR (p : Nat) (ns : List Nat) (rs : List (List Pr)) : Prop where
  p1 : 1 ≤ p
  p4 : p ≤ 4
  n : ns.length = p
  b : ∀ n, n ∈ ns → n ≤ 1
  r4 : rs.length ≤ 4
  s : ∀ r, r ∈ rs → r.Sublist (sends p)
def ltP (q q' : Pr) : Prop := q.1 < q'.1 ∨ (q.1 = q'.1 ∧ q.2 < q'.2)
instance (q q' : Pr) : Decidable (ltP q q') := by unfold ltP; infer_instance
theorem sends_asc : ∀ p, p ≤ 4 → (sends p).Pairwise ltP := by decide +kernel
theorem sends_12 : ∀ p, p ≤ 4 → (sends p).length ≤ 12 := by decide +kernel
theorem sends_3 : ∀ p, p ≤ 4 → ∀ b, b < 4 → ((sends p).filter fun q => q.2 == b).length ≤ 3 := by decide +kernel
theorem GR.ok {p : Nat} {ns : List Nat} {rs : List (List Pr)} (h : GR p ns rs) : Okr p ns rs := by
  have h4 := h.p4
  refine ⟨h.n, by omega, by have := h.r4; omega, fun r hr => ⟨fun q hq => ?_, ?_⟩⟩
  · have := mem_sends.mp ((h.s r hr).subset hq)
    exact ⟨this.1, this.2.1⟩
  · have := (h.s r hr).length_le
    have := sends_12 p h4
    omega
theorem GR.ne {p : Nat} {ns : List Nat} {rs : List (List Pr)} (h : GR p ns rs) : ∀ r, r ∈ rs → ∀ q, q ∈ r → q.1 ≠ q.2 := fun r hr q hq => (mem_sends.mp ((h.s r hr).subset hq)).2.2
theorem GR.asc {p : Nat} {ns : List Nat} {rs : List (List Pr)} (h : GR p ns rs) : ∀ r, r ∈ rs → r.Pairwise ltP := fun r hr => (sends_asc p h.p4).sublist (h.s r hr)
theorem ltP_ne {a b : Pr} (h : ltP a b) : a ≠ b := by
  rintro rfl
  unfold ltP at h
  omega
theorem GR.nodup {p : Nat} {ns : List Nat} {rs : List (List Pr)} (h : GR p ns rs) : ∀ r, r ∈ rs → (∀ q, q ∈ r → q ∈ sends p) ∧ r.Nodup := fun r hr => ⟨fun q hq => (h.s r hr).subset hq, (h.asc r hr).imp fun h => ltP_ne h⟩
theorem GR.three {p : Nat} {ns : List Nat} {rs : List (List Pr)} (h : GR p ns rs) : ∀ r, r ∈ rs → ∀ b, (r.filter fun q => q.2 == b).length ≤ 3 := fun r hr b => by
  by_cases hb : b < 4
  · exact Nat.le_trans ((h.s r hr).filter _).length_le (sends_3 p h.p4 b hb)
  · have : (r.filter fun q => q.2 == b) = [] := by
      rw [List.filter_eq_nil_iff]
      intro q hq
      have := (mem_sends.mp ((h.s r hr).subset hq)).2.1
      have := h.p4
      simp only [beq_iff_eq]
      omega
    rw [this]
    simp
/-! is_right_round, for any numbers -/
abbrev Zr := Int × Int
def encZ (q : Zr) : PyData := .tuple [.int q.1, .int q.2]
def encZR (r : List Zr) : PyData := .tuple (r.map encZ)
def inZ (p : Int) (q : Zr) : Bool := (decide (0 ≤ q.1) && decide (q.1 < p)) && ((decide (0 ≤ q.2) && decide (q.2 < p)) && (q.1 != q.2))
def ltZ (a b : Zr) : Bool := HT.lexLt [a.1, a.2] [b.1, b.2]
def ascZ (r : List Zr) : Bool := (List.range (r.length - 1)).all fun k => ltZ (r.getD k (0, 0)) (r.getD (k + 1) (0, 0))
def rightZ (p : Int) (r : List Zr) : Bool := r.all (inZ p) && ascZ r
theorem ne_int (a b : Int) : cmpD .ne (.int a) (.int b) = some (a != b) := by
  simp only [cmpD, shp_int, Bool.and_self, if_true, eqv_int]
  rfl
def F_irr (j : Nat) : FnSem := semOf (gk j none) ⟨2, 5, none, false, b_is_right_round⟩
theorem t_irr (j : Nat) : tbl P0 (j + 1) "is_right_round" = some (F_irr j) := rfl
theorem getZ {r : List Zr} {k : Nat} (h : k < r.length) : (r.map encZ).getD k .none = encZ (r.getD k (0, 0)) := by
  rw [getD_map (List.getElem?_eq_getElem h), List.getD_eq_getElem?_getD, List.getElem?_eq_getElem h]
  rfl
theorem va_inZ {G : EvG} {ρ : PEnv} {e b : PExp} {m n : Int} (h : Pk G ρ e (.int m)) (hb : Pk G ρ b (.int n)) : Va G ρ (.chain .le .lt (.int 0) e b) (.bool (decide (0 ≤ m) && decide (m < n))) := va_chain va_int.pk h hb rfl rfl
theorem w_irr (j : Nat) {p : Int} {r : List Zr} (hl : r.length ≤ 1000) : (F_irr j).run [encZR r, .int p] = some (.bool (rightZ p r), .none) := by
  have e1 : ∀ ρ : PEnv, ρ[0]? = some (.val (encZR r)) → ρ[1]? = some (.val (.int p)) → ρ.length = 5 → ρ[2]? = some .un → ρ[3]? = some .un → Va (gk j none) ρ (.blt .all (.cons (.comp [2, 3] (.tp [2, 3]) (.of (.v 0)) .no (.and (.cons (.chain .le .lt (.int 0) (.v 2) (.v 1)) (.cons (.chain .le .lt (.int 0) (.v 3) (.v 1)) (.cons (.cmp .ne (.v 2) (.v 3)) .nil))))) .nil)) (.bool (r.all (inZ p))) := fun ρ h0 h1 hl5 h2 h3 => by
    match ρ, hl5 with
    | [a, b, c, d, e], _ =>
      simp only [List.getElem?_cons_zero, List.getElem?_cons_succ, Option.some.injEq] at h0 h1 h2 h3
      subst h0 h1 h2 h3
      refine va_allB (Tm.pk (tm_map encZ r (fun q => .bool (inZ p q)) (sc_tup (va_v rfl)) rfl (fun q hq => tn_map rfl rfl (Va.st ?_)) rfl (by omega)))
      exact va_and (cj_cons (Va.pk (va_inZ (va_v rfl).pk (va_v rfl).pk)) fun _ => cj_cons (Va.pk (va_inZ (va_v rfl).pk (va_v rfl).pk)) fun _ => .one (Va.pk (va_cmp (va_v rfl).pk (va_v rfl).pk (ne_int _ _))))
  have e1 := e1 (startE 5 none [encZR r, .int p]) rfl rfl rfl rfl rfl
  by_cases ha : r.all (inZ p) = true
  · rw [ha] at e1
    have er : rightZ p r = ascZ r := by unfold rightZ; rw [ha, Bool.true_and]
    rw [er]
    refine Rt.run (Rt.cons (st_skip (va_not (k := true) e1.pk).pk) (Rt.va ?_))
    have es : evS (gk j none) (.r2 (.int 1) (.blt .len (.cons (.v 0) .nil))) (startE 5 none [encZR r, .int p]) = some (⟨(List.range (r.length - 1)).map fun (k : Nat) => .int (1 + (k : Int)), none⟩, startE 5 none [encZR r, .int p]) := by
      have : rangeD 1 (r.length : Int) = (List.range (r.length - 1)).map fun (k : Nat) => .int (1 + (k : Int)) := by
        unfold rangeD
        have : ((r.length : Int) - 1).toNat = r.length - 1 := by omega
        rw [this]
      rw [← this]
      exact sc_r2 va_int.pk (by rw [← List.length_map (f := encZ)]; exact (va_lenT (va_v rfl).pk).pk) (small_of (by omega) (by omega)) (small_nat (by omega))
    refine va_allB (Tm.pk (tm_map (fun k : Nat => .int (1 + (k : Int))) (List.range (r.length - 1)) (fun k => .bool (ltZ (r.getD k (0, 0)) (r.getD (k + 1) (0, 0)))) es rfl (fun k hk => tn_map rfl rfl (Va.st ?_)) rfl (by rw [List.length_range]; omega)))
    have hk := List.mem_range.mp hk
    refine va_cmp (Va.pk (va_idx (va_v rfl).pk (va_sub (va_v rfl).pk va_int.pk).pk ((idx_tup_int (n := k) (by omega) (by rw [List.length_map]; omega)).trans (by rw [getZ (by omega)])))) (Va.pk (va_idx (va_v rfl).pk (va_v rfl).pk ((idx_tup_int (n := k + 1) (by omega) (by rw [List.length_map]; omega)).trans (by rw [getZ (by omega)])))) rfl
  · rw [Bool.not_eq_true] at ha
    rw [ha] at e1
    have er : rightZ p r = false := by unfold rightZ; rw [ha, Bool.false_and]
    rw [er]
    exact Rt.run (Rt.ite_ret (va_not (k := false) e1.pk).pk (Rt.va va_bl))
def bitZ (n : Int) : Bool := (0 == n) || (1 == n)
def runZ (p : Int) (ns : List Int) (rs : List (List Zr)) : Bool := ((ns.length : Int) == p) && (ns.all bitZ && rs.all (rightZ p))
def encZRun (ns : List Int) (rs : List (List Zr)) : PyData := .tuple [.tuple (ns.map .int), .tuple (rs.map encZR)]
def F_isr (j : Nat) : FnSem := semOf (gk j none) ⟨2, 6, none, false, b_is_round_run⟩
theorem t_isr (j : Nat) : tbl P0 (j + 1) "is_round_run" = some (F_isr j) := rfl
theorem shp_ints {l : List Int} : shp (.tuple (l.map .int)) = true := (Pl.tup (n := 0) fun d hd => by
  obtain ⟨k, _, rfl⟩ := List.mem_map.mp hd
  exact .int).shp (by omega)
theorem isin_01 (n : Int) : cmpD .isin (.int n) (.tuple [.int 0, .int 1]) = some (bitZ n) := by
  have : shp (.tuple [.int 0, .int 1]) = true := shp_ints (l := [0, 1])
  simp only [cmpD, shp_int, this, Bool.and_self, if_true, List.any_cons, List.any_nil, eqv_int, Bool.or_false]
  rfl
theorem w_isr (j : Nat) {p : Int} {ns : List Int} {rs : List (List Zr)} (h1 : ns.length ≤ 1000) (h2 : rs.length ≤ 1000) (h3 : ∀ r, r ∈ rs → r.length ≤ 1000) : (F_isr (j + 1)).run [encZRun ns rs, .int p] = some (.bool (runZ p ns rs), .none) := by
  refine Rt.run (Rt.cons (st_tup (va_v rfl) rfl) ?_)
  have c : Va (gk (j + 1) none) [.val (encZRun ns rs), .val (.int p), .val (.tuple (ns.map .int)), .val (.tuple (rs.map encZR)), .un, .un] (.or (.cons (.cmp .ne (.blt .len (.cons (.v 2) .nil)) (.v 1)) (.cons (.not (.blt .all (.cons (.comp [4] (.nm 4) (.of (.v 2)) .no (.cmp .isin (.v 4) (.tup (.cons (.int 0) (.cons (.int 1) .nil))))) .nil))) .nil))) (.bool (((ns.length : Int) != p) || !(ns.all bitZ))) := by
    refine va_or (ds_cons (Va.pk (va_cmp (by rw [← List.length_map (f := PyData.int)]; exact (va_lenT (va_v rfl).pk).pk) (va_v rfl).pk (ne_int _ _))) fun _ => .one (Va.pk (va_not (Va.pk (va_allB (Tm.pk (tm_map PyData.int ns (fun n => .bool (bitZ n)) (sc_tup (va_v rfl)) rfl (fun n hn => tn_map rfl rfl (Va.st ?_)) rfl (by omega))))))))
    exact va_cmp (va_v rfl).pk (Va.pk (va_tup (ds := [.int 0, .int 1]) (.cons va_int.st (.cons va_int.st .nil)) (lim_ge (Nat.le_of_ble_eq_true rfl)))) (isin_01 n)
  by_cases hk : (((ns.length : Int) != p) || !(ns.all bitZ)) = true
  · rw [hk] at c
    have e : runZ p ns rs = false := by
      unfold runZ
      rcases Bool.or_eq_true _ _ |>.mp hk with h | h
      · have : ((ns.length : Int) == p) = false := by simpa using h
        rw [this, Bool.false_and]
      · have : ns.all bitZ = false := by rw [← Bool.not_not (ns.all bitZ), h]; rfl
        rw [this, Bool.false_and, Bool.and_false]
    rw [e]
    exact Rt.ite_ret c.pk (Rt.va va_bl)
  · rw [Bool.not_eq_true] at hk
    rw [hk] at c
    have e : runZ p ns rs = rs.all (rightZ p) := by
      obtain ⟨h, h'⟩ := Bool.or_eq_false_iff.mp hk
      have a1 : ((ns.length : Int) == p) = true := by simpa using h
      have a2 : ns.all bitZ = true := by rw [← Bool.not_not (ns.all bitZ), h']; rfl
      unfold runZ
      rw [a1, a2, Bool.true_and, Bool.true_and]
    rw [e]
    refine Rt.cons (st_skip c.pk) (Rt.va (va_allB (Tm.pk (tm_map encZR rs (fun r => .bool (rightZ p r)) (sc_tup (va_v rfl)) rfl (fun r hr => tn_map rfl rfl (Va.st ?_)) rfl (by omega)))))
    exact va_callA (fs := F_irr j) (t_irr j) rfl rfl (.va (va_v rfl) (.va (va_v rfl) .nil)) (w_irr j (h3 r hr))
/-! a round run as one of any numbers -/
def zP (q : Pr) : Zr := ((q.1 : Int), (q.2 : Int))
def zN (ns : List Nat) : List Int := ns.map fun (n : Nat) => (n : Int)
theorem enc_zrun (ns : List Nat) (rs : List (List Pr)) : encRun ns rs = encZRun (zN ns) (rs.map fun r => r.map zP) := by
  unfold encRun encZRun encN zN
  rw [List.map_map, List.map_map]
  have : rs.map encR = rs.map (encZR ∘ fun r => r.map zP) := by
    refine List.map_congr_left fun r _ => ?_
    show encR r = encZR (r.map zP)
    unfold encR encZR
    rw [List.map_map]
    rfl
  rw [this]
  rfl
theorem ltZ_iff (a b : Zr) : ltZ a b = true ↔ a.1 < b.1 ∨ (a.1 = b.1 ∧ a.2 < b.2) := by
  unfold ltZ
  simp [HT.lexLt]
  split
  · omega
  · omega
theorem asc_iff (r : List Zr) : ascZ r = true ↔ ∀ k, k + 1 < r.length → ltZ (r.getD k (0, 0)) (r.getD (k + 1) (0, 0)) = true := by
  unfold ascZ
  rw [List.all_eq_true]
  constructor
  · intro h k hk
    exact h k (List.mem_range.mpr (by omega))
  · intro h k hk
    have := List.mem_range.mp hk
    exact h k (by omega)
theorem right_good {p : Nat} {r : List Pr} (h1 : ∀ q, q ∈ r → q.1 < p ∧ q.2 < p ∧ q.1 ≠ q.2) (h2 : r.Pairwise ltP) : rightZ (p : Int) (r.map zP) = true := by
  unfold rightZ
  rw [Bool.and_eq_true]
  constructor
  · rw [List.all_eq_true]
    intro q0 hq0
    obtain ⟨q, hq, rfl⟩ := List.mem_map.mp hq0
    obtain ⟨g1, g2, g3⟩ := h1 q hq
    unfold inZ zP
    simp only [Bool.and_eq_true, decide_eq_true_eq, bne_iff_ne, ne_eq]
    omega
  · rw [asc_iff]
    intro k hk
    rw [List.length_map] at hk
    have := (List.pairwise_iff_getElem.mp h2) k (k + 1) (by omega) hk (by omega)
    rw [List.getD_eq_getElem?_getD, List.getD_eq_getElem?_getD, List.getElem?_map, List.getElem?_map, List.getElem?_eq_getElem (by omega), List.getElem?_eq_getElem (by omega)]
    simp only [Option.map_some, Option.getD_some]
    rw [ltZ_iff]
    unfold zP
    unfold ltP at this
    simp only
    omega
theorem runZ_good {p : Nat} {ns : List Nat} {rs : List (List Pr)} (h : GR p ns rs) : runZ (p : Int) (zN ns) (rs.map fun r => r.map zP) = true := by
  unfold runZ zN
  rw [Bool.and_eq_true, Bool.and_eq_true]
  refine ⟨by rw [List.length_map, h.n]; exact beq_self_eq_true _, ?_, ?_⟩
  · rw [List.all_eq_true]
    intro n0 hn0
    obtain ⟨n, hn, rfl⟩ := List.mem_map.mp hn0
    have := h.b n hn
    unfold bitZ
    simp only [Bool.or_eq_true, beq_iff_eq]
    omega
  · rw [List.all_eq_true]
    intro r0 hr0
    obtain ⟨r, hr, rfl⟩ := List.mem_map.mp hr0
    exact right_good (fun q hq => mem_sends.mp ((h.s r hr).subset hq)) (h.asc r hr)
def F_crr (j : Nat) : FnSem := semOf (gk j none) ⟨2, 2, none, false, b_check_round_run⟩
theorem t_crr (j : Nat) : tbl P0 (j + 1) "check_round_run" = some (F_crr j) := rfl
theorem w_crr (j : Nat) {p : Nat} {ns : List Nat} {rs : List (List Pr)} (h : GR p ns rs) : (F_crr (j + 2)).run [encRun ns rs, .int (p : Int)] = some (.none, .none) := by
  have ho := h.ok
  have run := w_isr j (p := (p : Int)) (ns := zN ns) (rs := rs.map fun r => r.map zP) (by unfold zN; rw [List.length_map]; have := ho.n; have := ho.pl; omega) (by rw [List.length_map]; have := ho.r; omega) fun r0 hr0 => by
    obtain ⟨r, hr, rfl⟩ := List.mem_map.mp hr0
    rw [List.length_map]
    have := (ho.e r hr).2
    omega
  rw [runZ_good h, ← enc_zrun] at run
  exact run_next (Bk.one (st_skip (Va.pk (va_not (k := true) (Va.pk (va_callA (fs := F_isr (j + 1)) (t_isr (j + 1)) rfl rfl (.va (va_v rfl) (.va (va_v rfl) .nil)) run))))))
def F_ref (j : Nat) : FnSem := refSem (F_isr j)
theorem t_ref (j : Nat) : tbl P0 (j + 2) "_law_is_refused" = some (F_ref j) := rfl
theorem w_ref (j : Nat) {p : Int} {ns : List Int} {rs : List (List Zr)} (h1 : ns.length ≤ 1000) (h2 : rs.length ≤ 1000) (h3 : ∀ r, r ∈ rs → r.length ≤ 1000) (hf : runZ p ns rs = false) : (F_ref (j + 1)).run [encZRun ns rs, .int p] = some (.bool true, .none) := by
  have := w_isr j h1 h2 h3 (p := p)
  rw [hf] at this
  unfold F_ref refSem
  simp only [this, Option.bind_some, Bool.not_false]
end K79
end
section
set_option Elab.async false
set_option linter.all false
set_option maxRecDepth 1000000
set_option maxHeartbeats 4000000
namespace K79
open PySem Pz
/-! _law_take -/
def F_t (j : Nat) : FnSem := semOf (gk j (some 0)) ⟨2, 2, some 0, false, b_law_take⟩
theorem t_t (j : Nat) : tbl P0 (j + 1) "_law_take" = some (F_t j) := rfl
def tk (D : List Nat) (m : Nat) : Nat := D.getLastD 0 % m
theorem tk_lt (D : List Nat) {m : Nat} (h : 0 < m) : tk D m < m := Nat.mod_lt _ h
theorem mod_nat (a : Nat) {m : Nat} (h : 0 < m) : bopD .mod (.int (a : Int)) (.int (m : Int)) = some (.val (.int ((a % m : Nat) : Int))) := by
  unfold bopD
  simp only
  rw [if_pos (by omega)]
  rfl
theorem ev_pop {G : EvG} {ρ : PEnv} {i : Nat} {ds : List PyData} {d : PyData} (h : ρ[i]? = some (.own (.list (ds ++ [d])))) : Ev G ρ (.pop i) (.val d) (ρ.set i (.own (.list ds))) := by
  simp only [Ev, evE, h, List.getLast?_append, List.getLast?_singleton, Option.some_or, Option.bind_some, List.dropLast_concat]
theorem w_t (j : Nat) (D : List Nat) {m : Nat} (hm : 0 < m) : (F_t j).run [.list (encN D), .int (m : Int)] = some (.int (tk D m : Nat), .list (encN D.dropLast)) := by
  have hl : ∀ ρ : PEnv, ρ[0]? = some (.own (.list (encN D))) → Va (gk j (some 0)) ρ (.cmp .eq (.blt .len (.cons (.v 0) .nil)) (.int 0)) (.bool (D.length == 0)) := fun ρ h => by
    refine va_cmp (x := .int ((D.length : Nat) : Int)) (y := .int ((0 : Nat) : Int)) (by rw [← encN_len]; exact (va_lenL (pk_own h)).pk) va_int.pk (eq_nat _ _)
  rcases List.eq_nil_or_concat D with rfl | ⟨D', d, e0⟩
  · refine run_io (ρ' := [.own (.list (encN [])), .val (.int (m : Int))]) (fr := false) (Bk.end (sv_if (hl _ rfl).ev (fun _ => ?_) fun h => nomatch h)) rfl rfl rfl rfl
    have e : ((tk [] m : Nat) : Int) = 0 := by unfold tk; simp
    rw [e]
    exact Bk.end (sv_ret va_int.ev)
  · rw [List.concat_eq_append] at e0
    subst e0
    have el : encN (D' ++ [d]) = encN D' ++ [encI d] := by unfold encN; rw [List.map_append]; rfl
    have e : tk (D' ++ [d]) m = d % m := by unfold tk; simp
    have h := hl [.own (.list (encN (D' ++ [d]))), .val (.int (m : Int))] rfl
    have h2 : ((D' ++ [d]).length == 0) = false := by simp
    rw [h2] at h
    rw [e, List.dropLast_concat]
    rw [el] at *
    refine run_io (ρ' := [.own (.list (encN D')), .val (.int (m : Int))]) (fr := false) (Bk.cons (sv_skip h.ev) (Bk.end (sv_ret ?_))) rfl rfl rfl rfl
    exact ev_bin (ev_blt (es_cons (ev_pop (ds := encN D') (d := encI d) rfl) es_nil) rfl rfl) (va_v rfl).ev rfl rfl (mod_nat d hm)
/-! _law_draws -/
theorem rngF (ns : List Int) : rngOf ((.none, .none) :: ns.map fun n => (.none, .int n)) = none := rng_frz (frzOf_frz ns)
theorem sc_frz {G : EvG} {ρ : PEnv} {e : PExp} {ns : List Int} (h : Va G ρ e (frzD ns)) : Sc G ρ (.of e) (ns.map .int) := by
  have h : evE G e ρ = some (.val (.dict ((.none, .none) :: ns.map fun n => (.none, .int n))), ρ) := h
  unfold Sc
  rw [evS, h, Option.bind_some]
  simp only [rngF, frzOf_frz]
def F_d (j : Nat) : FnSem := semOf (gk j none) ⟨2, 9, none, true, b_law_draws⟩
theorem t_d (j : Nat) : tbl P0 (j + 1) "_law_draws" = some (F_d j) := rfl
theorem getI {l : List Int} {k : Nat} (h : k < l.length) : idxD (.list (l.map .int)) (.int (k : Int)) = some (.int (l.getD k 0)) := by
  rw [idx_list (by rw [List.length_map]; exact h), getD_map (List.getElem?_eq_getElem h), List.getD_eq_getElem?_getD, List.getElem?_eq_getElem h]
  rfl
theorem va_mulS {G : EvG} {ρ : PEnv} {a b : PExp} {i j : Int} (ha : Pk G ρ a (.int i)) (hb : Pk G ρ b (.int j)) (h : (small64 i || small64 j) = true) : Va G ρ (.bin .mul a b) (.int (i * j)) := va_bin ha hb (by simp only [bopD, h, if_true])
theorem va_mod {G : EvG} {ρ : PEnv} {a b : PExp} {i j : Int} (ha : Pk G ρ a (.int i)) (hb : Pk G ρ b (.int j)) (h : 0 < j) : Va G ρ (.bin .mod a b) (.int (i % j)) := va_bin ha hb (by simp only [bopD, h, if_true])
theorem va_fdiv {G : EvG} {ρ : PEnv} {a b : PExp} {i j : Int} (ha : Pk G ρ a (.int i)) (hb : Pk G ρ b (.int j)) (h : 0 < j) (h2 : j < 1073741824) : Va G ρ (.bin .fdiv a b) (.int (i / j)) := va_bin ha hb (by simp only [bopD, h, h2, decide_true, Bool.and_self, if_true])
theorem va_intI {G : EvG} {ρ : PEnv} {a : PExp} {i : Int} (ha : Pk G ρ a (.int i)) : Va G ρ (.blt .int (.cons a .nil)) (.int i) := va_blt (.cons ha .nil) rfl
theorem va_pow {G : EvG} {ρ : PEnv} {a b : PExp} {i : Int} {n : Nat} (ha : Pk G ρ a (.int i)) (hb : Pk G ρ b (.int (n : Int))) (h : i.natAbs < 2 ^ 64) (h2 : n ≤ 1000000) : Va G ρ (.bin .pow a b) (.int (i ^ n)) := va_bin ha hb (by
  have a1 : decide ((0 : Int) ≤ (n : Int)) = true := decide_eq_true (by omega)
  have a2 : decide ((n : Int) ≤ 1000000) = true := decide_eq_true (by omega)
  have a3 : decide (i.natAbs < 2 ^ 64) = true := decide_eq_true h
  simp only [bopD, a1, a2, a3, Bool.and_self, if_true, Int.toNat_natCast])
theorem toNat_int {i : Int} (h : 0 ≤ i) : PyData.int i = encI i.toNat := by
  unfold encI
  rw [Int.toNat_of_nonneg h]
theorem encN_snoc (D : List Nat) (d : Nat) : encN (D ++ [d]) = encN D ++ [encI d] := by unfold encN; rw [List.map_append]; rfl
theorem encN_rev (D : List Nat) : encN D.reverse = (encN D).reverse := by unfold encN; rw [List.map_reverse]
theorem st_setI {G : EvG} {ρ : PEnv} {i n : Nat} {k e : PExp} {ds : List PyData} {d : PyData} (he : Va G ρ e d) (hi : ρ[i]? = some (.own (.list ds))) (hk : Pk G ρ k (.int (n : Int))) (hn : n < ds.length) : evSt G (.setI i k e) ρ = some (.next, ρ.set i (.own (.list (ds.set n d)))) := by
  have he : evE G e ρ = some (.val d, ρ) := he
  obtain ⟨r, e1, p1⟩ := hk
  have hx : L2.ixN ds.length (n : Int) = some n := by
    unfold L2.ixN
    rw [if_pos (by omega)]
    simp [hn]
  simp only [evSt, he, Pz.settle, Option.bind_some, hi, notOwn, Bool.false_eq_true, if_false, e1, p1, hx]
theorem st_rev {G : EvG} {ρ : PEnv} {i : Nat} {ds : List PyData} (hi : ρ[i]? = some (.own (.list ds))) : evSt G (.ex (.rev i)) ρ = some (.next, ρ.set i (.own (.list ds.reverse))) := by
  simp only [evSt, evE, hi, Option.bind_some]
theorem w_d (j : Nat) (ns : List Int) (hn : ns.length ≤ 63) : ∃ D : List Nat, (F_d j).run [frzD ns, .int 200] = some (.list (encN D), .none) := by
  let E : List Int → PSlot → PSlot → PEnv := fun cs x y => [.val (frzD ns), .val (.int 200), .own (.list (cs.map .int)), .un, x, y, .un, .un, .un]
  have h1 : ∃ cs : List Int, 0 < cs.length ∧ cs.length ≤ 64 ∧ ∀ ρ' r fl, Bk (gk j none) r (E cs .un .un) fl ρ' → Bk (gk j none) (.cons (.asg 2 (.comp [3] (.nm 3) (.of (.v 0)) .no (.blt .int (.cons (.v 3) .nil)))) (.cons (.ite (.cmp .eq (.blt .len (.cons (.v 2) .nil)) (.int 0)) (.cons (.ex (.app 2 (.int 0))) .nil) .nil) r)) [.val (frzD ns), .val (.int 200), .un, .un, .un, .un, .un, .un, .un] fl ρ' := by
    have s1 : evSt (gk j none) (.asg 2 (.comp [3] (.nm 3) (.of (.v 0)) .no (.blt .int (.cons (.v 3) .nil)))) [.val (frzD ns), .val (.int 200), .un, .un, .un, .un, .un, .un, .un] = some (.next, E ns .un .un) :=
      st_tm (tm_map PyData.int ns PyData.int (sc_frz (va_v rfl)) rfl (fun b hb => tn_map rfl rfl (va_intI (va_v rfl).pk).st) rfl (by omega)) rfl
    have c : Va (gk j none) (E ns .un .un) (.cmp .eq (.blt .len (.cons (.v 2) .nil)) (.int 0)) (.bool (ns.length == 0)) :=
      va_cmp (x := .int ((ns.length : Nat) : Int)) (y := .int ((0 : Nat) : Int)) (by rw [← List.length_map (f := PyData.int)]; exact (va_lenL (pk_own rfl)).pk) va_int.pk (eq_nat _ _)
    cases ns with
    | nil => exact ⟨[0], by simp, by simp, fun ρ' r fl h => Bk.cons s1 (Bk.cons (st_if c.pk (fun _ => Bk.one (st_app (ds := []) rfl va_int.st (by simp))) fun h => nomatch h) h)⟩
    | cons n ns => exact ⟨n :: ns, by simp, by simp at hn ⊢; omega, fun ρ' r fl h => Bk.cons s1 (Bk.cons (st_skip c.pk) h)⟩
  obtain ⟨cs, c1, c2, h1⟩ := h1
  obtain ⟨ρ', hf, hI⟩ := sv_for (G := gk j none) (ρ := E cs (.own (.list (cs.map .int))) (.own (.list []))) (t := .nm 6) (s := .r1 (.v 1)) (kill := [6, 7, 8]) (bl := (.cons (.asg 7 (.bin .mod (.v 6) (.blt .len (.cons (.v 2) .nil))))
      (.cons (.ite (.and (.cons (.cmp .ge (.idx (.v 2) (.v 7)) (.bin .pow (.int 10) (.int 18))) (.cons (.cmp .gt (.idx (.v 4) (.v 7)) (.int 0)) .nil))) (.cons (.ex (.app 5 (.bin .mod (.blt .int (.cons (.idx (.v 4) (.v 7)) .nil)) (.int 1000))))
      (.cons (.setI 4 (.v 7) (.bin .fdiv (.idx (.v 4) (.v 7)) (.int 1000)))
      .nil)) (.cons (.asg 8 (.bin .mod (.blt .int (.cons (.bin .add (.bin .add (.bin .mul (.idx (.v 2) (.v 7)) (.int 48271)) (.bin .mul (.v 6) (.int 69621))) (.int 11)) .nil)) (.int 2147483647)))
      (.cons (.ex (.app 5 (.bin .mod (.blt .int (.cons (.bin .add (.bin .add (.bin .mul (.v 8) (.v 8)) (.bin .mul (.int 3) (.v 8))) (.v 6)) .nil)) (.int 1000003))))
      .nil)))
      .nil))) encI (List.range 200) (fun pre ρ => ∃ (rs : List Int) (D : List Nat), rs.length = cs.length ∧ D.length = pre.length ∧ ρ = E cs (.own (.list (rs.map .int))) (.own (.list (encN D)))) (sc_rng (n := 200) (va_v rfl).pk (by omega)) rfl ⟨cs, [], rfl, rfl, rfl⟩ fun pre k suf ρ hk hI => by
    obtain ⟨rs, D, hr, hD, rfl⟩ := hI
    have hk2 := pre_len hk
    have hk1 := List.mem_range.mp (pre_mem hk)
    rw [List.length_range] at hk2
    have hm : k % cs.length < cs.length := Nat.mod_lt _ c1
    have s1 : evSt (gk j none) (.asg 7 (.bin .mod (.v 6) (.blt .len (.cons (.v 2) .nil)))) [.val (frzD ns), .val (.int 200), .own (.list (cs.map .int)), .un, .own (.list (rs.map .int)), .own (.list (encN D)), .val (encI k), .un, .un] = some (.next, [.val (frzD ns), .val (.int 200), .own (.list (cs.map .int)), .un, .own (.list (rs.map .int)), .own (.list (encN D)), .val (encI k), .val (encI (k % cs.length)), .un]) :=
      st_va (va_bin (x := encI k) (y := .int (cs.length : Nat)) (va_v rfl).pk (by rw [← List.length_map (f := PyData.int)]; exact (va_lenL (pk_own rfl)).pk) (mod_nat k c1)) rfl
    have c : Va (gk j none) [.val (frzD ns), .val (.int 200), .own (.list (cs.map .int)), .un, .own (.list (rs.map .int)), .own (.list (encN D)), .val (encI k), .val (encI (k % cs.length)), .un] (.and (.cons (.cmp .ge (.idx (.v 2) (.v 7)) (.bin .pow (.int 10) (.int 18))) (.cons (.cmp .gt (.idx (.v 4) (.v 7)) (.int 0)) .nil))) (.bool (decide ((10 : Int) ^ 18 ≤ cs.getD (k % cs.length) 0) && decide (0 < rs.getD (k % cs.length) 0))) :=
      va_and (cj_cons (Va.pk (va_cmp (Va.pk (va_idx (pk_own rfl) (va_v rfl).pk (getI hm))) (Va.pk (va_pow (n := 18) va_int.pk va_int.pk (by decide) (by omega))) rfl)) fun _ => .one (Va.pk (va_cmp (Va.pk (va_idx (pk_own rfl) (va_v rfl).pk (getI (by omega)))) va_int.pk rfl)))
    cases hc : (decide ((10 : Int) ^ 18 ≤ cs.getD (k % cs.length) 0) && decide (0 < rs.getD (k % cs.length) 0)) with
    | true =>
      rw [hc] at c
      have hi : 0 ≤ rs.getD (k % cs.length) 0 % 1000 := Int.emod_nonneg _ (by decide)
      refine ⟨_, _, _, rfl, Bk.cons s1 (Bk.one (st_if (fl := .next) c.pk (fun _ => Bk.cons (st_app (ds := encN D) (d := encI (rs.getD (k % cs.length) 0 % 1000).toNat) rfl (by rw [← toNat_int hi]; exact (va_mod (va_intI (Va.pk (va_idx (pk_own rfl) (va_v rfl).pk (getI (by omega))))).pk va_int.pk (by decide)).st) (by rw [encN_len]; omega)) (Bk.one (st_setI (n := k % cs.length) (ds := rs.map .int) (va_fdiv (Va.pk (va_idx (pk_own rfl) (va_v rfl).pk (getI (by omega)))) va_int.pk (by decide) (by decide)) rfl (va_v rfl).pk (by rw [List.length_map]; omega)))) fun h => nomatch h)), rfl, rs.set (k % cs.length) (rs.getD (k % cs.length) 0 / 1000), D ++ [(rs.getD (k % cs.length) 0 % 1000).toNat], by rw [List.length_set, hr], by rw [List.length_append, List.length_append, hD]; rfl, ?_⟩
      rw [encN_snoc, List.map_set]
      rfl
    | false =>
      rw [hc] at c
      let o : Int := (cs.getD (k % cs.length) 0 * 48271 + (k : Int) * 69621 + 11) % 2147483647
      have o1 : 0 ≤ o := Int.emod_nonneg _ (by decide)
      have o2 : o < 2147483647 := Int.emod_lt_of_pos _ (by decide)
      have so : small64 o = true := by
        unfold small64
        rw [Bool.and_eq_true]
        exact ⟨decide_eq_true (by omega), decide_eq_true (by omega)⟩
      have sc : ∀ i : Int, (small64 i || small64 48271) = true := fun i => by rw [show small64 48271 = true from rfl, Bool.or_true]
      have sd : ∀ i : Int, (small64 i || small64 69621) = true := fun i => by rw [show small64 69621 = true from rfl, Bool.or_true]
      have hi : 0 ≤ (o * o + 3 * o + (k : Int)) % 1000003 := Int.emod_nonneg _ (by decide)
      refine ⟨_, _, _, rfl, Bk.cons s1 (Bk.one (st_if (fl := .next) c.pk (fun h => nomatch h) fun _ => Bk.cons (st_va (d := .int o) (va_mod (va_intI (Va.pk (va_add (Va.pk (va_add (Va.pk (va_mulS (Va.pk (va_idx (pk_own rfl) (va_v rfl).pk (getI hm))) va_int.pk (sc _))) (Va.pk (va_mulS (va_v rfl).pk va_int.pk (sd _))))) va_int.pk))).pk va_int.pk (by decide)) rfl) (Bk.one (st_app (ds := encN D) (d := encI ((o * o + 3 * o + (k : Int)) % 1000003).toNat) rfl (by rw [← toNat_int hi]; exact (va_mod (va_intI (Va.pk (va_add (Va.pk (va_add (Va.pk (va_mulS (va_v rfl).pk (va_v rfl).pk (by rw [so, Bool.or_true]))) (Va.pk (va_mulS va_int.pk (va_v rfl).pk (by rw [so, Bool.or_true]))))) (va_v rfl).pk))).pk va_int.pk (by decide)).st) (by rw [encN_len]; omega))))), rfl, rs, D ++ [((o * o + 3 * o + (k : Int)) % 1000003).toNat], hr, by rw [List.length_append, List.length_append, hD]; rfl, ?_⟩
      rw [encN_snoc]
      rfl
  obtain ⟨rs, D, hr, hD, rfl⟩ := hI
  have e0 : evSt (gk j none) (.ret (.v 5)) (E cs (.own (.list (rs.map .int))) (.own (.list (encN D).reverse))) = some (.ret (.list (encN D).reverse) true, E cs (.own (.list (rs.map .int))) (.own (.list (encN D).reverse))) := by
    have e1 : evE (gk j none) (.v 5) (E cs (.own (.list (rs.map .int))) (.own (.list (encN D).reverse))) = some (.loc 5, E cs (.own (.list (rs.map .int))) (.own (.list (encN D).reverse))) := rfl
    simp only [evSt, e1, Option.bind_some, retOf]
    rfl
  rw [← encN_rev] at e0
  refine ⟨D.reverse, run_fresh (ρ' := E cs (.own (.list (rs.map .int))) (.own (.list (encN D.reverse)))) (h1 _ _ _ (Bk.cons (st_tm (tm_blt (.cons (pk_own rfl) .nil) rfl) rfl) (Bk.cons (st_tm (tm_lst .nil (lim_ge (Nat.zero_le _))) rfl) (Bk.cons hf (Bk.cons (st_rev rfl) (Bk.end ?_))))))⟩
  rw [encN_rev] at e0 ⊢
  exact e0
end K79
end
section
set_option Elab.async false
set_option linter.all false
set_option maxRecDepth 1000000
set_option maxHeartbeats 4000000
namespace K79
open PySem Pz
/-! _law_cell -/
def F_c (j : Nat) : FnSem := semOf (gk j none) ⟨1, 2, none, false, b_law_cell⟩
theorem t_c (j : Nat) : tbl P0 (j + 1) "_law_cell" = some (F_c j) := rfl
theorem va_lenF {G : EvG} {ρ : PEnv} {e : PExp} {ns : List Int} (h : Pk G ρ e (frzD ns)) : Va G ρ (.blt .len (.cons e .nil)) (.int (ns.length : Nat)) := va_blt (.cons h .nil) (by simp only [bfD, frzD, frzOf_frz])
theorem w_c (j : Nat) (ns : List Int) (hn : ns.length ≤ 63) : ∃ c : Int, (F_c j).run [frzD ns] = some (.int c, .none) := by
  have c : Va (gk j none) [.val (frzD ns), .un] (.cmp .eq (.blt .len (.cons (.v 0) .nil)) (.int 0)) (.bool (ns.length == 0)) :=
    va_cmp (x := .int ((ns.length : Nat) : Int)) (y := .int ((0 : Nat) : Int)) (va_lenF (va_v rfl).pk).pk va_int.pk (eq_nat _ _)
  have pw : ∀ ρ, Va (gk j none) ρ (.bin .pow (.int 10) (.int 60)) (.int (10 ^ 60)) := fun ρ => va_pow (n := 60) va_int.pk va_int.pk (by decide) (by omega)
  by_cases h0 : ns.length = 0
  · rw [h0] at c
    exact ⟨0, Rt.run (Rt.ite_ret c.pk (Rt.va va_int))⟩
  · have hb : (ns.length == 0) = false := by simpa using h0
    rw [hb] at c
    have hm : (ns.length - 1) % 7 % ns.length < ns.length := Nat.mod_lt _ (by omega)
    have s : evSt (gk j none) (.asg 1 (.blt .int (.cons (.idx (.v 0) (.bin .mod (.bin .mod (.blt .int (.cons (.bin .sub (.blt .len (.cons (.v 0) .nil)) (.int 1)) .nil)) (.int 7)) (.blt .len (.cons (.v 0) .nil)))) .nil))) [.val (frzD ns), .un] = some (.next, [.val (frzD ns), .val (.int (ns[(ns.length - 1) % 7 % ns.length]'hm))]) := by
      refine st_va (va_intI (Va.pk (va_idx (va_v rfl).pk (Va.pk (va_bin (x := .int (((ns.length - 1) % 7 : Nat) : Int)) (y := .int (ns.length : Nat)) (Va.pk (va_bin (x := .int ((ns.length - 1 : Nat) : Int)) (y := .int ((7 : Nat) : Int)) ?_ va_int.pk (mod_nat _ (by omega)))) (va_lenF (va_v rfl).pk).pk (mod_nat _ (by omega)))) ?_))) rfl
      · rw [show ((ns.length - 1 : Nat) : Int) = (ns.length : Int) - 1 by omega]
        exact (va_intI (va_sub (va_lenF (va_v rfl).pk).pk va_int.pk).pk).pk
      · simp only [idxD, frzD, frzOf_frz]
        rw [atI_nat (List.getElem?_eq_getElem hm)]
        rfl
    generalize (ns[(ns.length - 1) % 7 % ns.length]'hm) = n at s
    by_cases hn0 : n < 0
    · refine ⟨_, Rt.run (Rt.cons (st_skip c.pk) (Rt.cons s (Rt.ite_ret (Va.pk (va_cmp (k := true) (va_v rfl).pk va_int.pk (by show some (decide (n < 0)) = _; rw [decide_eq_true hn0]))) (Rt.va (va_neg (Va.pk (va_mod (va_intI (va_neg (va_v rfl).pk).pk).pk (pw _).pk (by decide))))))))⟩
    · exact ⟨_, Rt.run (Rt.cons (st_skip c.pk) (Rt.cons s (Rt.cons (st_skip (Va.pk (va_cmp (k := false) (va_v rfl).pk va_int.pk (by show some (decide (n < 0)) = _; rw [decide_eq_false hn0])))) (Rt.va (va_mod (va_intI (va_v rfl).pk).pk (pw _).pk (by decide))))))⟩
/-! _law_round_run -/
def F_rn (j : Nat) : FnSem := semOf (gk j (some 0)) ⟨3, 9, some 0, false, b_law_round_run⟩
theorem t_rn (j : Nat) : tbl P0 (j + 1) "_law_round_run" = some (F_rn j) := rfl
/-- a draw, slot 0 being that of the draws -/
theorem ev_take {j m : Nat} {io : Option Nat} {D : List Nat} {ρ : PEnv} {e : PExp} (hm : 0 < m) (h0 : ρ[0]? = some (.own (.list (encN D)))) (he : Va (gk (j + 1) io) ρ e (.int (m : Int))) : Ev (gk (j + 1) io) ρ (.call "_law_take" (.cons (.v 0) (.cons e .nil))) (.val (.int (tk D m : Nat))) (ρ.set 0 (.own (.list (encN D.dropLast)))) :=
  ev_callIO (fs := F_t j) (t_t j) rfl (es_cons he.ev es_nil) rfl h0 h0 rfl (w_t j D hm)
theorem w_rn (j : Nat) (D : List Nat) {p m : Nat} (hp : 1 ≤ p) (hp4 : p ≤ 4) (hm : m ≤ 4) : ∃ ns rs D', GR p ns rs ∧ (F_rn (j + 1)).run [.list (encN D), .int (p : Int), .int (m : Int)] = some (encRun ns rs, .list (encN D')) := by
  let G := gk (j + 1) (some 0)
  obtain ⟨out, ρ1, hc, hI⟩ := ev_comp (G := G) (ρ := [.own (.list (encN D)), .val (.int (p : Int)), .val (.int (m : Int)), .un, .un, .un, .un, .un, .un]) (own := [4]) (t := .nm 4) (s := .r1 (.v 1)) (cc := .no) (e := .call "_law_take" (.cons (.v 0) (.cons (.int 2) .nil))) encI (List.range p)
    (fun pre out ρ => ∃ D ns, out = encN ns ∧ ns.length = pre.length ∧ (∀ n, n ∈ ns → n ≤ 1) ∧ ρ = [.own (.list (encN D)), .val (.int (p : Int)), .val (.int (m : Int)), .un, .un, .un, .un, .un, .un])
    (sc_rng (va_v rfl).pk (by omega)) rfl ⟨D, [], rfl, rfl, fun n hn => absurd hn List.not_mem_nil, rfl⟩ (fun pre b suf out ρ hb hI => by
      obtain ⟨D, ns, rfl, h1, h2, rfl⟩ := hI
      refine ⟨_, _, true, rfl, cn_no, .inr ⟨rfl, _, _, _, _, ev_take (m := 2) (by omega) rfl va_int, rfl, D.dropLast, ns ++ [tk D 2], ?_, ?_, ?_, rfl⟩⟩
      · rw [encN_snoc]; rfl
      · rw [List.length_append, List.length_append, h1]; rfl
      · intro n hn
        rcases List.mem_append.mp hn with hn | hn
        · exact h2 n hn
        · rw [List.mem_singleton] at hn
          subst hn
          have := tk_lt D (m := 2) (by omega)
          omega) (fun out ρ hI => by
      obtain ⟨D, ns, rfl, h1, h2, rfl⟩ := hI
      rw [encN_len, h1, List.length_range]
      exact lim_ge (by omega))
  obtain ⟨D1, ns, rfl, hns, hbits, rfl⟩ := hI
  rw [List.length_range] at hns
  have s1 : evSt G (.asg 3 (.blt .tuple (.cons (.comp [4] (.nm 4) (.r1 (.v 1)) .no (.call "_law_take" (.cons (.v 0) (.cons (.int 2) .nil)))) .nil))) [.own (.list (encN D)), .val (.int (p : Int)), .val (.int (m : Int)), .un, .un, .un, .un, .un, .un] = some (.next, [.own (.list (encN D1)), .val (.int (p : Int)), .val (.int (m : Int)), .val (.tuple (encN ns)), .un, .un, .un, .un, .un]) :=
    sv_asg (ev_blt (es_cons hc es_nil) rfl rfl) rfl
  obtain ⟨ρ2, hf, hI⟩ := sv_for (G := G) (ρ := [.own (.list (encN D1)), .val (.int (p : Int)), .val (.int (m : Int)), .val (.tuple (encN ns)), .un, .own (.list []), .un, .un, .un]) (t := .nm 6) (s := .r1 (.v 2)) (kill := [4, 6, 7]) (bl := (.cons (.asg 7 (.lst .nil))
      (.cons (.for_ (.nm 4) (.r1 (.v 1)) (.cons (.asg 7 (.bin .add (.v 7) (.comp [8] (.nm 8) (.r1 (.v 1)) (.yes (.and (.cons (.cmp .ne (.v 4) (.v 8)) (.cons (.cmp .eq (.call "_law_take" (.cons (.v 0) (.cons (.int 3) .nil))) (.int 0)) .nil)))) (.tup (.cons (.v 4) (.cons (.v 8) .nil))))))
      .nil) [4])
      (.cons (.ex (.app 5 (.blt .tuple (.cons (.v 7) .nil))))
      .nil)))) encI (List.range m) (fun pre ρ => ∃ D rs, rs.length = pre.length ∧ (∀ r, r ∈ rs → r.Sublist (sends p)) ∧ ρ = [.own (.list (encN D)), .val (.int (p : Int)), .val (.int (m : Int)), .val (.tuple (encN ns)), .un, .own (.list (rs.map encR)), .un, .un, .un])
      (sc_rng (va_v rfl).pk (by omega)) rfl ⟨D1, [], rfl, fun r hr => absurd hr List.not_mem_nil, rfl⟩ fun pre k suf ρ hk hI => by
    obtain ⟨D, rs, h1, h2, rfl⟩ := hI
    have hk2 := pre_len hk
    rw [List.length_range] at hk2
    obtain ⟨ρ3, hf2, hI2⟩ := sv_for (G := G) (ρ := [.own (.list (encN D)), .val (.int (p : Int)), .val (.int (m : Int)), .val (.tuple (encN ns)), .un, .own (.list (rs.map encR)), .val (encI k), .own (.list []), .un]) (t := .nm 4) (s := .r1 (.v 1)) (kill := [4]) (bl := (.cons (.asg 7 (.bin .add (.v 7) (.comp [8] (.nm 8) (.r1 (.v 1)) (.yes (.and (.cons (.cmp .ne (.v 4) (.v 8)) (.cons (.cmp .eq (.call "_law_take" (.cons (.v 0) (.cons (.int 3) .nil))) (.int 0)) .nil)))) (.tup (.cons (.v 4) (.cons (.v 8) .nil)))))) .nil)) encI (List.range p)
      (fun pre ρ => ∃ D r, r.Sublist (sendsP p pre) ∧ ρ = [.own (.list (encN D)), .val (.int (p : Int)), .val (.int (m : Int)), .val (.tuple (encN ns)), .un, .own (.list (rs.map encR)), .val (encI k), .own (.list (r.map encP)), .un])
      (sc_rng (va_v rfl).pk (by omega)) rfl ⟨D, [], List.Sublist.refl _, rfl⟩ fun pre a suf ρ ha hI => by
      obtain ⟨D, r, h3, rfl⟩ := hI
      have ha2 := pre_len ha
      rw [List.length_range] at ha2
      have hrl := Nat.le_trans h3.length_le (sendsP_len p pre (by omega) (by omega))
      obtain ⟨out, ρ4, hc, hI3⟩ := ev_comp (G := G) (ρ := [.own (.list (encN D)), .val (.int (p : Int)), .val (.int (m : Int)), .val (.tuple (encN ns)), .val (encI a), .own (.list (rs.map encR)), .val (encI k), .own (.list (r.map encP)), .un]) (own := [8]) (t := .nm 8) (s := .r1 (.v 1)) (cc := .yes (.and (.cons (.cmp .ne (.v 4) (.v 8)) (.cons (.cmp .eq (.call "_law_take" (.cons (.v 0) (.cons (.int 3) .nil))) (.int 0)) .nil)))) (e := .tup (.cons (.v 4) (.cons (.v 8) .nil))) encI (List.range p)
        (fun pre out ρ => ∃ D l, out = l.map encP ∧ l.Sublist ((pre.filter fun b => a != b).map fun b => (a, b)) ∧ ρ = [.own (.list (encN D)), .val (.int (p : Int)), .val (.int (m : Int)), .val (.tuple (encN ns)), .val (encI a), .own (.list (rs.map encR)), .val (encI k), .own (.list (r.map encP)), .un])
        (sc_rng (va_v rfl).pk (by omega)) rfl ⟨D, [], rfl, List.Sublist.refl _, rfl⟩ (fun pre b suf out ρ hb hI => by
          obtain ⟨D, l, rfl, h4, rfl⟩ := hI
          have cv : ∀ x : PSlot, Ev G [x, .val (.int (p : Int)), .val (.int (m : Int)), .val (.tuple (encN ns)), .val (encI a), .own (.list (rs.map encR)), .val (encI k), .own (.list (r.map encP)), .val (encI b)] (.cmp .ne (.v 4) (.v 8)) (.val (.bool (a != b))) [x, .val (.int (p : Int)), .val (.int (m : Int)), .val (.tuple (encN ns)), .val (encI a), .own (.list (rs.map encR)), .val (encI k), .own (.list (r.map encP)), .val (encI b)] := fun x => (va_cmp (va_v rfl).pk (va_v rfl).pk (ne_nat a b)).ev
          have cv := cv (.own (.list (encN D)))
          have ef : ((pre ++ [b]).filter fun b => a != b).map (fun b => (a, b)) = (pre.filter fun b => a != b).map (fun b => (a, b)) ++ if a != b then [(a, b)] else [] := by
            rw [List.filter_append, List.map_append, List.filter_cons]
            split <;> rfl
          rw [ef]
          cases hab : a != b with
          | false =>
            rw [hab] at cv
            exact ⟨_, _, false, rfl, ec_yes (ev_and (ev_andN cv)), .inl ⟨rfl, D, l, rfl, by simpa using h4, rfl⟩⟩
          | true =>
            rw [hab] at cv
            have tv := ev_cmp (op := .eq) (ev_take (j := j) (io := some 0) (m := 3) (ρ := [.own (.list (encN D)), .val (.int (p : Int)), .val (.int (m : Int)), .val (.tuple (encN ns)), .val (encI a), .own (.list (rs.map encR)), .val (encI k), .own (.list (r.map encP)), .val (encI b)]) (by omega) rfl va_int) (va_int (k := 0)).ev rfl rfl (eq_nat (tk D 3) 0)
            cases ht : tk D 3 == 0 with
            | false =>
              rw [ht] at tv
              exact ⟨_, _, false, rfl, ec_yes (ev_and (ev_andY cv (ev_and1 tv))), .inl ⟨rfl, D.dropLast, l, rfl, h4.trans (List.sublist_append_left _ _), rfl⟩⟩
            | true =>
              rw [ht] at tv
              refine ⟨_, _, true, rfl, ec_yes (ev_and (ev_andY cv (ev_and1 tv))), .inr ⟨rfl, _, _, _, _, (va_tup (ds := [encI a, encI b]) (.cons (va_v rfl).st (.cons (va_v rfl).st .nil)) (lim_ge (Nat.le_of_ble_eq_true rfl))).ev, rfl, D.dropLast, l ++ [(a, b)], ?_, h4.append (List.Sublist.refl _), rfl⟩⟩
              rw [List.map_append]
              rfl) (fun out ρ hI => by
          obtain ⟨D, l, rfl, h4, rfl⟩ := hI
          rw [List.length_map]
          have := h4.length_le
          rw [List.length_map] at this
          have h5 := List.length_filter_le (fun b => a != b) (List.range p)
          rw [List.length_range] at h5
          exact lim_ge (by omega))
      obtain ⟨D2, l, rfl, h4, rfl⟩ := hI3
      have hll := h4.length_le
      rw [List.length_map] at hll
      have h5 := List.length_filter_le (fun b => a != b) (List.range p)
      rw [List.length_range] at h5
      refine ⟨_, _, _, rfl, Bk.one (sv_tm (ev_bin (x := .list (r.map encP)) (y := .list (l.map encP)) (r1 := .loc 7) (by rfl) hc rfl rfl (by simp only [bopD]; rw [if_pos (lim_ge (by rw [List.length_map, List.length_map]; omega))])) rfl), rfl, D2, r ++ l, ?_, ?_⟩
      · have : sendsP p (pre ++ [a]) = sendsP p pre ++ ((List.range p).filter fun b => a != b).map fun b => (a, b) := by
          unfold sendsP
          rw [List.flatMap_append, List.flatMap_cons, List.flatMap_nil, List.append_nil]
        rw [this]
        exact h3.append h4
      · rw [List.map_append]
        rfl
    obtain ⟨D2, r, h3, rfl⟩ := hI2
    refine ⟨_, _, _, rfl, Bk.cons (st_tm (tm_lst .nil (lim_ge (Nat.zero_le _))) rfl) (Bk.cons hf2 (Bk.one (st_app (ds := rs.map encR) (d := encR r) rfl (va_tupl (pk_own rfl)).st (by rw [List.length_map]; omega)))), rfl, D2, rs ++ [r], ?_, ?_, ?_⟩
    · rw [List.length_append, List.length_append, h1]; rfl
    · intro r' hr'
      rcases List.mem_append.mp hr' with hr' | hr'
      · exact h2 r' hr'
      · rw [List.mem_singleton] at hr'
        subst hr'
        exact h3
    · rw [List.map_append]
      rfl
  obtain ⟨D2, rs, h1, h2, rfl⟩ := hI
  rw [List.length_range] at h1
  refine ⟨ns, rs, D2, ⟨hp, hp4, hns, hbits, by omega, h2⟩, run_io (fr := false) (ρ' := [.own (.list (encN D2)), .val (.int (p : Int)), .val (.int (m : Int)), .val (.tuple (encN ns)), .un, .own (.list (rs.map encR)), .un, .un, .un]) (Bk.cons s1 (Bk.cons (st_tm (tm_lst .nil (lim_ge (Nat.zero_le _))) rfl) (Bk.cons hf (Bk.end (sv_ret (va_tup (ds := [.tuple (encN ns), .tuple (rs.map encR)]) (.cons (va_v rfl).st (.cons (va_tupl (pk_own rfl)).st .nil)) (lim_ge (Nat.le_of_ble_eq_true rfl))).ev))))) rfl rfl rfl rfl⟩
end K79
end
section
set_option Elab.async false
set_option linter.all false
set_option maxRecDepth 1000000
set_option maxHeartbeats 4000000
namespace K79
open PySem Pz
/-! sorting of pairs -/
def insZ (a : Zr) : List Zr → List Zr
  | [] => [a]
  | b :: r => if leD (encZ a) (encZ b) then a :: b :: r else b :: insZ a r
def isortZ (l : List Zr) : List Zr := l.foldr insZ []
theorem insZ_enc (a : Zr) : ∀ l : List Zr, insD (encZ a) (l.map encZ) = (insZ a l).map encZ
  | [] => rfl
  | b :: r => by
    unfold insZ
    rw [List.map_cons]
    unfold insD
    split
    · rfl
    · rw [insZ_enc a r]; rfl
theorem isortZ_enc : ∀ l : List Zr, isortD (l.map encZ) = (isortZ l).map encZ
  | [] => rfl
  | a :: l => by
    have := isortZ_enc l
    unfold isortD isortZ at this ⊢
    rw [List.map_cons, List.foldr_cons, List.foldr_cons, this, insZ_enc]
theorem mem_insZ {a x : Zr} : ∀ {l : List Zr}, x ∈ insZ a l ↔ x = a ∨ x ∈ l
  | [] => by simp [insZ]
  | b :: r => by
    unfold insZ
    split
    · simp
    · rw [List.mem_cons, mem_insZ, List.mem_cons]
      constructor
      · rintro (h | h | h)
        · exact .inr (.inl h)
        · exact .inl h
        · exact .inr (.inr h)
      · rintro (h | h | h)
        · exact .inr (.inl h)
        · exact .inl h
        · exact .inr (.inr h)
theorem mem_isortZ {x : Zr} : ∀ {l : List Zr}, x ∈ isortZ l ↔ x ∈ l
  | [] => Iff.rfl
  | a :: l => by
    have := mem_isortZ (x := x) (l := l)
    unfold isortZ at this ⊢
    rw [List.foldr_cons, mem_insZ, this, List.mem_cons]
theorem insZ_len (a : Zr) : ∀ l : List Zr, (insZ a l).length = l.length + 1
  | [] => rfl
  | b :: r => by
    unfold insZ
    split
    · rfl
    · rw [List.length_cons, insZ_len a r, List.length_cons]
theorem isortZ_len : ∀ l : List Zr, (isortZ l).length = l.length
  | [] => rfl
  | a :: l => by
    have := isortZ_len l
    unfold isortZ at this ⊢
    rw [List.foldr_cons, insZ_len, this, List.length_cons]
theorem sortOk_Z (l : List Zr) : sortOk (l.map encZ) = true := by
  unfold sortOk
  rw [Bool.and_eq_true, Bool.and_eq_true]
  refine ⟨⟨?_, ?_⟩, ?_⟩
  · rw [List.all_eq_true]
    intro x hx
    obtain ⟨a, _, rfl⟩ := List.mem_map.mp hx
    rw [List.all_eq_true]
    intro y hy
    obtain ⟨b, _, rfl⟩ := List.mem_map.mp hy
    unfold encZ
    simp [PySem.W.alike, PySem.W.alikeAll]
  · rw [Bool.or_eq_true]
    left
    rw [List.all_eq_true]
    intro x hx
    obtain ⟨a, _, rfl⟩ := List.mem_map.mp hx
    rfl
  · rw [List.all_eq_true]
    intro x hx
    obtain ⟨a, _, rfl⟩ := List.mem_map.mp hx
    have := (Pl.tup (n := 0) (ds := [.int a.1, .int a.2]) fun d hd => by
      simp only [List.mem_cons, List.not_mem_nil, or_false] at hd
      rcases hd with rfl | rfl <;> exact .int).lay.2
    exact decide_eq_true (by unfold encZ; omega)
/-! one of a list -/
theorem pick2 {t : Nat} (h : t < 2) (x y : PyData) : (idxD (.list [x, y]) (.int (t : Int)) = some x) ∨ (idxD (.list [x, y]) (.int (t : Int)) = some y) := by
  rcases (show t = 0 ∨ t = 1 by omega) with rfl | rfl
  · exact .inl rfl
  · exact .inr rfl
theorem pick3 {t : Nat} (h : t < 3) (x y z : PyData) : (idxD (.list [x, y, z]) (.int (t : Int)) = some x) ∨ (idxD (.list [x, y, z]) (.int (t : Int)) = some y) ∨ (idxD (.list [x, y, z]) (.int (t : Int)) = some z) := by
  rcases (show t = 0 ∨ t = 1 ∨ t = 2 by omega) with rfl | rfl | rfl
  · exact .inl rfl
  · exact .inr (.inl rfl)
  · exact .inr (.inr rfl)
theorem pick4 {t : Nat} (h : t < 4) (x y z u : PyData) : (idxD (.list [x, y, z, u]) (.int (t : Int)) = some x) ∨ (idxD (.list [x, y, z, u]) (.int (t : Int)) = some y) ∨ (idxD (.list [x, y, z, u]) (.int (t : Int)) = some z) ∨ (idxD (.list [x, y, z, u]) (.int (t : Int)) = some u) := by
  rcases (show t = 0 ∨ t = 1 ∨ t = 2 ∨ t = 3 by omega) with rfl | rfl | rfl | rfl
  · exact .inl rfl
  · exact .inr (.inl rfl)
  · exact .inr (.inr (.inl rfl))
  · exact .inr (.inr (.inr rfl))
theorem withD_set {row : List PyData} {k : Nat} {x : PyData} (h : k < row.length) : withD row k x = row.set k x := by
  unfold withD
  rw [List.set_eq_take_append_cons_drop, if_pos h, List.append_assoc]
  rfl
theorem encN_z (ns : List Nat) : encN ns = (zN ns).map .int := by
  unfold encN zN
  rw [List.map_map]
  rfl
theorem runZ_len {p : Int} {ns : List Int} {rs : List (List Zr)} (h : (ns.length : Int) ≠ p) : runZ p ns rs = false := by
  unfold runZ
  have : ((ns.length : Int) == p) = false := by simpa using h
  rw [this, Bool.false_and]
theorem runZ_bit {p : Int} {ns : List Int} {rs : List (List Zr)} {n : Int} (h : n ∈ ns) (hb : bitZ n = false) : runZ p ns rs = false := by
  unfold runZ
  have : ns.all bitZ = false := by
    rw [List.all_eq_false]
    exact ⟨n, h, by rw [hb]; exact Bool.false_ne_true⟩
  rw [this, Bool.false_and, Bool.and_false]
theorem runZ_round {p : Int} {ns : List Int} {rs : List (List Zr)} {r : List Zr} (h : r ∈ rs) (hb : rightZ p r = false) : runZ p ns rs = false := by
  unfold runZ
  have : rs.all (rightZ p) = false := by
    rw [List.all_eq_false]
    exact ⟨r, h, by rw [hb]; exact Bool.false_ne_true⟩
  rw [this, Bool.and_false, Bool.and_false]
theorem right_pair {p : Int} {r : List Zr} {q : Zr} (h : q ∈ r) (hb : inZ p q = false) : rightZ p r = false := by
  unfold rightZ
  have : r.all (inZ p) = false := by
    rw [List.all_eq_false]
    exact ⟨q, h, by rw [hb]; exact Bool.false_ne_true⟩
  rw [this, Bool.false_and]
theorem right_asc {p : Int} {r : List Zr} {k : Nat} (hk : k + 1 < r.length) (hb : ltZ (r.getD k (0, 0)) (r.getD (k + 1) (0, 0)) = false) : rightZ p r = false := by
  unfold rightZ
  cases ha : ascZ r with
  | false => rw [Bool.and_false]
  | true =>
    have := (asc_iff r).mp ha k hk
    rw [hb] at this
    cases this
theorem ltZ_false {a b : Pr} (h : a = b ∨ ltP a b) : ltZ (zP b) (zP a) = false := by
  rw [← Bool.not_eq_true, ltZ_iff]
  unfold zP
  simp only
  rcases h with rfl | h
  · omega
  · unfold ltP at h
    omega
theorem twice_end {p : Int} {r : List Pr} (h : r.Pairwise ltP) (hr : r ≠ []) : rightZ p ((r ++ r.take 1).map zP) = false := by
  match r, hr with
  | a :: r', _ =>
    have hg : ∀ k (x : Pr), ((a :: r') ++ [a])[k]? = some x → (((a :: r') ++ [a]).map zP).getD k (0, 0) = zP x := fun k x hx => by
      rw [List.getD_eq_getElem?_getD, List.getElem?_map, hx]; rfl
    have ht : (a :: r').take 1 = [a] := rfl
    rw [ht]
    refine right_asc (k := r'.length) (by simp) ?_
    have h1 : ((a :: r') ++ [a])[r'.length]? = some ((a :: r')[r'.length]'(by simp)) := by
      rw [List.getElem?_append_left (by simp), List.getElem?_eq_getElem (by simp)]
    have h2 : ((a :: r') ++ [a])[r'.length + 1]? = some a := by
      rw [List.getElem?_append_right (by simp)]
      simp
    rw [hg _ _ h1, hg _ _ h2]
    refine ltZ_false ?_
    by_cases h0 : r'.length = 0
    · left
      simp [h0]
    · right
      exact (List.pairwise_iff_getElem.mp h) 0 r'.length (by simp) (by simp) (by omega)
theorem twice_start {p : Int} {r : List Pr} (h : r.Pairwise ltP) (hr : r ≠ []) : rightZ p ((r.drop (r.length - 1) ++ r).map zP) = false := by
  match r, hr with
  | a :: r', _ =>
    have hd : (a :: r').drop ((a :: r').length - 1) = [(a :: r')[r'.length]'(by simp)] := by
      rw [List.length_cons, Nat.add_sub_cancel, List.drop_eq_getElem_cons (by simp)]
      congr 1
      exact List.drop_eq_nil_of_le (by simp)
    rw [hd]
    generalize hb : (a :: r')[r'.length]'(by simp) = b
    refine right_asc (k := 0) (by simp) ?_
    show ltZ (zP b) (zP a) = false
    refine ltZ_false ?_
    rw [← hb]
    by_cases h0 : r'.length = 0
    · left
      simp [h0]
    · right
      exact (List.pairwise_iff_getElem.mp h) 0 r'.length (by simp) (by simp) (by omega)
/-! _law_bent -/
def F_b (j : Nat) : FnSem := semOf (gk j (some 0)) ⟨4, 10, some 0, false, b_law_bent⟩
theorem t_b (j : Nat) : tbl P0 (j + 1) "_law_bent" = some (F_b j) := rfl
theorem va_dropT {G : EvG} {ρ : PEnv} {e : PExp} {ds : List PyData} (h : Pk G ρ e (.tuple ds)) : Va G ρ (.slice e (.yes (.int 1)) .no) (.tuple (ds.drop 1)) := by
  refine va_slice h (ob_yes va_int.pk) ob_no ?_
  simp only [sliceD]
  by_cases hl : 1 ≤ ds.length
  · rw [show (1 : Int) = ((1 : Nat) : Int) from rfl, cut_hi hl]
  · have : ds = [] := by cases ds with
      | nil => rfl
      | cons a l => simp at hl
    subst this
    rfl
theorem mem_set_self' {α : Type} {l : List α} {k : Nat} {x : α} (h : k < l.length) : x ∈ l.set k x := by
  exact List.mem_iff_getElem.mpr ⟨k, by rw [List.length_set]; exact h, List.getElem_set_self _⟩
theorem enc_rs (rs : List (List Pr)) : rs.map encR = (rs.map fun r => r.map zP).map encZR := by
  rw [List.map_map]
  refine List.map_congr_left fun r _ => ?_
  show encR r = encZR (r.map zP)
  unfold encR encZR
  rw [List.map_map]
  rfl
theorem encR_z (r : List Pr) : encR r = .tuple ((r.map zP).map encZ) := by
  unfold encR
  rw [List.map_map]
  rfl
theorem set_len {α : Type} {rs : List (List α)} {k m : Nat} {x : List α} (h : ∀ r, r ∈ rs → r.length ≤ m) (hx : x.length ≤ m) : ∀ r, r ∈ rs.set k x → r.length ≤ m := fun r hr => by
  rcases List.mem_or_eq_of_mem_set hr with hr | rfl
  · exact h r hr
  · exact hx
theorem w_b (j : Nat) (D : List Nat) {p : Nat} {ns : List Nat} {rs : List (List Pr)} (h : GR p ns rs) (c : Int) : ∃ (nz : List Int) (rz : List (List Zr)) (D' : List Nat), (F_b (j + 1)).run [.list (encN D), encRun ns rs, .int (p : Int), .int c] = some (encZRun nz rz, .list (encN D')) ∧
    runZ (p : Int) nz rz = false ∧ nz.length ≤ 1000 ∧ rz.length ≤ 1000 ∧ ∀ r, r ∈ rz → r.length ≤ 1000 := by
  have ho := h.ok
  have hn := h.n
  have hp1 := h.p1
  have hp4 := h.p4
  have hr4 := h.r4
  let G := gk (j + 1) (some 0)
  have hzl : ∀ r, r ∈ rs.map (fun r => r.map zP) → r.length ≤ 100 := fun r hr => by
    obtain ⟨r0, hr0, rfl⟩ := List.mem_map.mp hr
    rw [List.length_map]
    exact (ho.e r0 hr0).2
  have hzn : (zN ns).length = p := by unfold zN; rw [List.length_map, hn]
  -- bad
  obtain ⟨bad, hbad, hbi⟩ : ∃ bad : Int, (bad < 0 ∨ (p : Int) ≤ bad) ∧ idxD (.list [.int (-1), .int (p : Int), .int ((p : Int) + (if c < 0 then -c else c))]) (.int (tk D 3 : Nat)) = some (.int bad) := by
    rcases pick3 (tk_lt D (m := 3) (by omega)) (.int (-1)) (.int (p : Int)) (.int ((p : Int) + (if c < 0 then -c else c))) with h | h | h
    · exact ⟨_, .inl (by omega), h⟩
    · exact ⟨_, .inr (by omega), h⟩
    · exact ⟨_, .inr (by split <;> omega), h⟩
  let E : List Nat → PSlot → PSlot → PSlot → PSlot → PEnv := fun D x6 x7 x8 x9 => [.own (.list (encN D)), .val (encRun ns rs), .val (.int (p : Int)), .val (.int c), .val (.tuple (encN ns)), .val (.tuple (rs.map encR)), x6, x7, x8, x9]
  have s1 : evSt G (.asgT [4, 5] (.v 1)) [.own (.list (encN D)), .val (encRun ns rs), .val (.int (p : Int)), .val (.int c), .un, .un, .un, .un, .un, .un] = some (.next, E D .un .un .un .un) := st_tup (va_v rfl) rfl
  have s2 : evSt G (.asg 6 (.idx (.lst (.cons (.neg (.int 1)) (.cons (.v 2) (.cons (.bin .add (.v 2) (.blt .abs (.cons (.v 3) .nil))) .nil)))) (.call "_law_take" (.cons (.v 0) (.cons (.int 3) .nil))))) (E D .un .un .un .un) = some (.next, E D.dropLast (.val (.int bad)) .un .un .un) :=
    sv_asg (ev_idx (tm_lst (ds := [.int (-1), .int (p : Int), .int ((p : Int) + (if c < 0 then -c else c))]) (.cons (va_neg va_int.pk).st (.cons (va_v rfl).st (.cons (va_add (va_v rfl).pk (Va.pk (va_blt (.cons (va_v rfl).pk .nil) rfl))).st .nil))) (lim_ge (Nat.le_of_ble_eq_true rfl))).ev (ev_take (m := 3) (by omega) rfl va_int) rfl rfl hbi) rfl
  have s3 : evSt G (.asg 7 (.call "_law_take" (.cons (.v 0) (.cons (.int 4) .nil)))) (E D.dropLast (.val (.int bad)) .un .un .un) = some (.next, E D.dropLast.dropLast (.val (.int bad)) (.val (encI (tk D.dropLast 4))) .un .un) :=
    sv_asg (ev_take (m := 4) (by omega) rfl va_int) rfl
  generalize hq : tk D.dropLast 4 = pick at s3
  generalize D.dropLast = D1 at *
  generalize D1.dropLast = D2 at *
  have start : ∀ r fl ρ', Bk G r (E D2 (.val (.int bad)) (.val (encI pick)) .un .un) fl ρ' → Bk G (.cons (.asgT [4, 5] (.v 1)) (.cons (.asg 6 (.idx (.lst (.cons (.neg (.int 1)) (.cons (.v 2) (.cons (.bin .add (.v 2) (.blt .abs (.cons (.v 3) .nil))) .nil)))) (.call "_law_take" (.cons (.v 0) (.cons (.int 3) .nil))))) (.cons (.asg 7 (.call "_law_take" (.cons (.v 0) (.cons (.int 4) .nil)))) r))) [.own (.list (encN D)), .val (encRun ns rs), .val (.int (p : Int)), .val (.int c), .un, .un, .un, .un, .un, .un] fl ρ' := fun r fl ρ' t => Bk.cons s1 (Bk.cons s2 (Bk.cons s3 t))
  have cq : Va G (E D2 (.val (.int bad)) (.val (encI pick)) .un .un) (.cmp .eq (.v 7) (.int 0)) (.bool (pick == 0)) := va_cmp (x := encI pick) (y := .int ((0 : Nat) : Int)) (va_v rfl).pk va_int.pk (eq_nat _ _)
  by_cases h0 : pick = 0
  · -- a note
    have hb : (pick == 0) = true := by simpa using h0
    rw [hb] at cq
    let t1 := tk D2 p
    have ht1 : t1 < p := tk_lt D2 (by omega)
    let c' : Int := c + 2 * (if bitZ c then 1 else 0)
    have hc' : bitZ c' = false := by
      show bitZ (c + 2 * (if bitZ c then 1 else 0)) = false
      unfold bitZ
      by_cases h0 : c = 0
      · subst h0; rfl
      · by_cases h1 : c = 1
        · subst h1; rfl
        · have a0 : ((0 : Int) == c) = false := by simpa using fun h => h0 h.symm
          have a1 : ((1 : Int) == c) = false := by simpa using fun h => h1 h.symm
          rw [a0, a1]
          simp [a0, a1]
    obtain ⟨item, hit, hii⟩ : ∃ item : Int, bitZ item = false ∧ idxD (.list [.int 2, .int (-1), .int c']) (.int (tk D2.dropLast 3 : Nat)) = some (.int item) := by
      rcases pick3 (tk_lt D2.dropLast (m := 3) (by omega)) (.int 2) (.int (-1)) (.int c') with h | h | h
      · exact ⟨_, rfl, h⟩
      · exact ⟨_, rfl, h⟩
      · exact ⟨_, hc', h⟩
    let A1 : PyData := .tuple [.tuple (encN ns ++ [.int 0]), .tuple (rs.map encR)]
    let A2 : PyData := .tuple [.tuple ((encN ns).drop 1), .tuple (rs.map encR)]
    let A3 : PyData := .tuple [.tuple (withD (encN ns) t1 (.int item)), .tuple (rs.map encR)]
    let ρ := E D2 (.val (.int bad)) (.val (encI pick)) .un .un
    have v1 : Ev G ρ (.tup (.cons (.bin .add (.v 4) (.tup (.cons (.int 0) .nil))) (.cons (.v 5) .nil))) (.val A1) ρ :=
      (va_tup (.cons (va_addT (va_v rfl).pk (va_tup (.cons va_int.st .nil) (lim_ge (Nat.le_of_ble_eq_true rfl))).pk (by rw [encN_len, List.length_cons, List.length_nil]; omega)).st (.cons (va_v rfl).st .nil)) (lim_ge (Nat.le_of_ble_eq_true rfl))).ev
    have v2 : Ev G ρ (.tup (.cons (.slice (.v 4) (.yes (.int 1)) .no) (.cons (.v 5) .nil))) (.val A2) ρ :=
      (va_tup (.cons (va_dropT (va_v rfl).pk).st (.cons (va_v rfl).st .nil)) (lim_ge (Nat.le_of_ble_eq_true rfl))).ev
    have v3a : Ev G (E D2.dropLast (.val (.int bad)) (.val (encI pick)) .un .un) (.idx (.lst (.cons (.int 2) (.cons (.neg (.int 1)) (.cons (.bin .add (.v 3) (.bin .mul (.int 2) (.blt .int (.cons (.cmp .isin (.v 3) (.tup (.cons (.int 0) (.cons (.int 1) .nil)))) .nil)))) .nil)))) (.call "_law_take" (.cons (.v 0) (.cons (.int 3) .nil)))) (.val (.int item)) (E D2.dropLast.dropLast (.val (.int bad)) (.val (encI pick)) .un .un) :=
      ev_idx (tm_lst (ds := [.int 2, .int (-1), .int c']) (.cons va_int.st (.cons (va_neg va_int.pk).st (.cons (Va.st (va_add (va_v rfl).pk (Va.pk (va_mulS va_int.pk (Va.pk (va_blt (.cons (Va.pk (va_cmp (va_v rfl).pk (Va.pk (va_tup (ds := [.int 0, .int 1]) (.cons va_int.st (.cons va_int.st .nil)) (lim_ge (Nat.le_of_ble_eq_true rfl)))) (isin_01 c))) .nil) rfl)) (by rw [show small64 2 = true from rfl, Bool.true_or]))))) .nil))) (lim_ge (Nat.le_of_ble_eq_true rfl))).ev (ev_take (m := 3) (by omega) rfl va_int) rfl rfl hii
    have v3 : Ev G ρ (.tup (.cons (.call "_law_with" (.cons (.v 4) (.cons (.call "_law_take" (.cons (.v 0) (.cons (.v 2) .nil))) (.cons (.idx (.lst (.cons (.int 2) (.cons (.neg (.int 1)) (.cons (.bin .add (.v 3) (.bin .mul (.int 2) (.blt .int (.cons (.cmp .isin (.v 3) (.tup (.cons (.int 0) (.cons (.int 1) .nil)))) .nil)))) .nil)))) (.call "_law_take" (.cons (.v 0) (.cons (.int 3) .nil)))) .nil)))) (.cons (.v 5) .nil))) (.val A3) (E D2.dropLast.dropLast (.val (.int bad)) (.val (encI pick)) .un .un) :=
      ev_tup (es_cons (ev_callV (fs := F_w j) (t_w j) rfl (es_cons (va_v rfl).ev (es_cons (ev_take (m := p) (by omega) rfl (va_v rfl)) (es_cons v3a es_nil))) rfl rfl (w_w j (by rw [encN_len]; omega) (by rw [encN_len]; omega))) (es_cons (va_v rfl).ev es_nil)) rfl (lim_ge (Nat.le_of_ble_eq_true rfl))
    let D3 := D2.dropLast.dropLast
    have fin : ∀ d : PyData, idxD (.list [A1, A2, A3]) (.int (tk D3 3 : Nat)) = some d → (F_b (j + 1)).run [.list (encN D), encRun ns rs, .int (p : Int), .int c] = some (d, .list (encN D3.dropLast)) := fun d hd =>
      run_io (fr := false) (ρ' := E D3.dropLast (.val (.int bad)) (.val (encI pick)) .un .un) (start _ _ _ (Bk.end (sv_if cq.ev (fun _ => Bk.end (sv_ret (ev_idx (ev_lst (es_cons v1 (es_cons v2 (es_cons v3 es_nil))) rfl (lim_ge (Nat.le_of_ble_eq_true rfl))) (ev_take (m := 3) (by omega) rfl va_int) rfl rfl hd))) fun h => nomatch h))) rfl rfl rfl rfl
    rcases pick3 (tk_lt D3 (m := 3) (by omega)) A1 A2 A3 with hd | hd | hd
    · refine ⟨zN ns ++ [0], rs.map fun r => r.map zP, D3.dropLast, ?_, runZ_len (by rw [List.length_append, hzn, List.length_cons, List.length_nil]; omega), by rw [List.length_append, hzn, List.length_cons, List.length_nil]; omega, by rw [List.length_map]; omega, fun r hr => by have := hzl r hr; omega⟩
      rw [fin _ hd]
      show some (PyData.tuple [.tuple (encN ns ++ [.int 0]), .tuple (rs.map encR)], _) = _
      unfold encZRun
      rw [encN_z, enc_rs, List.map_append]
      rfl
    · refine ⟨(zN ns).drop 1, rs.map fun r => r.map zP, D3.dropLast, ?_, runZ_len (by rw [List.length_drop, hzn]; omega), by rw [List.length_drop, hzn]; omega, by rw [List.length_map]; omega, fun r hr => by have := hzl r hr; omega⟩
      rw [fin _ hd]
      show some (PyData.tuple [.tuple ((encN ns).drop 1), .tuple (rs.map encR)], _) = _
      unfold encZRun
      rw [encN_z, enc_rs, List.map_drop]
    · refine ⟨(zN ns).set t1 item, rs.map fun r => r.map zP, D3.dropLast, ?_, runZ_bit (mem_set_self' (by omega)) hit, by rw [List.length_set, hzn]; omega, by rw [List.length_map]; omega, fun r hr => by have := hzl r hr; omega⟩
      rw [fin _ hd]
      show some (PyData.tuple [.tuple (withD (encN ns) t1 (.int item)), .tuple (rs.map encR)], _) = _
      unfold encZRun
      rw [withD_set (by rw [encN_len]; omega), encN_z, enc_rs, List.map_set]
  · have hb : (pick == 0) = false := by simpa using h0
    rw [hb] at cq
    obtain ⟨pair, hpair, hpi⟩ : ∃ pair : Zr, inZ (p : Int) pair = false ∧ idxD (.list [encZ (0, bad), encZ (bad, 0), encZ (0, 0), encZ (bad, bad)]) (.int (tk D2 4 : Nat)) = some (encZ pair) := by
      have nb : (decide (0 ≤ bad) && decide (bad < (p : Int))) = false := by
        rcases hbad with h | h
        · rw [decide_eq_false (by omega), Bool.false_and]
        · rw [show decide (bad < (p : Int)) = false from decide_eq_false (by omega), Bool.and_false]
      rcases pick4 (tk_lt D2 (m := 4) (by omega)) (encZ (0, bad)) (encZ (bad, 0)) (encZ (0, 0)) (encZ (bad, bad)) with h | h | h | h
      · exact ⟨_, by unfold inZ; simp only [nb, Bool.false_and, Bool.and_false], h⟩
      · exact ⟨_, by unfold inZ; simp only [nb, Bool.false_and, Bool.and_false], h⟩
      · exact ⟨_, by unfold inZ; simp, h⟩
      · exact ⟨_, by unfold inZ; simp only [nb, Bool.false_and, Bool.and_false], h⟩
    have pv : ∀ (a b : PExp) (x y : Int), Va G (E D2 (.val (.int bad)) (.val (encI pick)) .un .un) a (.int x) → Va G (E D2 (.val (.int bad)) (.val (encI pick)) .un .un) b (.int y) → St G (E D2 (.val (.int bad)) (.val (encI pick)) .un .un) (.tup (.cons a (.cons b .nil))) (encZ (x, y)) := fun a b x y ha hb =>
      Va.st (va_tup (ds := [.int x, .int y]) (.cons ha.st (.cons hb.st .nil)) (lim_ge (Nat.le_of_ble_eq_true rfl)))
    have s4 : evSt G (.asg 8 (.idx (.lst (.cons (.tup (.cons (.int 0) (.cons (.v 6) .nil))) (.cons (.tup (.cons (.v 6) (.cons (.int 0) .nil))) (.cons (.tup (.cons (.int 0) (.cons (.int 0) .nil))) (.cons (.tup (.cons (.v 6) (.cons (.v 6) .nil))) .nil))))) (.call "_law_take" (.cons (.v 0) (.cons (.int 4) .nil))))) (E D2 (.val (.int bad)) (.val (encI pick)) .un .un) = some (.next, E D2.dropLast (.val (.int bad)) (.val (encI pick)) (.val (encZ pair)) .un) :=
      sv_asg (ev_idx (tm_lst (ds := [encZ (0, bad), encZ (bad, 0), encZ (0, 0), encZ (bad, bad)]) (.cons (pv _ _ _ _ va_int (va_v rfl)) (.cons (pv _ _ _ _ (va_v rfl) va_int) (.cons (pv _ _ _ _ va_int va_int) (.cons (pv _ _ _ _ (va_v rfl) (va_v rfl)) .nil)))) (lim_ge (Nat.le_of_ble_eq_true rfl))).ev (ev_take (m := 4) (by omega) rfl va_int) rfl rfl hpi) rfl
    generalize D2.dropLast = D3 at *
    let ρ := E D3 (.val (.int bad)) (.val (encI pick)) (.val (encZ pair)) .un
    have cl : Va G ρ (.cmp .eq (.blt .len (.cons (.v 5) .nil)) (.int 0)) (.bool (rs.length == 0)) := va_cmp (x := .int ((rs.length : Nat) : Int)) (y := .int ((0 : Nat) : Int)) (by rw [← List.length_map (f := encR)]; exact (va_lenT (va_v rfl).pk).pk) va_int.pk (eq_nat _ _)
    by_cases hr0 : rs.length = 0
    · have hb : (rs.length == 0) = true := by simpa using hr0
      rw [hb] at cl
      refine ⟨zN ns, [[pair]], D3, ?_, runZ_round List.mem_cons_self (right_pair List.mem_cons_self hpair), by omega, by simp, fun r hr => by rw [List.mem_singleton] at hr; subst hr; simp⟩
      unfold encZRun
      rw [← encN_z]
      exact run_io (fr := false) (ρ' := ρ) (start _ _ _ (Bk.cons (sv_skip cq.ev) (Bk.cons s4 (Bk.end (sv_if cl.ev (fun _ => Bk.end (sv_ret (Va.ev (va_tup (ds := [.tuple (encN ns), .tuple [.tuple [encZ pair]]]) (.cons (va_v rfl).st (.cons (Va.st (va_tup (.cons (Va.st (va_tup (.cons (va_v rfl).st .nil) (lim_ge (Nat.le_of_ble_eq_true rfl)))) .nil) (lim_ge (Nat.le_of_ble_eq_true rfl)))) .nil)) (lim_ge (Nat.le_of_ble_eq_true rfl)))))) fun h => nomatch h))))) rfl rfl rfl rfl
    · have hb : (rs.length == 0) = false := by simpa using hr0
      rw [hb] at cl
      have hk : tk D3 rs.length < rs.length := tk_lt D3 (by omega)
      have s5 : evSt G (.asg 9 (.call "_law_take" (.cons (.v 0) (.cons (.blt .len (.cons (.v 5) .nil)) .nil)))) ρ = some (.next, E D3.dropLast (.val (.int bad)) (.val (encI pick)) (.val (encZ pair)) (.val (encI (tk D3 rs.length)))) :=
        sv_asg (ev_take (m := rs.length) (by omega) rfl (by rw [← List.length_map (f := encR)]; exact va_lenT (va_v rfl).pk)) rfl
      generalize tk D3 rs.length = k at *
      generalize D3.dropLast = D4 at *
      let r := rs[k]
      have hrm : r ∈ rs := List.getElem_mem hk
      have hrl := (ho.e r hrm).2
      let ρ2 := E D4 (.val (.int bad)) (.val (encI pick)) (.val (encZ pair)) (.val (encI k))
      have vr : Va G ρ2 (.idx (.v 5) (.v 9)) (encR r) := va_idx (va_v rfl).pk (va_v rfl).pk ((idx_tup (by rw [List.length_map]; exact hk)).trans (by rw [getD_map (List.getElem?_eq_getElem hk)]))
      have cc : Va G ρ2 (.or (.cons (.cmp .lt (.v 7) (.int 3)) (.cons (.cmp .eq (.blt .len (.cons (.idx (.v 5) (.v 9)) .nil)) (.int 0)) .nil))) (.bool (decide ((pick : Int) < 3) || (r.length == 0))) :=
        va_or (ds_cons (Va.pk (va_cmp (va_v rfl).pk va_int.pk rfl)) fun _ => .one (Va.pk (va_cmp (x := .int ((r.length : Nat) : Int)) (y := .int ((0 : Nat) : Int)) (by rw [← List.length_map (f := encP)]; exact (va_lenT vr.pk).pk) va_int.pk (eq_nat _ _))))
      cases hcc : (decide ((pick : Int) < 3) || (r.length == 0)) with
      | true =>
        rw [hcc] at cc
        have hpm : pair ∈ isortZ (r.map zP ++ [pair]) := mem_isortZ.mpr (List.mem_append_right _ List.mem_cons_self)
        have hsl : (isortZ (r.map zP ++ [pair])).length ≤ 1000 := by rw [isortZ_len, List.length_append, List.length_map, List.length_cons, List.length_nil]; omega
        refine ⟨zN ns, (rs.map fun r => r.map zP).set k (isortZ (r.map zP ++ [pair])), D4, ?_, runZ_round (mem_set_self' (by rw [List.length_map]; exact hk)) (right_pair hpm hpair), by omega, by rw [List.length_set, List.length_map]; omega, set_len (fun r hr => by have := hzl r hr; omega) hsl⟩
        have eo : encZRun (zN ns) ((rs.map fun r => r.map zP).set k (isortZ (r.map zP ++ [pair]))) = .tuple [.tuple (encN ns), .tuple (withD (rs.map encR) k (.tuple (isortD ((r.map zP ++ [pair]).map encZ))))] := by
          unfold encZRun
          rw [← encN_z, withD_set (by rw [List.length_map]; exact hk), List.map_set, enc_rs, isortZ_enc]
          rfl
        rw [eo]
        refine run_io (fr := false) (ρ' := ρ2) (start _ _ _ (Bk.cons (sv_skip cq.ev) (Bk.cons s4 (Bk.cons (sv_skip cl.ev) (Bk.cons s5 (Bk.end (sv_if cc.ev (fun _ => Bk.end (sv_ret (Va.ev (va_tup (.cons (va_v rfl).st (.cons (Va.st (va_callA (fs := F_w j) (t_w j) rfl rfl (.va (va_v rfl) (.va (va_v rfl) (.va ?_ .nil))) (w_w j (by rw [List.length_map]; exact hk) (by rw [List.length_map]; omega)))) .nil)) (lim_ge (Nat.le_of_ble_eq_true rfl)))))) fun h => nomatch h))))))) rfl rfl rfl rfl
        refine va_tupl (Tm.pk (tm_blt (.cons (Va.pk (va_addT (xs := (r.map zP).map encZ) (ys := [encZ pair]) (by rw [← encR_z]; exact vr.pk) (va_tup (.cons (va_v rfl).st .nil) (lim_ge (Nat.le_of_ble_eq_true rfl))).pk ?_)) .nil) ?_))
        · rw [List.length_map, List.length_map, List.length_cons, List.length_nil]; omega
        · have := sortOk_Z (r.map zP ++ [pair])
          rw [List.map_append] at this ⊢
          have e0 : List.map encZ [pair] = [encZ pair] := rfl
          rw [e0] at this ⊢
          simp only [bfD]
          rw [if_pos this]
      | false =>
        rw [hcc] at cc
        have hr1 : r ≠ [] := by
          rintro e
          rw [e] at hcc
          simp at hcc
        have hasc := h.asc r hrm
        let B1 : PyData := .tuple (((r ++ r.take 1).map zP).map encZ)
        let B2 : PyData := .tuple (((r.drop (r.length - 1) ++ r).map zP).map encZ)
        have vz : Va G ρ2 (.idx (.v 5) (.v 9)) (.tuple ((r.map zP).map encZ)) := by rw [← encR_z]; exact vr
        have hr0' : 0 < r.length := List.length_pos_iff.mpr hr1
        have b1 : Va G ρ2 (.bin .add (.idx (.v 5) (.v 9)) (.slice (.idx (.v 5) (.v 9)) .no (.yes (.int 1)))) B1 := by
          show Va G ρ2 _ (.tuple (((r ++ r.take 1).map zP).map encZ))
          rw [List.map_append, List.map_append, List.map_take, List.map_take]
          refine va_addT vz.pk (Va.pk (va_slice vz.pk ob_no (ob_yes va_int.pk) ?_)) (by rw [List.length_take, List.length_map, List.length_map]; omega)
          simp only [sliceD]
          rw [show (1 : Int) = ((1 : Nat) : Int) from rfl, cut_lo (by rw [List.length_map, List.length_map]; omega)]
        have b2 : Va G ρ2 (.bin .add (.slice (.idx (.v 5) (.v 9)) (.yes (.neg (.int 1))) .no) (.idx (.v 5) (.v 9))) B2 := by
          show Va G ρ2 _ (.tuple (((r.drop (r.length - 1) ++ r).map zP).map encZ))
          rw [List.map_append, List.map_append, List.map_drop, List.map_drop]
          refine va_addT (Va.pk (va_slice vz.pk (ob_yes (va_neg va_int.pk).pk) ob_no ?_)) vz.pk (by rw [List.length_drop, List.length_map, List.length_map]; omega)
          simp only [sliceD, cutD]
          have e1 : HT.sIx ((r.map zP).map encZ).length 0 (some (-1)) = r.length - 1 := by
            rw [List.length_map, List.length_map]
            show (if (-1 : Int) < 0 then ((-1 : Int) + (r.length : Int)).toNat else min (-1 : Int).toNat r.length) = _
            rw [if_pos (by omega)]
            omega
          have e2 : HT.sIx ((r.map zP).map encZ).length ((r.map zP).map encZ).length none = ((r.map zP).map encZ).length := rfl
          rw [e1, e2, List.take_of_length_le (by simp)]
        have fin : ∀ d : PyData, idxD (.list [B1, B2]) (.int (tk D4 2 : Nat)) = some d → (F_b (j + 1)).run [.list (encN D), encRun ns rs, .int (p : Int), .int c] = some (.tuple [.tuple (encN ns), .tuple (withD (rs.map encR) k d)], .list (encN D4.dropLast)) := fun d hd =>
          run_io (fr := false) (ρ' := E D4.dropLast (.val (.int bad)) (.val (encI pick)) (.val (encZ pair)) (.val (encI k))) (start _ _ _ (Bk.cons (sv_skip cq.ev) (Bk.cons s4 (Bk.cons (sv_skip cl.ev) (Bk.cons s5 (Bk.cons (sv_skip cc.ev) (Bk.end (sv_ret (ev_tup (es_cons (va_v rfl).ev (es_cons (ev_callV (fs := F_w j) (t_w j) rfl (es_cons (va_v rfl).ev (es_cons (va_v rfl).ev (es_cons (ev_idx (tm_lst (ds := [B1, B2]) (.cons b1.st (.cons b2.st .nil)) (lim_ge (Nat.le_of_ble_eq_true rfl))).ev (ev_take (m := 2) (by omega) rfl va_int) rfl rfl hd) es_nil))) rfl rfl (w_w j (by rw [List.length_map]; exact hk) (by rw [List.length_map]; omega))) es_nil)) rfl (lim_ge (Nat.le_of_ble_eq_true rfl))))))))))) rfl rfl rfl rfl
        have eo : ∀ l : List Pr, encZRun (zN ns) ((rs.map fun r => r.map zP).set k (l.map zP)) = .tuple [.tuple (encN ns), .tuple (withD (rs.map encR) k (.tuple ((l.map zP).map encZ)))] := fun l => by
          unfold encZRun
          rw [← encN_z, withD_set (by rw [List.length_map]; exact hk), List.map_set, enc_rs]
          rfl
        rcases pick2 (tk_lt D4 (m := 2) (by omega)) B1 B2 with hd | hd
        · refine ⟨zN ns, (rs.map fun r => r.map zP).set k ((r ++ r.take 1).map zP), D4.dropLast, by rw [eo]; exact fin _ hd, runZ_round (mem_set_self' (by rw [List.length_map]; exact hk)) (twice_end hasc hr1), by omega, by rw [List.length_set, List.length_map]; omega, set_len (fun r hr => Nat.le_trans (hzl r hr) (by omega)) (by rw [List.length_map, List.length_append, List.length_take]; omega)⟩
        · refine ⟨zN ns, (rs.map fun r => r.map zP).set k ((r.drop (r.length - 1) ++ r).map zP), D4.dropLast, by rw [eo]; exact fin _ hd, runZ_round (mem_set_self' (by rw [List.length_map]; exact hk)) (twice_start hasc hr1), by omega, by rw [List.length_set, List.length_map]; omega, set_len (fun r hr => Nat.le_trans (hzl r hr) (by omega)) (by rw [List.length_map, List.length_append, List.length_drop]; omega)⟩
end K79
end
section
set_option Elab.async false
set_option linter.all false
set_option maxRecDepth 1000000
set_option maxHeartbeats 4000000
namespace K79
open PySem Pz
/-! _law_is_told -/
def F_it (j : Nat) : FnSem := semOf (gk j none) ⟨2, 9, none, false, b_law_is_told⟩
theorem t_it (j : Nat) : tbl P0 (j + 1) "_law_is_told" = some (F_it j) := rfl
theorem ne_bool (x : Bool) : cmpD .ne (.bool x) (.bool x) = some false := by cases x <;> decide +kernel
theorem tp_view12 {p : Nat} {ns : List Nat} {rs : List (List Pr)} (h : Okr p ns rs) (h4 : rs.length ≤ 4) (a : Nat) : Tp 20 ((rviews ns rs).getD a .none) := by
  have := tp_fold rs (encN ns) 0 (fun r hr => (h.e r hr).2) fun v hv => by
    obtain ⟨n, _, rfl⟩ := List.mem_map.mp hv
    exact .int
  exact tp_getD (fun v hv => (this v hv).le (by omega)) a
theorem tp_nats {n : Nat} {l : List Nat} (h : l.length ≤ 1000000) : Tp (n + 1) (.tuple (encN l)) := .tup (by rw [encN_len]; exact h) fun d hd => by
  obtain ⟨k, _, rfl⟩ := List.mem_map.mp hd
  exact .int
theorem tp_deeds {p : Nat} {ns : List Nat} {rs : List (List Pr)} (hl : (deeds p ns rs).length ≤ 1000000) : Tp 20 (.tuple (deeds p ns rs)) := .tup hl fun d hd => by
  rw [deeds_enc] at hd
  obtain ⟨e, _, rfl⟩ := List.mem_map.mp hd
  have s : ∀ x, x = "note" ∨ x = "send" ∨ x = "get" → Tp 18 (.str (Str.ofString x)) := fun x hx => by
    rcases hx with rfl | rfl | rfl <;> exact .str (by decide +kernel)
  cases e with
  | note c => exact tp3 (s "note" (by simp)) .int .int
  | send a b => exact tp3 (s "send" (by simp)) .int .int
  | get b i => exact tp3 (s "get" (by simp)) .int .int
theorem heard_tup {p : Nat} {rs : List (List Pr)} (hr : ∀ r, r ∈ rs → ∀ q, q ∈ r → q.1 < p ∧ q.2 < p) {a : Nat} (ha : a < p) : heardT p rs a = encN (foundL p rs a) := by
  unfold heardT encN
  rw [heardT_eq hr ha, List.map_map]
  rfl
theorem found_len (p : Nat) (rs : List (List Pr)) (a : Nat) : (foundL p rs a).length ≤ p := by
  unfold foundL
  exact Nat.le_trans (List.length_filter_le _ _) (by rw [List.length_range]; exact Nat.le_refl _)
theorem w_it (j : Nat) {p : Nat} {ns : List Nat} {rs : List (List Pr)} (h : GR p ns rs) : (F_it (j + 21)).run [encRun ns rs, .int (p : Int)] = some (.bool true, .none) := by
  have ho := h.ok
  have hn := h.n
  have hp4 := h.p4
  have hr4 := h.r4
  let V : PyData := .list (rviews ns rs)
  have same : ∀ (ρ : PEnv) (e e' : PExp) (x : PyData), Tp 20 x → Va (gk (j + 21) none) ρ e x → Va (gk (j + 21) none) ρ e' x → Va (gk (j + 21) none) ρ (.call "_law_same" (.cons e (.cons e' .nil))) (.bool true) := fun ρ e e' x hx h1 h2 =>
    va_callA (fs := F_s (j + 20)) (t_s (j + 20)) rfl rfl (.va h1 (.va h2 .nil)) (w_s j (by omega) hx)
  have ns' : ∀ (ρ : PEnv) (e : PExp), Va (gk (j + 21) none) ρ e (.bool true) → Pk (gk (j + 21) none) ρ (.not e) (.bool false) := fun ρ e h => (va_not (k := true) h.pk).pk
  refine Rt.run (Rt.cons (st_va (d := V) (va_callA (fs := F_lrv (j + 20)) (t_lrv (j + 20)) rfl rfl (.va (va_v rfl) .nil) (w_lrv (j + 20) ho)) rfl) (Rt.cons (st_forP encI (List.range p) (fun _ => [.val (encRun ns rs), .val (.int (p : Int)), .val V, .un, .un, .un, .un, .un, .un]) (sc_rng (va_v rfl).pk (by omega)) rfl fun pre a suf ha => ?_) ?_))
  · have ha := List.mem_range.mp (pre_mem ha)
    have hf := found_len p rs a
    have hho := past_ok ho a
    have hvl : (rviews ns rs).length = p := by rw [rviews_len, hn]
    have htp := tp_view12 ho hr4 a
    have hb : ∀ r, r ∈ rs → ∀ q, q ∈ r → q.1 < p ∧ q.2 < p := fun r hr => (ho.e r hr).1
    let ρ : PEnv := [.val (encRun ns rs), .val (.int (p : Int)), .val V, .val (encI a), .val (.list (encN (foundL p rs a))), .val (encRun (pastN a ns rs) (pastR a rs)), .un, .un, .un]
    have vw : Va (gk (j + 21) none) ρ (.idx (.v 2) (.v 3)) ((rviews ns rs).getD a .none) := va_idx (va_v rfl).pk (va_v rfl).pk (idx_list (by omega))
    have c1 : Va (gk (j + 21) none) ρ (.or (.cons (.not (.call "_law_same" (.cons (.call "round_view" (.cons (.v 0) (.cons (.v 3) .nil))) (.cons (.idx (.v 2) (.v 3)) .nil)))) (.cons (.not (.call "_law_same" (.cons (.call "heard_in_run" (.cons (.v 0) (.cons (.v 3) .nil))) (.cons (.blt .tuple (.cons (.v 4) .nil)) .nil)))) (.cons (.not (.call "_law_same" (.cons (.call "round_past" (.cons (.v 0) (.cons (.v 3) .nil))) (.cons (.v 5) .nil)))) .nil)))) (.bool false) := by
      refine va_or (.no (ns' _ _ (same _ _ _ _ htp ?_ vw)) (.no (ns' _ _ (same _ _ _ _ (tp_nats (l := foundL p rs a) (by omega)) ?_ (va_tupl (va_v rfl).pk))) (.one (ns' _ _ (same _ _ _ _ ((tp_run hho).le (by omega)) ?_ (va_v rfl))))))
      · exact va_callA (fs := F_rw (j + 20)) (t_rw (j + 20)) rfl rfl (.va (va_v rfl) (.va (va_v rfl) .nil)) (w_rw (j + 18) ho ha)
      · have run := w_hr (j + 20) ho hr4 h.three ha (by rw [heardT_eq hb ha, List.length_map]; omega)
        rw [heard_tup hb ha] at run
        exact va_callA (fs := F_hr (j + 20)) (t_hr (j + 20)) rfl rfl (.va (va_v rfl) (.va (va_v rfl) .nil)) run
      · exact va_callA (fs := F_rp (j + 20)) (t_rp (j + 20)) rfl rfl (.va (va_v rfl) (.va (va_v rfl) .nil)) (w_rp (j + 20) ho a)
    have pv := past_view ho ha
    have c2 : Va (gk (j + 21) none) ρ (.or (.cons (.cmp .ne (.idx (.call "_law_round_views" (.cons (.v 5) .nil)) (.v 3)) (.idx (.v 2) (.v 3))) (.cons (.not (.call "_law_same" (.cons (.call "round_view" (.cons (.v 5) (.cons (.v 3) .nil))) (.cons (.idx (.v 2) (.v 3)) .nil)))) .nil))) (.bool false) := by
      refine va_or (.no (Va.pk (va_cmp (x := (rviews ns rs).getD a .none) (y := (rviews ns rs).getD a .none) (Va.pk ?_) vw.pk (ne_pl htp.pl htp.pl (by omega) (by omega) (by simp)))) (.one (ns' _ _ (same _ _ _ _ htp ?_ vw))))
      · rw [← pv]
        exact va_idx (va_callA (fs := F_lrv (j + 20)) (t_lrv (j + 20)) rfl rfl (.va (va_v rfl) .nil) (w_lrv (j + 20) hho)).pk (va_v rfl).pk (idx_list (by rw [rviews_len, pastN_len]; omega))
      · rw [← pv]
        exact va_callA (fs := F_rw (j + 20)) (t_rw (j + 20)) rfl rfl (.va (va_v rfl) (.va (va_v rfl) .nil)) (w_rw (j + 18) hho ha)
    refine ⟨_, _, rfl, Bk.cons (st_va (d := .list (encN (foundL p rs a))) (va_callA (fs := F_lh (j + 20)) (t_lh (j + 20)) rfl rfl (.va (va_v rfl) (.va (va_v rfl) .nil)) (w_lh (j + 20) ho a)) rfl) (Bk.cons (st_va (d := encRun (pastN a ns rs) (pastR a rs)) (va_callA (fs := F_lrp (j + 20)) (t_lrp (j + 20)) rfl rfl (.va (va_v rfl) (.va (va_v rfl) .nil)) (w_lrp (j + 20) ho a)) rfl) (Bk.cons (st_skip c1.pk) (Bk.cons (st_skip c2.pk) (Bk.one (st_forP encI (List.range p) (fun _ => ρ) (sc_rng (va_v rfl).pk (by omega)) rfl fun pre c suf hc => ?_))))), rfl⟩
    have hc := List.mem_range.mp (pre_mem hc)
    have hfl : (flipN ns c).length = p := by unfold flipN; rw [List.length_set, hn]
    have hfo : Okr p (flipN ns c) rs := ⟨hfl, ho.pl, ho.r, ho.e⟩
    have ew : withD (encN ns) c (.int (1 - (ns.getD c 0 : Nat))) = encN (flipN ns c) := by
      rw [withD_set (by rw [encN_len]; omega)]
      unfold flipN encN
      rw [List.map_set]
      congr 1
      have hc2 : ns.getD c 0 ≤ 1 := by
        rw [List.getD_eq_getElem?_getD, List.getElem?_eq_getElem (by omega)]
        exact h.b _ (List.getElem_mem (by omega))
      unfold encI
      congr 1
      omega
    have run := w_w (j + 20) (row := encN ns) (k := c) (x := .int (1 - (ns.getD c 0 : Nat))) (by rw [encN_len]; omega) (by rw [encN_len]; omega)
    rw [ew] at run
    have v0 : Va (gk (j + 21) none) (ρ.set 6 (.val (encI c))) (.idx (.v 0) (.int 0)) (.tuple (encN ns)) := va_idx (va_v rfl).pk va_int.pk rfl
    have fv := flip_view ho h.b ha hc
    have iff : (!(foundL p rs a).contains c) = true ↔ (rviews (flipN ns c) rs).getD a .none = (rviews ns rs).getD a .none := by
      rw [fv, Bool.not_eq_true', ← Bool.not_eq_true, List.contains_iff_mem]
      unfold foundL
      rw [List.mem_filter, List.mem_range, List.contains_iff_mem]
      constructor
      · intro h1 h2
        exact h1 ⟨hc, h2⟩
      · rintro h1 ⟨_, h2⟩
        exact h1 h2
    have htf := tp_view12 hfo hr4 a
    refine ⟨ρ.set 6 (.val (encI c)), (ρ.set 6 (.val (encI c))).set 7 (.val (encRun (flipN ns c) rs)), rfl, Bk.cons (st_va (d := encRun (flipN ns c) rs) (va_tup (.cons (Va.st (va_callA (fs := F_w (j + 20)) (t_w (j + 20)) rfl rfl (.va v0 (.va (va_v rfl) (.va (va_sub va_int.pk (Va.pk (va_idx v0.pk (va_v rfl).pk ((idx_tup (by rw [encN_len]; omega)).trans (by rw [encN_get (by omega)]))))) .nil))) run)) (.cons (Va.st (va_idx (va_v rfl).pk va_int.pk rfl)) .nil)) (lim_ge (Nat.le_of_ble_eq_true rfl))) rfl) (Bk.one (st_skip (Va.pk ?_))), rfl⟩
    have e0 := ne_bool (!(foundL p rs a).contains c)
    refine va_cmp (Va.pk (va_cmp (k := !(foundL p rs a).contains c) (x := (rviews (flipN ns c) rs).getD a .none) (y := (rviews ns rs).getD a .none) (Va.pk ?_) (Va.pk ?_) (eq_pl htf.pl htp.pl (by omega) (by omega) iff))) (Va.pk (va_cmp (va_v rfl).pk (va_v rfl).pk (notin_nats (foundL p rs a) c))) e0
    · exact va_callA (fs := F_rw (j + 20)) (t_rw (j + 20)) rfl rfl (.va (va_v rfl) (.va (va_v rfl) .nil)) (w_rw (j + 18) hfo ha)
    · exact va_callA (fs := F_rw (j + 20)) (t_rw (j + 20)) rfl rfl (.va (va_v rfl) (.va (va_v rfl) .nil)) (w_rw (j + 18) ho ha)
  · have hdl := deeds_len p ns rs ho.pl fun r hr => (ho.e r hr).2
    have vd : ∀ ρ : PEnv, ρ[0]? = some (.val (encRun ns rs)) → Va (gk (j + 21) none) ρ (.call "run_of_rounds" (.cons (.v 0) .nil)) (.tuple (deeds p ns rs)) := fun ρ h0 =>
      va_callA (fs := F_ror (j + 20)) (t_ror (j + 20)) rfl rfl (.va (va_v h0) .nil) (w_ror (j + 20) ho h.ne)
    refine Rt.cons (st_va (d := .tuple (deeds p ns rs)) (va_callA (fs := F_lc (j + 20)) (t_lc (j + 20)) rfl rfl (.va (va_v rfl) .nil) (w_lc (j + 20) ho h.ne)) rfl) (Rt.va (va_and (.yes (Va.pk (same _ _ _ _ (tp_deeds (by omega)) (vd _ rfl) (va_v rfl))) (.one (Va.pk (va_cmp (x := .none) (y := .none) (Va.pk ?_) va_non.pk rfl))))))
    have run := w_cmr (j + 17) (p := p) (D := deeds2 p ns rs) (by have := deeds_enc p ns rs; rw [this, List.length_map] at hdl; omega) (good_deeds h.nodup)
    rw [← deeds_enc] at run
    exact va_callA (fs := F_cmr (j + 20)) (t_cmr (j + 20)) rfl rfl (.va (vd _ rfl) (.va (va_v rfl) .nil)) run
end K79
end
section
set_option Elab.async false
set_option linter.all false
set_option maxRecDepth 1000000
set_option maxHeartbeats 0
namespace K79
open PySem Pz
def F_arr (j : Nat) : FnSem := semOf (gk j none) ⟨2, 7, none, false, b_all_round_runs⟩
theorem t_arr (j : Nat) : tbl P0 (j + 1) "all_round_runs" = some (F_arr j) := rfl
def F_larr (j : Nat) : FnSem := semOf (gk j none) ⟨2, 12, none, false, b_law_all_round_runs⟩
theorem t_larr (j : Nat) : tbl P0 (j + 1) "_law_all_round_runs" = some (F_larr j) := rfl
def tpB : Nat → PyData → Bool
  | _, .none => true
  | _, .int _ => true
  | _, .str s => PyData.strOk s
  | n + 1, .tuple ds => decide (ds.length ≤ 1000000) && ds.all (tpB n)
  | _, _ => false
theorem tpB_tp : ∀ {n : Nat} {d : PyData}, tpB n d = true → Tp n d
  | n, .none, _ => .none
  | n, .int _, _ => .int
  | n, .str s, h => .str (by cases n <;> simpa only [tpB] using h)
  | n + 1, .tuple ds, h => by
    simp only [tpB, Bool.and_eq_true, decide_eq_true_eq, List.all_eq_true] at h
    exact .tup h.1 fun d hd => tpB_tp (h.2 d hd)
  | 0, .tuple _, h => by simp only [tpB] at h; cases h
  | 0, .list _, h => by simp only [tpB] at h; cases h
  | n + 1, .list _, h => by simp only [tpB] at h; cases h
  | 0, .bool _, h => by simp only [tpB] at h; cases h
  | 0, .dict _, h => by simp only [tpB] at h; cases h
  | n + 1, .bool _, h => by simp only [tpB] at h; cases h
  | n + 1, .dict _, h => by simp only [tpB] at h; cases h
def chkA (a b : Int) : Bool := match (F_arr 30).run [.int a, .int b], (F_larr 30).run [.int a, .int b] with
  | some (.tuple xs, .none), some (.list ys, .none) => sameL xs ys && tpB 20 (.tuple ys)
  | _, _ => false
theorem chkA_ok {a b : Int} (h : chkA a b = true) : ∃ ys, (F_arr 30).run [.int a, .int b] = some (.tuple ys, .none) ∧ (F_larr 30).run [.int a, .int b] = some (.list ys, .none) ∧ Tp 20 (.tuple ys) := by
  unfold chkA at h
  split at h
  · rename_i xs ys h1 h2
    rw [Bool.and_eq_true] at h
    have e := sameL_eq xs ys h.1
    subst e
    exact ⟨_, h1, h2, tpB_tp h.2⟩
  · cases h
theorem a13 : chkA 1 3 = true := by decide +kernel
theorem a20 : chkA 2 0 = true := by decide +kernel
theorem a21 : chkA 2 1 = true := by decide +kernel
theorem a22 : chkA 2 2 = true := by decide +kernel
theorem a30 : chkA 3 0 = true := by decide +kernel

def dP (p : Nat × Nat) : PyData := encP p
def passedD : PyData := encRun [1, 0, 0] [[(0, 1), (2, 1)], [(1, 2)]]
def backD : PyData := encRun [1, 1, 0] [[(1, 2)], [(0, 1)]]
def dueD : PyData := .tuple [noteD 0, sendD (0, 1), sendD (1, 0), .tuple [.str (Str.ofString "get"), .int 1, .int 1], sendD (0, 1), sendD (1, 0), .tuple [.str (Str.ofString "get"), .int 0, .int 5]]
def stms : PStms → List PStm
  | .nil => []
  | .cons s r => s :: stms r
def lawS (i : Nat) : PStm := (stms b_law).getD i .pass
def condOf : PStm → PExp
  | .ite c _ _ => c
  | _ => .non
def parts : PExps → List PExp
  | .nil => []
  | .cons e r => e :: parts r
def orParts : PExp → List PExp
  | .or es => parts es
  | _ => []
def retE : PStm → PExp
  | .ret e => e
  | _ => .non
section
variable (a0 a1 a2 a3 a4 a5 a6 a7 a8 a9 a10 : PSlot)
theorem g8 : evE (gk 31 none) (match lawS 8 with | .asg _ e => e | _ => .non) [a0, a1, a2, a3, a4, a5, a6, a7, a8, a9, a10] = some (.val passedD, [a0, a1, a2, a3, a4, a5, a6, a7, a8, a9, a10]) := by kernel_rfl
theorem g9 : evE (gk 31 none) (condOf (lawS 9)) [a0, a1, a2, a3, a4, a5, a6, a7, .val passedD, a9, a10] = some (.val (.bool false), [a0, a1, a2, a3, a4, a5, a6, a7, .val passedD, a9, a10]) := by kernel_rfl
theorem g10 : evE (gk 31 none) (condOf (lawS 10)) [a0, a1, a2, a3, a4, a5, a6, a7, .val passedD, a9, a10] = some (.val (.bool false), [a0, a1, a2, a3, a4, a5, a6, a7, .val passedD, a9, a10]) := by kernel_rfl
theorem g11 : evE (gk 31 none) (match lawS 11 with | .asg _ e => e | _ => .non) [a0, a1, a2, a3, a4, a5, a6, a7, a8, a9, a10] = some (.val backD, [a0, a1, a2, a3, a4, a5, a6, a7, a8, a9, a10]) := by kernel_rfl
theorem g12 : evE (gk 31 none) (condOf (lawS 12)) [a0, a1, a2, a3, a4, a5, a6, a7, .val passedD, .val backD, a10] = some (.val (.bool false), [a0, a1, a2, a3, a4, a5, a6, a7, .val passedD, .val backD, a10]) := by kernel_rfl
theorem g13 : evE (gk 31 none) (match lawS 13 with | .asg _ e => e | _ => .non) [a0, a1, a2, a3, a4, a5, a6, a7, a8, a9, a10] = some (.val dueD, [a0, a1, a2, a3, a4, a5, a6, a7, a8, a9, a10]) := by kernel_rfl
theorem g14 : evE (gk 31 none) ((orParts (condOf (lawS 14))).getD 0 .non) [a0, a1, a2, a3, a4, a5, a6, a7, .val passedD, .val backD, .val dueD] = some (.val (.bool false), [a0, a1, a2, a3, a4, a5, a6, a7, .val passedD, .val backD, .val dueD]) := by kernel_rfl
theorem g14b : evE (gk 31 none) ((orParts (condOf (lawS 14))).getD 1 .non) [a0, a1, a2, a3, a4, a5, a6, a7, .val passedD, .val backD, .val dueD] = some (.val (.bool false), [a0, a1, a2, a3, a4, a5, a6, a7, .val passedD, .val backD, .val dueD]) := by kernel_rfl
theorem g14c : evE (gk 31 none) ((orParts (condOf (lawS 14))).getD 2 .non) [a0, a1, a2, a3, a4, a5, a6, a7, .val passedD, .val backD, .val dueD] = some (.val (.bool false), [a0, a1, a2, a3, a4, a5, a6, a7, .val passedD, .val backD, .val dueD]) := by kernel_rfl
theorem g15 : evE (gk 31 none) (retE (lawS 15)) [a0, a1, a2, a3, a4, a5, a6, a7, .val passedD, .val backD, .val dueD] = some (.val (.bool true), [a0, a1, a2, a3, a4, a5, a6, a7, .val passedD, .val backD, .val dueD]) := by kernel_rfl
end
end K79
end
section
set_option Elab.async false
set_option linter.all false
set_option maxRecDepth 1000000
set_option maxHeartbeats 0
namespace K79
open PySem Pz
theorem ev_takeI {j m i : Nat} {io : Option Nat} {D : List Nat} {ρ : PEnv} {e : PExp} (hm : 0 < m) (h0 : ρ[i]? = some (.own (.list (encN D)))) (he : Va (gk (j + 1) io) ρ e (.int (m : Int))) : Ev (gk (j + 1) io) ρ (.call "_law_take" (.cons (.v i) (.cons e .nil))) (.val (.int (tk D m : Nat))) (ρ.set i (.own (.list (encN D.dropLast)))) :=
  ev_callIO (fs := F_t j) (t_t j) rfl (es_cons he.ev es_nil) rfl h0 h0 rfl (w_t j D hm)
def F_law : FnSem := semOf (gk 31 none) ⟨1, 11, none, false, b_law⟩
theorem w_law (ns : List Int) (hn : ns.length ≤ 63) : F_law.run [frzD ns] = some (.bool true, .none) := by
  let G := gk 31 none
  obtain ⟨D, hD⟩ := w_d 30 ns hn
  obtain ⟨c, hc⟩ := w_c 30 ns hn
  let E : List Nat → PSlot → PSlot → PSlot → PSlot → PSlot → PSlot → PSlot → PSlot → PEnv := fun D x3 x4 x5 x6 x7 x8 x9 x10 => [.val (frzD ns), .own (.list (encN D)), .val (.int c), x3, x4, x5, x6, x7, x8, x9, x10]
  have s0 : evSt G (lawS 0) [.val (frzD ns), .un, .un, .un, .un, .un, .un, .un, .un, .un, .un] = some (.next, [.val (frzD ns), .own (.list (encN D)), .un, .un, .un, .un, .un, .un, .un, .un, .un]) :=
    sv_tm (ev_callV (fs := F_d 30) (t_d 30) rfl (es_cons (va_v rfl).ev (es_cons va_int.ev es_nil)) rfl rfl hD) rfl
  have s1 : evSt G (lawS 1) [.val (frzD ns), .own (.list (encN D)), .un, .un, .un, .un, .un, .un, .un, .un, .un] = some (.next, E D .un .un .un .un .un .un .un .un) :=
    st_va (va_callA (fs := F_c 30) (t_c 30) rfl rfl (.va (va_v rfl) .nil) hc) rfl
  have hp := tk_lt D (m := 4) (by omega)
  have s2 : evSt G (lawS 2) (E D .un .un .un .un .un .un .un .un) = some (.next, E D.dropLast (.val (.int ((1 + tk D 4 : Nat) : Int))) .un .un .un .un .un .un .un) :=
    sv_asg (ev_bin (x := .int 1) (va_int (k := 1)).ev (ev_takeI (j := 30) (i := 1) (m := 4) (by omega) rfl va_int) rfl rfl (by simp only [bopD]; congr 3)) rfl
  generalize hpd : 1 + tk D 4 = p at s2
  generalize D.dropLast = D1 at s2
  have hm := tk_lt D1 (m := 5) (by omega)
  obtain ⟨nn, rs, D2, gr, hrun⟩ := w_rn 29 D1.dropLast (p := p) (m := tk D1 5) (by omega) (by omega) (by omega)
  let P : PSlot := .val (.int (p : Int))
  have s3 : evSt G (lawS 3) (E D1 P .un .un .un .un .un .un .un) = some (.next, E D2 P (.val (encRun nn rs)) .un .un .un .un .un .un) :=
    sv_asg (ev_callIO (i := 1) (fs := F_rn 30) (t_rn 30) rfl (es_cons (va_v rfl).ev (es_cons (ev_takeI (j := 30) (i := 1) (m := 5) (by omega) rfl va_int) es_nil)) rfl rfl rfl rfl hrun) rfl
  let R : PSlot := .val (encRun nn rs)
  have told : ∀ ρ : PEnv, ρ[4]? = some R → ρ[3]? = some P → Pk G ρ (.not (.call "_law_is_told" (.cons (.v 4) (.cons (.v 3) .nil)))) (.bool false) := fun ρ h4 h3 =>
    (va_not (k := true) (Va.pk (va_callA (fs := F_it 30) (t_it 30) rfl rfl (.va (va_v h4) (.va (va_v h3) .nil)) (w_it 9 gr)))).pk
  have s4 : evSt G (lawS 4) (E D2 P R .un .un .un .un .un .un) = some (.next, E D2 P R .un .un .un .un .un .un) :=
    st_skip (Va.pk (va_or (.no (Va.pk (va_cmp (x := .none) (y := .none) (k := false) (Va.pk (va_callA (fs := F_crr 30) (t_crr 30) rfl rfl (.va (va_v rfl) (.va (va_v rfl) .nil)) (w_crr 28 gr))) va_non.pk rfl)) (.no (told _ rfl rfl) (.one (told _ rfl rfl))))))
  obtain ⟨ρ5, s5, D3, rfl⟩ : ∃ ρ', evSt G (lawS 5) (E D2 P R .un .un .un .un .un .un) = some (.next, ρ') ∧ ∃ D3, ρ' = E D3 P R .un .un .un .un .un .un := by
    refine sv_for encI (List.range 4) (fun _ ρ => ∃ D3, ρ = E D3 P R .un .un .un .un .un .un) (sc_rng (n := 4) va_int.pk (by omega)) rfl ⟨D2, rfl⟩ fun pre b suf ρ _ hI => ?_
    obtain ⟨D3, rfl⟩ := hI
    obtain ⟨nz, rz, D4, hb, hf, l1, l2, l3⟩ := w_b 29 D3 gr c
    refine ⟨_, E D4 P R (.val (encI b)) .un .un .un .un .un, _, rfl, Bk.one (sv_skip (ev_not (k := true) ?_)), rfl, D4, rfl⟩
    exact ev_callV (fs := F_ref 29) (t_ref 29) rfl (es_cons (ev_callIO (i := 1) (fs := F_b 30) (t_b 30) rfl (es_cons (va_v rfl).ev (es_cons (va_v rfl).ev (es_cons (va_v rfl).ev es_nil))) rfl rfl rfl rfl hb) (es_cons (va_v rfl).ev es_nil)) rfl rfl (w_ref 28 l1 l2 l3 hf)
  -- few, many
  obtain ⟨a, b, hab, hch⟩ : ∃ a b : Int, evSt G (lawS 6) (E D3 P R .un .un .un .un .un .un) = some (.next, E D3.dropLast P R .un (.val (.int a)) (.val (.int b)) .un .un .un) ∧ chkA a b = true := by
    have h5 := tk_lt D3 (m := 5) (by omega)
    have go : ∀ a b : Int, idxD (.list [.tuple [.int 1, .int 3], .tuple [.int 2, .int 0], .tuple [.int 2, .int 1], .tuple [.int 2, .int 2], .tuple [.int 3, .int 0]]) (.int (tk D3 5 : Nat)) = some (.tuple [.int a, .int b]) → evSt G (lawS 6) (E D3 P R .un .un .un .un .un .un) = some (.next, E D3.dropLast P R .un (.val (.int a)) (.val (.int b)) .un .un .un) := fun a b h => by
      have t2 : ∀ (ρ : PEnv) (x y : Int), St G ρ (.tup (.cons (.int x) (.cons (.int y) .nil))) (.tuple [.int x, .int y]) := fun ρ x y => Va.st (va_tup (.cons va_int.st (.cons va_int.st .nil)) (lim_ge (Nat.le_of_ble_eq_true rfl)))
      exact sv_tup (ev_idx (tm_lst (.cons (t2 _ _ _) (.cons (t2 _ _ _) (.cons (t2 _ _ _) (.cons (t2 _ _ _) (.cons (t2 _ _ _) .nil))))) (lim_ge (Nat.le_of_ble_eq_true rfl))).ev (ev_takeI (j := 30) (i := 1) (m := 5) (by omega) rfl va_int) rfl rfl h) rfl
    rcases (show tk D3 5 = 0 ∨ tk D3 5 = 1 ∨ tk D3 5 = 2 ∨ tk D3 5 = 3 ∨ tk D3 5 = 4 by omega) with e | e | e | e | e
    · exact ⟨1, 3, go _ _ (by rw [e]; rfl), a13⟩
    · exact ⟨2, 0, go _ _ (by rw [e]; rfl), a20⟩
    · exact ⟨2, 1, go _ _ (by rw [e]; rfl), a21⟩
    · exact ⟨2, 2, go _ _ (by rw [e]; rfl), a22⟩
    · exact ⟨3, 0, go _ _ (by rw [e]; rfl), a30⟩
  obtain ⟨ys, r1, r2, htp⟩ := chkA_ok hch
  generalize D3.dropLast = D4 at *
  let ρ7 := E D4 P R .un (.val (.int a)) (.val (.int b)) .un .un .un
  have q1 : Va G ρ7 (.call "all_round_runs" (.cons (.v 6) (.cons (.v 7) .nil))) (.tuple ys) := va_callA (fs := F_arr 30) (t_arr 30) rfl rfl (.va (va_v rfl) (.va (va_v rfl) .nil)) r1
  have q2 : Va G ρ7 (.call "_law_all_round_runs" (.cons (.v 6) (.cons (.v 7) .nil))) (.list ys) := va_callA (fs := F_larr 30) (t_larr 30) rfl rfl (.va (va_v rfl) (.va (va_v rfl) .nil)) r2
  have q3 := w_s 10 (by omega) htp
  have q4 : Va G ρ7 (.call "_law_same" (.cons (.call "all_round_runs" (.cons (.v 6) (.cons (.v 7) .nil))) (.cons (.blt .tuple (.cons (.call "_law_all_round_runs" (.cons (.v 6) (.cons (.v 7) .nil))) .nil)) .nil))) (.bool true) := va_callA (fs := F_s 30) (t_s 30) rfl rfl (.va q1 (.va (va_tupl q2.pk) .nil)) q3
  have s7 : evSt G (lawS 7) ρ7 = some (.next, ρ7) := st_skip (Va.pk (va_not (k := true) q4.pk))
  let A : PSlot := .val (.int a)
  let B : PSlot := .val (.int b)
  have s8 : evSt G (lawS 8) (E D4 P R .un A B .un .un .un) = some (.next, E D4 P R .un A B (.val passedD) .un .un) := sv_asg (g8 ..) rfl
  have s9 : evSt G (lawS 9) (E D4 P R .un A B (.val passedD) .un .un) = some (.next, E D4 P R .un A B (.val passedD) .un .un) := sv_skip (g9 ..)
  have s10 : evSt G (lawS 10) (E D4 P R .un A B (.val passedD) .un .un) = some (.next, E D4 P R .un A B (.val passedD) .un .un) := sv_skip (g10 ..)
  have s11 : evSt G (lawS 11) (E D4 P R .un A B (.val passedD) .un .un) = some (.next, E D4 P R .un A B (.val passedD) (.val backD) .un) := sv_asg (g11 ..) rfl
  have s12 : evSt G (lawS 12) (E D4 P R .un A B (.val passedD) (.val backD) .un) = some (.next, E D4 P R .un A B (.val passedD) (.val backD) .un) := sv_skip (g12 ..)
  have s13 : evSt G (lawS 13) (E D4 P R .un A B (.val passedD) (.val backD) .un) = some (.next, E D4 P R .un A B (.val passedD) (.val backD) (.val dueD)) := sv_asg (g13 ..) rfl
  have s14 : evSt G (lawS 14) (E D4 P R .un A B (.val passedD) (.val backD) (.val dueD)) = some (.next, E D4 P R .un A B (.val passedD) (.val backD) (.val dueD)) := sv_skip (ev_or (ev_orN (g14 ..) (ev_orN (g14b ..) (ev_or1 (g14c ..)))))
  have s15 : evSt G (lawS 15) (E D4 P R .un A B (.val passedD) (.val backD) (.val dueD)) = some (.ret (.bool true) false, E D4 P R .un A B (.val passedD) (.val backD) (.val dueD)) := sv_ret (g15 ..)
  exact run_plain (fr := false) rfl rfl rfl (Bk.cons s0 (Bk.cons s1 (Bk.cons s2 (Bk.cons s3 (Bk.cons s4 (Bk.cons s5 (Bk.cons hab (Bk.cons s7 (Bk.cons s8 (Bk.cons s9 (Bk.cons s10 (Bk.cons s11 (Bk.cons s12 (Bk.cons s13 (Bk.cons s14 (Bk.end s15))))))))))))))))
end K79
end
section
set_option Elab.async false
set_option linter.all false
set_option maxRecDepth 1000000
set_option maxHeartbeats 0
namespace K79
open PySem PySem.Spec PyProof.Rows L2 Pz
def lvl : Nat := 31
def lawFn : FnSem := semOf ⟨tbl P0 lvl, fun x => P0.con.lookup x, none, P0.fuel⟩ ⟨1, 11, none, false, b_law⟩
end K79
open PySem PySem.W PySem.Calls PyProof.Rows
theorem K79.main (ns : List Int) (h : ns.length ≤ 63) : ∃ o, K79.lawFn.run [Pz.frzD ns] = some (PyData.bool true, o) := ⟨_, K79.w_law ns h⟩
theorem PySem.Challenge.cw_everyknower_k79_rounds_with_losses_told_holds : PySem.Challenge.rw_everyknower_k79_rounds_with_losses_told.Holds := by
  have main := K79.main
  w_on; o_law
  refine HandSHeadRun.head_any (r := K79.R) (q := view K79.R.prog [40]) (H := K79.hk) (ob := K79.ob) (M := 3000) (loose := K79.looseQ) (d := HandSHeadRun.topDef K79.R.prog 40) (kwd := []) K79.ob_eq
    (by kernel_rfl) (fun s => by kernel_rfl) K79.run (by kernel_rfl) (by kernel_rfl) (by kernel_rfl) (by rfl) (by first | assumption | decide +kernel) (by decide +kernel) ⟨rfl, rfl, rfl, rfl, rfl, by decide +kernel⟩ ?hw ?hc
  case hw => w_witness2
  case hc =>
    refine L2.walk_ofE (l := PySem.Challenge.rw_everyknower_k79_rounds_with_losses_told) (n := 63) (k := 4 * K79.lvl + 1) (x := Str.ofString "script") (CX := L2.CX0) rfl (by decide) (by kernel_rfl) ⟨rfl, by decide, by decide⟩ ?F (fun _ _ _ _ z => z)
    intro w mg fa h Y G gl
    obtain ⟨K, KX, c⟩ := Y
    have gl : mg (Str.ofString "law") = some (.ref fa) := by
      have e : (HandSHeadRun.topDef K79.R.prog 40).name = Str.ofString "law" := by kernel_rfl
      rw [← e]
      exact gl
    obtain ⟨fd, F, m, b⟩ := Pz.text_def (T := K79.TQ) (P := PySem.Challenge.rw_everyknower_k79_rounds_with_losses_told.prog) (w := w) K79.c1 K79.c2 rfl rfl KX G c (f := "law") (d := ⟨1, 11, none, false, K79.b_law⟩) (i := 40) (N := ["script", "draws", "cell", "persons", "run", "turn", "few", "many", "passed", "back", "due"]) rfl rfl rfl K79.lvl
    cases gl.symm.trans m
    exact ⟨K, fd, Pz.spLaw K, KX, fun s u => b s [u] rfl, fun H a ns hl _ hS => ⟨a, ns, rfl, hl, hS, fun _ => rfl⟩, fun base _ _ => (F base).imp (Pz.law_of (fs := K79.lawFn) rfl rfl main)⟩
end
