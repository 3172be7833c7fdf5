import PyProof.Rows.All
import Wide.All
import OpenK.AllK
import Wide.FinOn
import HandS.ForMost
import HandS.Exc
import HandS.TryOnly
import HandS.ExcOwn
import HandS.WordsExc
import HandS.CallSlots
import HandS.Wide
import KE.KDictCopyH
import KE.KeyNested
import HandS.SortInts
import PyProof.Rows.SeqMore
import KE.SortData
import HandS.TupAny
import HandS.Flt
import HandS.More
import HandS.Conv
import HandS.TupLen
import KE.KEqDict
import HandS.DeepEq
import KE.DataMinMax
import HandS.SortKw
import KE.SortKeyHeap
import PyProof.DictMoreH
import KE.KDictDisplayH
import HandS.Strs
import KE.KDictKeyed
import KE.KDictSum
import KE.LtData
import PyProof.DictDisplay
import PySem.Challenge.RW_copperhouse_k25_cheapest_ways

set_option Elab.async false
set_option linter.all false
set_option maxRecDepth 100000
set_option maxHeartbeats 4000000
/-! A layer of plain data over the hand layer: values as trees (D), what may still change as cells, readings that speak of these alone. -/
namespace DD
open PySem L2

/-! ### data -/
inductive D where
  | non | bl (b : Bool) | int (i : Int) | str (x : Str)
  | tup (xs : List D) | lst (xs : List D) | ins (C : Addr) (fs : List (String × D)) | ptr (a : Addr) | ktup (xs : List D)
  | dK (kvs : List (L2.Key × D)) | dT (kvs : List (List L2.Key × D))
instance : Inhabited D := ⟨.non⟩
/-- the program and the world that the hash of a text leans on -/
structure Pgw where
  p : Program
  w : World
mutual
/-- a nested key as data -/
def nkD : NestedKey → D
  | .none => .non
  | .num i => .int i
  | .text x => .str x
  | .tup ks => .tup (nkDs ks)
def nkDs : List NestedKey → List D
  | [] => []
  | k :: ks => nkD k :: nkDs ks
end
inductive Cell where
  | lst (xs : List D) | ins (C : Addr) (fs : List (String × D)) | dK (kvs : List (L2.Key × D)) | dT (kvs : List (List L2.Key × D))
  | lK (kvs : List (L2.Key × D)) (od : Obj) (vs : List (L2.Key × V)) | lT (kvs : List (List L2.Key × D)) (od : Obj) (vs : List (List L2.Key × V))
  | dN (q : Pgw) (kvs : List (NestedKey × D)) | lN (q : Pgw) (kvs : List (NestedKey × D)) (od : Obj) (xs : List (NestedKey × Addr × V))
  | dO (q : Pgw) (kvs : List (NestedKey × D)) | lO (q : Pgw) (kvs : List (NestedKey × D)) (od : Obj) (xs : List (Leaf × V))
abbrev Cells := Addr → Option Cell
abbrev DEnv := List (Option D)
def cput (C : Cells) (a : Addr) (c : Cell) : Cells := fun b => if b = a then some c else C b
theorem cput_same {C : Cells} {a : Addr} {c : Cell} : cput C a c a = some c := by unfold cput; rw [if_pos rfl]
theorem cput_ne {C : Cells} {a b : Addr} {c : Cell} (h : b ≠ a) : cput C a c b = C b := by unfold cput; rw [if_neg h]
theorem cput_cput {C : Cells} {a : Addr} {c d : Cell} : cput (cput C a c) a d = cput C a d := by
  funext b; unfold cput; split <;> rfl
/-- nothing more is claimed -/
def Sub (C C' : Cells) : Prop := ∀ a c, C a = some c → C' a = some c
theorem Sub.refl (C : Cells) : Sub C C := fun _ _ h => h
theorem Sub.trans {A B C : Cells} (h : Sub A B) (g : Sub B C) : Sub A C := fun a c e => g a c (h a c e)
theorem Sub.new {C : Cells} {a : Addr} {c : Cell} (h : C a = none) : Sub C (cput C a c) := fun b d e => by
  by_cases q : b = a
  · rw [q, h] at e; cases e
  · rw [cput_ne q]; exact e
theorem Sub.put {C C' : Cells} {a : Addr} {c : Cell} (s : Sub C C') (h : C a = none) : Sub C (cput C' a c) := fun b d e => by
  by_cases q : b = a
  · rw [q, h] at e; cases e
  · rw [cput_ne q]; exact s b d e
theorem cell_ne {C : Cells} {a b : Addr} {c : Cell} (h : C a = some c) (g : C b = none) : a ≠ b := fun e => by
  rw [e, g] at h; cases h
theorem cell_ne' {C : Cells} {a b : Addr} {c : Cell} (h : C a = some c) (g : C b = none) : b ≠ a := fun e => cell_ne h g e.symm

/-! ### heaps: what is known stays -/
/-- what may be locked for a while -/
def lockable : HO → Bool
  | .dK _ => true
  | .dT _ => true
  | _ => false
def Ex (H H' : Hp) : Prop := ∀ a o, H a = some o → H' a = some o ∨ (lockable o = true ∧ ∃ od, H' a = some (.frz od o))
theorem Ex.refl (H : Hp) : Ex H H := fun _ _ h => .inl h
theorem Ex.trans {H H1 H2 : Hp} (a : Ex H H1) (b : Ex H1 H2) : Ex H H2 := fun x o h => by
  rcases a x o h with h1 | ⟨l, od, h1⟩
  · exact b x o h1
  · rcases b x _ h1 with h2 | ⟨l2, _⟩
    · exact .inr ⟨l, od, h2⟩
    · cases l2
theorem Ex.nd {H H' : Hp} (e : Ex H H') {a : Addr} {o : HO} (h : H a = some o) (n : lockable o = false) : H' a = some o := by
  rcases e a o h with h1 | ⟨l, _⟩
  · exact h1
  · rw [n] at l; cases l
theorem Ex.some {H H' : Hp} (e : Ex H H') {a : Addr} {o : HO} (h : H a = some o) : ∃ u, H' a = some u := by
  rcases e a o h with h1 | ⟨_, od, h1⟩
  · exact ⟨_, h1⟩
  · exact ⟨_, h1⟩
theorem Ex.new {H : Hp} {p : Addr} {o : HO} (h : H p = none) : Ex H (upd H p o) := fun a u e => by
  rw [upd_ne (ne_of_none e h)]
  exact .inl e
theorem Ex.mut {H H' : Hp} {p : Addr} {o : HO} (e : Ex H H') (h : H p = none) : Ex H (upd H' p o) := fun a u ha => by
  rw [upd_ne (ne_of_none ha h)]
  exact e a u ha
theorem Ex.free {H H' : Hp} {p : Addr} (e : Ex H H') (h : H' p = none) : H p = none := by
  cases h1 : H p with
  | none => rfl
  | some o =>
    obtain ⟨u, h2⟩ := e.some h1
    rw [h2] at h
    cases h
theorem ex_rd {H H' : Hp} {a : Addr} {u : HO} (e : Ex H H') (h : Rd H a u) : Rd H' a u := by
  rcases h with h | ⟨o, h⟩
  · rcases e a _ h with h1 | ⟨_, od, h1⟩
    · exact Or.inl h1
    · exact Or.inr ⟨od, h1⟩
  · exact Or.inr ⟨o, e.nd h rfl⟩
theorem ex_l {K : PySem.W.Frag} {H H' : Hp} {a : Addr} {xs : List V} (e : Ex H H') (h : SqL K H a xs) : SqL K H' a xs := by
  rcases h with h | h
  · exact Or.inl (ex_rd e h)
  · exact Or.inr h
theorem ex_t {K : PySem.W.Frag} {H H' : Hp} {a : Addr} {xs : List V} (e : Ex H H') (h : SqT K H a xs) : SqT K H' a xs := by
  rcases h with h | h
  · exact Or.inl (ex_rd e h)
  · exact Or.inr h

/-! ### what a value stands for -/
mutual
inductive Rep (K : PySem.W.Frag) (F : Hp) : V → D → Prop
  | non : Rep K F .non .non
  | bl (b : Bool) : Rep K F (.bl b) (.bl b)
  | int (i : Int) : Rep K F (.int i) (.int i)
  | str (x : Str) : Rep K F (.str x) (.str x)
  | tup {a : Addr} {xs : List V} {ds : List D} : F a = some (.tup xs) → RepL K F xs ds → Rep K F (.ref a) (.tup ds)
  | ktup {a : Addr} {xs : List V} {ds : List D} : SqT K F a xs → RepL K F xs ds → Rep K F (.ref a) (.ktup ds)
  | lst {a : Addr} {xs : List V} {ds : List D} : SqL K F a xs → RepL K F xs ds → Rep K F (.ref a) (.lst ds)
  | ins {a C dx : Addr} {gs : List (Str × V)} {fs : List (String × D)} : F a = some (.ins C dx gs) → RepF K F gs fs → Rep K F (.ref a) (.ins C fs)
  | ptr (a : Addr) : Rep K F (.ref a) (.ptr a)
  | dK {a : Addr} {od : Obj} {vs : List (L2.Key × V)} {kvs : List (L2.Key × D)} : F a = some (.frz od (.dK vs)) → RepK K F vs kvs → Rep K F (.ref a) (.dK kvs)
  | dT {a : Addr} {od : Obj} {vs : List (List L2.Key × V)} {kvs : List (List L2.Key × D)} : F a = some (.frz od (.dT vs)) → RepT K F vs kvs → Rep K F (.ref a) (.dT kvs)
inductive RepL (K : PySem.W.Frag) (F : Hp) : List V → List D → Prop
  | nil : RepL K F [] []
  | cons {v : V} {vs : List V} {d : D} {ds : List D} : Rep K F v d → RepL K F vs ds → RepL K F (v :: vs) (d :: ds)
inductive RepF (K : PySem.W.Frag) (F : Hp) : List (Str × V) → List (String × D) → Prop
  | nil : RepF K F [] []
  | cons {f : String} {v : V} {vs : List (Str × V)} {d : D} {ds : List (String × D)} : Rep K F v d → RepF K F vs ds → RepF K F ((Str.ofString f, v) :: vs) ((f, d) :: ds)
inductive RepK (K : PySem.W.Frag) (F : Hp) : List (L2.Key × V) → List (L2.Key × D) → Prop
  | nil : RepK K F [] []
  | cons {k : L2.Key} {v : V} {vs : List (L2.Key × V)} {d : D} {ds : List (L2.Key × D)} : Rep K F v d → RepK K F vs ds → RepK K F ((k, v) :: vs) ((k, d) :: ds)
inductive RepT (K : PySem.W.Frag) (F : Hp) : List (List L2.Key × V) → List (List L2.Key × D) → Prop
  | nil : RepT K F [] []
  | cons {k : List L2.Key} {v : V} {vs : List (List L2.Key × V)} {d : D} {ds : List (List L2.Key × D)} : Rep K F v d → RepT K F vs ds → RepT K F ((k, v) :: vs) ((k, d) :: ds)
end
mutual
theorem Rep.mono {K : PySem.W.Frag} {F F' : Hp} (e : Ex F F') : ∀ {v : V} {d : D}, Rep K F v d → Rep K F' v d
  | _, _, .non => .non
  | _, _, .bl b => .bl b
  | _, _, .int i => .int i
  | _, _, .str x => .str x
  | _, _, .tup h r => .tup (e.nd h rfl) (RepL.mono e r)
  | _, _, .ktup h r => .ktup (ex_t e h) (RepL.mono e r)
  | _, _, .lst h r => .lst (ex_l e h) (RepL.mono e r)
  | _, _, .ins h r => .ins (e.nd h rfl) (RepF.mono e r)
  | _, _, .ptr a => .ptr a
  | _, _, .dK h r => .dK (e.nd h rfl) (RepK.mono e r)
  | _, _, .dT h r => .dT (e.nd h rfl) (RepT.mono e r)
theorem RepL.mono {K : PySem.W.Frag} {F F' : Hp} (e : Ex F F') : ∀ {v : List V} {d : List D}, RepL K F v d → RepL K F' v d
  | _, _, .nil => .nil
  | _, _, .cons h r => .cons (Rep.mono e h) (RepL.mono e r)
theorem RepF.mono {K : PySem.W.Frag} {F F' : Hp} (e : Ex F F') : ∀ {v : List (Str × V)} {d : List (String × D)}, RepF K F v d → RepF K F' v d
  | _, _, .nil => .nil
  | _, _, .cons h r => .cons (Rep.mono e h) (RepF.mono e r)
theorem RepK.mono {K : PySem.W.Frag} {F F' : Hp} (e : Ex F F') : ∀ {v : List (L2.Key × V)} {d : List (L2.Key × D)}, RepK K F v d → RepK K F' v d
  | _, _, .nil => .nil
  | _, _, .cons h r => .cons (Rep.mono e h) (RepK.mono e r)
theorem RepT.mono {K : PySem.W.Frag} {F F' : Hp} (e : Ex F F') : ∀ {v : List (List L2.Key × V)} {d : List (List L2.Key × D)}, RepT K F v d → RepT K F' v d
  | _, _, .nil => .nil
  | _, _, .cons h r => .cons (Rep.mono e h) (RepT.mono e r)
end
section
variable {K : PySem.W.Frag} {F : Hp}
theorem RepL.length : ∀ {xs : List V} {ds : List D}, RepL K F xs ds → xs.length = ds.length
  | _, _, .nil => rfl
  | _, _, .cons _ r => congrArg (· + 1) r.length
theorem RepL.get : ∀ {xs : List V} {ds : List D} {i : Nat} {d : D}, RepL K F xs ds → ds[i]? = some d → ∃ v, xs[i]? = some v ∧ Rep K F v d
  | _, _, _, _, .nil, e => by simp at e
  | _, _, 0, _, .cons h _, e => by simp at e; subst e; exact ⟨_, rfl, h⟩
  | _, _, i + 1, _, .cons _ r, e => by
    obtain ⟨v, h1, h2⟩ := RepL.get (i := i) r (by simpa using e)
    exact ⟨v, by simpa using h1, h2⟩
theorem RepL.getV : ∀ {xs : List V} {ds : List D} {i : Nat} {v : V}, RepL K F xs ds → xs[i]? = some v → ∃ d, ds[i]? = some d ∧ Rep K F v d
  | _, _, _, _, .nil, e => by simp at e
  | _, _, 0, _, .cons h _, e => by simp at e; subst e; exact ⟨_, rfl, h⟩
  | _, _, i + 1, _, .cons _ r, e => by
    obtain ⟨d, h1, h2⟩ := RepL.getV (i := i) r (by simpa using e)
    exact ⟨d, by simpa using h1, h2⟩
theorem RepL.append : ∀ {xs ys : List V} {ds es : List D}, RepL K F xs ds → RepL K F ys es → RepL K F (xs ++ ys) (ds ++ es)
  | _, _, _, _, .nil, s => s
  | _, _, _, _, .cons h r, s => .cons h (RepL.append r s)
theorem RepL.set {v : V} {d : D} (h : Rep K F v d) : ∀ {xs : List V} {ds : List D} (i : Nat), RepL K F xs ds → RepL K F (xs.set i v) (ds.set i d)
  | _, _, _, .nil => .nil
  | _, _, 0, .cons _ r => .cons h r
  | _, _, i + 1, .cons q r => .cons q (RepL.set h i r)
theorem RepL.drop : ∀ {xs : List V} {ds : List D} (n : Nat), RepL K F xs ds → RepL K F (xs.drop n) (ds.drop n)
  | _, _, 0, r => r
  | _, _, _ + 1, .nil => .nil
  | _, _, n + 1, .cons _ r => RepL.drop n r
theorem RepL.take : ∀ {xs : List V} {ds : List D} (n : Nat), RepL K F xs ds → RepL K F (xs.take n) (ds.take n)
  | _, _, 0, _ => .nil
  | _, _, _ + 1, .nil => .nil
  | _, _, n + 1, .cons h r => .cons h (RepL.take n r)
theorem RepL.dropLast {xs : List V} {ds : List D} (h : RepL K F xs ds) : RepL K F xs.dropLast ds.dropLast := by
  rw [List.dropLast_eq_take, List.dropLast_eq_take, h.length]
  exact h.take _
theorem RepL.reverse : ∀ {xs : List V} {ds : List D}, RepL K F xs ds → RepL K F xs.reverse ds.reverse
  | _, _, .nil => .nil
  | _, _, .cons h r => by
    rw [List.reverse_cons, List.reverse_cons]
    exact r.reverse.append (.cons h .nil)
theorem RepL.ints : ∀ ns : List Int, RepL K F (ns.map V.int) (ns.map D.int)
  | [] => .nil
  | n :: r => .cons (.int n) (RepL.ints r)
theorem RepL.of_ints : ∀ {ns : List Int} {xs : List V}, RepL K F xs (ns.map D.int) → xs = ns.map V.int
  | [], _, .nil => rfl
  | n :: r, _, .cons h t => by
    cases h
    rw [RepL.of_ints t] <;> rfl
theorem RepL.of_strs : ∀ {ns : List Str} {xs : List V}, RepL K F xs (ns.map D.str) → xs = ns.map V.str
  | [], _, .nil => rfl
  | n :: r, _, .cons h t => by
    cases h
    rw [RepL.of_strs t] <;> rfl
theorem RepL.rep {v : V} {d : D} (h : Rep K F v d) : ∀ n, RepL K F (List.replicate n v) (List.replicate n d)
  | 0 => .nil
  | n + 1 => .cons h (RepL.rep h n)
end
theorem ofString_inj {a b : String} (h : Str.ofString a = Str.ofString b) : a = b := by
  rw [Str.ofString_eq_toList, Str.ofString_eq_toList] at h
  have h2 : a.toList.map Char.toNat = b.toList.map Char.toNat := by
    have := congrArg Str.cps h
    simpa using congrArg Array.toList this
  have inj : ∀ l m : List Char, l.map Char.toNat = m.map Char.toNat → l = m := by
    intro l
    induction l with
    | nil => intro m e; cases m with
      | nil => rfl
      | cons _ _ => simp at e
    | cons c r ih => intro m e; cases m with
      | nil => simp at e
      | cons d s =>
        simp only [List.map_cons, List.cons.injEq] at e
        have q : c = d := by
          have := e.1
          exact Char.ext (UInt32.toNat_inj.mp this)
        rw [q, ih s e.2]
  have h3 := inj _ _ h2
  have := congrArg String.ofList h3
  simpa using this
theorem ofString_eq_iff {a b : String} : (Str.ofString a = Str.ofString b) = (a = b) := propext ⟨ofString_inj, fun h => by rw [h]⟩
section
variable {K : PySem.W.Frag} {F : Hp}
theorem RepF.length : ∀ {xs : List (Str × V)} {ds : List (String × D)}, RepF K F xs ds → xs.length = ds.length
  | _, _, .nil => rfl
  | _, _, .cons _ r => congrArg (· + 1) r.length
theorem RepF.lookup {f : String} : ∀ {xs : List (Str × V)} {ds : List (String × D)} {d : D}, RepF K F xs ds → ds.lookup f = some d → ∃ v, xs.lookup (Str.ofString f) = some v ∧ Rep K F v d
  | _, _, _, .nil, e => by simp at e
  | _, _, d, .cons (f := g) h r, e => by
    by_cases q : f = g
    · subst q
      simp only [List.lookup, beq_self_eq_true] at e ⊢
      cases e
      exact ⟨_, rfl, h⟩
    · have b1 : (f == g) = false := beq_eq_false_iff_ne.mpr q
      have b2 : (Str.ofString f == Str.ofString g) = false := beq_eq_false_iff_ne.mpr fun e => q (ofString_inj e)
      simp only [List.lookup, b1, b2] at e ⊢
      exact RepF.lookup r e
theorem RepF.lookup_none {f : String} : ∀ {xs : List (Str × V)} {ds : List (String × D)}, RepF K F xs ds → ds.lookup f = none → xs.lookup (Str.ofString f) = none
  | _, _, .nil, _ => rfl
  | _, _, .cons (f := g) h r, e => by
    by_cases q : f = g
    · subst q
      simp only [List.lookup, beq_self_eq_true] at e
      cases e
    · have b1 : (f == g) = false := beq_eq_false_iff_ne.mpr q
      have b2 : (Str.ofString f == Str.ofString g) = false := beq_eq_false_iff_ne.mpr fun e => q (ofString_inj e)
      simp only [List.lookup, b1, b2] at e ⊢
      exact RepF.lookup_none r e
end
/-- an attribute stored -/
def dput (f : String) (v : D) : List (String × D) → List (String × D)
  | [] => [(f, v)]
  | (g, x) :: r => if g = f then (g, v) :: r else (g, x) :: dput f v r
theorem RepF.put {K : PySem.W.Frag} {F : Hp} {f : String} {v : V} {d : D} (h : Rep K F v d) : ∀ {xs : List (Str × V)} {ds : List (String × D)}, RepF K F xs ds → RepF K F (putF (Str.ofString f) v xs) (dput f d ds)
  | _, _, .nil => .cons h .nil
  | _, _, .cons (f := g) q r => by
    by_cases e : g = f
    · subst e
      simp only [putF, dput, if_true]
      exact .cons h r
    · have e2 : ¬ Str.ofString g = Str.ofString f := fun z => e (ofString_inj z)
      simp only [putF, dput, if_neg e, if_neg e2]
      exact .cons q (RepF.put h r)

/-! ### the state: frozen heap F, cells C, heap H; slots -/
/-- a dict whose keys are nested tuples: the keys, where their tuples stand, the values -/
def ndEnt (w : World) (y : NestedKey × Addr × Value) : DictEntry := ⟨y.1.hash w, .ref y.2.1, y.2.2⟩
def NdAt (w : World) (a : Addr) (xs : List (NestedKey × Addr × V)) (h : Heap) : Prop := xs.length ≤ sizeLine ∧ (a == sysModules) = false ∧ ∃ ys : List (NestedKey × Addr × Value),
  Paired (fun (x : NestedKey × Addr × V) (y : NestedKey × Addr × Value) => x.1 = y.1 ∧ x.2.1 = y.2.1 ∧ RelV x.2.2 y.2.2) xs ys ∧
  ∃ o es ep, h.get? a = some o ∧ o.ExactDict ∧ o.data = .dict es ep ∧ es.toList = ys.map (ndEnt w) ∧ (ys.map (·.1)).Nodup
def ndO (w : World) (a : Addr) (xs : List (NestedKey × Addr × V)) : HO := .ext (NdAt w a xs)
/-- a dict whose keys are numbers, texts and None -/
def LdAt (q : Pgw) (a : Addr) (xs : List (Leaf × V)) (h : Heap) : Prop := xs.length ≤ sizeLine ∧ (a == sysModules) = false ∧ ∃ vs : List (Leaf × Value), KV xs vs ∧ h.DictOf (leafKind q.p q.w) a vs
def ldO (q : Pgw) (a : Addr) (xs : List (Leaf × V)) : HO := .ext (LdAt q a xs)
abbrev NdR (K : PySem.W.Frag) (F : Hp) : List (NestedKey × Addr × V) → List (NestedKey × D) → Prop := Paired fun x p => x.1 = p.1 ∧ p.1.depth ≤ 8 ∧ Rep K F (.ref x.2.1) (nkD p.1) ∧ Rep K F x.2.2 p.2
abbrev LdR (K : PySem.W.Frag) (F : Hp) : List (Leaf × V) → List (NestedKey × D) → Prop := Paired fun x p => x.1.key = p.1 ∧ Rep K F x.2 p.2
theorem NdR.mono {K : PySem.W.Frag} {F F' : Hp} (e : Ex F F') {xs : List (NestedKey × Addr × V)} {t : List (NestedKey × D)} (r : NdR K F xs t) : NdR K F' xs t := Paired.mapP r fun _ _ z => ⟨z.1, z.2.1, z.2.2.1.mono e, z.2.2.2.mono e⟩
theorem LdR.mono {K : PySem.W.Frag} {F F' : Hp} (e : Ex F F') {xs : List (Leaf × V)} {t : List (NestedKey × D)} (r : LdR K F xs t) : LdR K F' xs t := Paired.mapP r fun _ _ z => ⟨z.1, z.2.mono e⟩
def RepC (K : PySem.W.Frag) (F H : Hp) (a : Addr) : Cell → Prop
  | .lst ds => ∃ xs, H a = some (.lst xs) ∧ RepL K F xs ds
  | .ins C fs => ∃ dx gs, H a = some (.ins C dx gs) ∧ RepF K F gs fs
  | .dK kvs => ∃ vs, H a = some (.dK vs) ∧ RepK K F vs kvs
  | .dT kvs => ∃ vs, H a = some (.dT vs) ∧ RepT K F vs kvs
  | .lK kvs od vs => H a = some (.frz od (.dK vs)) ∧ RepK K F vs kvs
  | .lT kvs od vs => H a = some (.frz od (.dT vs)) ∧ RepT K F vs kvs
  | .dN q t => ∃ xs, H a = some (ndO q.w a xs) ∧ NdR K F xs t
  | .lN q t od xs => H a = some (.frz od (ndO q.w a xs)) ∧ NdR K F xs t
  | .dO q t => ∃ xs, H a = some (ldO q a xs) ∧ LdR K F xs t
  | .lO q t od xs => H a = some (.frz od (ldO q a xs)) ∧ LdR K F xs t
structure Hs (K : PySem.W.Frag) (F : Hp) (C : Cells) (H : Hp) : Prop where
  ex : Ex F H
  cell : ∀ a c, C a = some c → F a = none ∧ RepC K F H a c
def EnvR (K : PySem.W.Frag) (F : Hp) (σ : L2.St) (ρ : DEnv) : Prop := σ.length = ρ.length ∧ ∀ (i : Nat) (d : D), ρ[i]? = some (some d) → ∃ v, σ[i]? = some (some v) ∧ Rep K F v d
section
variable {K : PySem.W.Frag} {F F' H H' : Hp} {C C' : Cells} {σ : L2.St} {ρ : DEnv} {a : Addr} {c : Cell}
theorem RepC.ex (e : Ex F F') {H : Hp} : ∀ {c : Cell}, RepC K F H a c → RepC K F' H a c
  | .lst _, ⟨xs, h, r⟩ => ⟨xs, h, r.mono e⟩
  | .ins _ _, ⟨dx, gs, h, r⟩ => ⟨dx, gs, h, r.mono e⟩
  | .dK _, ⟨vs, h, r⟩ => ⟨vs, h, r.mono e⟩
  | .dT _, ⟨vs, h, r⟩ => ⟨vs, h, r.mono e⟩
  | .lK _ _ _, ⟨h, r⟩ => ⟨h, r.mono e⟩
  | .lT _ _ _, ⟨h, r⟩ => ⟨h, r.mono e⟩
  | .dN _ _, ⟨xs, h, r⟩ => ⟨xs, h, NdR.mono e r⟩
  | .lN _ _ _ _, ⟨h, r⟩ => ⟨h, NdR.mono e r⟩
  | .dO _ _, ⟨xs, h, r⟩ => ⟨xs, h, LdR.mono e r⟩
  | .lO _ _ _ _, ⟨h, r⟩ => ⟨h, LdR.mono e r⟩
theorem RepC.at (h : H' a = H a) : ∀ {c : Cell}, RepC K F H a c → RepC K F H' a c
  | .lst _, ⟨xs, q, r⟩ => ⟨xs, h.trans q, r⟩
  | .ins _ _, ⟨dx, gs, q, r⟩ => ⟨dx, gs, h.trans q, r⟩
  | .dK _, ⟨vs, q, r⟩ => ⟨vs, h.trans q, r⟩
  | .dT _, ⟨vs, q, r⟩ => ⟨vs, h.trans q, r⟩
  | .lK _ _ _, ⟨q, r⟩ => ⟨h.trans q, r⟩
  | .lT _ _ _, ⟨q, r⟩ => ⟨h.trans q, r⟩
  | .dN _ _, ⟨xs, q, r⟩ => ⟨xs, h.trans q, r⟩
  | .lN _ _ _ _, ⟨q, r⟩ => ⟨h.trans q, r⟩
  | .dO _ _, ⟨xs, q, r⟩ => ⟨xs, h.trans q, r⟩
  | .lO _ _ _ _, ⟨q, r⟩ => ⟨h.trans q, r⟩
theorem RepC.some : ∀ {c : Cell}, RepC K F H a c → ∃ o, H a = Option.some o
  | .lst _, ⟨_, h, _⟩ => ⟨_, h⟩
  | .ins _ _, ⟨_, _, h, _⟩ => ⟨_, h⟩
  | .dK _, ⟨_, h, _⟩ => ⟨_, h⟩
  | .dT _, ⟨_, h, _⟩ => ⟨_, h⟩
  | .lK _ _ _, ⟨h, _⟩ => ⟨_, h⟩
  | .lT _ _ _, ⟨h, _⟩ => ⟨_, h⟩
  | .dN _ _, ⟨_, h, _⟩ => ⟨_, h⟩
  | .lN _ _ _ _, ⟨h, _⟩ => ⟨_, h⟩
  | .dO _ _, ⟨_, h, _⟩ => ⟨_, h⟩
  | .lO _ _ _ _, ⟨h, _⟩ => ⟨_, h⟩
theorem Hs.sub (h : Hs K F C H) (s : Sub C' C) : Hs K F C' H := ⟨h.ex, fun a c e => h.cell a c (s a c e)⟩
theorem Hs.fresh (h : Hs K F C H) {p : Addr} (hp : H p = none) : F p = none ∧ C p = none := by
  refine ⟨h.ex.free hp, ?_⟩
  cases e : C p with
  | none => rfl
  | some c =>
    obtain ⟨_, r⟩ := h.cell p c e
    obtain ⟨o, q⟩ := r.some
    rw [hp] at q; cases q
/-- a new frozen object -/
theorem Hs.lay (h : Hs K F C H) {p : Addr} {o : HO} (hp : H p = none) : Ex F (upd F p o) ∧ Hs K (upd F p o) C (upd H p o) := by
  obtain ⟨f0, c0⟩ := h.fresh hp
  refine ⟨Ex.new f0, fun a u e => ?_, fun a c e => ?_⟩
  · by_cases q : a = p
    · subst q; rw [upd_same] at e ⊢; exact .inl e
    · rw [upd_ne q] at e ⊢; exact h.ex a u e
  · have q : a ≠ p := cell_ne e c0
    obtain ⟨f1, r⟩ := h.cell a c e
    exact ⟨by rw [upd_ne q]; exact f1, (r.ex (Ex.new f0)).at (upd_ne q)⟩
/-- a new cell, or a cell that changes -/
theorem Hs.put (h : Hs K F C H) {p : Addr} {o : HO} {c : Cell} (hp : F p = none) (hc : RepC K F (upd H p o) p c) : Hs K F (cput C p c) (upd H p o) := by
  refine ⟨h.ex.mut hp, fun a d e => ?_⟩
  by_cases q : a = p
  · subst q
    rw [cput_same] at e; cases e
    exact ⟨hp, hc⟩
  · rw [cput_ne q] at e
    obtain ⟨f1, r⟩ := h.cell a d e
    exact ⟨f1, r.at (upd_ne q)⟩
/-- a cell that is not to change any more -/
theorem Hs.freeze (h : Hs K F C H) {p : Addr} {c : Cell} (e : C p = some c) (hs : Sub C' C) (hn : C' p = none) : ∃ o, H p = some o ∧ Ex F (upd F p o) ∧ Hs K (upd F p o) C' H ∧ upd F p o p = some o ∧ RepC K F H p c := by
  obtain ⟨f0, r⟩ := h.cell p c e
  obtain ⟨o, ho⟩ := r.some
  refine ⟨o, ho, Ex.new f0, ⟨fun a u q => ?_, fun a d q => ?_⟩, upd_same, r⟩
  · by_cases z : a = p
    · subst z; rw [upd_same] at q; cases q; exact .inl ho
    · rw [upd_ne z] at q; exact h.ex a u q
  · have z : a ≠ p := cell_ne q hn
    obtain ⟨f1, r1⟩ := h.cell a d (hs a d q)
    exact ⟨by rw [upd_ne z]; exact f1, r1.ex (Ex.new f0)⟩
theorem EnvR.mono (e : Ex F F') (h : EnvR K F σ ρ) : EnvR K F' σ ρ := ⟨h.1, fun i d q => by
  obtain ⟨v, h1, h2⟩ := h.2 i d q
  exact ⟨v, h1, h2.mono e⟩⟩
theorem EnvR.set {v : V} {d : D} {i : Nat} (h : EnvR K F σ ρ) (r : Rep K F v d) : EnvR K F (σ.set i (some v)) (ρ.set i (some d)) := by
  refine ⟨by rw [List.length_set, List.length_set]; exact h.1, fun j u q => ?_⟩
  by_cases e : i = j
  · subst e
    have hl : i < ρ.length := by
      rcases Nat.lt_or_ge i ρ.length with z | z
      · exact z
      · rw [List.getElem?_eq_none (by rw [List.length_set]; exact z)] at q; cases q
    rw [List.getElem?_set_self hl] at q
    cases q
    exact ⟨v, by rw [List.getElem?_set_self (by rw [h.1]; exact hl)], r⟩
  · rw [List.getElem?_set_ne e] at q
    obtain ⟨w, h1, h2⟩ := h.2 j u q
    exact ⟨w, by rw [List.getElem?_set_ne e]; exact h1, h2⟩
/-- slots may be forgotten -/
def Fgt (ρ ρ' : DEnv) : Prop := ρ.length = ρ'.length ∧ ∀ (i : Nat) (d : D), ρ'[i]? = some (some d) → ρ[i]? = some (some d)
theorem EnvR.fgt {ρ' : DEnv} (h : EnvR K F σ ρ) (f : Fgt ρ ρ') : EnvR K F σ ρ' := ⟨h.1.trans f.1, fun i d q => h.2 i d (f.2 i d q)⟩
end
end DD

set_option Elab.async false
set_option linter.all false
set_option maxRecDepth 100000
set_option maxHeartbeats 4000000
/-! Readings over data: expressions, tests, arguments. -/
namespace DD
open PySem L2 PyProof.Rows

abbrev DK := D → Cells → Prop
abbrev DX := Value → List (String × D) → DEnv → Cells → Prop
abbrev DE := DEnv → Cells → DK → DX → Prop
abbrev DA := DEnv → Cells → (List D → Cells → Prop) → DX → Prop
abbrev DT := DEnv → Cells → (Bool → Cells → Prop) → DX → Prop
structure DEnds where
  nx : DEnv → Cells → Prop
  rt : DK
  bk : DEnv → Cells → Prop
  ct : DEnv → Cells → Prop
  ex : DX
abbrev DS := DEnds → DEnv → Cells → Prop
abbrev DR2 := D → D → Cells → DK → Prop
abbrev DR1 := D → Cells → DK → Prop
abbrev DRA := List D → Cells → DK → Prop

/-- an exception's own fields -/
def XRep (K : PySem.W.Frag) (F H : Hp) (d : Option Addr) (fs : List (String × D)) : Prop := fs = [] ∨ ∃ dd gs, d = some dd ∧ H dd = some (.xd gs) ∧ RepF K F gs fs
def ExR (K : PySem.W.Frag) (F : Hp) (W : WX) (PX : DX) : Prop :=
  ∀ cls d fs σ F' H ρ C, Ex F F' → Hs K F' C H → EnvR K F' σ ρ → XRep K F' H d fs → PX cls fs ρ C → W cls d σ H
theorem ExR.mono {K : PySem.W.Frag} {F F' : Hp} {W : WX} {PX : DX} (e : Ex F F') (h : ExR K F W PX) : ExR K F' W PX :=
  fun cls d fs σ F1 H ρ C e1 => h cls d fs σ F1 H ρ C (e.trans e1)
/-- what is wanted of a value, of arguments, of a truth -/
def Kont (K : PySem.W.Frag) (F : Hp) (P : DK) (Q : VK) : Prop := ∀ v F' H' d C', Ex F F' → Hs K F' C' H' → Rep K F' v d → P d C' → Q v H'
def KontA (K : PySem.W.Frag) (F : Hp) (P : List D → Cells → Prop) (Q : List V → Hp → Prop) : Prop := ∀ vs F' H' ds C', Ex F F' → Hs K F' C' H' → RepL K F' vs ds → P ds C' → Q vs H'
def KontT (K : PySem.W.Frag) (F : Hp) (P : Bool → Cells → Prop) (Q : Bool → Hp → Prop) : Prop := ∀ b F' H' C', Ex F F' → Hs K F' C' H' → P b C' → Q b H'
theorem Kont.mono {K : PySem.W.Frag} {F F' : Hp} {P : DK} {Q : VK} (e : Ex F F') (h : Kont K F P Q) : Kont K F' P Q := fun v F1 H1 d C1 e1 => h v F1 H1 d C1 (e.trans e1)
theorem KontA.mono {K : PySem.W.Frag} {F F' : Hp} {P : List D → Cells → Prop} {Q : List V → Hp → Prop} (e : Ex F F') (h : KontA K F P Q) : KontA K F' P Q := fun v F1 H1 d C1 e1 => h v F1 H1 d C1 (e.trans e1)
theorem KontT.mono {K : PySem.W.Frag} {F F' : Hp} {P : Bool → Cells → Prop} {Q : Bool → Hp → Prop} (e : Ex F F') (h : KontT K F P Q) : KontT K F' P Q := fun v F1 H1 C1 e1 => h v F1 H1 C1 (e.trans e1)

def tE (K : PySem.W.Frag) (W : WX) (w : DE) : TE := fun σ H Q => ∃ F C ρ P PX, Hs K F C H ∧ EnvR K F σ ρ ∧ ExR K F W PX ∧ w ρ C P PX ∧ Kont K F P Q
def tA (K : PySem.W.Frag) (W : WX) (w : DA) : TA := fun σ H Q => ∃ F C ρ P PX, Hs K F C H ∧ EnvR K F σ ρ ∧ ExR K F W PX ∧ w ρ C P PX ∧ KontA K F P Q
def tT (K : PySem.W.Frag) (W : WX) (w : DT) : TT := fun σ H Q => ∃ F C ρ P PX, Hs K F C H ∧ EnvR K F σ ρ ∧ ExR K F W PX ∧ w ρ C P PX ∧ KontT K F P Q

/-! ### weaker readings -/
section
variable {X : Cx}
theorem PE.imp {e : Expr} {t t' : TE} (h : PE X e t) (i : ∀ σ H Q, t' σ H Q → t σ H Q) : PE X e t' := ⟨fun pins s σ H Q I w => h.run pins s σ H Q I (i σ H Q w)⟩
theorem PT.imp {e : Expr} {t t' : TT} (h : PT X e t) (i : ∀ σ H Q, t' σ H Q → t σ H Q) : PT X e t' := ⟨fun pins s σ H Q I w => h.run pins s σ H Q I (i σ H Q w)⟩
theorem PW.imp {e : Expr} {t t' : TT} (h : PW X e t) (i : ∀ σ H Q, t' σ H Q → t σ H Q) : PW X e t' := ⟨fun wh pins s σ H Q I w => h.run wh pins s σ H Q I (i σ H Q w)⟩
theorem PA.imp {e : List Expr} {t t' : TA} (h : PA X e t) (i : ∀ σ H Q, t' σ H Q → t σ H Q) : PA X e t' := ⟨fun pos pins s σ H Q I w => h.run pos pins s σ H Q I (i σ H Q w)⟩
theorem PS.imp {e : Stmt} {t t' : TS} (h : PS X e t) (i : ∀ D σ H, t' D σ H → t D σ H) : PS X e t' := ⟨fun pins s σ H D I w => h.run pins s σ H D I (i D σ H w)⟩
theorem PSs.imp {e : List Stmt} {t t' : TS} (h : PSs X e t) (i : ∀ D σ H, t' D σ H → t D σ H) : PSs X e t' := ⟨fun pins s σ H D I w => h.run pins s σ H D I (i D σ H w)⟩
end

/-! ### names, constants, arguments -/
def wVar (i : Nat) (ρ : DEnv) (C : Cells) (P : DK) (_ : DX) : Prop := match (ρ[i]? : Option (Option D)) with | some (some d) => P d C | _ => False
def wC (d : D) (_ : DEnv) (C : Cells) (P : DK) (_ : DX) : Prop := P d C
def wNil (_ : DEnv) (C : Cells) (P : List D → Cells → Prop) (_ : DX) : Prop := P [] C
def wCons (a : DE) (r : DA) (ρ : DEnv) (C : Cells) (P : List D → Cells → Prop) (PX : DX) : Prop := a ρ C (fun d C1 => r ρ C1 (fun ds C2 => P (d :: ds) C2) PX) PX
section
variable {X : Cx} {W : WX} {K : PySem.W.Frag}
theorem i_var {i : Nat} {σ : L2.St} {H : Hp} {Q : VK} (h : tE K W (wVar i) σ H Q) : tVar i σ H Q := by
  obtain ⟨F, C, ρ, P, PX, hs, en, xr, w, k⟩ := h
  unfold wVar at w
  split at w
  · rename_i d q
    obtain ⟨v, h1, r⟩ := en.2 i d q
    exact ⟨v, h1, k v F H d C (Ex.refl F) hs r w⟩
  · exact w.elim
theorem d_var (i : Nat) {x : Str} {pos : Pos} (hN : X.N[i]? = some x := by rfl) (hv : Vis X.env.scope x := by first | exact Or.inl rfl | exact Or.inr (Or.inl rfl) | exact Or.inr (Or.inr rfl)) (hd : (x == ("__debug__" : Str)) = false := by decide)
    (hcd : (x == ("__classdict__" : Str)) = false := by decide) : PE X (.Name x pos) (tE X.K W (wVar i)) := PE.imp (pe_var hN hv hd hcd) fun _ _ _ => i_var
theorem i_c {v : V} {d : D} (r : ∀ F, Rep K F v d) {σ : L2.St} {H : Hp} {Q : VK} (h : tE K W (wC d) σ H Q) : tC v σ H Q := by
  obtain ⟨F, C, ρ, P, PX, hs, en, xr, w, k⟩ := h
  exact k v F H d C (Ex.refl F) hs (r F) w
theorem d_int {i j pos} : PE X (.Constant (.int i) j pos) (tE X.K W (wC (.int i))) := PE.imp pe_int fun _ _ _ => i_c fun _ => .int i
theorem d_bl {b j pos} : PE X (.Constant (.bool b) j pos) (tE X.K W (wC (.bl b))) := PE.imp pe_bl fun _ _ _ => i_c fun _ => .bl b
theorem d_non {j pos} : PE X (.Constant .none j pos) (tE X.K W (wC .non)) := PE.imp pe_non fun _ _ _ => i_c fun _ => .non
theorem d_str {x j pos} : PE X (.Constant (.str x) j pos) (tE X.K W (wC (.str x))) := PE.imp pe_str fun _ _ _ => i_c fun _ => .str x
/-- a module's name -/
theorem d_glob {x : Str} {v : V} {d : D} {u : Value} {pos : Pos} (hg : Gl X x) (hm : X.mg x = some u) (r : RelV v u) (hr : ∀ F, Rep X.K F v d) (hd : (x == ("__debug__" : Str)) = false := by decide) : PE X (.Name x pos) (tE X.K W (wC d)) :=
  PE.imp (pe_glob hg hm r hd) fun _ _ _ => i_c hr
theorem d_nil : PA X [] (tA X.K W wNil) := PA.imp pa_nil fun σ H Q ⟨F, C, ρ, P, PX, hs, en, xr, w, k⟩ => k [] F H [] C (Ex.refl F) hs .nil w
theorem i_cons {wa : DE} {wr : DA} {σ : L2.St} {H : Hp} {Q : List V → Hp → Prop} (h : tA K W (wCons wa wr) σ H Q) : tCons (tE K W wa) (tA K W wr) σ H Q := by
  obtain ⟨F, C, ρ, P, PX, hs, en, xr, w, k⟩ := h
  exact ⟨F, C, ρ, _, PX, hs, en, xr, w, fun v F1 H1 d C1 e1 h1 rd q => ⟨F1, C1, ρ, _, PX, h1, en.mono e1, xr.mono e1, q, fun vs F2 H2 ds C2 e2 h2 rl q2 => k (v :: vs) F2 H2 (d :: ds) C2 (e1.trans e2) h2 (.cons (rd.mono e2) rl) q2⟩⟩
theorem d_cons {e : Expr} {es : List Expr} {wa : DE} {wr : DA} (ha : PE X e (tE X.K W wa)) (hr : PA X es (tA X.K W wr)) (hs : starEach (e :: es) X.env = (false, eval e X.env) :: starEach es X.env := by rfl) : PA X (e :: es) (tA X.K W (wCons wa wr)) :=
  PA.imp (pa_cons ha hr hs) fun _ _ _ => i_cons
end

/-! ### operators -/
/-- an operation on two values, its reading on data -/
def SimR (K : PySem.W.Frag) (r : R2) (rd : DR2) : Prop := ∀ F C H x y dx dy P Q, Hs K F C H → Rep K F x dx → Rep K F y dy → rd dx dy C P → Kont K F P Q → r x y H Q
def Sim1 (K : PySem.W.Frag) (r : V → Hp → VK → Prop) (rd : DR1) : Prop := ∀ F C H x dx P Q, Hs K F C H → Rep K F x dx → rd dx C P → Kont K F P Q → r x H Q
def SimA (K : PySem.W.Frag) (r : List V → Hp → VK → Prop) (rd : DRA) : Prop := ∀ F C H xs ds P Q, Hs K F C H → RepL K F xs ds → rd ds C P → Kont K F P Q → r xs H Q
def wOp (r : DR2) (a b : DE) (ρ : DEnv) (C : Cells) (P : DK) (PX : DX) : Prop := a ρ C (fun x C1 => b ρ C1 (fun y C2 => r x y C2 P) PX) PX
def wUn (r : DR1) (a : DE) (ρ : DEnv) (C : Cells) (P : DK) (PX : DX) : Prop := a ρ C (fun x C1 => r x C1 P) PX
def wCB (r : DRA) (a : DA) (ρ : DEnv) (C : Cells) (P : DK) (PX : DX) : Prop := a ρ C (fun xs C1 => r xs C1 P) PX
section
variable {X : Cx} {W : WX} {K : PySem.W.Frag} {a b : Expr} {wa wb : DE} {pos : Pos}
theorem i_op {r : R2} {rd : DR2} (hr : SimR K r rd) {σ : L2.St} {H : Hp} {Q : VK} (h : tE K W (wOp rd wa wb) σ H Q) : tOp r (tE K W wa) (tE K W wb) σ H Q := by
  obtain ⟨F, C, ρ, P, PX, hs, en, xr, w, k⟩ := h
  exact ⟨F, C, ρ, _, PX, hs, en, xr, w, fun v F1 H1 d C1 e1 h1 rd1 q => ⟨F1, C1, ρ, _, PX, h1, en.mono e1, xr.mono e1, q, fun u F2 H2 du C2 e2 h2 ru q2 => hr F2 C2 H2 v u d du P Q h2 (rd1.mono e2) ru q2 (k.mono (e1.trans e2))⟩⟩
theorem i_un {r : V → Hp → VK → Prop} {rd : DR1} (hr : Sim1 K r rd) {σ : L2.St} {H : Hp} {Q : VK} (h : tE K W (wUn rd wa) σ H Q) : tUn r (tE K W wa) σ H Q := by
  obtain ⟨F, C, ρ, P, PX, hs, en, xr, w, k⟩ := h
  exact ⟨F, C, ρ, _, PX, hs, en, xr, w, fun v F1 H1 d C1 e1 h1 rd1 q => hr F1 C1 H1 v d P Q h1 rd1 q (k.mono e1)⟩
theorem i_cb {r : List V → Hp → VK → Prop} {rd : DRA} {wr : DA} (hr : SimA K r rd) {σ : L2.St} {H : Hp} {Q : VK} (h : tE K W (wCB rd wr) σ H Q) : tCB r (tA K W wr) σ H Q := by
  obtain ⟨F, C, ρ, P, PX, hs, en, xr, w, k⟩ := h
  exact ⟨F, C, ρ, _, PX, hs, en, xr, w, fun v F1 H1 d C1 e1 h1 rd1 q => hr F1 C1 H1 v d P Q h1 rd1 q (k.mono e1)⟩
/-- e1 op e2 -/
theorem d_op {op : Operator} {r : R2} {rd : DR2} (ho : OpR X (binaryOp op) r) (hr : SimR X.K r rd) (ha : PE X a (tE X.K W wa)) (hb : PE X b (tE X.K W wb)) : PE X (.BinOp a op b pos) (tE X.K W (wOp rd wa wb)) :=
  PE.imp (pe_op ho ha hb) fun _ _ _ => i_op hr
theorem d_un {op : UnaryOp} {r : V → Hp → VK → Prop} {rd : DR1} (ho : UnR X (unaryOp op) r) (hr : Sim1 X.K r rd) (ha : PE X a (tE X.K W wa)) : PE X (.UnaryOp op a pos) (tE X.K W (wUn rd wa)) :=
  PE.imp (pe_un ho ha) fun _ _ _ => i_un hr
/-- e1 < e2 and the like, as a value -/
theorem d_cmp {op : CmpOp} {r : R2} {rd : DR2} (ho : OpR X (compareOp op) r) (hr : SimR X.K r rd) (ha : PE X a (tE X.K W wa)) (hb : PE X b (tE X.K W wb)) (hm : behindInMarks op b = false := by first | exact nobehind _ (by decide) (by decide) | rfl) :
    PE X (.Compare a [op] [b] pos) (tE X.K W (wOp rd wa wb)) := PE.imp (pe_cmpR ho ha hb hm) fun _ _ _ => i_op hr
/-- a subscript -/
theorem d_ix {r : R2} {rd : DR2} (ho : IxR X r) (hr : SimR X.K r rd) (ha : PE X a (tE X.K W wa)) (hb : PE X b (tE X.K W wb)) (hs : PlainIx b := by exact fun _ _ => rfl) : PE X (.Subscript a b pos) (tE X.K W (wOp rd wa wb)) :=
  PE.imp (pe_ix ho ha hb hs) fun _ _ _ => i_op hr
/-- a built-in function by its name -/
theorem d_callB {r : List V → Hp → VK → Prop} {rd : DRA} {id : String} {x : Str} {p : Pos} {e : Expr} {es : List Expr} {wr : DA} (hc : CallR X (.builtin id) r) (hr : SimA X.K r rd) (hg : Gl X x) (hm : X.mg x = none) (hv : bootBuiltins x = some (.builtin id)) (ha : PA X (e :: es) (tA X.K W wr)) (hn : x ≠ "__name__" := by decide) (hdb : (x == ("__debug__" : Str)) = false := by decide)
    (he : starEach (e :: es) X.env = (false, eval e X.env) :: starEach es X.env := by rfl) (hpl : (backTo pos (starEach es X.env)).any (·.1) = false := by rfl) : PE X (.Call (.Name x p) (e :: es) [] pos) (tE X.K W (wCB rd wr)) :=
  PE.imp (pe_callB hc hg hm hv ha hn hdb he hpl) fun _ _ _ => i_cb hr
theorem d_callTy {r : List V → Hp → VK → Prop} {rd : DRA} {T : String} {x : Str} {p : Pos} {e : Expr} {es : List Expr} {wr : DA} (hc : CallR X (.type T) r) (hr : SimA X.K r rd) (hg : Gl X x) (hm : X.mg x = none) (hv : bootBuiltins x = some (.type T)) (ha : PA X (e :: es) (tA X.K W wr)) (hn : x ≠ "__name__" := by decide) (hdb : (x == ("__debug__" : Str)) = false := by decide)
    (he : starEach (e :: es) X.env = (false, eval e X.env) :: starEach es X.env := by rfl) (hpl : (backTo pos (starEach es X.env)).any (·.1) = false := by rfl) : PE X (.Call (.Name x p) (e :: es) [] pos) (tE X.K W (wCB rd wr)) :=
  PE.imp (pe_callTy hc hg hm hv ha hn hdb he hpl) fun _ _ _ => i_cb hr
end

/-! ### whole numbers -/
def dI (c : Int → Int → Prop) (g : Int → Int → D) (x : D) (y : D) (C : Cells) (P : DK) : Prop := match x, y with | .int i, .int j => c i j ∧ P (g i j) C | _, _ => False
def dI0 (g : Int → Int → D) (x : D) (y : D) (C : Cells) (P : DK) : Prop := match x, y with | .int i, .int j => P (g i j) C | _, _ => False
def dU (g : Int → D) (x : D) (C : Cells) (P : DK) : Prop := match x with | .int i => P (g i) C | _ => False
section
variable {K : PySem.W.Frag}
theorem simI {c : Int → Int → Prop} {g : Int → Int → V} {gd : Int → Int → D} (h : ∀ i j F, Rep K F (g i j) (gd i j)) : SimR K (rI c g) (dI c gd) := fun F C H x y dx dy P Q hs rx ry w k => by
  cases rx <;> cases ry <;> first | exact w.elim | exact ⟨_, _, rfl, rfl, w.1, k _ F H _ C (Ex.refl F) hs (h _ _ F) w.2⟩
theorem simI0 {g : Int → Int → V} {gd : Int → Int → D} (h : ∀ i j F, Rep K F (g i j) (gd i j)) : SimR K (rI0 g) (dI0 gd) := fun F C H x y dx dy P Q hs rx ry w k => by
  cases rx <;> cases ry <;> first | exact w.elim | exact ⟨_, _, rfl, rfl, k _ F H _ C (Ex.refl F) hs (h _ _ F) w⟩
theorem simU {g : Int → V} {gd : Int → D} (h : ∀ i F, Rep K F (g i) (gd i)) : Sim1 K (rU g) (dU gd) := fun F C H x dx P Q hs rx w k => by
  cases rx <;> first | exact w.elim | exact ⟨_, rfl, k _ F H _ C (Ex.refl F) hs (h _ F) w⟩
abbrev dAdd : DR2 := dI0 fun i j => .int (i + j)
abbrev dSub : DR2 := dI0 fun i j => .int (i - j)
abbrev dMul : DR2 := dI CMul fun i j => .int (i * j)
abbrev dDiv : DR2 := dI CDiv fun i j => .int (i / j)
abbrev dMod : DR2 := dI (fun _ j => 0 < j) fun i j => .int (i % j)
abbrev dLt : DR2 := dI0 fun i j => .bl (decide (i < j))
abbrev dLe : DR2 := dI0 fun i j => .bl (decide (i ≤ j))
abbrev dGt : DR2 := dI0 fun i j => .bl (decide (j < i))
abbrev dGe : DR2 := dI0 fun i j => .bl (decide (j ≤ i))
theorem s_add : SimR K (rI0 fun i j => .int (i + j)) dAdd := simI0 fun _ _ _ => .int _
theorem s_sub : SimR K (rI0 fun i j => .int (i - j)) dSub := simI0 fun _ _ _ => .int _
theorem s_mul : SimR K (rI CMul fun i j => .int (i * j)) dMul := simI fun _ _ _ => .int _
theorem s_div : SimR K (rI CDiv fun i j => .int (i / j)) dDiv := simI fun _ _ _ => .int _
theorem s_mod : SimR K (rI (fun _ j => 0 < j) fun i j => .int (i % j)) dMod := simI fun _ _ _ => .int _
theorem s_lt : SimR K (rI0 fun i j => .bl (decide (i < j))) dLt := simI0 fun _ _ _ => .bl _
theorem s_le : SimR K (rI0 fun i j => .bl (decide (i ≤ j))) dLe := simI0 fun _ _ _ => .bl _
theorem s_gt : SimR K (rI0 fun i j => .bl (decide (j < i))) dGt := simI0 fun _ _ _ => .bl _
theorem s_ge : SimR K (rI0 fun i j => .bl (decide (j ≤ i))) dGe := simI0 fun _ _ _ => .bl _
abbrev dNeg : DR1 := dU fun i => .int (-i)
theorem s_neg : Sim1 K (rU fun i => .int (-i)) dNeg := simU fun _ _ => .int _
end

/-! ### == of scalars, is None -/
def dEqv (neg : Bool) (x : D) (y : D) (C : Cells) (P : DK) : Prop := match x, y with
  | .int i, .int j => P (.bl (neg ^^ decide (i = j))) C
  | .str i, .str j => P (.bl (neg ^^ decide (i = j))) C
  | .bl i, .bl j => P (.bl (neg ^^ decide (i = j))) C
  | .non, .non => P (.bl (neg ^^ true)) C
  | .non, .int _ => P (.bl (neg ^^ false)) C
  | .int _, .non => P (.bl (neg ^^ false)) C
  | .non, .str _ => P (.bl (neg ^^ false)) C
  | .str _, .non => P (.bl (neg ^^ false)) C
  | .non, .bl _ => P (.bl (neg ^^ false)) C
  | .bl _, .non => P (.bl (neg ^^ false)) C
  | .int _, .str _ => P (.bl (neg ^^ false)) C
  | .str _, .int _ => P (.bl (neg ^^ false)) C
  | _, _ => False
abbrev dEq := dEqv false
abbrev dNe := dEqv true
def dIsN (neg : Bool) (x : D) (y : D) (C : Cells) (P : DK) : Prop := match y with
  | .non => match x with
    | .non => P (.bl (neg ^^ true)) C
    | _ => P (.bl (neg ^^ false)) C
  | _ => False
section
variable {K : PySem.W.Frag}
theorem s_eq : SimR K rEq dEq := fun F C H x y dx dy P Q hs rx ry w k => by
  cases rx <;> cases ry <;> first
    | exact w.elim
    | (refine ⟨rfl, ?_⟩
       have z := k _ F H _ C (Ex.refl F) hs (.bl _) w
       simp only [reduceCtorEq, V.int.injEq, V.str.injEq, V.bl.injEq, decide_true, decide_false, Bool.false_xor] at z ⊢
       exact z)
theorem s_ne : SimR K rNe dNe := fun F C H x y dx dy P Q hs rx ry w k => by
  cases rx <;> cases ry <;> first
    | exact w.elim
    | (refine ⟨rfl, ?_⟩
       have z := k _ F H _ C (Ex.refl F) hs (.bl _) w
       simp only [reduceCtorEq, V.int.injEq, V.str.injEq, V.bl.injEq, decide_true, decide_false, Bool.true_xor] at z ⊢
       exact z)
theorem s_isN : SimR K (fun x y H Q => y = .non ∧ Q (.bl (decide (x = .non))) H) (dIsN false) := fun F C H x y dx dy P Q hs rx ry w k => by
  cases ry <;> first
    | exact w.elim
    | (refine ⟨rfl, ?_⟩
       cases rx <;>
       (have z := k _ F H _ C (Ex.refl F) hs (.bl _) w
        simp only [reduceCtorEq, decide_true, decide_false, Bool.false_xor] at z ⊢
        exact z))
theorem s_notN : SimR K (fun x y H Q => y = .non ∧ Q (.bl (!decide (x = .non))) H) (dIsN true) := fun F C H x y dx dy P Q hs rx ry w k => by
  cases ry <;> first
    | exact w.elim
    | (refine ⟨rfl, ?_⟩
       cases rx <;>
       (have z := k _ F H _ C (Ex.refl F) hs (.bl _) w
        simp only [reduceCtorEq, decide_true, decide_false, Bool.true_xor] at z ⊢
        exact z))
end

/-! ### tests -/
def wTest (e : DE) (ρ : DEnv) (C : Cells) (P : Bool → Cells → Prop) (PX : DX) : Prop := e ρ C (fun x C1 => match x with | .bl k => P k C1 | _ => False) PX
def wAnd (t u : DT) (ρ : DEnv) (C : Cells) (P : Bool → Cells → Prop) (PX : DX) : Prop := t ρ C (fun b C1 => if b = true then u ρ C1 P PX else P false C1) PX
def wOr (t u : DT) (ρ : DEnv) (C : Cells) (P : Bool → Cells → Prop) (PX : DX) : Prop := t ρ C (fun b C1 => if b = true then P true C1 else u ρ C1 P PX) PX
def wNot (t : DT) (ρ : DEnv) (C : Cells) (P : Bool → Cells → Prop) (PX : DX) : Prop := t ρ C (fun b C1 => P (!b) C1) PX
def wIf (t : DT) (a b : DE) (ρ : DEnv) (C : Cells) (P : DK) (PX : DX) : Prop := t ρ C (fun k C1 => if k = true then a ρ C1 P PX else b ρ C1 P PX) PX
section
variable {X : Cx} {W : WX} {K : PySem.W.Frag} {a b : Expr} {wa wb : DE} {pos : Pos} {t u : DT} {rest : List Expr}
theorem i_test {σ : L2.St} {H : Hp} {Q : Bool → Hp → Prop} (h : tT K W (wTest wa) σ H Q) : tE K W wa σ H fun x H' => ∃ k, x = .bl k ∧ Q k H' := by
  obtain ⟨F, C, ρ, P, PX, hs, en, xr, w, k⟩ := h
  refine ⟨F, C, ρ, _, PX, hs, en, xr, w, fun v F1 H1 d C1 e1 h1 r q => ?_⟩
  cases r <;> first | exact q.elim | exact ⟨_, rfl, k _ F1 H1 C1 e1 h1 q⟩
/-- a comparison as a test -/
theorem d_tcmp {op : CmpOp} {r : R2} {rd : DR2} (ho : OpR X (compareOp op) r) (hr : SimR X.K r rd) (ha : PE X a (tE X.K W wa)) (hb : PE X b (tE X.K W wb)) (hm : behindInMarks op b = false := by first | exact nobehind _ (by decide) (by decide) | rfl) :
    PT X (.Compare a [op] [b] pos) (tT X.K W (wTest (wOp rd wa wb))) := PT.imp (pt_cmpR ho ha hb hm) fun σ H Q h => by
  have z := i_test h
  obtain ⟨F, C, ρ, P, PX, hs, en, xr, w, k⟩ := z
  exact i_op hr ⟨F, C, ρ, P, PX, hs, en, xr, w, k⟩
/-- an expression that gives True or False, as a test -/
theorem d_tval {e : Expr} (h : PE X e (tE X.K W wa)) (he : ∀ whole, isTrue e X.env whole = (do let v ← whole; standAt e.pos; holding [v] (truthy v)) := by intro _; rfl) : PT X e (tT X.K W (wTest wa)) :=
  PT.imp (pt_val h he) fun _ _ _ => i_test
theorem i_and {σ : L2.St} {H : Hp} {Q : Bool → Hp → Prop} (h : tT K W (wAnd t u) σ H Q) : tAnd (tT K W t) (tT K W u) σ H Q := by
  obtain ⟨F, C, ρ, P, PX, hs, en, xr, w, k⟩ := h
  refine ⟨F, C, ρ, _, PX, hs, en, xr, w, fun b F1 H1 C1 e1 h1 q => ?_⟩
  cases b with
  | true =>
    rw [if_pos rfl] at q
    rw [if_pos rfl]
    exact ⟨F1, C1, ρ, P, PX, h1, en.mono e1, xr.mono e1, q, k.mono e1⟩
  | false =>
    rw [if_neg Bool.false_ne_true] at q
    rw [if_neg Bool.false_ne_true]
    exact k _ F1 H1 C1 e1 h1 q
theorem i_or {σ : L2.St} {H : Hp} {Q : Bool → Hp → Prop} (h : tT K W (wOr t u) σ H Q) : tOr (tT K W t) (tT K W u) σ H Q := by
  obtain ⟨F, C, ρ, P, PX, hs, en, xr, w, k⟩ := h
  refine ⟨F, C, ρ, _, PX, hs, en, xr, w, fun b F1 H1 C1 e1 h1 q => ?_⟩
  cases b with
  | false =>
    rw [if_neg Bool.false_ne_true] at q
    rw [if_neg Bool.false_ne_true]
    exact ⟨F1, C1, ρ, P, PX, h1, en.mono e1, xr.mono e1, q, k.mono e1⟩
  | true =>
    rw [if_pos rfl] at q
    rw [if_pos rfl]
    exact k _ F1 H1 C1 e1 h1 q
theorem d_and1 (ha : PT X a (tT X.K W t)) : PW X (.BoolOp .And [a] pos) (tT X.K W t) := pw_and1 ha
theorem d_or1 (ha : PT X a (tT X.K W t)) : PW X (.BoolOp .Or [a] pos) (tT X.K W t) := pw_or1 ha
theorem d_and (ha : PT X a (tT X.K W t)) (hb : PW X (.BoolOp .And (b :: rest) pos) (tT X.K W u)) : PW X (.BoolOp .And (a :: b :: rest) pos) (tT X.K W (wAnd t u)) := PW.imp (pw_and ha hb) fun _ _ _ => i_and
theorem d_or (ha : PT X a (tT X.K W t)) (hb : PW X (.BoolOp .Or (b :: rest) pos) (tT X.K W u)) : PW X (.BoolOp .Or (a :: b :: rest) pos) (tT X.K W (wOr t u)) := PW.imp (pw_or ha hb) fun _ _ _ => i_or
theorem d_not (ha : PT X a (tT X.K W t)) : PT X (.UnaryOp .Not a pos) (tT X.K W (wNot t)) := PT.imp (pt_not ha) fun σ H Q ⟨F, C, ρ, P, PX, hs, en, xr, w, k⟩ =>
  ⟨F, C, ρ, _, PX, hs, en, xr, w, fun b F1 H1 C1 e1 h1 q => k _ F1 H1 C1 e1 h1 q⟩
theorem d_ifE {c : Expr} (hc : PT X c (tT X.K W t)) (ha : PE X a (tE X.K W wa)) (hb : PE X b (tE X.K W wb)) : PE X (.IfExp c a b pos) (tE X.K W (wIf t wa wb)) := PE.imp (pe_ifExp hc ha hb) fun σ H Q ⟨F, C, ρ, P, PX, hs, en, xr, w, k⟩ =>
  ⟨F, C, ρ, _, PX, hs, en, xr, w, fun b F1 H1 C1 e1 h1 q => by
    cases b with
    | true =>
      rw [if_pos rfl] at q
      rw [if_pos rfl]
      exact ⟨F1, C1, ρ, P, PX, h1, en.mono e1, xr.mono e1, q, k.mono e1⟩
    | false =>
      rw [if_neg Bool.false_ne_true] at q
      rw [if_neg Bool.false_ne_true]
      exact ⟨F1, C1, ρ, P, PX, h1, en.mono e1, xr.mono e1, q, k.mono e1⟩⟩
/-- and, or, not as values of True and False -/
def wAndV (a b : DE) (ρ : DEnv) (C : Cells) (P : DK) (PX : DX) : Prop := a ρ C (fun x C1 => match x with | .bl k => if k = true then b ρ C1 P PX else P (.bl false) C1 | _ => False) PX
def wOrV (a b : DE) (ρ : DEnv) (C : Cells) (P : DK) (PX : DX) : Prop := a ρ C (fun x C1 => match x with | .bl k => if k = true then P (.bl true) C1 else b ρ C1 P PX | _ => False) PX
def wNotV (a : DE) (ρ : DEnv) (C : Cells) (P : DK) (PX : DX) : Prop := a ρ C (fun x C1 => match x with | .bl k => P (.bl (!k)) C1 | _ => False) PX
theorem d_one {op} (h : PE X a (tE X.K W wa)) : PE X (.BoolOp op [a] pos) (tE X.K W wa) := pe_one h
theorem d_andV (ha : PE X a (tE X.K W wa)) (hb : PE X (.BoolOp .And (b :: rest) pos) (tE X.K W wb)) : PE X (.BoolOp .And (a :: b :: rest) pos) (tE X.K W (wAndV wa wb)) := PE.imp (pe_and ha hb) fun σ H Q ⟨F, C, ρ, P, PX, hs, en, xr, w, k⟩ =>
  ⟨F, C, ρ, _, PX, hs, en, xr, w, fun v F1 H1 d C1 e1 h1 r q => by
    cases r <;> first | exact q.elim | skip
    rename_i b
    refine ⟨b, rfl, ?_⟩
    cases b with
    | true => exact ⟨F1, C1, ρ, P, PX, h1, en.mono e1, xr.mono e1, q, k.mono e1⟩
    | false => exact k _ F1 H1 _ C1 e1 h1 (.bl _) q⟩
theorem d_orV (ha : PE X a (tE X.K W wa)) (hb : PE X (.BoolOp .Or (b :: rest) pos) (tE X.K W wb)) : PE X (.BoolOp .Or (a :: b :: rest) pos) (tE X.K W (wOrV wa wb)) := PE.imp (pe_or ha hb) fun σ H Q ⟨F, C, ρ, P, PX, hs, en, xr, w, k⟩ =>
  ⟨F, C, ρ, _, PX, hs, en, xr, w, fun v F1 H1 d C1 e1 h1 r q => by
    cases r <;> first | exact q.elim | skip
    rename_i b
    refine ⟨b, rfl, ?_⟩
    cases b with
    | false => exact ⟨F1, C1, ρ, P, PX, h1, en.mono e1, xr.mono e1, q, k.mono e1⟩
    | true => exact k _ F1 H1 _ C1 e1 h1 (.bl _) q⟩
theorem d_notV (ha : PE X a (tE X.K W wa)) : PE X (.UnaryOp .Not a pos) (tE X.K W (wNotV wa)) := PE.imp (pe_not ha) fun σ H Q ⟨F, C, ρ, P, PX, hs, en, xr, w, k⟩ =>
  ⟨F, C, ρ, _, PX, hs, en, xr, w, fun v F1 H1 d C1 e1 h1 r q => by
    cases r <;> first | exact q.elim | skip
    exact ⟨_, rfl, k _ F1 H1 _ C1 e1 h1 (.bl _) q⟩⟩
end
/-- a < b < c -/
def wChain (r r' : DR2) (a b c : DE) (ρ : DEnv) (C : Cells) (P : DK) (PX : DX) : Prop := a ρ C (fun x C1 => b ρ C1 (fun y C2 => r x y C2 fun z C3 => match z with
  | .bl k => if k = true then c ρ C3 (fun u C4 => r' y u C4 P) PX else P (.bl false) C3
  | _ => False) PX) PX

/-! ### displays -/
def wTup (a : DA) (ρ : DEnv) (C : Cells) (P : DK) (PX : DX) : Prop := a ρ C (fun ds C1 => ds.length ≤ 100000 ∧ P (.tup ds) C1) PX
def wLst (a : DA) (ρ : DEnv) (C : Cells) (P : DK) (PX : DX) : Prop := a ρ C (fun ds C1 => ds.length ≤ 100000 ∧ P (.lst ds) C1) PX
/-- a list that is still to change -/
def wLstC (a : DA) (ρ : DEnv) (C : Cells) (P : DK) (PX : DX) : Prop := a ρ C (fun ds C1 => ds.length ≤ 100000 ∧ ∀ p, C1 p = none → P (.ptr p) (cput C1 p (.lst ds))) PX
theorem sz_of {n : Nat} (h : n ≤ 100000) : n ≤ sizeLine := Nat.le_trans h (by decide)
theorem sz_lt {n : Nat} (h : n < 100000) : n < sizeLine := Nat.lt_of_lt_of_le h (by decide)
section
variable {X : Cx} {W : WX} {K : PySem.W.Frag} {es : List Expr} {wr : DA} {pos : Pos}
theorem Hs.newL {F : Hp} {C : Cells} {H : Hp} {xs : List V} {ds : List D} (h : Hs K F C H) (r : RepL K F xs ds) {p : Addr} (hp : H p = none) : Ex F (upd F p (.lst xs)) ∧ Hs K (upd F p (.lst xs)) C (upd H p (.lst xs)) ∧ Rep K (upd F p (.lst xs)) (.ref p) (.lst ds) := by
  obtain ⟨e, h2⟩ := h.lay (o := .lst xs) hp
  exact ⟨e, h2, .lst (.of upd_same) (r.mono e)⟩
theorem Hs.newT {F : Hp} {C : Cells} {H : Hp} {xs : List V} {ds : List D} (h : Hs K F C H) (r : RepL K F xs ds) {p : Addr} (hp : H p = none) : Ex F (upd F p (.tup xs)) ∧ Hs K (upd F p (.tup xs)) C (upd H p (.tup xs)) ∧ Rep K (upd F p (.tup xs)) (.ref p) (.tup ds) := by
  obtain ⟨e, h2⟩ := h.lay (o := .tup xs) hp
  exact ⟨e, h2, .tup upd_same (r.mono e)⟩
theorem Hs.newC {F : Hp} {C : Cells} {H : Hp} {xs : List V} {ds : List D} (h : Hs K F C H) (r : RepL K F xs ds) {p : Addr} (hp : H p = none) : C p = none ∧ Hs K F (cput C p (.lst ds)) (upd H p (.lst xs)) :=
  ⟨(h.fresh hp).2, h.put (h.fresh hp).1 ⟨xs, upd_same, r⟩⟩
theorem d_tup {x1} (h : PA X es (tA X.K W wr)) : PE X (.Tuple es x1 pos) (tE X.K W (wTup wr)) := PE.imp (pe_tup h) fun σ H Q ⟨F, C, ρ, P, PX, hs, en, xr, w, k⟩ =>
  ⟨F, C, ρ, _, PX, hs, en, xr, w, fun vs F1 H1 ds C1 e1 h1 r q => ⟨by rw [r.length]; exact sz_of q.1, fun p hp => by
    obtain ⟨e2, h2, r2⟩ := h1.newT r hp
    exact k _ _ _ _ C1 (e1.trans e2) h2 r2 q.2⟩⟩
theorem d_lst (h : PA X es (tA X.K W wr)) : PE X (.List es pos) (tE X.K W (wLst wr)) := PE.imp (pe_lst h) fun σ H Q ⟨F, C, ρ, P, PX, hs, en, xr, w, k⟩ =>
  ⟨F, C, ρ, _, PX, hs, en, xr, w, fun vs F1 H1 ds C1 e1 h1 r q => ⟨by rw [r.length]; exact sz_of q.1, fun p hp => by
    obtain ⟨e2, h2, r2⟩ := h1.newL r hp
    exact k _ _ _ _ C1 (e1.trans e2) h2 r2 q.2⟩⟩
theorem d_lstC (h : PA X es (tA X.K W wr)) : PE X (.List es pos) (tE X.K W (wLstC wr)) := PE.imp (pe_lst h) fun σ H Q ⟨F, C, ρ, P, PX, hs, en, xr, w, k⟩ =>
  ⟨F, C, ρ, _, PX, hs, en, xr, w, fun vs F1 H1 ds C1 e1 h1 r q => ⟨by rw [r.length]; exact sz_of q.1, fun p hp => by
    obtain ⟨c0, h2⟩ := h1.newC r hp
    exact k _ _ _ _ _ e1 h2 (.ptr p) (q.2 p c0)⟩⟩
theorem d_chain {op op' : CmpOp} {r r' : R2} {rd rd' : DR2} {a b c : Expr} {wa wb wc : DE} (ho : OpR X (compareOp op) r) (hr : SimR X.K r rd) (ho' : OpR X (compareOp op') r') (hr' : SimR X.K r' rd')
    (h : PE X (.Compare a [op, op'] [b, c] pos) (tChain r r' (tE X.K W wa) (tE X.K W wb) (tE X.K W wc))) : PE X (.Compare a [op, op'] [b, c] pos) (tE X.K W (wChain rd rd' wa wb wc)) := PE.imp h fun σ H Q ⟨F, C, ρ, P, PX, hs, en, xr, w, k⟩ =>
  ⟨F, C, ρ, _, PX, hs, en, xr, w, fun v F1 H1 d C1 e1 h1 rd1 q => ⟨F1, C1, ρ, _, PX, h1, en.mono e1, xr.mono e1, q, fun u F2 H2 du C2 e2 h2 ru q2 => hr F2 C2 H2 v u d du _ _ h2 (rd1.mono e2) ru q2 fun z F3 H3 dz C3 e3 h3 rz q3 => by
    cases rz <;> first | exact q3.elim | skip
    rename_i b
    refine ⟨b, rfl, ?_⟩
    cases b with
    | true => exact ⟨F3, C3, ρ, _, PX, h3, en.mono ((e1.trans e2).trans e3), xr.mono ((e1.trans e2).trans e3), q3, fun u4 F4 H4 d4 C4 e4 h4 r4 q4 => hr' F4 C4 H4 u u4 du d4 P Q h4 (ru.mono (e3.trans e4)) r4 q4 (k.mono (((e1.trans e2).trans e3).trans e4))⟩
    | false => exact k _ F3 H3 _ C3 ((e1.trans e2).trans e3) h3 (.bl _) q3⟩⟩
end
end DD

set_option Elab.async false
set_option linter.all false
set_option maxRecDepth 100000
set_option maxHeartbeats 4000000
/-! Readings over data: statements, targets, loops. -/
namespace DD
open PySem L2 PyProof.Rows

section
variable {X : Cx} {W : WX} {K : PySem.W.Frag}
theorem i_chain {r r' : R2} {rd rd' : DR2} {wa wb wc : DE} (hr : SimR K r rd) (hr' : SimR K r' rd') {σ : L2.St} {H : Hp} {Q : VK} (h : tE K W (wChain rd rd' wa wb wc) σ H Q) : tChain r r' (tE K W wa) (tE K W wb) (tE K W wc) σ H Q := by
  obtain ⟨F, C, ρ, P, PX, hs, en, xr, w, k⟩ := h
  exact ⟨F, C, ρ, _, PX, hs, en, xr, w, fun v F1 H1 d C1 e1 h1 rd1 q => ⟨F1, C1, ρ, _, PX, h1, en.mono e1, xr.mono e1, q, fun u F2 H2 du C2 e2 h2 ru q2 => hr F2 C2 H2 v u d du _ _ h2 (rd1.mono e2) ru q2 fun z F3 H3 dz C3 e3 h3 rz q3 => by
    cases rz <;> first | exact q3.elim | skip
    rename_i b
    refine ⟨b, rfl, ?_⟩
    cases b with
    | true => exact ⟨F3, C3, ρ, _, PX, h3, en.mono ((e1.trans e2).trans e3), xr.mono ((e1.trans e2).trans e3), q3, fun u4 F4 H4 d4 C4 e4 h4 r4 q4 => hr' F4 C4 H4 u u4 du d4 P Q h4 (ru.mono (e3.trans e4)) r4 q4 (k.mono (((e1.trans e2).trans e3).trans e4))⟩
    | false => exact k _ F3 H3 _ C3 ((e1.trans e2).trans e3) h3 (.bl _) q3⟩⟩
theorem d_chainE {op op' : CmpOp} {r r' : R2} {rd rd' : DR2} {a b c : Expr} {wa wb wc : DE} {pos : Pos} (ho : OpR X (compareOp op) r) (hr : SimR X.K r rd) (ho' : OpR X (compareOp op') r') (hr' : SimR X.K r' rd') (ha : PE X a (tE X.K W wa)) (hb : PE X b (tE X.K W wb)) (hc : PE X c (tE X.K W wc))
    (hm : lastMarks [op, op'] [b, c] = false := by with_unfolding_all rfl) : PE X (.Compare a [op, op'] [b, c] pos) (tE X.K W (wChain rd rd' wa wb wc)) := PE.imp (pe_chain ho ho' ha hb hc hm) fun _ _ _ => i_chain hr hr'
theorem d_chainT {op op' : CmpOp} {r r' : R2} {rd rd' : DR2} {a b c : Expr} {wa wb wc : DE} {pos : Pos} (ho : OpR X (compareOp op) r) (hr : SimR X.K r rd) (ho' : OpR X (compareOp op') r') (hr' : SimR X.K r' rd') (ha : PE X a (tE X.K W wa)) (hb : PE X b (tE X.K W wb)) (hc : PE X c (tE X.K W wc))
    (hm : lastMarks [op, op'] [b, c] = false := by with_unfolding_all rfl) : PT X (.Compare a [op, op'] [b, c] pos) (tT X.K W (wTest (wChain rd rd' wa wb wc))) := PT.imp (pt_chain ho ho' ha hb hc hm) fun σ H Q h => by
  obtain ⟨F, C, ρ, P, PX, hs, en, xr, w, k⟩ := i_test h
  exact i_chain hr hr' ⟨F, C, ρ, P, PX, hs, en, xr, w, k⟩
end

/-! ### statements -/
def KontS (K : PySem.W.Frag) (F : Hp) (P : DEnv → Cells → Prop) (Q : L2.St → Hp → Prop) : Prop := ∀ σ F' H ρ C, Ex F F' → Hs K F' C H → EnvR K F' σ ρ → P ρ C → Q σ H
theorem KontS.mono {K : PySem.W.Frag} {F F' : Hp} {P : DEnv → Cells → Prop} {Q : L2.St → Hp → Prop} (e : Ex F F') (h : KontS K F P Q) : KontS K F' P Q := fun σ F1 H ρ C e1 => h σ F1 H ρ C (e.trans e1)
structure EndsR (K : PySem.W.Frag) (F : Hp) (DE : DEnds) (D : Ends) : Prop where
  nx : KontS K F DE.nx D.nx
  rt : Kont K F DE.rt D.rt
  bk : KontS K F DE.bk D.bk
  ct : KontS K F DE.ct D.ct
theorem EndsR.mono {K : PySem.W.Frag} {F F' : Hp} {DE : DEnds} {D : Ends} (e : Ex F F') (h : EndsR K F DE D) : EndsR K F' DE D := ⟨h.nx.mono e, h.rt.mono e, h.bk.mono e, h.ct.mono e⟩
def tS (K : PySem.W.Frag) (W : WX) (w : DS) : TS := fun D σ H => ∃ F C ρ DE, Hs K F C H ∧ EnvR K F σ ρ ∧ ExR K F W DE.ex ∧ w DE ρ C ∧ EndsR K F DE D

def wNext (E : DEnds) (ρ : DEnv) (C : Cells) : Prop := E.nx ρ C
def wSeq (a b : DS) (E : DEnds) (ρ : DEnv) (C : Cells) : Prop := a { E with nx := fun ρ' C' => b E ρ' C' } ρ C
/-- the same, a place to stop at -/
def wSeqL (a b : DS) (E : DEnds) (ρ : DEnv) (C : Cells) : Prop := a { E with nx := fun ρ' C' => b E ρ' C' } ρ C
def wBreak (E : DEnds) (ρ : DEnv) (C : Cells) : Prop := E.bk ρ C
def wCont (E : DEnds) (ρ : DEnv) (C : Cells) : Prop := E.ct ρ C
def wDrop (e : DE) (E : DEnds) (ρ : DEnv) (C : Cells) : Prop := e ρ C (fun _ C1 => E.nx ρ C1) E.ex
def wRet (e : DE) (E : DEnds) (ρ : DEnv) (C : Cells) : Prop := e ρ C E.rt E.ex
def wRetN (E : DEnds) (_ : DEnv) (C : Cells) : Prop := E.rt .non C
def wIfS (t : DT) (a b : DS) (E : DEnds) (ρ : DEnv) (C : Cells) : Prop := t ρ C (fun k C1 => if k = true then a E ρ C1 else b E ρ C1) E.ex
/-- a list that was built, handed back: it does not change any more -/
def wRetF (e : DE) (E : DEnds) (ρ : DEnv) (C : Cells) : Prop := e ρ C (fun d C1 => match d with
  | .ptr p => match C1 p with
    | some (.lst ds) => ∃ C2, Sub C2 C1 ∧ C2 p = none ∧ E.rt (.lst ds) C2
    | some (.dK kvs) => ∃ C2, Sub C2 C1 ∧ C2 p = none ∧ E.rt (.dK kvs) C2
    | some (.dT kvs) => ∃ C2, Sub C2 C1 ∧ C2 p = none ∧ E.rt (.dT kvs) C2
    | some (.ins Cl fs) => ∃ C2, Sub C2 C1 ∧ C2 p = none ∧ E.rt (.ins Cl fs) C2
    | _ => False
  | d => E.rt d C1) E.ex
/-- a cell that does not change any more: what the name at i holds is data from here on -/
def wFrz (i : Nat) (E : DEnds) (ρ : DEnv) (C : Cells) : Prop := match (ρ[i]? : Option (Option D)) with
  | some (some (.ptr p)) => match C p with
    | some (.lst ds) => ∃ C2, Sub C2 C ∧ C2 p = none ∧ E.nx (ρ.set i (some (.lst ds))) C2
    | some (.dK kvs) => ∃ C2, Sub C2 C ∧ C2 p = none ∧ E.nx (ρ.set i (some (.dK kvs))) C2
    | some (.dT kvs) => ∃ C2, Sub C2 C ∧ C2 p = none ∧ E.nx (ρ.set i (some (.dT kvs))) C2
    | some (.ins Cl fs) => ∃ C2, Sub C2 C ∧ C2 p = none ∧ E.nx (ρ.set i (some (.ins Cl fs))) C2
    | _ => False
  | _ => False
/-- a cell's content as data -/
def Cell.toD : Cell → D
  | .lst ds => .lst ds
  | .ins C fs => .ins C fs
  | .dK kvs => .dK kvs
  | .dT kvs => .dT kvs
  | .lK kvs _ _ => .dK kvs
  | .lT kvs _ _ => .dT kvs
  | .dN _ _ => .non
  | .lN _ _ _ _ => .non
  | .dO _ _ => .non
  | .lO _ _ _ _ => .non
def Cell.isN : Cell → Bool
  | .dN _ _ => true
  | .lN _ _ _ _ => true
  | .dO _ _ => true
  | .lO _ _ _ _ => true
  | _ => false
section
variable {X : Cx} {W : WX} {K : PySem.W.Frag} {st : Stmt} {rest : List Stmt} {a b : DS} {e : Expr} {we : DE} {t : DT} {pos : Pos}
theorem ds_nil : PSs X [] (tS X.K W wNext) := PSs.imp pss_nil fun D σ H ⟨F, C, ρ, DE, hs, en, xr, w, er⟩ => er.nx σ F H ρ C (Ex.refl F) hs en w
theorem ds_cons (h1 : PS X st (tS X.K W a)) (h2 : PSs X rest (tS X.K W b)) : PSs X (st :: rest) (tS X.K W (wSeq a b)) := PSs.imp (pss_cons h1 h2) fun D σ H ⟨F, C, ρ, DE, hs, en, xr, w, er⟩ =>
  ⟨F, C, ρ, { DE with nx := fun ρ' C' => b DE ρ' C' }, hs, en, xr, w, ⟨fun σ1 F1 H1 ρ1 C1 e1 h1 n1 q => ⟨F1, C1, ρ1, DE, h1, n1, xr.mono e1, q, er.mono e1⟩, er.rt, er.bk, er.ct⟩⟩
theorem ds_consL (h1 : PS X st (tS X.K W a)) (h2 : PSs X rest (tS X.K W b)) : PSs X (st :: rest) (tS X.K W (wSeqL a b)) := ds_cons h1 h2
theorem ds_one (h1 : PS X st (tS X.K W a)) : PSs X [st] (tS X.K W a) := pss_one h1
theorem ds_pass : PS X (.Pass pos) (tS X.K W wNext) := PS.imp ps_pass fun D σ H ⟨F, C, ρ, DE, hs, en, xr, w, er⟩ => er.nx σ F H ρ C (Ex.refl F) hs en w
theorem ds_break : PS X (.Break pos) (tS X.K W wBreak) := PS.imp ps_break fun D σ H ⟨F, C, ρ, DE, hs, en, xr, w, er⟩ => er.bk σ F H ρ C (Ex.refl F) hs en w
theorem ds_continue : PS X (.Continue pos) (tS X.K W wCont) := PS.imp ps_continue fun D σ H ⟨F, C, ρ, DE, hs, en, xr, w, er⟩ => er.ct σ F H ρ C (Ex.refl F) hs en w
theorem ds_doc {x j pos'} : PS X (.Expr (.Constant (.str x) j pos) pos') (tS X.K W wNext) := PS.imp ps_doc fun D σ H ⟨F, C, ρ, DE, hs, en, xr, w, er⟩ => er.nx σ F H ρ C (Ex.refl F) hs en w
theorem ds_expr (he : PE X e (tE X.K W we)) (hs : swapsWith e none pos.line X.env = pure false := by rfl) : PS X (.Expr e pos) (tS X.K W (wDrop we)) := PS.imp (ps_expr he hs) fun D σ H ⟨F, C, ρ, DE, hs, en, xr, w, er⟩ =>
  ⟨F, C, ρ, _, _, hs, en, xr, w, fun v F1 H1 d C1 e1 h1 r q => er.nx σ F1 H1 ρ C1 e1 h1 (en.mono e1) q⟩
theorem ds_ret (he : PE X e (tE X.K W we)) : PS X (.Return (some e) pos) (tS X.K W (wRet we)) := PS.imp (ps_ret he) fun D σ H ⟨F, C, ρ, DE, hs, en, xr, w, er⟩ => ⟨F, C, ρ, _, _, hs, en, xr, w, er.rt⟩
theorem ds_retN : PS X (.Return none pos) (tS X.K W wRetN) := PS.imp ps_retN fun D σ H ⟨F, C, ρ, DE, hs, en, xr, w, er⟩ => er.rt _ F H _ C (Ex.refl F) hs .non w
/-- a dict that is not to change any more is locked for good -/
def Fz (Q : Hp → Prop) (H : Hp) : Prop := Q H ∨ ∃ d u, H d = some u ∧ Mut (some u) ∧ ∀ od, Q (upd H d (.frz od u))
theorem ps_fz {t : TS} (h : PS X st t) : PS X st (fun D σ H => t { D with rt := fun v H' => Fz (D.rt v) H' } σ H) := ⟨fun pins s σ H D I w => by
  refine thn (h.run pins s σ H _ I w) fun f s1 q => ?_
  cases f with
  | next => exact q
  | brk => exact q
  | cont => exact q
  | ret v =>
    obtain ⟨x, σ', H', I2, r, q⟩ := q
    rcases q with q | ⟨d, u, hd, mu, q⟩
    · exact ⟨x, σ', H', I2, r, q⟩
    · obtain ⟨od, I3⟩ := I2.lock hd mu
      exact ⟨x, σ', _, I3, r, q od⟩⟩
theorem pe_fz {t : TE} (h : PE X e t) : PE X e (fun σ H Q => t σ H fun v H' => Fz (Q v) H') := ⟨fun pins s σ H Q I w => by
  refine thn (h.run pins s σ H _ I w) fun u s1 ⟨x, H1, I1, rx, q⟩ => ?_
  rcases q with q | ⟨d, o, hd, mu, q⟩
  · exact ⟨x, H1, I1, rx, q⟩
  · obtain ⟨od, I3⟩ := I1.lock hd mu
    exact ⟨x, _, I3, rx, q od⟩⟩
theorem pss_fz {t : TS} (h : PSs X rest t) : PSs X rest (fun D σ H => Fz (t D σ) H) := ⟨fun pins s σ H D I w => by
  rcases w with w | ⟨d, u, hd, mu, w⟩
  · exact h.run pins s σ H D I w
  · obtain ⟨od, I3⟩ := I.lock hd mu
    exact h.run pins s σ _ D I3 (w od)⟩
theorem frz_go {F H : Hp} {C C2 : Cells} {p : Addr} {c : Cell} (h : Hs K F C H) (e : C p = some c) (s : Sub C2 C) (n : C2 p = none) (hc : match c with | .dK _ => False | .dT _ => False | _ => True) (hn : c.isN = false := by rfl) :
    ∃ F2, Ex F F2 ∧ Hs K F2 C2 H ∧ Rep K F2 (.ref p) c.toD := by
  obtain ⟨o, ho, ex, h2, f, r⟩ := h.freeze e s n
  refine ⟨_, ex, h2, ?_⟩
  have r := r.ex ex
  cases c with
  | lst ds => obtain ⟨xs, q, r⟩ := r; rw [ho] at q; cases q; exact .lst (.of f) r
  | ins _ ds => obtain ⟨dx, xs, q, r⟩ := r; rw [ho] at q; cases q; exact .ins f r
  | lK ds od vs => obtain ⟨q, r⟩ := r; rw [ho] at q; cases q; exact .dK f r
  | lT ds od vs => obtain ⟨q, r⟩ := r; rw [ho] at q; cases q; exact .dT f r
  | dK ds => exact hc.elim
  | dT ds => exact hc.elim
  | dN _ _ => cases hn
  | lN _ _ _ _ => cases hn
  | dO _ _ => cases hn
  | lO _ _ _ _ => cases hn
theorem frz_dic {F H : Hp} {C C2 : Cells} {p : Addr} {o : HO} (h : Hs K F C H) (f0 : F p = none) (s : Sub C2 C) (n : C2 p = none) (od : Obj) : Ex F (upd F p (.frz od o)) ∧ Hs K (upd F p (.frz od o)) C2 (upd H p (.frz od o)) := by
  refine ⟨Ex.new f0, fun a u q => ?_, fun a d q => ?_⟩
  · by_cases z : a = p
    · subst z; rw [upd_same] at q ⊢; exact .inl q
    · rw [upd_ne z] at q ⊢; exact h.ex a u q
  · have z : a ≠ p := cell_ne q n
    obtain ⟨f1, r1⟩ := h.cell a d (s a d q)
    exact ⟨by rw [upd_ne z]; exact f1, (r1.ex (Ex.new f0)).at (upd_ne z)⟩
/-- a cell handed on as data: as it is, or locked -/
theorem frz_any {F H : Hp} {C C2 : Cells} {p : Addr} {c : Cell} (h : Hs K F C H) (e : C p = some c) (s : Sub C2 C) (n : C2 p = none) {Q : Hp → Prop} (k : ∀ F2 H2, Ex F F2 → Hs K F2 C2 H2 → Rep K F2 (.ref p) c.toD → Q H2) (hn : c.isN = false := by rfl) : Fz Q H := by
  cases c with
  | dN _ _ => cases hn
  | lN _ _ _ _ => cases hn
  | dO _ _ => cases hn
  | lO _ _ _ _ => cases hn
  | dK t =>
    obtain ⟨f0, vs, h1, h2⟩ := h.cell p _ e
    refine .inr ⟨p, _, h1, trivial, fun od => ?_⟩
    obtain ⟨e2, h3⟩ := frz_dic (o := .dK vs) h f0 s n od
    exact k _ _ e2 h3 (.dK upd_same (h2.mono e2))
  | dT t =>
    obtain ⟨f0, vs, h1, h2⟩ := h.cell p _ e
    refine .inr ⟨p, _, h1, trivial, fun od => ?_⟩
    obtain ⟨e2, h3⟩ := frz_dic (o := .dT vs) h f0 s n od
    exact k _ _ e2 h3 (.dT upd_same (h2.mono e2))
  | _ =>
    obtain ⟨F2, e2, h2, r2⟩ := frz_go h e s n trivial rfl
    exact .inl (k F2 H e2 h2 r2)
theorem ds_retF (he : PE X e (tE X.K W we)) : PS X (.Return (some e) pos) (tS X.K W (wRetF we)) := PS.imp (ps_fz (ps_ret he)) fun D σ H ⟨F, C, ρ, DE, hs, en, xr, w, er⟩ => ⟨F, C, ρ, _, _, hs, en, xr, w, fun v F1 H1 d C1 e1 h1 r q => by
    cases r <;> first
      | (exact .inl (er.rt _ F1 H1 _ C1 e1 h1 (by constructor <;> assumption) q))
      | (rename_i p
         revert q
         show (match C1 p with | some (.lst ds) => _ | some (.dK ds) => _ | some (.dT ds) => _ | some (.ins Cl ds) => _ | _ => False) → _
         cases ec : C1 p with
         | none => exact fun z => z.elim
         | some c =>
           cases c <;> first | exact fun z => z.elim |
           (rintro ⟨C2, s2, n2, q⟩
            exact frz_any h1 ec s2 n2 fun F2 H2 e2 h2 r2 => er.rt _ F2 H2 _ C2 (e1.trans e2) h2 r2 q))⟩
theorem ds_frz {w : DS} (h : PSs X rest (tS X.K W w)) (i : Nat) : PSs X rest (tS X.K W (wSeq (wFrz i) w)) := PSs.imp (pss_fz h) fun Dn σ H ⟨F, C, ρ, DE, hs, en, xr, q, er⟩ => by
  revert q
  show (match (ρ[i]? : Option (Option D)) with | some (some (.ptr p)) => _ | _ => False) → _
  split
  · rename_i p hp
    obtain ⟨v, hv, rv⟩ := en.2 i _ hp
    cases rv
    show (match C p with | some (.lst ds) => _ | some (.dK ds) => _ | some (.dT ds) => _ | some (.ins Cl ds) => _ | _ => False) → _
    cases ec : C p with
    | none => exact fun z => z.elim
    | some c =>
      cases c <;> first | exact fun z => z.elim |
      (rintro ⟨C2, s2, n2, q⟩
       refine frz_any hs ec s2 n2 fun F2 H2 e2 h2 r2 => ?_
       have en2 := (en.mono e2).set (i := i) r2
       have es : σ.set i (some (.ref p)) = σ := by
         refine List.ext_getElem? fun j => ?_
         by_cases ij : i = j
         · subst ij
           have hl : i < σ.length := by
             rcases Nat.lt_or_ge i σ.length with z | z
             · exact z
             · rw [List.getElem?_eq_none z] at hv; cases hv
           rw [List.getElem?_set_self hl, hv]
         · rw [List.getElem?_set_ne ij]
       rw [es] at en2
       exact ⟨F2, C2, _, DE, h2, en2, xr.mono e2, q, er.mono e2⟩)
  · exact fun z => z.elim
theorem ds_if {c : Expr} {p q : List Stmt} (hc : PT X c (tT X.K W t)) (ha : PSs X p (tS X.K W a)) (hb : PSs X q (tS X.K W b)) : PS X (.If c p q pos) (tS X.K W (wIfS t a b)) := PS.imp (ps_if hc ha hb) fun D σ H ⟨F, C, ρ, DE, hs, en, xr, w, er⟩ =>
  ⟨F, C, ρ, _, _, hs, en, xr, w, fun k F1 H1 C1 e1 h1 q => by
    cases k with
    | true =>
      rw [if_pos rfl] at q
      rw [if_pos rfl]
      exact ⟨F1, C1, ρ, DE, h1, en.mono e1, xr.mono e1, q, er.mono e1⟩
    | false =>
      rw [if_neg Bool.false_ne_true] at q
      rw [if_neg Bool.false_ne_true]
      exact ⟨F1, C1, ρ, DE, h1, en.mono e1, xr.mono e1, q, er.mono e1⟩⟩
end

/-! ### targets -/
inductive Tgt where
  | name (i : Nat)
  | tup (ts : List Tgt)
mutual
def Tgt.tg (K : PySem.W.Frag) : Tgt → TG
  | .name i => gName i
  | .tup ts => gTup K ts.length (tgs K ts)
def tgs (K : PySem.W.Frag) : List Tgt → TGs
  | [] => gNil
  | t :: r => gCons (t.tg K) (tgs K r)
end
mutual
def Tgt.dg : Tgt → D → DEnv → Option DEnv
  | .name i, d, ρ => some (ρ.set i (some d))
  | .tup ts, d, ρ => match d with
    | .tup ds => dgs ts ds ρ
    | .ktup ds => dgs ts ds ρ
    | _ => none
def dgs : List Tgt → List D → DEnv → Option DEnv
  | [], ds, ρ => match ds with
    | [] => some ρ
    | _ => none
  | t :: r, ds, ρ => match ds with
    | d :: ds => match t.dg d ρ with
      | some ρ' => dgs r ds ρ'
      | none => none
    | [] => none
end
mutual
def Tgt.slots : Tgt → List Nat
  | .name i => [i]
  | .tup ts => slotsAll ts
def slotsAll : List Tgt → List Nat
  | [] => []
  | t :: r => t.slots ++ slotsAll r
end
theorem wipe_at (σ : L2.St) : ∀ (vs : List Nat) (j : Nat), (wipe σ vs)[j]? = if j ∈ vs then (σ[j]?).map (fun _ => none) else σ[j]?
  | [], j => by simp [wipe]
  | v :: vs, j => by
    show ((wipe σ vs).set v none)[j]? = _
    rw [List.getElem?_set, wipe_at σ vs j, wipe_length]
    by_cases h : v = j
    · subst h
      rw [if_pos rfl, if_pos (List.mem_cons_self)]
      by_cases hl : v < σ.length
      · rw [if_pos hl, List.getElem?_eq_getElem hl]; rfl
      · rw [if_neg hl, List.getElem?_eq_none (by omega)]; rfl
    · rw [if_neg h]
      by_cases hm : j ∈ vs
      · rw [if_pos hm, if_pos (List.mem_cons_of_mem _ hm)]
      · rw [if_neg hm, if_neg (by simp only [List.mem_cons, not_or]; exact ⟨fun e => h e.symm, hm⟩)]
theorem wipe_set {σ : L2.St} {vs : List Nat} {i : Nat} {x : Option V} (h : i ∈ vs) : wipe (σ.set i x) vs = wipe σ vs := by
  refine List.ext_getElem? fun j => ?_
  rw [wipe_at, wipe_at]
  by_cases hj : j ∈ vs
  · rw [if_pos hj, if_pos hj, List.getElem?_set]
    by_cases e : i = j
    · subst e
      rw [if_pos rfl]
      by_cases hl : i < σ.length
      · rw [if_pos hl, List.getElem?_eq_getElem hl]; rfl
      · rw [if_neg hl, List.getElem?_eq_none (by omega)]
    · rw [if_neg e]
  · rw [if_neg hj, if_neg hj, List.getElem?_set_ne (fun e => hj (by rw [← e]; exact h))]
theorem wipe_wipe (σ : L2.St) (vs : List Nat) : wipe (wipe σ vs) vs = wipe σ vs := by
  refine List.ext_getElem? fun j => ?_
  rw [wipe_at, wipe_at]
  by_cases hj : j ∈ vs
  · rw [if_pos hj, if_pos hj]
    cases σ[j]? <;> rfl
  · rw [if_neg hj, if_neg hj]
section
variable {K : PySem.W.Frag} {F H : Hp}
mutual
theorem tg_ok {Q : L2.St → Hp → Prop} : ∀ (t : Tgt) {v : V} {d : D} {σ : L2.St} {ρ ρ' : DEnv}, Ex F H → Rep K F v d → EnvR K F σ ρ → t.dg d ρ = some ρ' → (∀ σ', EnvR K F σ' ρ' → (∀ vs, (∀ i ∈ t.slots, i ∈ vs) → wipe σ' vs = wipe σ vs) → Q σ' H) → (t.tg K) v σ H Q
  | .name i, v, d, σ, ρ, ρ', ex, r, en, h, k => by
    simp only [Tgt.dg, Option.some.injEq] at h
    subst h
    show Q (σ.set i (some v)) H
    exact k _ (en.set r) fun vs hv => wipe_set (hv i (by simp [Tgt.slots]))
  | .tup ts, v, d, σ, ρ, ρ', ex, r, en, h, k => by
    simp only [Tgt.dg] at h
    cases r <;> first | (simp at h; done) | skip
    · rename_i a xs ds hq hr
      simp only at h
      simp only [Tgt.tg]
      refine ⟨a, xs, rfl, .of (ex.nd hq rfl), ?_, tgs_ok ts ex hr en h (fun σ' e' hw => k σ' e' (by simpa only [Tgt.slots] using hw))⟩
      rw [hr.length]
      exact dgs_len ts h
    · rename_i a xs ds hq hr
      simp only at h
      simp only [Tgt.tg]
      refine ⟨a, xs, rfl, ex_t ex hq, ?_, tgs_ok ts ex hr en h (fun σ' e' hw => k σ' e' (by simpa only [Tgt.slots] using hw))⟩
      rw [hr.length]
      exact dgs_len ts h
theorem tgs_ok {Q : L2.St → Hp → Prop} : ∀ (ts : List Tgt) {vs : List V} {ds : List D} {σ : L2.St} {ρ ρ' : DEnv}, Ex F H → RepL K F vs ds → EnvR K F σ ρ → dgs ts ds ρ = some ρ' → (∀ σ', EnvR K F σ' ρ' → (∀ ws, (∀ i ∈ slotsAll ts, i ∈ ws) → wipe σ' ws = wipe σ ws) → Q σ' H) → (tgs K ts) vs σ H Q
  | [], vs, ds, σ, ρ, ρ', ex, r, en, h, k => by
    cases r with
    | nil =>
      simp only [dgs, Option.some.injEq] at h
      subst h
      simp only [tgs]
      exact ⟨rfl, k σ en fun _ _ => rfl⟩
    | cons _ _ => simp [dgs] at h
  | t :: rest, vs, ds, σ, ρ, ρ', ex, r, en, h, k => by
    cases r with
    | nil => simp [dgs] at h
    | cons r1 r2 =>
      simp only [dgs] at h
      split at h
      · rename_i ρ1 h1
        simp only [tgs]
        refine ⟨_, _, rfl, tg_ok t ex r1 en h1 fun σ1 en1 hw1 => tgs_ok rest ex r2 en1 h fun σ2 en2 hw2 => k σ2 en2 fun ws hin => ?_⟩
        simp only [slotsAll, List.mem_append] at hin
        rw [hw2 ws (fun i hi => hin i (.inr hi)), hw1 ws (fun i hi => hin i (.inl hi))]
      · cases h
theorem dgs_len : ∀ (ts : List Tgt) {ds : List D} {ρ ρ' : DEnv}, dgs ts ds ρ = some ρ' → ds.length = ts.length
  | [], ds, ρ, ρ', h => by
    cases ds with
    | nil => rfl
    | cons _ _ => simp [dgs] at h
  | t :: rest, ds, ρ, ρ', h => by
    cases ds with
    | nil => simp [dgs] at h
    | cons d ds =>
      simp only [dgs] at h
      split at h
      · exact congrArg (· + 1) (dgs_len rest h)
      · cases h
end
end
section
variable {X : Cx} {pos : Pos}
theorem dg_name {x : Str} (i : Nat) (hN : X.N.Nodup) (hi : X.N[i]? = some x := by rfl) (hx : Loc X.env.scope x := by first | exact Or.inl rfl | exact Or.inr rfl) (hf : X.fn x = true ∨ X.env.scope.names.lookup x = some .local := by first | exact .inl rfl | exact .inr rfl | assumption) : PG X (.Name x pos) (Tgt.tg X.K (.name i)) := by
  simp only [Tgt.tg]
  exact pg_name hN hi hx hf
theorem dgs_nil : PGs X [] (tgs X.K []) := by
  simp only [tgs]
  exact pgs_nil
theorem dgs_cons {e : Expr} {es : List Expr} {t : Tgt} {r : List Tgt} (h1 : PG X e (t.tg X.K)) (h2 : PGs X es (tgs X.K r))
    (hs : (assignEach (e :: es) X.env).map (·.2) = assign e X.env :: (assignEach es X.env).map (·.2) := by rfl) : PGs X (e :: es) (tgs X.K (t :: r)) := by
  simp only [tgs]
  exact pgs_cons h1 h2 hs
theorem dg_tup {es : List Expr} {k : Nat} {ts : List Tgt} (hc : X.calm = true) (h : PGs X es (tgs X.K ts))
    (hn : (assignEach es X.env).length = ts.length := by rfl) (hst : (assignEach es X.env).findIdx? (·.1) = none := by rfl) : PG X (.Tuple es k pos) (Tgt.tg X.K (.tup ts)) := by
  simp only [Tgt.tg]
  exact pg_tup hc h hn hst
end
/-- target = e -/
def wAsg (e : DE) (t : Tgt) (E : DEnds) (ρ : DEnv) (C : Cells) : Prop := e ρ C (fun d C1 => match t.dg d ρ with | some ρ' => E.nx ρ' C1 | none => False) E.ex
def wSet (i : Nat) (e : DE) (E : DEnds) (ρ : DEnv) (C : Cells) : Prop := e ρ C (fun d C1 => E.nx (ρ.set i (some d)) C1) E.ex
/-- name op= e -/
def wAug (i : Nat) (e : DE) (r : DR2) (E : DEnds) (ρ : DEnv) (C : Cells) : Prop := match (ρ[i]? : Option (Option D)) with
  | some (some x) => e ρ C (fun y C1 => r x y C1 (fun z C2 => E.nx (ρ.set i (some z)) C2)) E.ex
  | _ => False
section
variable {X : Cx} {W : WX} {K : PySem.W.Frag} {e : Expr} {we : DE} {pos : Pos}
theorem ds_asg {tg : Expr} {t : Tgt} (he : PE X e (tE X.K W we)) (hg : PG X tg (t.tg X.K)) (hs : swapsWithSole [tg] e pos.line X.env = pure false := by rfl) (hw : swappedStores [tg] e X.env = pure none := by rfl)
    (h1 : (assignEach [tg] X.env).map (·.2) = [assign tg X.env] := by rfl) : PS X (.Assign [tg] e pos) (tS X.K W (wAsg we t)) := PS.imp (ps_asg he hg hs hw h1) fun D σ H ⟨F, C, ρ, DE, hs, en, xr, w, er⟩ =>
  ⟨F, C, ρ, _, _, hs, en, xr, w, fun v F1 H1 d C1 e1 h1 r q => by
    revert q
    dsimp only
    split
    · rename_i ρ' hd
      exact fun q => tg_ok t h1.ex r (en.mono e1) hd fun σ' en' _ => er.nx σ' F1 H1 ρ' C1 e1 h1 en' q
    · exact fun z => z.elim⟩
/-- name = e -/
theorem ds_set (i : Nat) {x : Str} {pos' : Pos} (hN : X.N.Nodup) (he : PE X e (tE X.K W we)) (hi : X.N[i]? = some x := by rfl) (hx : Loc X.env.scope x := by first | exact Or.inl rfl | exact Or.inr rfl) (hs : swapsWith e (some (.Name x pos')) pos.line X.env = pure false := by rfl) (hf : X.fn x = true ∨ X.env.scope.names.lookup x = some .local := by first | exact .inl rfl | exact .inr rfl | assumption) :
    PS X (.Assign [.Name x pos'] e pos) (tS X.K W (wSet i we)) := PS.imp (ps_set hN hi hx he hs hf) fun D σ H ⟨F, C, ρ, DE, hs, en, xr, w, er⟩ =>
  ⟨F, C, ρ, _, _, hs, en, xr, w, fun v F1 H1 d C1 e1 h1 r q => er.nx _ F1 H1 _ C1 e1 h1 ((en.mono e1).set r) q⟩
theorem ds_aug (i : Nat) {x : Str} {op : Operator} {ti : TIp} {rd : DR2} {pos' : Pos} (hN : X.N.Nodup) (ho : PIp X op ti) (hr : SimR X.K ti rd) (he : PE X e (tE X.K W we)) (hi : X.N[i]? = some x := by rfl) (hx : Loc X.env.scope x := by first | exact Or.inl rfl | exact Or.inr rfl) (hf : X.fn x = true ∨ X.env.scope.names.lookup x = some .local := by first | exact .inl rfl | exact .inr rfl | assumption) :
    PS X (.AugAssign (.Name x pos') op e pos) (tS X.K W (wAug i we rd)) := PS.imp (ps_aug hN hi hx he ho hf) fun Dn σ H ⟨F, C, ρ, DE, hs, en, xr, w, er⟩ => by
  revert w
  show (match (ρ[i]? : Option (Option D)) with | some (some x) => _ | _ => False) → _
  split
  · rename_i x hx
    intro w
    obtain ⟨v, hv, rv⟩ := en.2 i _ hx
    exact ⟨v, hv, F, C, ρ, _, _, hs, en, xr, w, fun u F1 H1 d C1 e1 h1 r q => hr F1 C1 H1 v u x d _ _ h1 (rv.mono e1) r q fun z F2 H2 dz C2 e2 h2 rz q2 => er.nx _ F2 H2 _ C2 (e1.trans e2) h2 ((en.mono (e1.trans e2)).set rz) q2⟩
  · exact fun z => z.elim
theorem s_ipAdd : SimR K (ipI fun i j => i + j) dAdd := fun F C H x y dx dy P Q hs rx ry w k => by
  cases rx <;> cases ry <;> first | exact w.elim | exact ⟨_, _, rfl, rfl, k _ F H _ C (Ex.refl F) hs (.int _) w⟩
theorem s_ipSub : SimR K (ipI fun i j => i - j) dSub := fun F C H x y dx dy P Q hs rx ry w k => by
  cases rx <;> cases ry <;> first | exact w.elim | exact ⟨_, _, rfl, rfl, k _ F H _ C (Ex.refl F) hs (.int _) w⟩
end

/-! ### what is walked -/
structure DIt where
  items : List D
  still : Cells → Prop
abbrev DI := DEnv → Cells → (DIt → Cells → Prop) → DX → Prop
def ItR (K : PySem.W.Frag) (F : Hp) (J : It) (Jd : DIt) : Prop := ∀ F' H C, Ex F F' → Hs K F' C H → Jd.still C →
  (∀ (i : Nat) (d : D), Jd.items[i]? = some d → J.go i H ∧ ∀ x H', J.yld i H x H' → ∃ F'', Ex F' F'' ∧ Hs K F'' C H' ∧ Rep K F'' x d) ∧ J.stop Jd.items.length H
theorem ItR.mono {K : PySem.W.Frag} {F F' : Hp} {J : It} {Jd : DIt} (e : Ex F F') (h : ItR K F J Jd) : ItR K F' J Jd := fun F1 H C e1 => h F1 H C (e.trans e1)
def tI (K : PySem.W.Frag) (W : WX) (w : DI) : TI := fun σ H R => ∃ F C ρ P PX, Hs K F C H ∧ EnvR K F σ ρ ∧ ExR K F W PX ∧ w ρ C P PX ∧ ∀ J F' H' Jd C', Ex F F' → Hs K F' C' H' → ItR K F' J Jd → P Jd C' → R J H'
theorem PI.imp {X : Cx} {tg it : Expr} {t t' : TI} (h : PI X tg it t) (i : ∀ σ H R, t' σ H R → t σ H R) : PI X tg it t' := ⟨fun pins s σ H R I w => h.run pins s σ H R I (i σ H R w)⟩
def frozen : Cells → Prop := fun _ => True
/-- a list, frozen or a cell -/
def wItL (e : DE) (ρ : DEnv) (C : Cells) (P : DIt → Cells → Prop) (PX : DX) : Prop := e ρ C (fun d C1 => match d with
  | .lst ds => P ⟨ds, frozen⟩ C1
  | .ptr a => match C1 a with
    | some (.lst ds) => P ⟨ds, fun C' => C' a = some (.lst ds)⟩ C1
    | _ => False
  | _ => False) PX
def wItT (e : DE) (ρ : DEnv) (C : Cells) (P : DIt → Cells → Prop) (PX : DX) : Prop := e ρ C (fun d C1 => match d with
  | .tup ds => P ⟨ds, frozen⟩ C1
  | .ktup ds => P ⟨ds, frozen⟩ C1
  | _ => False) PX
def rngD (lo : Int) (n : Nat) : List D := (List.range n).map fun (k : Nat) => D.int (lo + (k : Int))
def wRng1 (a : DA) (ρ : DEnv) (C : Cells) (P : DIt → Cells → Prop) (PX : DX) : Prop := a ρ C (fun ds C1 => match ds with
  | [.int j] => (-(2 ^ 62) ≤ j ∧ j < 2 ^ 62) ∧ P ⟨rngD 0 j.toNat, frozen⟩ C1
  | _ => False) PX
def wRng2 (a : DA) (ρ : DEnv) (C : Cells) (P : DIt → Cells → Prop) (PX : DX) : Prop := a ρ C (fun ds C1 => match ds with
  | [.int i, .int j] => (-(2 ^ 62) ≤ i ∧ i < 2 ^ 62 ∧ -(2 ^ 62) ≤ j ∧ j < 2 ^ 62) ∧ P ⟨rngD i (j - i).toNat, frozen⟩ C1
  | _ => False) PX
theorem rngD_len (lo : Int) (n : Nat) : (rngD lo n).length = n := by simp [rngD]
theorem rngD_get {lo : Int} {n i : Nat} {d : D} (h : (rngD lo n)[i]? = some d) : i < n ∧ d = .int (lo + (i : Int)) := by
  unfold rngD at h
  rw [List.getElem?_map] at h
  rcases Nat.lt_or_ge i n with z | z
  · rw [List.getElem?_range z] at h
    exact ⟨z, (Option.some.inj h).symm⟩
  · rw [List.getElem?_eq_none (by simpa using z)] at h; cases h
section
variable {X : Cx} {W : WX} {K : PySem.W.Frag} {e tg : Expr} {we : DE} {wr : DA} {pos : Pos}
theorem itr_lst {F : Hp} {a : Addr} {xs : List V} {ds : List D} (h : SqL K F a xs) (r : RepL K F xs ds) : ItR K F (Itl K a) ⟨ds, frozen⟩ := fun F' H C e hs _ => by
  have hH : SqL K H a xs := ex_l hs.ex (ex_l e h)
  refine ⟨fun i d hd => ?_, ⟨xs, hH, by rw [r.length]; exact Nat.le_refl _⟩⟩
  obtain ⟨v, hv, rv⟩ := r.get hd
  refine ⟨⟨xs, v, hH, hv⟩, fun x H' y => ?_⟩
  obtain ⟨rfl, y⟩ := y
  have := y xs hH
  rw [hv] at this
  cases this
  exact ⟨F', Ex.refl _, hs, rv.mono e⟩
theorem itr_cell {F : Hp} {a : Addr} {ds : List D} : ItR K F (Itl K a) ⟨ds, fun C' => C' a = some (.lst ds)⟩ := fun F' H C e hs hc => by
  obtain ⟨_, xs, hx, r⟩ := hs.cell a _ hc
  have hH : SqL K H a xs := .of hx
  refine ⟨fun i d hd => ?_, ⟨xs, hH, by rw [r.length]; exact Nat.le_refl _⟩⟩
  obtain ⟨v, hv, rv⟩ := r.get hd
  refine ⟨⟨xs, v, hH, hv⟩, fun x H' y => ?_⟩
  obtain ⟨rfl, y⟩ := y
  have := y xs hH
  rw [hv] at this
  cases this
  exact ⟨F', Ex.refl _, hs, rv⟩
theorem itr_tup {F : Hp} {a : Addr} {xs : List V} {ds : List D} (h : SqT K F a xs) (r : RepL K F xs ds) : ItR K F (Itt K a) ⟨ds, frozen⟩ := fun F' H C e hs _ => by
  have hH : SqT K H a xs := ex_t hs.ex (ex_t e h)
  refine ⟨fun i d hd => ?_, ⟨xs, hH, by rw [r.length]; exact Nat.le_refl _⟩⟩
  obtain ⟨v, hv, rv⟩ := r.get hd
  refine ⟨⟨xs, v, hH, hv⟩, fun x H' y => ?_⟩
  obtain ⟨rfl, y⟩ := y
  have := y xs hH
  rw [hv] at this
  cases this
  exact ⟨F', Ex.refl _, hs, rv.mono e⟩
theorem itr_rng {F : Hp} {lo : Int} {n : Nat} : ItR K F (Itr lo n) ⟨rngD lo n, frozen⟩ := fun F' H C e hs _ => by
  refine ⟨fun i d hd => ?_, by show n ≤ (rngD lo n).length; rw [rngD_len]; exact Nat.le_refl _⟩
  obtain ⟨hi, rfl⟩ := rngD_get hd
  refine ⟨hi, fun x H' y => ?_⟩
  obtain ⟨rfl, rfl⟩ := y
  exact ⟨F', Ex.refl _, hs, .int _⟩
theorem di_list (he : PE X e (tE X.K W we)) : PI X tg e (tI X.K W (wItL we)) := PI.imp (pi_list he) fun σ H R ⟨F, C, ρ, P, PX, hs, en, xr, w, k⟩ =>
  ⟨F, C, ρ, _, PX, hs, en, xr, w, fun v F1 H1 d C1 e1 h1 r q => by
    cases r <;> first | exact q.elim | skip
    · rename_i a xs ds hq hr
      exact ⟨a, rfl, ⟨xs, ex_l h1.ex hq⟩, k _ F1 H1 _ C1 e1 h1 (itr_lst hq hr) q⟩
    · rename_i a
      revert q
      dsimp only
      split
      · rename_i ds hc
        intro q
        obtain ⟨_, xs, hx, r⟩ := h1.cell a _ hc
        exact ⟨a, rfl, ⟨xs, .of hx⟩, k _ F1 H1 _ C1 e1 h1 itr_cell q⟩
      · exact fun z => z.elim⟩
theorem di_tup (he : PE X e (tE X.K W we)) : PI X tg e (tI X.K W (wItT we)) := PI.imp (pi_tup he) fun σ H R ⟨F, C, ρ, P, PX, hs, en, xr, w, k⟩ =>
  ⟨F, C, ρ, _, PX, hs, en, xr, w, fun v F1 H1 d C1 e1 h1 r q => by
    cases r <;> first | exact q.elim | skip
    · rename_i a xs ds hq hr
      exact ⟨a, rfl, ⟨xs, .of (h1.ex.nd hq rfl)⟩, k _ F1 H1 _ C1 e1 h1 (itr_tup (.of hq) hr) q⟩
    · rename_i a xs ds hq hr
      exact ⟨a, rfl, ⟨xs, ex_t h1.ex hq⟩, k _ F1 H1 _ C1 e1 h1 (itr_tup hq hr) q⟩⟩
theorem di_rng1 {a : Expr} {p : Pos} (hg : Gl X "range") (hm : X.mg "range" = none) (ha : PA X [a] (tA X.K W wr)) (hs : starEach [a] X.env = [(false, eval a X.env)] := by rfl) : PI X tg (.Call (.Name "range" p) [a] [] pos) (tI X.K W (wRng1 wr)) :=
  PI.imp (pi_range1 hg hm ha hs) fun σ H R ⟨F, C, ρ, P, PX, hs, en, xr, w, k⟩ => ⟨F, C, ρ, _, PX, hs, en, xr, w, fun v F1 H1 d C1 e1 h1 r q => by
    revert q
    dsimp only
    split
    · intro q
      rename_i j
      cases r with
      | cons r1 r2 =>
        cases r1; cases r2
        exact ⟨j, rfl, q.1.1, q.1.2, k _ F1 H1 _ C1 e1 h1 itr_rng q.2⟩
    · exact fun z => z.elim⟩
theorem di_rng2 {a b : Expr} {p : Pos} (hg : Gl X "range") (hm : X.mg "range" = none) (ha : PA X [a, b] (tA X.K W wr)) (hs : starEach [a, b] X.env = [(false, eval a X.env), (false, eval b X.env)] := by rfl) (hs2 : starEach [b] X.env = [(false, eval b X.env)] := by rfl) : PI X tg (.Call (.Name "range" p) [a, b] [] pos) (tI X.K W (wRng2 wr)) :=
  PI.imp (pi_range2 hg hm ha hs hs2) fun σ H R ⟨F, C, ρ, P, PX, hs, en, xr, w, k⟩ => ⟨F, C, ρ, _, PX, hs, en, xr, w, fun v F1 H1 d C1 e1 h1 r q => by
    revert q
    dsimp only
    split
    · intro q
      rename_i i j
      cases r with
      | cons r1 r2 =>
        cases r1
        cases r2 with
        | cons r2 r3 =>
          cases r2; cases r3
          exact ⟨i, j, rfl, q.1, k _ F1 H1 _ C1 e1 h1 itr_rng q.2⟩
    · exact fun z => z.elim⟩
end

/-! ### loops -/
def ForG (J : DIt) (t : Tgt) (b : DS) (E : DEnds) (ρ : DEnv) (C1 : Cells) : Prop := ∃ Inv : Nat → DEnv → Cells → Prop, Inv 0 ρ C1 ∧ (∀ i ρ' C', Inv i ρ' C' → J.still C') ∧
  (∀ i d ρ' C', J.items[i]? = some d → Inv i ρ' C' → match t.dg d ρ' with
    | some ρ2 => b { nx := Inv (i + 1), ct := Inv (i + 1), bk := E.nx, rt := E.rt, ex := E.ex } ρ2 C'
    | none => False) ∧
  (∀ ρ' C', Inv J.items.length ρ' C' → E.nx ρ' C')
def wFor (wi : DI) (t : Tgt) (b : DS) (E : DEnds) (ρ : DEnv) (C : Cells) : Prop := wi ρ C (fun J C1 => ForG J t b E ρ C1) E.ex
def wWhile (t : DT) (b : DS) (E : DEnds) (ρ : DEnv) (C : Cells) : Prop := ∃ Inv : Nat → DEnv → Cells → Prop, (∃ m, Inv m ρ C) ∧ ∀ m ρ' C', Inv m ρ' C' → t ρ' C' (fun k C1 => if k = true then
    b { nx := fun ρ2 C2 => ∃ m', m' < m ∧ Inv m' ρ2 C2, ct := fun ρ2 C2 => ∃ m', m' < m ∧ Inv m' ρ2 C2, bk := E.nx, rt := E.rt, ex := E.ex } ρ' C1 else E.nx ρ' C1) E.ex
section
variable {X : Cx} {W : WX} {wb : DS} {pos : Pos}
theorem ds_for {tg iter : Expr} {body : List Stmt} {wi : DI} {t : Tgt} (hp : PassesOwn (model X.prog X.w) X.A X.env X.xe) (hc : X.calm = true) (hi : PI X tg iter (tI X.K W wi)) (hg : PG X tg (t.tg X.K)) (hb : PSs X body (tS X.K W wb))
    (hs : ∀ x, foldedSetIterable iter X.env x = pure x := by intro _; rfl) : PS X (.For tg iter body [] pos) (tS X.K W (wFor wi t wb)) := PS.imp (ps_for hp hc hi hg hb hs) fun D σ H ⟨F, C, ρ, DE, hs, en, xr, w, er⟩ =>
  ⟨F, C, ρ, _, _, hs, en, xr, w, fun J F1 H1 Jd C1 e1 h1 ir q => by
    obtain ⟨Inv, i0, st, turn, done⟩ := q
    refine ⟨fun i m σ' H' => m = Jd.items.length - i ∧ i ≤ Jd.items.length ∧ ∃ F' ρ' C', Ex F1 F' ∧ Hs X.K F' C' H' ∧ EnvR X.K F' σ' ρ' ∧ Inv i ρ' C', ⟨_, rfl, Nat.zero_le _, F1, ρ, C1, Ex.refl _, h1, en.mono e1, i0⟩, ?_⟩
    rintro i m σ' H' ⟨rfl, hl, F', ρ', C', e', h', n', p⟩
    obtain ⟨go, stop⟩ := ir F' H' C' e' h' (st i ρ' C' p)
    by_cases hi : i = Jd.items.length
    · subst hi
      exact .inl ⟨stop, er.nx σ' F' H' ρ' C' (e1.trans e') h' n' (done ρ' C' p)⟩
    · have hlt : i < Jd.items.length := by omega
      have hd : Jd.items[i]? = some Jd.items[i] := List.getElem?_eq_getElem hlt
      obtain ⟨g1, g2⟩ := go i _ hd
      have q := turn i _ ρ' C' hd p
      refine .inr ⟨g1, fun σ2 H2 => ∃ F2 ρ2 C2, Ex F' F2 ∧ Hs X.K F2 C2 H2 ∧ EnvR X.K F2 σ2 ρ2 ∧ Inv (i + 1) ρ2 C2, ?_, ?_⟩
      · rintro σ2 H2 ⟨F2, ρ2, C2, e2, h2, n2, p2⟩
        exact ⟨_, by omega, rfl, hlt, F2, ρ2, C2, e'.trans e2, h2, n2, p2⟩
      · intro x H2 hy
        obtain ⟨F2, e2, h2, rx⟩ := g2 x H2 hy
        revert q
        split
        · rename_i ρ2 hdg
          intro q
          refine tg_ok t h2.ex rx (n'.mono e2) hdg fun σ2 en2 _ => ?_
          exact ⟨F2, C', ρ2, { nx := Inv (i + 1), ct := Inv (i + 1), bk := DE.nx, rt := DE.rt, ex := DE.ex }, h2, en2, xr.mono ((e1.trans e').trans e2), q, ⟨fun σ3 F3 H3 ρ3 C3 e3 h3 n3 p3 => ⟨F3, ρ3, C3, e2.trans e3, h3, n3, p3⟩, er.rt.mono ((e1.trans e').trans e2), er.nx.mono ((e1.trans e').trans e2), fun σ3 F3 H3 ρ3 C3 e3 h3 n3 p3 => ⟨F3, ρ3, C3, e2.trans e3, h3, n3, p3⟩⟩⟩
        · exact fun z => z.elim⟩
theorem ds_while {c : Expr} {body : List Stmt} {t : DT} (hp : PassesOwn (model X.prog X.w) X.A X.env X.xe) (hc : PT X c (tT X.K W t)) (hb : PSs X body (tS X.K W wb)) : PS X (.While c body [] pos) (tS X.K W (wWhile t wb)) := PS.imp (ps_while hp hc hb) fun D σ H ⟨F, C, ρ, DE, hs, en, xr, w, er⟩ => by
  obtain ⟨Inv, ⟨m0, i0⟩, turn⟩ := w
  refine ⟨fun m σ' H' => ∃ F' ρ' C', Ex F F' ∧ Hs X.K F' C' H' ∧ EnvR X.K F' σ' ρ' ∧ Inv m ρ' C', ⟨m0, F, ρ, C, Ex.refl _, hs, en, i0⟩, ?_⟩
  rintro m σ' H' ⟨F', ρ', C', e', h', n', p⟩
  refine ⟨F', C', ρ', _, _, h', n', xr.mono e', turn m ρ' C' p, fun k F1 H1 C1 e1 h1 q => ?_⟩
  cases k with
  | true =>
    rw [if_pos rfl] at q
    rw [if_pos rfl]
    refine ⟨fun σ2 H2 => ∃ m', m' < m ∧ ∃ F2 ρ2 C2, Ex F F2 ∧ Hs X.K F2 C2 H2 ∧ EnvR X.K F2 σ2 ρ2 ∧ Inv m' ρ2 C2, fun _ _ z => z, ?_⟩
    exact ⟨F1, C1, ρ', { nx := fun ρ2 C2 => ∃ m', m' < m ∧ Inv m' ρ2 C2, ct := fun ρ2 C2 => ∃ m', m' < m ∧ Inv m' ρ2 C2, bk := DE.nx, rt := DE.rt, ex := DE.ex }, h1, n'.mono e1, xr.mono (e'.trans e1), q, ⟨fun σ3 F3 H3 ρ3 C3 e3 h3 n3 ⟨m', hm, p3⟩ => ⟨m', hm, F3, ρ3, C3, (e'.trans e1).trans e3, h3, n3, p3⟩, er.rt.mono (e'.trans e1), er.nx.mono (e'.trans e1), fun σ3 F3 H3 ρ3 C3 e3 h3 n3 ⟨m', hm, p3⟩ => ⟨m', hm, F3, ρ3, C3, (e'.trans e1).trans e3, h3, n3, p3⟩⟩⟩
  | false =>
    rw [if_neg Bool.false_ne_true] at q
    rw [if_neg Bool.false_ne_true]
    exact er.nx σ' F1 H1 ρ' C1 (e'.trans e1) h1 (n'.mono e1) q
end
end DD

set_option Elab.async false
set_option linter.all false
set_option maxRecDepth 100000
set_option maxHeartbeats 4000000
/-! Readings over data: calls of defs, classes, attributes; a def keeps its promise. -/
namespace DD
open PySem L2 PyProof.Rows

abbrev DSp := List D → Cells → DK → Prop
abbrev XC := Value → List (String × D) → Cells → Prop
abbrev DSpX := List D → Cells → DK → XC → Prop
def KontX (K : PySem.W.Frag) (F : Hp) (PX : XC) (E : XK) : Prop := ∀ cls d fs F' H C, Ex F F' → Hs K F' C H → XRep K F' H d fs → PX cls fs C → E cls d H
/-- a promise over data; of a def that may raise -/
def spD (K : PySem.W.Frag) (R : DSp) : Sp := fun vs H Q _ => ∃ F C ds P, Hs K F C H ∧ RepL K F vs ds ∧ R ds C P ∧ Kont K F P Q
def spX (K : PySem.W.Frag) (R : DSpX) : Sp := fun vs H Q E => ∃ F C ds P PX, Hs K F C H ∧ RepL K F vs ds ∧ R ds C P PX ∧ Kont K F P Q ∧ KontX K F PX E

/-! ### calls -/
def wCall (R : DSp) (dd : List D) (a : DA) (ρ : DEnv) (C : Cells) (P : DK) (PX : DX) : Prop := a ρ C (fun ds C1 => R (ds ++ dd) C1 P) PX
def wCallX (R : DSpX) (dd : List D) (a : DA) (ρ : DEnv) (C : Cells) (P : DK) (PX : DX) : Prop := a ρ C (fun ds C1 => R (ds ++ dd) C1 P (fun cls fs C2 => PX cls fs ρ C2)) PX
/-- it is an instance of the class at Cl without an attribute of this name of its own -/
def isIns (Cl : Addr) (m : String) (o : D) (C : Cells) : Prop := match o with
  | .ins c fs => c = Cl ∧ fs.lookup m = none
  | .ptr p => match C p with
    | some (.ins c fs) => c = Cl ∧ fs.lookup m = none
    | _ => False
  | _ => False
def wMeth (Cl : Addr) (m : String) (R : DSp) (dd : List D) (o : DE) (a : DA) (ρ : DEnv) (C : Cells) (P : DK) (PX : DX) : Prop := o ρ C (fun x C1 => isIns Cl m x C1 ∧ a ρ C1 (fun ds C2 => R (x :: (ds ++ dd)) C2 P) PX) PX
def wMethX (Cl : Addr) (m : String) (R : DSpX) (dd : List D) (o : DE) (a : DA) (ρ : DEnv) (C : Cells) (P : DK) (PX : DX) : Prop := o ρ C (fun x C1 => isIns Cl m x C1 ∧ a ρ C1 (fun ds C2 => R (x :: (ds ++ dd)) C2 P (fun cls fs C3 => PX cls fs ρ C3)) PX) PX
/-- a new instance: a cell; one that does not change any more behind __init__ -/
def wMake (Cl : Addr) (R : DSp) (dd : List D) (a : DA) (ρ : DEnv) (C : Cells) (P : DK) (PX : DX) : Prop := a ρ C (fun ds C1 => ∀ p, C1 p = none → R (.ptr p :: (ds ++ dd)) (cput C1 p (.ins Cl [])) (fun r C2 => r = .non ∧ P (.ptr p) C2)) PX
def frzP (P : DK) (p : Addr) (C2 : Cells) : Prop := match C2 p with
  | some (.ins c fs) => ∃ C3, Sub C3 C2 ∧ C3 p = none ∧ P (.ins c fs) C3
  | _ => False
def wMakeF (Cl : Addr) (R : DSp) (dd : List D) (a : DA) (ρ : DEnv) (C : Cells) (P : DK) (PX : DX) : Prop := a ρ C (fun ds C1 => ∀ p, C1 p = none → R (.ptr p :: (ds ++ dd)) (cput C1 p (.ins Cl [])) (fun r C2 => r = .non ∧ frzP P p C2)) PX
def wMakeX (Cl : Addr) (R : DSpX) (dd : List D) (a : DA) (ρ : DEnv) (C : Cells) (P : DK) (PX : DX) : Prop := a ρ C (fun ds C1 => ∀ p, C1 p = none → R (.ptr p :: (ds ++ dd)) (cput C1 p (.ins Cl [])) (fun r C2 => r = .non ∧ P (.ptr p) C2) (fun cls fs C3 => PX cls fs ρ C3)) PX
def wMakeXF (Cl : Addr) (R : DSpX) (dd : List D) (a : DA) (ρ : DEnv) (C : Cells) (P : DK) (PX : DX) : Prop := a ρ C (fun ds C1 => ∀ p, C1 p = none → R (.ptr p :: (ds ++ dd)) (cput C1 p (.ins Cl [])) (fun r C2 => r = .non ∧ frzP P p C2) (fun cls fs C3 => PX cls fs ρ C3)) PX

section
variable {X : Cx} {W : WX} {K : PySem.W.Frag} {k : Nat} {f Cl : Addr} {fd : FuncData} {ps : List Str} {R : DSp} {RX : DSpX} {dvs : List V} {dd : List D} {dsv : List Value} {x m : Str} {p pos apos : Pos} {e o : Expr} {es : List Expr} {wa : DE} {wr : DA}
theorem KontX.of {F : Hp} {W : WX} {PX : DX} {σ : L2.St} {ρ : DEnv} (xr : ExR K F W PX) (en : EnvR K F σ ρ) : KontX K F (fun cls fs C2 => PX cls fs ρ C2) (WE W σ) :=
  fun cls d fs F' H C e hs r q => xr cls d fs σ F' H ρ C e hs (en.mono e) r q
theorem d_call (G : FnOk X.prog X.w X.K X.mg X.base CX0 k f fd ps (spD X.K R)) (hr : Room k X.A) (hm : X.mg x = some (.ref f)) (hk : PySem.W.keepIn X.K (.ref f) = true) (hb : Binds X.K fd ps dsv) (ha : PA X (e :: es) (tA X.K W wr)) (hd : Vals dvs dsv := by exact .nil) (hdd : ∀ F, RepL X.K F dvs dd := by exact fun _ => .nil) (hg : Gl X x := by rfl)
    (hdb : (x == ("__debug__" : Str)) = false := by decide) (he : starEach (e :: es) X.env = (false, eval e X.env) :: starEach es X.env := by rfl) (hpl : (backTo pos (starEach es X.env)).any (·.1) = false := by rfl) :
    PE X (.Call (.Name x p) (e :: es) [] pos) (tE X.K W (wCall R dd wr)) := PE.imp (pe_call (E := E0) G hr hg hm hk hb hd pass0 ha hdb he hpl) fun σ H Q ⟨F, C, ρ, P, PX, hs, en, xr, w, k⟩ =>
  ⟨F, C, ρ, _, PX, hs, en, xr, w, fun vs F1 H1 ds C1 e1 h1 r q => ⟨F1, C1, ds ++ dd, P, h1, r.append (hdd F1), q, k.mono e1⟩⟩
theorem d_call0 (G : FnOk X.prog X.w X.K X.mg X.base CX0 k f fd ps (spD X.K R)) (hr : Room k X.A) (hm : X.mg x = some (.ref f)) (hk : PySem.W.keepIn X.K (.ref f) = true) (hb : Binds X.K fd ps dsv) (hd : Vals dvs dsv := by exact .nil) (hdd : ∀ F, RepL X.K F dvs dd := by exact fun _ => .nil) (hg : Gl X x := by rfl)
    (hdb : (x == ("__debug__" : Str)) = false := by decide) : PE X (.Call (.Name x p) [] [] pos) (tE X.K W (wCall R dd wNil)) := PE.imp (pe_call0 (E := E0) G hr hg hm hk hb hd pass0 hdb) fun σ H Q ⟨F, C, ρ, P, PX, hs, en, xr, w, k⟩ =>
  ⟨F, C, dd, P, hs, by exact (hdd F), by exact w, k⟩
theorem d_callX (tk : Takes X W) (G : FnOk X.prog X.w X.K X.mg X.base (L2.CX X.prog X.w) k f fd ps (spX X.K RX)) (hr : Room k X.A) (hm : X.mg x = some (.ref f)) (hk : PySem.W.keepIn X.K (.ref f) = true) (hb : Binds X.K fd ps dsv) (ha : PA X (e :: es) (tA X.K W wr)) (hd : Vals dvs dsv := by exact .nil) (hdd : ∀ F, RepL X.K F dvs dd := by exact fun _ => .nil) (hg : Gl X x := by rfl)
    (hdb : (x == ("__debug__" : Str)) = false := by decide) (he : starEach (e :: es) X.env = (false, eval e X.env) :: starEach es X.env := by rfl) (hpl : (backTo pos (starEach es X.env)).any (·.1) = false := by rfl) :
    PE X (.Call (.Name x p) (e :: es) [] pos) (tE X.K W (wCallX RX dd wr)) := PE.imp (pe_callSD (E := WE W) G hr hg hm hk hb hd (fun σ => passAt tk σ) ha hdb he hpl) fun σ H Q ⟨F, C, ρ, P, PX, hs, en, xr, w, k⟩ =>
  ⟨F, C, ρ, _, PX, hs, en, xr, w, fun vs F1 H1 ds C1 e1 h1 r q => ⟨F1, C1, ds ++ dd, P, _, h1, r.append (hdd F1), q, k.mono e1, KontX.of (xr.mono e1) (en.mono e1)⟩⟩
theorem ins_of {F H : Hp} {C : Cells} {v : V} {d : D} (hs : Hs K F C H) (r : Rep K F v d) {mm : String} (h : isIns Cl mm d C) : ∃ a dx gs, v = .ref a ∧ H a = some (.ins Cl dx gs) ∧ gs.lookup (Str.ofString mm) = none := by
  cases r <;> first | exact h.elim | skip
  · rename_i a c dx gs fs hf rf
    obtain ⟨rfl, hl⟩ := h
    exact ⟨a, dx, gs, rfl, hs.ex.nd hf rfl, rf.lookup_none hl⟩
  · rename_i a
    revert h
    show (match C a with | some (.ins c fs) => _ | _ => False) → _
    split
    · rename_i c fs hc
      rintro ⟨rfl, hl⟩
      obtain ⟨_, dx, gs, hg, rf⟩ := hs.cell a _ hc
      exact ⟨a, dx, gs, rfl, hg, rf.lookup_none hl⟩
    · exact fun z => z.elim
theorem d_meth {mm : String} {pl : Sem Bool} (c : Cls X.K Cl) (hm : Meth X.K Cl (Str.ofString mm) f) (G : FnOk X.prog X.w X.K X.mg X.base CX0 k f fd ps (spD X.K R)) (hr : Room k X.A) (hb : Binds X.K fd ps dsv) (ho : PE X o (tE X.K W wa)) (ha : PA X (e :: es) (tA X.K W wr)) (hd : Vals dvs dsv := by exact .nil) (hdd : ∀ F, RepL X.K F dvs dd := by exact fun _ => .nil)
    (hst : starEach (e :: es) X.env = (false, eval e X.env) :: starEach es X.env := by rfl) (hpl : (backTo pos (starEach es X.env)).any (·.1) = false := by rfl)
    (ht : eval (.Call (.Attribute o (Str.ofString mm) apos) (e :: es) [] pos) X.env = (do
      let ov ← eval o X.env
      standAt apos.atName
      let (f, first) ← holding [ov] (getMethod ov (Str.ofString mm) pl)
      callWith pos f first (backTo pos (starEach (e :: es) X.env)) (backToKw pos (keywordEach [] X.env))) := by rfl) :
    PE X (.Call (.Attribute o (Str.ofString mm) apos) (e :: es) [] pos) (tE X.K W (wMeth Cl mm R dd wa wr)) := PE.imp (pe_meth (pl := pl) (E := E0) ho c hm G hr hb hd pass0 ha hst hpl ht) fun σ H Q ⟨F, C, ρ, P, PX, hs, en, xr, w, k⟩ =>
  ⟨F, C, ρ, _, PX, hs, en, xr, w, fun v F1 H1 d C1 e1 h1 rv q => by
    obtain ⟨qi, q⟩ := q
    obtain ⟨a, dx, gs, ev, ha, hl⟩ := ins_of h1 rv qi
    exact ⟨a, dx, gs, ev, ha, hl, F1, C1, ρ, _, PX, h1, en.mono e1, xr.mono e1, q, fun vs F2 H2 ds C2 e2 h2 rl q2 => ⟨F2, C2, d :: (ds ++ dd), P, h2, .cons (rv.mono e2) (rl.append (hdd F2)), q2, k.mono (e1.trans e2)⟩⟩⟩
theorem d_meth0 {mm : String} {pl : Sem Bool} (c : Cls X.K Cl) (hm : Meth X.K Cl (Str.ofString mm) f) (G : FnOk X.prog X.w X.K X.mg X.base CX0 k f fd ps (spD X.K R)) (hr : Room k X.A) (hb : Binds X.K fd ps dsv) (ho : PE X o (tE X.K W wa)) (hd : Vals dvs dsv := by exact .nil) (hdd : ∀ F, RepL X.K F dvs dd := by exact fun _ => .nil)
    (ht : eval (.Call (.Attribute o (Str.ofString mm) apos) [] [] pos) X.env = (do
      let ov ← eval o X.env
      standAt apos.atName
      let (f, first) ← holding [ov] (getMethod ov (Str.ofString mm) pl)
      callWith pos f first (backTo pos (starEach [] X.env)) (backToKw pos (keywordEach [] X.env))) := by rfl) :
    PE X (.Call (.Attribute o (Str.ofString mm) apos) [] [] pos) (tE X.K W (wMeth Cl mm R dd wa wNil)) := PE.imp (pe_meth0 (pl := pl) (E := E0) ho c hm G hr hb hd pass0 ht) fun σ H Q ⟨F, C, ρ, P, PX, hs, en, xr, w, k⟩ =>
  ⟨F, C, ρ, _, PX, hs, en, xr, w, fun v F1 H1 d C1 e1 h1 rv q => by
    obtain ⟨qi, q⟩ := q
    obtain ⟨a, dx, gs, ev, ha, hl⟩ := ins_of h1 rv qi
    exact ⟨a, dx, gs, ev, ha, hl, F1, C1, d :: dd, P, h1, .cons rv (hdd F1), q, k.mono e1⟩⟩
/-- a method that may raise -/
theorem pe_methSD {ta : TE} {t : TA} {E : L2.St → XK} {pl : Sem Bool} {sp : Sp} {CX : CXT} (he : PE X o ta) (c : Cls X.K Cl) (hm : Meth X.K Cl m f) (F : FnOk X.prog X.w X.K X.mg X.base CX k f fd ps sp) (hr : Room k X.A) (hb : Binds X.K fd ps dsv) (hd : Vals dvs dsv) (hx : ∀ σ, PassesAt CX X σ (E σ)) (ha : PA X (e :: es) t)
    (hst : starEach (e :: es) X.env = (false, eval e X.env) :: starEach es X.env := by rfl) (hpl : (backTo pos (starEach es X.env)).any (·.1) = false := by rfl)
    (ht : eval (.Call (.Attribute o m apos) (e :: es) [] pos) X.env = (do
      let ov ← eval o X.env
      standAt apos.atName
      let (f, first) ← holding [ov] (getMethod ov m pl)
      callWith pos f first (backTo pos (starEach (e :: es) X.env)) (backToKw pos (keywordEach [] X.env))) := by rfl) :
    PE X (.Call (.Attribute o m apos) (e :: es) [] pos) (fun σ H Q => ta σ H fun x H1 => ∃ a dx fs, x = .ref a ∧ H1 a = some (.ins Cl dx fs) ∧ fs.lookup m = none ∧ t σ H1 fun vs H2 => sp (x :: (vs ++ dvs)) H2 Q (E σ)) := by
  refine ⟨fun pins s σ H Q I h => ?_⟩
  refine PySem.W.methodCall_KW (pl := pl) (thn (he.run pins s σ H _ I h) fun u s1 ⟨x, H1, I1, rx, a, dx, fs, ex, ea, l, q⟩ => ?_) ht
  subst ex
  obtain rfl : u = Value.ref a := rx
  refine getmeth_ok I1 ea c hm l ?_
  refine PySem.W.callWith_K (first := [.ref a]) (h₀ := X.base) I.ok.mod.kin hm.kp (thn (ha.run pos pins s1 σ H1 _ I1 q) fun us s2 ⟨vs, H2, I2, r, q2⟩ => ⟨I2.kIn, ?_⟩) hst hpl
  exact run_fnSD (us := .ref a :: us) (vs := .ref a :: vs) F hr hb hd (hx σ) I2 (.cons rfl r) q2
theorem pe_methSD0 {ta : TE} {E : L2.St → XK} {pl : Sem Bool} {sp : Sp} {CX : CXT} (he : PE X o ta) (c : Cls X.K Cl) (hm : Meth X.K Cl m f) (F : FnOk X.prog X.w X.K X.mg X.base CX k f fd ps sp) (hr : Room k X.A) (hb : Binds X.K fd ps dsv) (hd : Vals dvs dsv) (hx : ∀ σ, PassesAt CX X σ (E σ))
    (ht : eval (.Call (.Attribute o m apos) [] [] pos) X.env = (do
      let ov ← eval o X.env
      standAt apos.atName
      let (f, first) ← holding [ov] (getMethod ov m pl)
      callWith pos f first (backTo pos (starEach [] X.env)) (backToKw pos (keywordEach [] X.env))) := by rfl) :
    PE X (.Call (.Attribute o m apos) [] [] pos) (fun σ H Q => ta σ H fun x H1 => ∃ a dx fs, x = .ref a ∧ H1 a = some (.ins Cl dx fs) ∧ fs.lookup m = none ∧ sp (x :: dvs) H1 Q (E σ)) := by
  refine ⟨fun pins s σ H Q I h => ?_⟩
  refine PySem.W.methodCall_KW (pl := pl) (thn (he.run pins s σ H _ I h) fun u s1 ⟨x, H1, I1, rx, a, dx, fs, ex, ea, l, q⟩ => ?_) ht
  subst ex
  obtain rfl : u = Value.ref a := rx
  refine getmeth_ok I1 ea c hm l ?_
  exact PySem.W.callWith_K0 (first := [.ref a]) I1.kIn hm.kp (run_fnSD (us := [.ref a]) (vs := [.ref a]) F hr hb hd (hx σ) I1 (.cons rfl .nil) q)
theorem d_methX {mm : String} {pl : Sem Bool} (tk : Takes X W) (c : Cls X.K Cl) (hm : Meth X.K Cl (Str.ofString mm) f) (G : FnOk X.prog X.w X.K X.mg X.base (L2.CX X.prog X.w) k f fd ps (spX X.K RX)) (hr : Room k X.A) (hb : Binds X.K fd ps dsv) (ho : PE X o (tE X.K W wa)) (ha : PA X (e :: es) (tA X.K W wr)) (hd : Vals dvs dsv := by exact .nil) (hdd : ∀ F, RepL X.K F dvs dd := by exact fun _ => .nil)
    (hst : starEach (e :: es) X.env = (false, eval e X.env) :: starEach es X.env := by rfl) (hpl : (backTo pos (starEach es X.env)).any (·.1) = false := by rfl)
    (ht : eval (.Call (.Attribute o (Str.ofString mm) apos) (e :: es) [] pos) X.env = (do
      let ov ← eval o X.env
      standAt apos.atName
      let (f, first) ← holding [ov] (getMethod ov (Str.ofString mm) pl)
      callWith pos f first (backTo pos (starEach (e :: es) X.env)) (backToKw pos (keywordEach [] X.env))) := by rfl) :
    PE X (.Call (.Attribute o (Str.ofString mm) apos) (e :: es) [] pos) (tE X.K W (wMethX Cl mm RX dd wa wr)) := PE.imp (pe_methSD (pl := pl) (E := WE W) ho c hm G hr hb hd (fun σ => passAt tk σ) ha hst hpl ht) fun σ H Q ⟨F, C, ρ, P, PX, hs, en, xr, w, k⟩ =>
  ⟨F, C, ρ, _, PX, hs, en, xr, w, fun v F1 H1 d C1 e1 h1 rv q => by
    obtain ⟨qi, q⟩ := q
    obtain ⟨a, dx, gs, ev, ha, hl⟩ := ins_of h1 rv qi
    exact ⟨a, dx, gs, ev, ha, hl, F1, C1, ρ, _, PX, h1, en.mono e1, xr.mono e1, q, fun vs F2 H2 ds C2 e2 h2 rl q2 => ⟨F2, C2, d :: (ds ++ dd), P, _, h2, .cons (rv.mono e2) (rl.append (hdd F2)), q2, k.mono (e1.trans e2), KontX.of (xr.mono (e1.trans e2)) (en.mono (e1.trans e2))⟩⟩⟩
theorem d_methX0 {mm : String} {pl : Sem Bool} (tk : Takes X W) (c : Cls X.K Cl) (hm : Meth X.K Cl (Str.ofString mm) f) (G : FnOk X.prog X.w X.K X.mg X.base (L2.CX X.prog X.w) k f fd ps (spX X.K RX)) (hr : Room k X.A) (hb : Binds X.K fd ps dsv) (ho : PE X o (tE X.K W wa)) (hd : Vals dvs dsv := by exact .nil) (hdd : ∀ F, RepL X.K F dvs dd := by exact fun _ => .nil)
    (ht : eval (.Call (.Attribute o (Str.ofString mm) apos) [] [] pos) X.env = (do
      let ov ← eval o X.env
      standAt apos.atName
      let (f, first) ← holding [ov] (getMethod ov (Str.ofString mm) pl)
      callWith pos f first (backTo pos (starEach [] X.env)) (backToKw pos (keywordEach [] X.env))) := by rfl) :
    PE X (.Call (.Attribute o (Str.ofString mm) apos) [] [] pos) (tE X.K W (wMethX Cl mm RX dd wa wNil)) := PE.imp (pe_methSD0 (pl := pl) (E := WE W) ho c hm G hr hb hd (fun σ => passAt tk σ) ht) fun σ H Q ⟨F, C, ρ, P, PX, hs, en, xr, w, k⟩ =>
  ⟨F, C, ρ, _, PX, hs, en, xr, w, fun v F1 H1 d C1 e1 h1 rv q => by
    obtain ⟨qi, q⟩ := q
    obtain ⟨a, dx, gs, ev, ha, hl⟩ := ins_of h1 rv qi
    exact ⟨a, dx, gs, ev, ha, hl, F1, C1, d :: dd, P, _, h1, .cons rv (hdd F1), q, k.mono e1, KontX.of (xr.mono e1) (en.mono e1)⟩⟩
/-- an object that no data speaks of -/
theorem Hs.skip {F : Hp} {C : Cells} {H : Hp} (h : Hs K F C H) {p : Addr} {o : HO} (hp : H p = none) : Hs K F C (upd H p o) := by
  obtain ⟨f0, c0⟩ := h.fresh hp
  exact ⟨h.ex.mut f0, fun a c e => ⟨(h.cell a c e).1, (h.cell a c e).2.at (upd_ne (cell_ne e c0))⟩⟩
theorem Hs.inst {F : Hp} {C : Cells} {H : Hp} (h : Hs K F C H) {q dx : Addr} (hq : H q = none) (hd : H dx = none) (ne : dx ≠ q) : C q = none ∧ Hs K F (cput C q (.ins Cl [])) (upd (upd H dx (.own q)) q (.ins Cl dx [])) := by
  obtain ⟨f0, c0⟩ := h.fresh hq
  refine ⟨c0, ?_⟩
  exact (h.skip (o := .own q) hd).put (c := .ins Cl []) f0 ⟨dx, [], upd_same, .nil⟩
theorem frz_kont {F : Hp} {P : DK} {Q : VK} {q : Addr} (k : Kont K F P Q) : Kont K F (fun r C2 => r = .non ∧ frzP P q C2) (fun v H2 => v = .non ∧ Q (.ref q) H2) := fun v F2 H2 d C2 e2 h2 rv ⟨ed, z⟩ => by
  subst ed
  cases rv
  refine ⟨rfl, ?_⟩
  revert z
  unfold frzP
  split
  · rename_i c fs hc
    rintro ⟨C3, s3, n3, z⟩
    obtain ⟨F3, e3, h3, r3⟩ := frz_go h2 hc s3 n3 trivial
    exact k _ F3 H2 _ C3 (e2.trans e3) h3 r3 z
  · exact fun z => z.elim
theorem ptr_kont {F : Hp} {P : DK} {Q : VK} {q : Addr} (k : Kont K F P Q) : Kont K F (fun r C2 => r = .non ∧ P (.ptr q) C2) (fun v H2 => v = .non ∧ Q (.ref q) H2) := fun v F2 H2 d C2 e2 h2 rv ⟨ed, z⟩ => by
  subst ed
  cases rv
  exact ⟨rfl, k _ F2 H2 _ C2 e2 h2 (.ptr q) z⟩
theorem d_make (M : Mk X.K Cl f) (G : FnOk X.prog X.w X.K X.mg X.base CX0 k f fd ps (spD X.K R)) (hr : Room (k + 1) X.A) (hm : X.mg x = some (.ref Cl)) (hb : Binds X.K fd ps dsv) (ha : PA X (e :: es) (tA X.K W wr)) (hd : Vals dvs dsv := by exact .nil) (hdd : ∀ F, RepL X.K F dvs dd := by exact fun _ => .nil) (hg : Gl X x := by rfl)
    (hdb : (x == ("__debug__" : Str)) = false := by decide) (he : starEach (e :: es) X.env = (false, eval e X.env) :: starEach es X.env := by rfl) (hpl : (backTo pos (starEach es X.env)).any (·.1) = false := by rfl) :
    PE X (.Call (.Name x p) (e :: es) [] pos) (tE X.K W (wMake Cl R dd wr)) := PE.imp (pe_make (E := E0) M G hr hg hm hb hd pass0 ha hdb he hpl) fun σ H Q ⟨F, C, ρ, P, PX, hs, en, xr, w, k⟩ =>
  ⟨F, C, ρ, _, PX, hs, en, xr, w, fun vs F1 H1 ds C1 e1 h1 r q => fun z dx hz hdx ne => by
    obtain ⟨c0, h2⟩ := h1.inst (Cl := Cl) hz hdx ne
    exact ⟨F1, _, .ptr z :: (ds ++ dd), _, h2, .cons (.ptr z) (r.append (hdd F1)), q z c0, ptr_kont (k.mono e1)⟩⟩
theorem d_make0 (M : Mk X.K Cl f) (G : FnOk X.prog X.w X.K X.mg X.base CX0 k f fd ps (spD X.K R)) (hr : Room (k + 1) X.A) (hm : X.mg x = some (.ref Cl)) (hb : Binds X.K fd ps dsv) (hd : Vals dvs dsv := by exact .nil) (hdd : ∀ F, RepL X.K F dvs dd := by exact fun _ => .nil) (hg : Gl X x := by rfl)
    (hdb : (x == ("__debug__" : Str)) = false := by decide) : PE X (.Call (.Name x p) [] [] pos) (tE X.K W (wMake Cl R dd wNil)) := PE.imp (pe_make0 (E := E0) M G hr hg hm hb hd pass0 hdb) fun σ H Q ⟨F, C, ρ, P, PX, hs, en, xr, w, k⟩ => fun z dx hz hdx ne => by
    obtain ⟨c0, h2⟩ := hs.inst (Cl := Cl) hz hdx ne
    exact ⟨F, _, .ptr z :: dd, _, h2, .cons (.ptr z) (hdd F), w z c0, ptr_kont k⟩
theorem d_makeF (M : Mk X.K Cl f) (G : FnOk X.prog X.w X.K X.mg X.base CX0 k f fd ps (spD X.K R)) (hr : Room (k + 1) X.A) (hm : X.mg x = some (.ref Cl)) (hb : Binds X.K fd ps dsv) (ha : PA X (e :: es) (tA X.K W wr)) (hd : Vals dvs dsv := by exact .nil) (hdd : ∀ F, RepL X.K F dvs dd := by exact fun _ => .nil) (hg : Gl X x := by rfl)
    (hdb : (x == ("__debug__" : Str)) = false := by decide) (he : starEach (e :: es) X.env = (false, eval e X.env) :: starEach es X.env := by rfl) (hpl : (backTo pos (starEach es X.env)).any (·.1) = false := by rfl) :
    PE X (.Call (.Name x p) (e :: es) [] pos) (tE X.K W (wMakeF Cl R dd wr)) := PE.imp (pe_make (E := E0) M G hr hg hm hb hd pass0 ha hdb he hpl) fun σ H Q ⟨F, C, ρ, P, PX, hs, en, xr, w, k⟩ =>
  ⟨F, C, ρ, _, PX, hs, en, xr, w, fun vs F1 H1 ds C1 e1 h1 r q => fun z dx hz hdx ne => by
    obtain ⟨c0, h2⟩ := h1.inst (Cl := Cl) hz hdx ne
    exact ⟨F1, _, .ptr z :: (ds ++ dd), _, h2, .cons (.ptr z) (r.append (hdd F1)), q z c0, frz_kont (k.mono e1)⟩⟩
end

/-! ### attributes -/
/-- the attribute f of an instance of the class at Cl -/
def fldOf (Cl : Addr) (f : String) (o : D) (C : Cells) : Option D := match o with
  | .ins c fs => if c = Cl then fs.lookup f else none
  | .ptr p => match C p with
    | some (.ins c fs) => if c = Cl then fs.lookup f else none
    | _ => none
  | _ => none
def wFld (Cl : Addr) (f : String) (o : DE) (ρ : DEnv) (C : Cells) (P : DK) (PX : DX) : Prop := o ρ C (fun x C1 => match fldOf Cl f x C1 with
  | some d => P d C1
  | none => False) PX
def wFldSet (Cl : Addr) (f : String) (o v : DE) (E : DEnds) (ρ : DEnv) (C : Cells) : Prop := v ρ C (fun d C1 => o ρ C1 (fun x C2 => match x with
  | .ptr p => match C2 p with
    | some (.ins c fs) => c = Cl ∧ fs.length < 1000 ∧ E.nx ρ (cput C2 p (.ins Cl (dput f d fs)))
    | _ => False
  | _ => False) E.ex) E.ex
section
variable {X : Cx} {W : WX} {K : PySem.W.Frag} {Cl : Addr} {f : String} {o value : Expr} {wa wv : DE} {pos pos' : Pos}
theorem fld_of {F H : Hp} {C : Cells} {v : V} {x d : D} (hs : Hs K F C H) (r : Rep K F v x) (h : fldOf Cl f x C = some d) : ∃ a dx gs u, v = .ref a ∧ H a = some (.ins Cl dx gs) ∧ gs.lookup (Str.ofString f) = some u ∧ Rep K F u d := by
  cases r <;> first | (simp [fldOf] at h; done) | skip
  · rename_i a c dx gs fs hf rf
    simp only [fldOf] at h
    split at h
    · rename_i e
      subst e
      obtain ⟨u, hu, ru⟩ := rf.lookup h
      exact ⟨a, dx, gs, u, rfl, hs.ex.nd hf rfl, hu, ru⟩
    · cases h
  · rename_i a
    simp only [fldOf] at h
    split at h
    · rename_i c fs hc
      split at h
      · rename_i e
        subst e
        obtain ⟨_, dx, gs, hg, rf⟩ := hs.cell a _ hc
        obtain ⟨u, hu, ru⟩ := rf.lookup h
        exact ⟨a, dx, gs, u, rfl, hg, hu, ru⟩
      · cases h
    · cases h
theorem d_fld (c : Cls X.K Cl) (n : NoAttr X.K Cl (Str.ofString f)) (he : PE X o (tE X.K W wa)) (hb : attributeBase o (Str.ofString f) X.env (eval o X.env) = eval o X.env := by rfl) : PE X (.Attribute o (Str.ofString f) pos) (tE X.K W (wFld Cl f wa)) :=
  PE.imp (pe_fld he hb) fun σ H Q ⟨F, C, ρ, P, PX, hs, en, xr, w, k⟩ => ⟨F, C, ρ, _, PX, hs, en, xr, w, fun v F1 H1 d C1 e1 h1 r q => by
    revert q
    dsimp only
    split
    · rename_i u hu
      intro q
      obtain ⟨a, dx, gs, u', rfl, ha, hl, ru⟩ := fld_of h1 r hu
      exact ⟨a, Cl, dx, gs, u', rfl, ha, c, n, hl, k u' F1 H1 u C1 e1 h1 ru q⟩
    · exact fun z => z.elim⟩
theorem ds_fld (c : Cls X.K Cl) (n : NoAttr X.K Cl (Str.ofString f)) (ho : PE X o (tE X.K W wa)) (hv : PE X value (tE X.K W wv)) (hs : swapsWith value (some (.Attribute o (Str.ofString f) pos')) pos.line X.env = pure false := by rfl) :
    PS X (.Assign [.Attribute o (Str.ofString f) pos'] value pos) (tS X.K W (wFldSet Cl f wa wv)) := PS.imp (ps_fld ho hv hs) fun Dn σ H ⟨F, C, ρ, DE, hs, en, xr, w, er⟩ =>
  ⟨F, C, ρ, _, _, hs, en, xr, w, fun y F1 H1 d C1 e1 h1 ry q => ⟨F1, C1, ρ, _, _, h1, en.mono e1, xr.mono e1, q, fun v F2 H2 x C2 e2 h2 rx q2 => by
    cases rx <;> first | exact q2.elim | skip
    rename_i p
    revert q2
    show (match C2 p with | some (.ins c fs) => _ | _ => False) → _
    split
    · rename_i cl fs hc
      rintro ⟨rfl, hl, q2⟩
      obtain ⟨f0, dx, gs, hg, rf⟩ := h2.cell p _ hc
      have h3 := h2.put (o := .ins cl dx (putF (Str.ofString f) y gs)) (c := .ins cl (dput f d fs)) f0 ⟨dx, _, upd_same, rf.put (ry.mono e2)⟩
      exact ⟨p, cl, dx, gs, rfl, hg, c, n, by rw [rf.length]; exact hl, er.nx σ F2 _ ρ _ (e1.trans e2) h3 (en.mono (e1.trans e2)) q2⟩
    · exact fun z => z.elim⟩⟩
end

/-! ### a def's body keeps its promise -/
def endsD (P : DK) : DEnds := { nx := fun _ C' => ∃ C2, Sub C2 C' ∧ P .non C2, rt := fun d C' => ∃ C2, Sub C2 C' ∧ P d C2, bk := fun _ _ => False, ct := fun _ _ => False, ex := fun _ _ _ _ => False }
def endsX (P : DK) (PX : XC) : DEnds := { nx := fun _ C' => ∃ C2, Sub C2 C' ∧ P .non C2, rt := fun d C' => ∃ C2, Sub C2 C' ∧ P d C2, bk := fun _ _ => False, ct := fun _ _ => False, ex := fun cls fs _ C' => ∃ C2, Sub C2 C' ∧ PX cls fs C2 }
def startD (N : List Str) (ds : List D) : DEnv := ds.map some ++ List.replicate (N.length - ds.length) none
theorem start_ok {K : PySem.W.Frag} {F : Hp} {N : List Str} {vs : List V} {ds : List D} (r : RepL K F vs ds) : EnvR K F (L2.start N vs) (startD N ds) := by
  have hl := r.length
  refine ⟨by simp [L2.start, startD, hl], fun i d h => ?_⟩
  unfold startD at h
  unfold L2.start
  rcases Nat.lt_or_ge i ds.length with z | z
  · rw [List.getElem?_append_left (by simpa using z), List.getElem?_map] at h
    cases e : ds[i]? with
    | none => rw [e] at h; cases h
    | some d' =>
      rw [e] at h
      simp only [Option.map_some, Option.some.injEq] at h
      subst h
      obtain ⟨v, hv, rv⟩ := r.get e
      exact ⟨v, by rw [List.getElem?_append_left (by simpa [hl] using z), List.getElem?_map, hv]; rfl, rv⟩
  · rw [List.getElem?_append_right (by simpa using z)] at h
    have := List.mem_of_getElem? h
    simp at this
section
variable {P : Program} {w : World} {K : PySem.W.Frag} {mg : Str → Option Value} {base : Heap} {x qual : Str} {st : Stmt} {f : Addr} {fd : FuncData} {N ps : List Str} {k : Nat} {R : DSp} {RX : DSpX} {ws : DS}
abbrev W0 : WX := fun _ _ _ _ => False
theorem ok_D (F : Fun K x qual st f fd) (S : FnScope N ps (defScope st)) (len : ∀ ds C Pk, R ds C Pk → ds.length = ps.length)
    (hbody : ∀ (cdv : Value) (A : Around) (outer : List Env) (s : Shared) (H : Hp) (E : XK), Room k (A.deeper (envOfC qual (defScope st) s.heap.objs.size f cdv)) → PSs (cxOf CX0 P w K mg base N qual (defScope st) f cdv A outer s H E).nox (defBody st) (tS K W0 ws))
    (hw : ∀ ds C Pk, R ds C Pk → ws (endsD Pk) (startD N ds) C) : FnOk P w K mg base CX0 (k + 1) f fd ps (spD K R) := by
  refine F.ok S (fun vs H Q E ⟨F1, C, ds, Pk, hs, r, h, _⟩ => by rw [r.length]; exact len ds C Pk h) fun cdv A outer s H vs Q E hr ⟨F1, C, ds, Pk, hs, r, h, kk⟩ => ?_
  refine ⟨_, hbody cdv A outer s H E hr, F1, C, startD N ds, endsD Pk, hs, start_ok r, fun _ _ _ _ _ _ _ _ _ _ _ _ z => z.elim, hw ds C Pk h, ?_⟩
  exact ⟨fun σ F2 H2 ρ C2 e2 h2 n2 ⟨C3, s3, q⟩ => kk _ F2 H2 _ C3 e2 (h2.sub s3) .non q, fun v F2 H2 d C2 e2 h2 rv ⟨C3, s3, q⟩ => kk v F2 H2 d C3 e2 (h2.sub s3) rv q, fun _ _ _ _ _ _ _ _ z => z.elim, fun _ _ _ _ _ _ _ _ z => z.elim⟩
/-- what leaves this def -/
abbrev WD (E : XK) : WX := fun cls d _ H => E cls d H
theorem ok_DX (F : Fun K x qual st f fd) (S : FnScope N ps (defScope st)) (len : ∀ ds C Pk PX, RX ds C Pk PX → ds.length = ps.length)
    (hbody : ∀ (cdv : Value) (A : Around) (outer : List Env) (s : Shared) (H : Hp) (E : XK), Room k (A.deeper (envOfC qual (defScope st) s.heap.objs.size f cdv)) → Takes (cxOf (L2.CX P w) P w K mg base N qual (defScope st) f cdv A outer s H E) (WD E) →
      PSs (cxOf (L2.CX P w) P w K mg base N qual (defScope st) f cdv A outer s H E) (defBody st) (tS K (WD E) ws))
    (hw : ∀ ds C Pk PX, RX ds C Pk PX → ws (endsX Pk PX) (startD N ds) C) : FnOk P w K mg base (L2.CX P w) (k + 1) f fd ps (spX K RX) := by
  refine F.okX S (fun vs H Q E ⟨F1, C, ds, Pk, PX, hs, r, h, _⟩ => by rw [r.length]; exact len ds C Pk PX h) fun cdv A outer s H vs Q E hr ⟨F1, C, ds, Pk, PX, hs, r, h, kk, kx⟩ => ?_
  refine ⟨_, hbody cdv A outer s H E hr (takes_of rfl rfl rfl rfl), F1, C, startD N ds, endsX Pk PX, hs, start_ok r, fun cls d fs σ F2 H2 ρ C2 e2 h2 n2 rx ⟨C3, s3, q⟩ => kx cls d fs F2 H2 C3 e2 (h2.sub s3) rx q, hw ds C Pk PX h, ?_⟩
  exact ⟨fun σ F2 H2 ρ C2 e2 h2 n2 ⟨C3, s3, q⟩ => kk _ F2 H2 _ C3 e2 (h2.sub s3) .non q, fun v F2 H2 d C2 e2 h2 rv ⟨C3, s3, q⟩ => kk v F2 H2 d C3 e2 (h2.sub s3) rv q, fun _ _ _ _ _ _ _ _ z => z.elim, fun _ _ _ _ _ _ _ _ z => z.elim⟩
end
end DD

set_option Elab.async false
set_option linter.all false
set_option maxRecDepth 100000
set_option maxHeartbeats 4000000
/-! Readings over data: lists, tuples, built-ins, equality, comprehensions. -/
namespace DD
open PySem L2 PyProof.Rows

/-! ### sequences -/
def seqOf (x : D) (C : Cells) : Option (List D) := match x with
  | .lst ds => some ds
  | .ptr a => match C a with
    | some (.lst ds) => some ds
    | _ => none
  | _ => none
/-- a list or a tuple -/
def itsOf (x : D) (C : Cells) : Option (List D) := match x with
  | .tup ds => some ds
  | .ktup ds => some ds
  | x => seqOf x C
section
variable {K : PySem.W.Frag} {F H : Hp} {C : Cells} {v : V} {x : D} {ds : List D}
theorem seq_of (hs : Hs K F C H) (r : Rep K F v x) (h : seqOf x C = some ds) : ∃ a xs, v = .ref a ∧ SqL K H a xs ∧ RepL K F xs ds := by
  cases r <;> first | (simp [seqOf] at h; done) | skip
  · rename_i a xs ds' hq hr
    simp only [seqOf, Option.some.injEq] at h
    subst h
    exact ⟨a, xs, rfl, ex_l hs.ex hq, hr⟩
  · rename_i a
    simp only [seqOf] at h
    split at h
    · rename_i ds' hc
      simp only [Option.some.injEq] at h
      subst h
      obtain ⟨_, xs, hx, r⟩ := hs.cell a _ hc
      exact ⟨a, xs, rfl, .of hx, r⟩
    · cases h
theorem its_of (hs : Hs K F C H) (r : Rep K F v x) (h : itsOf x C = some ds) : ∃ a xs, v = .ref a ∧ (SqL K H a xs ∨ SqT K H a xs) ∧ RepL K F xs ds := by
  have go : seqOf x C = some ds → ∃ a xs, v = .ref a ∧ (SqL K H a xs ∨ SqT K H a xs) ∧ RepL K F xs ds := fun h => by
    obtain ⟨a, xs, h1, h2, h3⟩ := seq_of hs r h
    exact ⟨a, xs, h1, .inl h2, h3⟩
  cases r <;> first
    | exact go h
    | (rename_i a xs ds' hq hr
       simp only [itsOf, Option.some.injEq] at h
       subst h
       exact ⟨a, xs, rfl, .inr (by first | exact .of (hs.ex.nd hq rfl) | exact ex_t hs.ex hq), hr⟩)
theorem atI_rep {xs : List V} {d : D} {i : Int} (r : RepL K F xs ds) (h : atI ds i = some d) : ∃ u, atI xs i = some u ∧ Rep K F u d := by
  unfold atI at h ⊢
  rw [r.length]
  cases e : ixN ds.length i with
  | none => rw [e] at h; cases h
  | some j =>
    rw [e] at h
    exact r.get h
end
/-- len(x) -/
def lenOf (x : D) (C : Cells) : Option Nat := match x with
  | .str z => if z.length ≤ 100000 then some z.length else none
  | x => (itsOf x C).map (·.length)
def dLen (ds : List D) (C : Cells) (P : DK) : Prop := match ds with
  | [x] => match lenOf x C with
    | some n => P (.int n) C
    | none => False
  | _ => False
/-- x[i] -/
def itemOf (x : D) (C : Cells) (i : Int) : Option D := match x with
  | .str z => if z.length ≤ 100000 then (atI z.cps.toList i).map fun c => .str ⟨#[c]⟩ else none
  | x => (itsOf x C).bind fun ds => atI ds i
def dIx (x : D) (y : D) (C : Cells) (P : DK) : Prop := match y with
  | .int i => match itemOf x C i with
    | some d => P d C
    | none => False
  | _ => False
section
variable {K : PySem.W.Frag}
theorem RepL.one {F : Hp} {xs : List V} {x : D} (r : RepL K F xs [x]) : ∃ v, xs = [v] ∧ Rep K F v x := by
  cases r with
  | cons r1 r2 =>
    cases r2
    exact ⟨_, rfl, r1⟩
theorem s_len : SimA K (fun xs H Q => ∃ x n, xs = [x] ∧ LenV K x H n ∧ Q (.int n) H) dLen := fun F C H xs ds P Q hs r w k => by
  revert w
  unfold dLen
  split
  · rename_i x
    split
    · rename_i n hn
      intro w
      obtain ⟨v, rfl, r1⟩ := r.one
      refine ⟨v, n, rfl, ?_, k _ F H _ C (Ex.refl F) hs (.int _) w⟩
      have go : ∀ ds', itsOf x C = some ds' → n = ds'.length → LenV K v H n := fun ds' e en => by
        obtain ⟨a, xs, rfl, h2, h3⟩ := its_of hs r1 e
        show (∃ xs, SqL K H a xs ∧ n = xs.length) ∨ ∃ xs, SqT K H a xs ∧ n = xs.length
        rcases h2 with h2 | h2
        · exact .inl ⟨xs, h2, by rw [en, h3.length]⟩
        · exact .inr ⟨xs, h2, by rw [en, h3.length]⟩
      cases r1 <;> first
        | (simp only [lenOf, Option.map_eq_some_iff] at hn
           obtain ⟨ds', e1, e2⟩ := hn
           exact go ds' e1 e2.symm)
        | (simp only [lenOf] at hn
           split at hn
           · rename_i hz
             cases hn
             exact ⟨sz_of hz, rfl⟩
           · cases hn)
    · exact fun z => z.elim
  · exact fun z => z.elim
theorem s_ix : SimR K (rIx K) dIx := fun F C H x y dx dy P Q hs rx ry w k => by
  revert w
  unfold dIx
  split
  · rename_i i
    cases ry
    split
    · rename_i d hd
      intro w
      have go : ∀ ds', itsOf dx C = some ds' → atI ds' i = some d → rIx K x (.int i) H Q := fun ds' e en => by
        obtain ⟨a, xs, rfl, h2, h3⟩ := its_of hs rx e
        obtain ⟨u, hu, ru⟩ := atI_rep h3 en
        rcases h2 with h2 | h2
        · exact .inl ⟨a, xs, i, u, rfl, rfl, h2, hu, k u F H d C (Ex.refl F) hs ru w⟩
        · exact .inr (.inl ⟨a, xs, i, u, rfl, rfl, h2, hu, k u F H d C (Ex.refl F) hs ru w⟩)
      cases rx <;> first
        | (simp only [itemOf, Option.bind_eq_some_iff] at hd
           obtain ⟨ds', e1, e2⟩ := hd
           exact go ds' e1 e2)
        | (simp only [itemOf] at hd
           split at hd
           · rename_i hz
             rw [Option.map_eq_some_iff] at hd
             obtain ⟨c, hc, rfl⟩ := hd
             exact .inr (.inr ⟨_, i, c, rfl, rfl, sz_of hz, hc, k _ F H _ C (Ex.refl F) hs (.str _) w⟩)
           · cases hd)
    · exact fun z => z.elim
  · exact fun z => z.elim
end

/-! ### a list that changes -/
def wSetL (o i e : DE) (E : DEnds) (ρ : DEnv) (C : Cells) : Prop := e ρ C (fun d C1 => o ρ C1 (fun x C2 => i ρ C2 (fun y C3 => match x, y with
  | .ptr a, .int n => match C3 a with
    | some (.lst ds) => match ixN ds.length n with
      | some j => E.nx ρ (cput C3 a (.lst (ds.set j d)))
      | none => False
    | _ => False
  | _, _ => False) E.ex) E.ex) E.ex
/-- o[i] op= e -/
def wAugL (o i e : DE) (r : DR2) (E : DEnds) (ρ : DEnv) (C : Cells) : Prop := o ρ C (fun x C1 => i ρ C1 (fun y C2 => match x, y with
  | .ptr a, .int n => match C2 a with
    | some (.lst ds) => match atI ds n with
      | some d => e ρ C2 (fun z C3 => r d z C3 (fun u C4 => match C4 a with
        | some (.lst ds') => match ixN ds'.length n with
          | some j => E.nx ρ (cput C4 a (.lst (ds'.set j u)))
          | none => False
        | _ => False)) E.ex
      | none => False
    | _ => False
  | _, _ => False) E.ex) E.ex
abbrev DRM := D → List D → Cells → DK → Prop
def isSeq (x : D) (C : Cells) : Prop := (seqOf x C).isSome = true
/-- a list's method -/
def wBML (r : DRM) (o : DE) (a : DA) (ρ : DEnv) (C : Cells) (P : DK) (PX : DX) : Prop := o ρ C (fun x C1 => isSeq x C1 ∧ a ρ C1 (fun ds C2 => r x ds C2 P) PX) PX
def SimM (K : PySem.W.Frag) (r : V → List V → Hp → VK → Prop) (rd : DRM) : Prop := ∀ F C H x dx xs ds P Q, Hs K F C H → Rep K F x dx → RepL K F xs ds → rd dx ds C P → Kont K F P Q → r x xs H Q
def dAppend (x : D) (ds : List D) (C : Cells) (P : DK) : Prop := match x, ds with
  | .ptr a, [d] => match C a with
    | some (.lst xs) => xs.length < 100000 ∧ P .non (cput C a (.lst (xs ++ [d])))
    | _ => False
  | _, _ => False
def dPop (x : D) (ds : List D) (C : Cells) (P : DK) : Prop := match x, ds with
  | .ptr a, [] => match C a with
    | some (.lst xs) => match xs[xs.length - 1]? with
      | some d => P d (cput C a (.lst xs.dropLast))
      | none => False
    | _ => False
  | _, _ => False
section
variable {X : Cx} {W : WX} {K : PySem.W.Frag} {o i e : Expr} {es : List Expr} {wo wi we : DE} {wr : DA} {pos tpos apos : Pos}
theorem i_setL {F H : Hp} {C : Cells} {a : Addr} {ds : List D} {d : D} {v : V} {j : Nat} (hs : Hs K F C H) (hc : C a = some (.lst ds)) (rv : Rep K F v d) :
    ∃ xs, H a = some (.lst xs) ∧ xs.length = ds.length ∧ RepL K F xs ds ∧ Hs K F (cput C a (.lst (ds.set j d))) (upd H a (.lst (xs.set j v))) := by
  obtain ⟨f0, xs, hx, r⟩ := hs.cell a _ hc
  exact ⟨xs, hx, r.length, r, hs.put (c := .lst (ds.set j d)) f0 ⟨_, upd_same, r.set rv j⟩⟩
theorem ds_setL (ho : PE X o (tE X.K W wo)) (hi : PE X i (tE X.K W wi)) (he : PE X e (tE X.K W we))
    (ha : ∀ v, assign (.Subscript o i pos) X.env v = (do
      let ov ← holding [v] (eval o X.env)
      let iv ← holding [v, ov] (eval i X.env)
      standAt pos
      holding [v, ov, iv] (setItem ov iv v)
      release [v, ov, iv] []) := by intro _; rfl)
    (hs : swapsWithSole [.Subscript o i pos] e tpos.line X.env = pure false := by rfl) (hw : swappedStores [.Subscript o i pos] e X.env = pure none := by rfl)
    (h1 : (assignEach [.Subscript o i pos] X.env).map (·.2) = [assign (.Subscript o i pos) X.env] := by rfl) : PS X (.Assign [.Subscript o i pos] e tpos) (tS X.K W (wSetL wo wi we)) :=
  PS.imp (ps_asg he (pg_sub ho hi set_list ha) hs hw h1) fun Dn σ H ⟨F, C, ρ, DE, hs, en, xr, w, er⟩ =>
  ⟨F, C, ρ, _, _, hs, en, xr, w, fun v F1 H1 d C1 e1 h1 rv q => ⟨F1, C1, ρ, _, _, h1, en.mono e1, xr.mono e1, q, fun x F2 H2 dx C2 e2 h2 rx q2 => ⟨F2, C2, ρ, _, _, h2, en.mono (e1.trans e2), xr.mono (e1.trans e2), q2, fun y F3 H3 dy C3 e3 h3 ry q3 => by
    revert q3
    dsimp only
    split
    · rename_i a n
      cases ry
      cases rx
      split
      · rename_i ds hc
        split
        · rename_i j hj
          intro q3
          obtain ⟨xs, hx, hl, r, h4⟩ := i_setL (j := j) h3 hc (rv.mono (e2.trans e3))
          exact ⟨a, xs, n, j, rfl, rfl, hx, by rw [hl]; exact hj, er.nx σ F3 _ ρ _ ((e1.trans e2).trans e3) h4 (en.mono ((e1.trans e2).trans e3)) q3⟩
        · exact fun z => z.elim
      · exact fun z => z.elim
    · exact fun z => z.elim⟩⟩⟩
theorem get_list : PGet X (rIxL X.K) := by
  intro pins s σ H x y v u Q I rx ry h
  obtain ⟨p, xs, i, z, rfl, rfl, hq, he, q⟩ := h
  cases rx
  obtain ⟨t, rfl⟩ := ry
  obtain ⟨its, r, pl, hz⟩ := I.list hq
  obtain ⟨j, h1, h2, h3, h4, h5⟩ := atI_get he
  obtain ⟨w, ew, rw'⟩ := r.get h2
  have hl := r.length
  have hn := line63
  have fin : EP X pins σ Q w s := ⟨z, H, I, rw', q⟩
  by_cases h0 : 0 ≤ i
  · have hj : i.toNat = j := by
      rw [seqIndex_of h0 h5] at h1
      exact Option.some.inj h1
    exact wpAny_getItem_list (x := w) pl.isList h0 (by omega) (by rw [hj]; simpa using ew) fin
  · have hj : (i + (its.toArray.size : Int)).toNat = j := by
      rw [seqIndex_neg (by omega) h4] at h1
      rw [List.size_toArray, ← hl]
      exact Option.some.inj h1
    exact wpAny_getItem_list_neg (x := w) pl.isList (by omega) (by rw [List.size_toArray] <;> omega) (by omega) (by rw [hj]; simpa using ew) fin
theorem ds_augL {op : Operator} {ti : TIp} {rd : DR2} (ho : PE X o (tE X.K W wo)) (hi : PE X i (tE X.K W wi)) (he : PE X e (tE X.K W we)) (hp : PIp X op ti) (hr : SimR X.K ti rd)
    (ha : ∀ ov iv new, augStore i ov iv new = (do holding [new, ov, iv] (setItem ov iv new); release [new, ov, iv] []; pure .next) := by intros; rfl) : PS X (.AugAssign (.Subscript o i tpos) op e pos) (tS X.K W (wAugL wo wi we rd)) :=
  PS.imp (ps_augS ho hi get_list he hp set_list ha) fun Dn σ H ⟨F, C, ρ, DE, hs, en, xr, w, er⟩ =>
  ⟨F, C, ρ, _, _, hs, en, xr, w, fun x F1 H1 dx C1 e1 h1 rx q => ⟨F1, C1, ρ, _, _, h1, en.mono e1, xr.mono e1, q, fun y F2 H2 dy C2 e2 h2 ry q2 => by
    revert q2
    dsimp only
    split
    · rename_i a n
      cases ry
      cases rx
      split
      · rename_i ds hc
        split
        · rename_i d hd
          intro q2
          obtain ⟨f0, xs, hx, r⟩ := h2.cell a _ hc
          obtain ⟨u, hu, ru⟩ := atI_rep r hd
          refine ⟨a, xs, n, u, rfl, rfl, .of hx, hu, F2, C2, ρ, _, _, h2, en.mono (e1.trans e2), xr.mono (e1.trans e2), q2, fun z F3 H3 dz C3 e3 h3 rz q3 => hr F3 C3 H3 u z d dz _ _ h3 (ru.mono e3) rz q3 fun g F4 H4 dg C4 e4 h4 rg q4 => ?_⟩
          revert q4
          split
          · rename_i ds' hc'
            split
            · rename_i j hj
              intro q4
              obtain ⟨xs', hx', hl', r', h5⟩ := i_setL (j := j) h4 hc' rg
              have ee := ((e1.trans e2).trans e3).trans e4
              exact ⟨a, xs', n, j, rfl, rfl, hx', by rw [hl']; exact hj, er.nx σ F4 _ ρ _ ee h5 (en.mono ee) q4⟩
            · exact fun z => z.elim
          · exact fun z => z.elim
        · exact fun z => z.elim
      · exact fun z => z.elim
    · exact fun z => z.elim⟩⟩
theorem isSeq_ty {F H : Hp} {C : Cells} {v : V} {x : D} (hs : Hs K F C H) (r : Rep K F v x) (h : isSeq x C) : tyV K "list" v H := by
  unfold isSeq at h
  obtain ⟨ds, hd⟩ := Option.isSome_iff_exists.mp h
  obtain ⟨a, xs, rfl, h2, _⟩ := seq_of hs r hd
  exact .inl ⟨rfl, xs, h2⟩
theorem d_bmL {id : String} {name : Str} {r : V → List V → Hp → VK → Prop} {rd : DRM} (pa : PlainAttrs "list") (slot : Slot "list" name id) (hty : typeOf (.builtin id) = pure (.type "method_descriptor")) (hm : MtR X id r) (hr : SimM X.K r rd) (ho : PE X o (tE X.K W wo)) (ha : PA X (e :: es) (tA X.K W wr))
    (hbase : attributeBase o name X.env (eval o X.env) = eval o X.env := by rfl)
    (hfew : ((backTo pos (starEach (e :: es) X.env)).all (fun x => !x.1) && (backToKw pos (keywordEach [] X.env)).all (fun x => x.1.isSome)
      && decide ((e :: es).length + ([] : List Keyword).length + (if ([] : List Keyword).isEmpty then 0 else 1) < 30)) = true := by rfl)
    (hline : (apos.endLine == pos.line) = true := by rfl) (hs : starEach (e :: es) X.env = (false, eval e X.env) :: starEach es X.env := by rfl) (hplain : (backTo pos (starEach es X.env)).any (·.1) = false := by rfl) :
    PE X (.Call (.Attribute o name apos) (e :: es) [] pos) (tE X.K W (wBML rd wo wr)) :=
  PE.imp (pe_bm pa slot hty hm ho ha hbase hfew hline hs hplain) fun σ H Q ⟨F, C, ρ, P, PX, hs, en, xr, w, k⟩ => ⟨F, C, ρ, _, PX, hs, en, xr, w, fun v F1 H1 d C1 e1 h1 rv q => ⟨isSeq_ty h1 rv q.1, F1, C1, ρ, _, PX, h1, en.mono e1, xr.mono e1, q.2, fun vs F2 H2 ds C2 e2 h2 rl q2 => hr F2 C2 H2 v d vs ds P Q h2 (rv.mono e2) rl q2 (k.mono (e1.trans e2))⟩⟩
theorem d_bmL0 {id : String} {name : Str} {r : V → List V → Hp → VK → Prop} {rd : DRM} (pa : PlainAttrs "list") (slot : Slot "list" name id) (hty : typeOf (.builtin id) = pure (.type "method_descriptor")) (hm : MtR X id r) (hr : SimM X.K r rd) (ho : PE X o (tE X.K W wo))
    (hbase : attributeBase o name X.env (eval o X.env) = eval o X.env := by rfl) (hline : (apos.endLine == pos.line) = true := by rfl) : PE X (.Call (.Attribute o name apos) [] [] pos) (tE X.K W (wBML rd wo wNil)) :=
  PE.imp (pe_bm0 pa slot hty hm ho hbase hline) fun σ H Q ⟨F, C, ρ, P, PX, hs, en, xr, w, k⟩ => ⟨F, C, ρ, _, PX, hs, en, xr, w, fun v F1 H1 d C1 e1 h1 rv q => ⟨isSeq_ty h1 rv q.1, hr F1 C1 H1 v d [] [] P Q h1 rv .nil q.2 (k.mono e1)⟩⟩
theorem s_append : SimM K rAppend dAppend := fun F C H x dx xs ds P Q hs rx rl w k => by
  revert w
  unfold dAppend
  split
  · rename_i a d
    cases rx
    split
    · rename_i ys hc
      rintro ⟨hl, w⟩
      cases rl with
      | cons r1 r2 =>
        cases r2
        obtain ⟨f0, zs, hx, r⟩ := hs.cell a _ hc
        exact ⟨a, zs, _, rfl, rfl, hx, by rw [r.length]; exact sz_lt hl, k _ F _ _ _ (Ex.refl F) (hs.put (c := .lst (ys ++ [d])) f0 ⟨_, upd_same, r.append (.cons r1 .nil)⟩) .non w⟩
    · exact fun z => z.elim
  · exact fun z => z.elim
theorem s_pop : SimM K rPop dPop := fun F C H x dx xs ds P Q hs rx rl w k => by
  revert w
  unfold dPop
  split
  · rename_i a
    cases rx
    cases rl
    split
    · rename_i ys hc
      split
      · rename_i d hd
        intro w
        obtain ⟨f0, zs, hx, r⟩ := hs.cell a _ hc
        obtain ⟨u, hu, ru⟩ := r.get hd
        exact ⟨a, zs, u, rfl, rfl, hx, by rw [r.length]; exact hu, k _ F _ _ _ (Ex.refl F) (hs.put (c := .lst ys.dropLast) f0 ⟨_, upd_same, r.dropLast⟩) ru w⟩
      · exact fun z => z.elim
    · exact fun z => z.elim
  · exact fun z => z.elim
end
/-! ### + and * of lists, slices, list(..) -/
def dCat (x : D) (y : D) (C : Cells) (P : DK) : Prop := match seqOf x C, seqOf y C with
  | some xs, some ys => xs.length + ys.length ≤ 100000 ∧ P (.lst (xs ++ ys)) C
  | _, _ => False
def rCatS (K : PySem.W.Frag) : R2 := fun x y H Q => ∃ l b xs zs, x = .ref l ∧ y = .ref b ∧ SqL K H l xs ∧ SqL K H b zs ∧ xs.length + zs.length ≤ sizeLine ∧ ∀ p, H p = none → Q (.ref p) (upd H p (.lst (xs ++ zs)))
theorem op_catS {X : Cx} : OpR X (binaryOp .Add) (rCatS X.K) := by
  intro pins s σ H x y v u Q I rx ry h
  obtain ⟨l, b, xs, zs, rfl, rfl, hH, hB, hz, q⟩ := h
  cases rx
  cases ry
  obtain ⟨its, r, pl, _⟩ := I.list hH
  obtain ⟨its2, r2, pl2, _⟩ := I.list hB
  obtain ⟨⟨cls, dd, data, sl⟩, ho, hc, n, hd⟩ := id pl.isList
  obtain ⟨⟨cls2, dd2, data2, sl2⟩, ho2, hc2, n2, hd2⟩ := id pl2.isList
  simp only at hc hd hc2 hd2
  subst hc hd hc2 hd2
  have hl := r.length
  have hl2 := r2.length
  have e : its.toArray ++ its2.toArray = (its ++ its2).toArray := by simp
  refine concat_meets ⟨_, ho, rfl⟩ ⟨_, ho2, rfl⟩ noFill_list_add seq_list_add PySem.F.slot_list_add PySem.F.entry_list_add (PySem.F.args_list_add_2 _ _) (list_addW l b its.toArray its2.toArray n n2 dd dd2 sl sl2 (by rw [List.size_toArray, List.size_toArray]; omega)) ⟨ho, ho2, ?_⟩
  rw [e]
  exact ⟨.ref _, _, I.lnew (t' := s.toks) (r.append r2) (by rw [List.length_append]; omega), rfl, q _ I.fresh⟩
section
variable {X : Cx} {W : WX} {K : PySem.W.Frag}
theorem s_cat : SimR K (rCatS K) dCat := fun F C H x y dx dy P Q hs rx ry w k => by
  revert w
  unfold dCat
  split
  · rename_i xs ys h1 h2
    rintro ⟨hz, w⟩
    obtain ⟨a, us, rfl, hu, ru⟩ := seq_of hs rx h1
    obtain ⟨b, vs, rfl, hv, rv⟩ := seq_of hs ry h2
    refine ⟨a, b, us, vs, rfl, rfl, hu, hv, by rw [ru.length, rv.length]; exact sz_of hz, fun p hp => ?_⟩
    obtain ⟨e2, h3, r3⟩ := hs.newL (ru.append rv) hp
    exact k _ _ _ _ C e2 h3 r3 w
  · exact fun z => z.elim
/-- [e, ..] * n, the new list frozen, or a cell -/
def wRep (a : DA) (n : DE) (ρ : DEnv) (C : Cells) (P : DK) (PX : DX) : Prop := a ρ C (fun ds C1 => ds.length ≤ 100000 ∧ n ρ C1 (fun y C2 => match y with
  | .int k => (-(2 ^ 63) ≤ k ∧ k < 2 ^ 63 ∧ ds.length * k.toNat ≤ 100000) ∧ P (.lst (List.replicate k.toNat ds).flatten) C2
  | _ => False) PX) PX
def wRepC (a : DA) (n : DE) (ρ : DEnv) (C : Cells) (P : DK) (PX : DX) : Prop := a ρ C (fun ds C1 => ds.length ≤ 100000 ∧ n ρ C1 (fun y C2 => match y with
  | .int k => (-(2 ^ 63) ≤ k ∧ k < 2 ^ 63 ∧ ds.length * k.toNat ≤ 100000) ∧ ∀ p, C2 p = none → P (.ptr p) (cput C2 p (.lst (List.replicate k.toNat ds).flatten))
  | _ => False) PX) PX
theorem RepL.flat {F : Hp} {xs : List V} {ds : List D} (r : RepL K F xs ds) : ∀ n, RepL K F (List.replicate n xs).flatten (List.replicate n ds).flatten
  | 0 => .nil
  | n + 1 => by
    rw [List.replicate_succ, List.flatten_cons, List.replicate_succ, List.flatten_cons]
    exact r.append (RepL.flat r n)
theorem d_rep {es : List Expr} {b : Expr} {wr : DA} {wb : DE} {pos p2 : Pos} (ha : PA X es (tA X.K W wr)) (hb : PE X b (tE X.K W wb)) : PE X (.BinOp (.List es p2) .Mult b pos) (tE X.K W (wRep wr wb)) :=
  PE.imp (pe_op op_rep (pe_lst ha) hb) fun σ H Q ⟨F, C, ρ, P, PX, hs, en, xr, w, k⟩ => by
  refine ⟨F, C, ρ, _, PX, hs, en, xr, w, fun vs F1 H1 ds C1 e1 h1 r q => ?_⟩
  obtain ⟨hz, q⟩ := q
  refine ⟨by rw [r.length]; exact sz_of hz, fun p hp => ?_⟩
  obtain ⟨e2, h2, r2⟩ := h1.newL r hp
  refine ⟨_, C1, ρ, _, PX, h2, en.mono (e1.trans e2), xr.mono (e1.trans e2), q, fun u F3 H3 dy C3 e3 h3 ry q3 => ?_⟩
  revert q3
  dsimp only
  split
  · rename_i n
    rintro ⟨⟨b1, b2, b3⟩, q3⟩
    cases ry
    refine ⟨p, n, vs, rfl, rfl, h3.ex.nd (e3.nd upd_same rfl) rfl, b1, b2, by rw [r.length]; exact sz_of b3, fun l hl => ?_⟩
    obtain ⟨e4, h4, r4⟩ := h3.newL ((r.mono (e2.trans e3)).flat n.toNat) hl
    exact k _ _ _ _ C3 (((e1.trans e2).trans e3).trans e4) h4 r4 q3
  · exact fun z => z.elim
theorem d_repC {es : List Expr} {b : Expr} {wr : DA} {wb : DE} {pos p2 : Pos} (ha : PA X es (tA X.K W wr)) (hb : PE X b (tE X.K W wb)) : PE X (.BinOp (.List es p2) .Mult b pos) (tE X.K W (wRepC wr wb)) :=
  PE.imp (pe_op op_rep (pe_lst ha) hb) fun σ H Q ⟨F, C, ρ, P, PX, hs, en, xr, w, k⟩ => by
  refine ⟨F, C, ρ, _, PX, hs, en, xr, w, fun vs F1 H1 ds C1 e1 h1 r q => ?_⟩
  obtain ⟨hz, q⟩ := q
  refine ⟨by rw [r.length]; exact sz_of hz, fun p hp => ?_⟩
  obtain ⟨e2, h2, r2⟩ := h1.newL r hp
  refine ⟨_, C1, ρ, _, PX, h2, en.mono (e1.trans e2), xr.mono (e1.trans e2), q, fun u F3 H3 dy C3 e3 h3 ry q3 => ?_⟩
  revert q3
  dsimp only
  split
  · rename_i n
    rintro ⟨⟨b1, b2, b3⟩, q3⟩
    cases ry
    refine ⟨p, n, vs, rfl, rfl, h3.ex.nd (e3.nd upd_same rfl) rfl, b1, b2, by rw [r.length]; exact sz_of b3, fun l hl => ?_⟩
    obtain ⟨c0, h4⟩ := h3.newC ((r.mono (e2.trans e3)).flat n.toNat) hl
    exact k _ _ _ _ _ ((e1.trans e2).trans e3) h4 (.ptr l) (q3 l c0)
  · exact fun z => z.elim
end
/-! ### slices -/
abbrev DO := DEnv → Cells → (Option Int → Cells → Prop) → DX → Prop
def wNoPart (_ : DEnv) (C : Cells) (P : Option Int → Cells → Prop) (_ : DX) : Prop := P none C
def wPart (e : DE) (ρ : DEnv) (C : Cells) (P : Option Int → Cells → Prop) (PX : DX) : Prop := e ρ C (fun d C1 => match d with | .int i => P (some i) C1 | _ => False) PX
def tO (K : PySem.W.Frag) (W : WX) (w : DO) : TO := fun σ H Q => ∃ F C ρ P PX, Hs K F C H ∧ EnvR K F σ ρ ∧ ExR K F W PX ∧ w ρ C P PX ∧ ∀ o F' H' C', Ex F F' → Hs K F' C' H' → P o C' → Q o H'
theorem PO.imp {X : Cx} {e : Option Expr} {t t' : TO} (h : PO X e t) (i : ∀ σ H Q, t' σ H Q → t σ H Q) : PO X e t' := ⟨fun pins s σ H Q I w => h.run pins s σ H Q I (i σ H Q w)⟩
def cutD (xs : List D) (lo hi : Option Int) : List D := (xs.drop (HT.sIx xs.length 0 lo)).take (HT.sIx xs.length xs.length hi - HT.sIx xs.length 0 lo)
def wSl (e : DE) (lo hi : DO) (ρ : DEnv) (C : Cells) (P : DK) (PX : DX) : Prop := e ρ C (fun x C1 => lo ρ C1 (fun l C2 => hi ρ C2 (fun h C3 => match seqOf x C3 with
  | some ds => P (.lst (cutD ds l h)) C3
  | none => False) PX) PX) PX
section
variable {X : Cx} {W : WX} {K : PySem.W.Frag}
theorem do_none : PO X none (tO X.K W wNoPart) := PO.imp po_none fun σ H Q ⟨F, C, ρ, P, PX, hs, en, xr, w, k⟩ => k _ F H C (Ex.refl F) hs w
theorem do_some {e : Expr} {we : DE} (he : PE X e (tE X.K W we)) : PO X (some e) (tO X.K W (wPart we)) := PO.imp (po_some he) fun σ H Q ⟨F, C, ρ, P, PX, hs, en, xr, w, k⟩ =>
  ⟨F, C, ρ, _, PX, hs, en, xr, w, fun v F1 H1 d C1 e1 h1 r q => by
    cases r <;> first | exact q.elim | exact ⟨_, rfl, k _ F1 H1 C1 e1 h1 q⟩⟩
theorem RepL.cut {F : Hp} {xs : List V} {ds : List D} (r : RepL K F xs ds) (lo hi : Option Int) : RepL K F (cutV xs lo hi) (cutD ds lo hi) := by
  unfold cutV cutD
  rw [r.length]
  exact (r.drop _).take _
theorem d_sl {e : Expr} {lo hi : Option Expr} {we : DE} {wl wh : DO} {p2 pos : Pos} (he : PE X e (tE X.K W we)) (hl : PO X lo (tO X.K W wl)) (hh : PO X hi (tO X.K W wh)) : PE X (.Subscript e (.Slice lo hi none p2) pos) (tE X.K W (wSl we wl wh)) :=
  PE.imp (pe_slice sl_list he hl hh) fun σ H Q ⟨F, C, ρ, P, PX, hs, en, xr, w, k⟩ =>
  ⟨F, C, ρ, _, PX, hs, en, xr, w, fun v F1 H1 x C1 e1 h1 rv q => ⟨F1, C1, ρ, _, PX, h1, en.mono e1, xr.mono e1, q, fun l F2 H2 C2 e2 h2 q2 => ⟨F2, C2, ρ, _, PX, h2, en.mono (e1.trans e2), xr.mono (e1.trans e2), q2, fun h F3 H3 C3 e3 h3 q3 => by
    revert q3
    dsimp only
    split
    · rename_i ds hd
      intro q3
      obtain ⟨a, us, rfl, hu, ru⟩ := seq_of h3 (rv.mono (e2.trans e3)) hd
      refine ⟨a, us, rfl, hu, fun p hp => ?_⟩
      obtain ⟨e4, h4, r4⟩ := h3.newL (ru.cut l h) hp
      exact k _ _ _ _ C3 (((e1.trans e2).trans e3).trans e4) h4 r4 q3
    · exact fun z => z.elim⟩⟩⟩
end

/-! ### built-ins -/
/-- list(x): frozen, a cell -/
def dList (ds : List D) (C : Cells) (P : DK) : Prop := match ds with
  | [x] => match itsOf x C with
    | some xs => P (.lst xs) C
    | none => False
  | _ => False
def dListC (ds : List D) (C : Cells) (P : DK) : Prop := match ds with
  | [x] => match itsOf x C with
    | some xs => ∀ p, C p = none → P (.ptr p) (cput C p (.lst xs))
    | none => False
  | _ => False
def dTupleOf (ds : List D) (C : Cells) (P : DK) : Prop := match ds with
  | [x] => match itsOf x C with
    | some xs => P (match x with | .ktup ys => .ktup ys | _ => .tup xs) C
    | none => False
  | _ => False
def dMax2 (ds : List D) (C : Cells) (P : DK) : Prop := match ds with
  | [.int i, .int j] => P (.int (max i j)) C
  | _ => False
def dMin2 (ds : List D) (C : Cells) (P : DK) : Prop := match ds with
  | [.int i, .int j] => P (.int (min i j)) C
  | _ => False
def dAbs (ds : List D) (C : Cells) (P : DK) : Prop := match ds with
  | [.int i] => P (.int i.natAbs) C
  | _ => False
def dInt (ds : List D) (C : Cells) (P : DK) : Prop := match ds with
  | [.int i] => P (.int i) C
  | [.bl b] => P (.int (if b then 1 else 0)) C
  | _ => False
/-- the whole numbers of a list -/
def IntsOf (x : D) (C : Cells) (ns : List Int) : Prop := seqOf x C = some (ns.map D.int)
def dSum (ds : List D) (C : Cells) (P : DK) : Prop := match ds with
  | [x] => ∃ ns, IntsOf x C ns ∧ P (.int ns.sum) C
  | _ => False
def maxI : List Int → Int
  | [] => 0
  | x :: r => r.foldl max x
def minI : List Int → Int
  | [] => 0
  | x :: r => r.foldl min x
def dMaxL (ds : List D) (C : Cells) (P : DK) : Prop := match ds with
  | [x] => ∃ ns, IntsOf x C ns ∧ ns ≠ [] ∧ P (.int (maxI ns)) C
  | _ => False
def dMinL (ds : List D) (C : Cells) (P : DK) : Prop := match ds with
  | [x] => ∃ ns, IntsOf x C ns ∧ ns ≠ [] ∧ P (.int (minI ns)) C
  | _ => False
def sortI (ns : List Int) : List Int := ns.mergeSort (fun a b => decide (a ≤ b))
def dSortI (ds : List D) (C : Cells) (P : DK) : Prop := match ds with
  | [x] => ∃ ns, IntsOf x C ns ∧ P (.lst ((sortI ns).map D.int)) C
  | _ => False
theorem foldl_max_spec : ∀ (r : List Int) (x : Int), (r.foldl max x = x ∨ r.foldl max x ∈ r) ∧ x ≤ r.foldl max x ∧ ∀ y ∈ r, y ≤ r.foldl max x
  | [], x => ⟨.inl rfl, Int.le_refl _, by simp⟩
  | z :: r, x => by
    obtain ⟨h1, h2, h3⟩ := foldl_max_spec r (max x z)
    simp only [List.foldl_cons]
    refine ⟨?_, by omega, fun y hy => ?_⟩
    · rcases h1 with h1 | h1
      · rcases Int.le_total x z with h | h
        · rw [h1, Int.max_eq_right h]; exact .inr List.mem_cons_self
        · rw [h1, Int.max_eq_left h]; exact .inl rfl
      · exact .inr (List.mem_cons_of_mem _ h1)
    · rcases List.mem_cons.mp hy with rfl | hy
      · omega
      · exact h3 y hy
theorem foldl_min_spec : ∀ (r : List Int) (x : Int), (r.foldl min x = x ∨ r.foldl min x ∈ r) ∧ r.foldl min x ≤ x ∧ ∀ y ∈ r, r.foldl min x ≤ y
  | [], x => ⟨.inl rfl, Int.le_refl _, by simp⟩
  | z :: r, x => by
    obtain ⟨h1, h2, h3⟩ := foldl_min_spec r (min x z)
    simp only [List.foldl_cons]
    refine ⟨?_, by omega, fun y hy => ?_⟩
    · rcases h1 with h1 | h1
      · rcases Int.le_total x z with h | h
        · rw [h1, Int.min_eq_left h]; exact .inl rfl
        · rw [h1, Int.min_eq_right h]; exact .inr List.mem_cons_self
      · exact .inr (List.mem_cons_of_mem _ h1)
    · rcases List.mem_cons.mp hy with rfl | hy
      · omega
      · exact h3 y hy
theorem maxI_spec : ∀ {ns : List Int}, ns ≠ [] → maxI ns ∈ ns ∧ ∀ y ∈ ns, y ≤ maxI ns
  | [], h => absurd rfl h
  | x :: r, _ => by
    obtain ⟨h1, h2, h3⟩ := foldl_max_spec r x
    refine ⟨?_, fun y hy => ?_⟩
    · show r.foldl max x ∈ x :: r
      rcases h1 with h1 | h1
      · rw [h1]; exact List.mem_cons_self
      · exact List.mem_cons_of_mem _ h1
    · show y ≤ r.foldl max x
      rcases List.mem_cons.mp hy with rfl | hy
      · exact h2
      · exact h3 y hy
theorem minI_spec : ∀ {ns : List Int}, ns ≠ [] → minI ns ∈ ns ∧ ∀ y ∈ ns, minI ns ≤ y
  | [], h => absurd rfl h
  | x :: r, _ => by
    obtain ⟨h1, h2, h3⟩ := foldl_min_spec r x
    refine ⟨?_, fun y hy => ?_⟩
    · show r.foldl min x ∈ x :: r
      rcases h1 with h1 | h1
      · rw [h1]; exact List.mem_cons_self
      · exact List.mem_cons_of_mem _ h1
    · show r.foldl min x ≤ y
      rcases List.mem_cons.mp hy with rfl | hy
      · exact h2
      · exact h3 y hy
theorem sortI_perm (ns : List Int) : (sortI ns).Perm ns := List.mergeSort_perm ns _
theorem sortI_pair (ns : List Int) : (sortI ns).Pairwise (· ≤ ·) := by
  have h := List.pairwise_mergeSort (le := fun a b : Int => decide (a ≤ b)) (by intro a b c; simp; omega) (by intro a b; simp; omega) ns
  exact h.imp (by intro a b; simp)
theorem sorted_unique : ∀ {xs ys : List Int}, xs.Perm ys → xs.Pairwise (· ≤ ·) → ys.Pairwise (· ≤ ·) → xs = ys := fun {xs ys} p h1 h2 =>
  p.eq_of_pairwise (fun a b _ _ h h' => by omega) h1 h2
section
variable {K : PySem.W.Frag}
theorem ints_of {F H : Hp} {C : Cells} {v : V} {x : D} {ns : List Int} (hs : Hs K F C H) (r : Rep K F v x) (h : IntsOf x C ns) : ∃ a, v = .ref a ∧ SqL K H a (ns.map V.int) := by
  obtain ⟨a, xs, rfl, h2, h3⟩ := seq_of hs r h
  rw [h3.of_ints] at h2
  exact ⟨a, rfl, h2⟩
theorem s_list : SimA K (fun xs H Q => ∃ p ys, xs = [.ref p] ∧ (SqL K H p ys ∨ SqT K H p ys) ∧ ∀ l, H l = none → Q (.ref l) (upd H l (.lst ys))) dList := fun F C H xs ds P Q hs r w k => by
  revert w
  unfold dList
  split
  · split
    · rename_i ys hy
      intro w
      cases r with
      | cons r1 r2 =>
        cases r2
        obtain ⟨a, us, rfl, h2, h3⟩ := its_of hs r1 hy
        refine ⟨a, us, rfl, h2, fun p hp => ?_⟩
        obtain ⟨e4, h4, r4⟩ := hs.newL h3 hp
        exact k _ _ _ _ C e4 h4 r4 w
    · exact fun z => z.elim
  · exact fun z => z.elim
theorem s_listC : SimA K (fun xs H Q => ∃ p ys, xs = [.ref p] ∧ (SqL K H p ys ∨ SqT K H p ys) ∧ ∀ l, H l = none → Q (.ref l) (upd H l (.lst ys))) dListC := fun F C H xs ds P Q hs r w k => by
  revert w
  unfold dListC
  split
  · split
    · rename_i ys hy
      intro w
      cases r with
      | cons r1 r2 =>
        cases r2
        obtain ⟨a, us, rfl, h2, h3⟩ := its_of hs r1 hy
        refine ⟨a, us, rfl, h2, fun p hp => ?_⟩
        obtain ⟨c0, h4⟩ := hs.newC h3 hp
        exact k _ _ _ _ _ (Ex.refl F) h4 (.ptr p) (w p c0)
    · exact fun z => z.elim
  · exact fun z => z.elim
theorem s_max2 : SimA K (fun xs H Q => ∃ i j, xs = [.int i, .int j] ∧ Q (.int (if j > i then j else i)) H) dMax2 := fun F C H xs ds P Q hs r w k => by
  revert w
  unfold dMax2
  split
  · rename_i i j
    intro w
    cases r with
    | cons r1 r2 =>
      cases r1
      cases r2 with
      | cons r3 r4 =>
        cases r3; cases r4
        refine ⟨i, j, rfl, k _ F H _ C (Ex.refl F) hs (.int _) ?_⟩
        rw [show (if j > i then j else i) = max i j by split <;> omega]
        exact w
  · exact fun z => z.elim
theorem s_min2 : SimA K (fun xs H Q => ∃ i j, xs = [.int i, .int j] ∧ Q (.int (if j < i then j else i)) H) dMin2 := fun F C H xs ds P Q hs r w k => by
  revert w
  unfold dMin2
  split
  · rename_i i j
    intro w
    cases r with
    | cons r1 r2 =>
      cases r1
      cases r2 with
      | cons r3 r4 =>
        cases r3; cases r4
        refine ⟨i, j, rfl, k _ F H _ C (Ex.refl F) hs (.int _) ?_⟩
        rw [show (if j < i then j else i) = min i j by split <;> omega]
        exact w
  · exact fun z => z.elim
theorem s_abs : SimA K (fun xs H Q => ∃ i, xs = [.int i] ∧ Q (.int (if i < 0 then -i else i)) H) dAbs := fun F C H xs ds P Q hs r w k => by
  revert w
  unfold dAbs
  split
  · rename_i i
    intro w
    cases r with
    | cons r1 r2 =>
      cases r1; cases r2
      refine ⟨i, rfl, k _ F H _ C (Ex.refl F) hs (.int _) ?_⟩
      rw [show (if i < 0 then -i else i) = (i.natAbs : Int) by split <;> omega]
      exact w
  · exact fun z => z.elim
theorem s_int : SimA K (fun xs H Q => (∃ i, xs = [.int i] ∧ Q (.int i) H) ∨ ∃ k, xs = [.bl k] ∧ Q (.int (if k then 1 else 0)) H) dInt := fun F C H xs ds P Q hs r w k => by
  revert w
  unfold dInt
  split
  · rename_i i
    intro w
    cases r with
    | cons r1 r2 =>
      cases r1; cases r2
      exact .inl ⟨i, rfl, k _ F H _ C (Ex.refl F) hs (.int _) w⟩
  · rename_i b
    intro w
    cases r with
    | cons r1 r2 =>
      cases r1; cases r2
      exact .inr ⟨b, rfl, k _ F H _ C (Ex.refl F) hs (.int _) w⟩
  · exact fun z => z.elim
theorem s_sum : SimA K (rSum K) dSum := fun F C H xs ds P Q hs r w k => by
  revert w
  unfold dSum
  split
  · rintro ⟨ns, hn, w⟩
    cases r with
    | cons r1 r2 =>
      cases r2
      obtain ⟨a, rfl, h2⟩ := ints_of hs r1 hn
      exact ⟨a, ns, rfl, h2, k _ F H _ C (Ex.refl F) hs (.int _) w⟩
  · exact fun z => z.elim
theorem s_maxL : SimA K (rMax K) dMaxL := fun F C H xs ds P Q hs r w k => by
  revert w
  unfold dMaxL
  split
  · rintro ⟨ns, hn, hne, w⟩
    cases r with
    | cons r1 r2 =>
      cases r2
      obtain ⟨a, rfl, h2⟩ := ints_of hs r1 hn
      refine ⟨a, ns, rfl, h2, List.length_pos_iff.mpr hne, fun m hm hle => ?_⟩
      obtain ⟨g1, g2⟩ := maxI_spec hne
      rw [show m = maxI ns from Int.le_antisymm (g2 m hm) (hle _ g1)]
      exact k _ F H _ C (Ex.refl F) hs (.int _) w
  · exact fun z => z.elim
theorem s_minL : SimA K (rMin K) dMinL := fun F C H xs ds P Q hs r w k => by
  revert w
  unfold dMinL
  split
  · rintro ⟨ns, hn, hne, w⟩
    cases r with
    | cons r1 r2 =>
      cases r2
      obtain ⟨a, rfl, h2⟩ := ints_of hs r1 hn
      refine ⟨a, ns, rfl, h2, List.length_pos_iff.mpr hne, fun m hm hle => ?_⟩
      obtain ⟨g1, g2⟩ := minI_spec hne
      rw [show m = minI ns from Int.le_antisymm (hle _ g1) (g2 m hm)]
      exact k _ F H _ C (Ex.refl F) hs (.int _) w
  · exact fun z => z.elim
theorem s_sortI : SimA K (rSortedI K) dSortI := fun F C H xs ds P Q hs r w k => by
  revert w
  unfold dSortI
  split
  · rintro ⟨ns, hn, w⟩
    cases r with
    | cons r1 r2 =>
      cases r2
      obtain ⟨a, rfl, h2⟩ := ints_of hs r1 hn
      refine ⟨a, ns, rfl, h2, fun ns' p hp hr hf => ?_⟩
      have e : ns' = sortI ns := sorted_unique (hp.trans (sortI_perm ns).symm) hr (sortI_pair ns)
      subst e
      obtain ⟨e4, h4, r4⟩ := hs.newL (RepL.ints _) hf
      exact k _ _ _ _ C e4 h4 r4 w
  · exact fun z => z.elim
end
end DD

set_option Elab.async false
set_option linter.all false
set_option maxRecDepth 100000
set_option maxHeartbeats 4000000
/-! Readings over data: == of nested data, in, comprehensions. -/
namespace DD
open PySem L2 PyProof.Rows

mutual
def D.py : D → PyData
  | .non => .none
  | .bl b => .bool b
  | .int i => .int i
  | .str x => .str x
  | .tup xs => .tuple (pys xs)
  | .lst xs => .list (pys xs)
  | .ins _ _ => .dict []
  | .ptr _ => .dict []
  | .dK _ => .dict []
  | .dT _ => .dict []
  | .ktup xs => .tuple (pys xs)
def pys : List D → List PyData
  | [] => []
  | d :: r => d.py :: pys r
end
/-- data of a depth, of nothing but None, bools, ints, texts, lists, tuples -/
inductive Dat : Nat → D → Prop where
  | non {n} : Dat n .non
  | bl {n} (b : Bool) : Dat n (.bl b)
  | int {n} (i : Int) : Dat n (.int i)
  | str {n} {x : Str} (h : PyData.canLay0 (.str x) = true) : Dat n (.str x)
  | tup {n} {ds : List D} (h : ∀ d, d ∈ ds → Dat n d) : Dat (n + 1) (.tup ds)
  | lst {n} {ds : List D} (h : ∀ d, d ∈ ds → Dat n d) : Dat (n + 1) (.lst ds)
  | ktup {n} {ds : List D} (h : ∀ d, d ∈ ds → Dat n d) : Dat (n + 1) (.ktup ds)
theorem dat_mono : ∀ {n m : Nat} {d : D}, Dat n d → n ≤ m → Dat m d
  | _, _, _, .non, _ => .non
  | _, _, _, .bl b, _ => .bl b
  | _, _, _, .int i, _ => .int i
  | _, _, _, .str h, _ => .str h
  | n + 1, m, _, .tup h, l => by
    obtain ⟨k, rfl⟩ : ∃ k, m = k + 1 := ⟨m - 1, by omega⟩
    exact .tup fun d hd => dat_mono (h d hd) (by omega)
  | n + 1, m, _, .lst h, l => by
    obtain ⟨k, rfl⟩ : ∃ k, m = k + 1 := ⟨m - 1, by omega⟩
    exact .lst fun d hd => dat_mono (h d hd) (by omega)
  | n + 1, m, _, .ktup h, l => by
    obtain ⟨k, rfl⟩ : ∃ k, m = k + 1 := ⟨m - 1, by omega⟩
    exact .ktup fun d hd => dat_mono (h d hd) (by omega)
theorem pys_lay {n : Nat} : ∀ ds : List D, (∀ d, d ∈ ds → PyData.canLay0 d.py = true ∧ d.py.depth ≤ n) → PyData.canLayAll0 (pys ds) = true ∧ PyData.depthAll (pys ds) ≤ n
  | [], _ => by simp [pys, PyData.canLayAll0, PyData.depthAll]
  | d :: r, h => by
    obtain ⟨h1, h2⟩ := h d List.mem_cons_self
    obtain ⟨h3, h4⟩ := pys_lay r fun e he => h e (List.mem_cons_of_mem _ he)
    refine ⟨by simp [pys, PyData.canLayAll0, h1, h3], ?_⟩
    simp only [pys, PyData.depthAll]
    omega
theorem dat_lay : ∀ {n : Nat} {d : D}, Dat n d → PyData.canLay0 d.py = true ∧ d.py.depth ≤ n
  | _, _, .non => by simp [D.py, PyData.canLay0, PyData.depth]
  | _, _, .bl b => by simp [D.py, PyData.canLay0, PyData.depth]
  | _, _, .int i => by simp [D.py, PyData.canLay0, PyData.depth]
  | _, _, .str h => ⟨h, by simp [D.py, PyData.depth]⟩
  | n + 1, _, .tup (ds := ds) h => by
    obtain ⟨h1, h2⟩ := pys_lay (n := n) ds fun d hd => dat_lay (h d hd)
    exact ⟨by simp only [D.py, PyData.canLay0, h1], by simp only [D.py, PyData.depth]; omega⟩
  | n + 1, _, .lst (ds := ds) h => by
    obtain ⟨h1, h2⟩ := pys_lay (n := n) ds fun d hd => dat_lay (h d hd)
    exact ⟨by simp only [D.py, PyData.canLay0, h1], by simp only [D.py, PyData.depth]; omega⟩
  | n + 1, _, .ktup (ds := ds) h => by
    obtain ⟨h1, h2⟩ := pys_lay (n := n) ds fun d hd => dat_lay (h d hd)
    exact ⟨by simp only [D.py, PyData.canLay0, h1], by simp only [D.py, PyData.depth]; omega⟩
theorem dat_shaped {n : Nat} {d : D} (h : Dat n d) (hn : n ≤ 60) : SeqAt.shaped d.py = true := by
  obtain ⟨h1, h2⟩ := dat_lay h
  unfold SeqAt.shaped
  rw [h1, decide_eq_true (by omega)]
  rfl
/-- == of data -/
def D.eqb (x y : D) : Bool := PyData.eqv x.py y.py
theorem eqb_self {n : Nat} {d : D} (h : Dat n d) : d.eqb d = true := SeqAt.eqv_refl _ (dat_lay h).1
/-- a list that is a cell, as data -/
def D.res (C : Cells) : D → D
  | .ptr a => match C a with
    | some (.lst ds) => .lst ds
    | _ => .ptr a
  | d => d
def dEqD (neg : Bool) (x : D) (y : D) (C : Cells) (P : DK) : Prop := ∃ n, n ≤ 60 ∧ Dat n (x.res C) ∧ Dat n (y.res C) ∧ P (.bl (neg ^^ (x.res C).eqb (y.res C))) C
section
variable {K : PySem.W.Frag} {F H : Hp} {C : Cells}
theorem dpAll_of {n : Nat} : ∀ {ds : List D} {xs : List V}, (∀ d, d ∈ ds → ∀ v, Rep K F v d → Dp K H v d.py) → RepL K F xs ds → DpAll K H xs (pys ds)
  | [], _, _, .nil => by simp only [pys]; exact .nil
  | d :: r, _, h, .cons h1 h2 => by
    simp only [pys]
    exact .cons (h d List.mem_cons_self _ h1) (dpAll_of (n := n) (fun e he => h e (List.mem_cons_of_mem _ he)) h2)
theorem rep_dp (ex : Ex F H) : ∀ {n : Nat} {d : D}, Dat n d → ∀ v, Rep K F v d → Dp K H v d.py
  | _, _, .non, v, r => by cases r; exact .non
  | _, _, .bl b, v, r => by cases r; exact .bl b
  | _, _, .int i, v, r => by cases r; exact .int i
  | _, _, .str h, v, r => by cases r; exact .str _
  | n + 1, _, .tup h, v, r => by
    cases r with
    | tup hq hr => exact .tup (.of (ex.nd hq rfl)) (dpAll_of (n := n) (fun d hd v r => rep_dp ex (h d hd) v r) hr)
  | n + 1, _, .ktup h, v, r => by
    cases r with
    | ktup hq hr => exact .tup (ex_t ex hq) (dpAll_of (n := n) (fun d hd v r => rep_dp ex (h d hd) v r) hr)
  | n + 1, _, .lst h, v, r => by
    cases r with
    | lst hq hr => exact .lst (ex_l ex hq) (dpAll_of (n := n) (fun d hd v r => rep_dp ex (h d hd) v r) hr)
theorem res_dp (hs : Hs K F C H) {n : Nat} {v : V} {x : D} (r : Rep K F v x) (h : Dat n (x.res C)) : Dp K H v (x.res C).py := by
  cases x with
  | ptr a =>
    cases r
    revert h
    show Dat n (match C a with | some (.lst ds) => .lst ds | _ => .ptr a) → Dp K H (.ref a) (D.py (match C a with | some (.lst ds) => .lst ds | _ => .ptr a))
    split
    · rename_i ds hc
      intro h
      obtain ⟨_, xs, hx, r⟩ := hs.cell a _ hc
      cases h with
      | lst h =>
        rename_i m
        exact .lst (.of hx) (dpAll_of (n := m) (fun d hd v r => rep_dp hs.ex (h d hd) v r) r)
    · intro h; cases h
  | _ => exact rep_dp hs.ex h v r
theorem s_eqD : SimR K (rEqD K) (dEqD false) := fun F C H x y dx dy P Q hs rx ry w k => by
  obtain ⟨n, hn, h1, h2, w⟩ := w
  refine ⟨_, _, res_dp hs rx h1, res_dp hs ry h2, dat_shaped h1 hn, dat_shaped h2 hn, ?_⟩
  rw [Bool.false_xor] at w
  exact k _ F H _ C (Ex.refl F) hs (.bl _) w
theorem s_neD : SimR K (rNeD K) (dEqD true) := fun F C H x y dx dy P Q hs rx ry w k => by
  obtain ⟨n, hn, h1, h2, w⟩ := w
  refine ⟨_, _, res_dp hs rx h1, res_dp hs ry h2, dat_shaped h1 hn, dat_shaped h2 hn, ?_⟩
  rw [Bool.true_xor] at w
  exact k _ F H _ C (Ex.refl F) hs (.bl _) w
end

/-! ### x in xs, of flat things -/
def toV : D → V
  | .non => .non
  | .bl b => .bl b
  | .int i => .int i
  | .str x => .str x
  | _ => .non
def flatD : D → Bool
  | .non => true
  | .bl _ => true
  | .int _ => true
  | .str _ => true
  | _ => false
/-- x is one of the items -/
def inD (x : D) (ds : List D) : Bool := ds.any fun y => eqV (toV y) (toV x)
def dIn (neg : Bool) (x : D) (y : D) (C : Cells) (P : DK) : Prop := match itsOf y C with
  | some ds => flatD x = true ∧ ds.all flatD = true ∧ P (.bl (neg ^^ inD x ds)) C
  | none => False
section
variable {K : PySem.W.Frag} {F H : Hp} {C : Cells}
theorem flat_rep {v : V} {x : D} (r : Rep K F v x) (h : flatD x = true) : v = toV x ∧ flatV v = true := by
  cases r <;> first | exact ⟨rfl, rfl⟩ | cases h
theorem flat_reps : ∀ {xs : List V} {ds : List D}, RepL K F xs ds → ds.all flatD = true → xs = ds.map toV ∧ xs.all flatV = true
  | _, _, .nil, _ => ⟨rfl, rfl⟩
  | _, _, .cons h r, a => by
    simp only [List.all_cons, Bool.and_eq_true] at a
    obtain ⟨e1, f1⟩ := flat_rep h a.1
    obtain ⟨e2, f2⟩ := flat_reps r a.2
    exact ⟨by rw [e1, e2]; rfl, by rw [List.all_cons, f1, f2]; rfl⟩
theorem s_inS {neg : Bool} : SimR K (rIn K neg) (dIn neg) := fun F C H x y dx dy P Q hs rx ry w k => by
  revert w
  unfold dIn
  split
  · rename_i ds hd
    rintro ⟨h1, h2, w⟩
    obtain ⟨a, xs, rfl, hq, hr⟩ := its_of hs ry hd
    obtain ⟨e1, f1⟩ := flat_rep rx h1
    obtain ⟨e2, f2⟩ := flat_reps hr h2
    refine ⟨a, xs, rfl, hq, f1, f2, ?_⟩
    have e : (if neg then !inV x xs else inV x xs) = (neg ^^ inD dx ds) := by
      rw [e1, e2]
      unfold inV inD
      rw [List.any_map]
      cases neg <;> simp [Function.comp_def]
    rw [e]
    exact k _ F H _ C (Ex.refl F) hs (.bl _) w
  · exact fun z => z.elim
end

/-! ### list comprehensions -/
def dwipe (ρ : DEnv) : List Nat → DEnv
  | [] => ρ
  | v :: vs => (dwipe ρ vs).set v none
abbrev noX : DX := fun _ _ _ _ => False
def wYes (_ : DEnv) (C : Cells) (P : Bool → Cells → Prop) (_ : DX) : Prop := P true C
def LcG (J : DIt) (t : Tgt) (wt : DT) (we : DE) (vs : List Nat) (ρ : DEnv) (C1 : Cells) (P : DK) : Prop := ∀ Dl, C1 Dl = none → ∃ Inv : Nat → Cells → Prop, Inv 0 (cput C1 Dl (.lst [])) ∧
  (∀ i C', Inv i C' → J.still C') ∧
  (∀ i d C', J.items[i]? = some d → Inv i C' → match t.dg d (dwipe ρ vs) with
    | some ρ2 => wt ρ2 C' (fun b C2 => if b = true then we ρ2 C2 (fun y C3 => match C3 Dl with
        | some (.lst acc) => acc.length < 100000 ∧ Inv (i + 1) (cput C3 Dl (.lst (acc ++ [y])))
        | _ => False) noX else Inv (i + 1) C2) noX
    | none => False) ∧
  (∀ C', Inv J.items.length C' → match C' Dl with
    | some (.lst acc) => ∃ C4, Sub C4 C' ∧ C4 Dl = none ∧ P (.lst acc) C4
    | _ => False)
def wLc (wi : DI) (t : Tgt) (wt : DT) (we : DE) (vs : List Nat) (ρ : DEnv) (C : Cells) (P : DK) (PX : DX) : Prop := wi ρ C (fun J C1 => LcG J t wt we vs ρ C1 P) PX
theorem EnvR.wipe {K : PySem.W.Frag} {F : Hp} {σ : L2.St} {ρ : DEnv} (h : EnvR K F σ ρ) : ∀ vs, EnvR K F (L2.wipe σ vs) (dwipe ρ vs)
  | [] => h
  | v :: vs => by
    obtain ⟨h1, h2⟩ := EnvR.wipe h vs
    refine ⟨by show ((L2.wipe σ vs).set v none).length = ((dwipe ρ vs).set v none).length; rw [List.length_set, List.length_set]; exact h1, fun i d q => ?_⟩
    have q' : ((dwipe ρ vs).set v none)[i]? = some (some d) := q
    by_cases e : v = i
    · subst e
      rw [List.getElem?_set] at q'
      simp only [if_true] at q'
      split at q' <;> cases q'
    · rw [List.getElem?_set_ne e] at q'
      obtain ⟨w, hw, rw'⟩ := h2 i d q'
      refine ⟨w, ?_, rw'⟩
      show ((L2.wipe σ vs).set v none)[i]? = some (some w)
      rw [List.getElem?_set_ne e]
      exact hw
section
variable {X : Cx} {W : WX} {K : PySem.W.Frag}
theorem i_lc {wi : DI} {t : Tgt} {wt : DT} {we : DE} {vs : List Nat} (ht : ∀ i ∈ t.slots, i ∈ vs) {σ : L2.St} {H : Hp} {Q : VK} (h : tE K W (wLc wi t wt we vs) σ H Q) : tLc (tI K W wi) (t.tg K) (tT K W0 wt) (tE K W0 we) vs σ H Q := by
  obtain ⟨F, C, ρ, P, PX, hs, en, xr, w, k⟩ := h
  refine ⟨F, C, ρ, _, PX, hs, en, xr, w, fun J F1 H1 Jd C1 e1 h1 ir q => fun Dl hD => ?_⟩
  obtain ⟨c0, h2⟩ := h1.newC (xs := []) (ds := []) .nil hD
  obtain ⟨Inv, i0, st, turn, done⟩ := q Dl c0
  refine ⟨fun i m H' => m = Jd.items.length - i ∧ i ≤ Jd.items.length ∧ ∃ F' C', Ex F1 F' ∧ Hs K F' C' H' ∧ Inv i C', ⟨_, rfl, Nat.zero_le _, F1, _, Ex.refl _, h2, i0⟩, ?_⟩
  rintro i m H' ⟨rfl, hl, F', C', e', h', p⟩
  obtain ⟨go, stop⟩ := ir F' H' C' e' h' (st i C' p)
  by_cases hi : i = Jd.items.length
  · subst hi
    have z := done C' p
    revert z
    split
    · rename_i acc hc
      rintro ⟨C4, s4, n4, z⟩
      obtain ⟨F5, e5, h5, r5⟩ := frz_go h' hc s4 n4 trivial
      exact .inl ⟨stop, k _ F5 H' _ C4 ((e1.trans e').trans e5) h5 r5 z⟩
    · exact fun z => z.elim
  · have hlt : i < Jd.items.length := by omega
    have hd : Jd.items[i]? = some Jd.items[i] := List.getElem?_eq_getElem hlt
    obtain ⟨g1, g2⟩ := go i _ hd
    have q := turn i _ C' hd p
    refine .inr ⟨g1, fun H2 => ∃ F2 C2, Ex F' F2 ∧ Hs K F2 C2 H2 ∧ Inv (i + 1) C2, ?_, ?_⟩
    · rintro H2 ⟨F2, C2, e2, h2, p2⟩
      exact ⟨_, by omega, rfl, hlt, F2, C2, e'.trans e2, h2, p2⟩
    · intro x H2 hy
      obtain ⟨F2, e2, h2, rx⟩ := g2 x H2 hy
      revert q
      split
      · rename_i ρ2 hdg
        intro q
        refine tg_ok t h2.ex rx (((en.mono (e1.trans e')).wipe vs).mono e2) hdg fun σ2 en2 hw => ?_
        refine ⟨by rw [hw vs ht, wipe_wipe], ?_⟩
        refine ⟨F2, C', ρ2, _, noX, h2, en2, fun _ _ _ _ _ _ _ _ _ _ _ _ z => z.elim, q, fun b F3 H3 C3 e3 h3 q3 => ?_⟩
        cases b with
        | false =>
          rw [if_neg Bool.false_ne_true] at q3
          rw [if_neg Bool.false_ne_true]
          exact ⟨F3, C3, e2.trans e3, h3, q3⟩
        | true =>
          rw [if_pos rfl] at q3
          rw [if_pos rfl]
          refine ⟨F3, C3, ρ2, _, noX, h3, en2.mono e3, fun _ _ _ _ _ _ _ _ _ _ _ _ z => z.elim, q3, fun y F4 H4 dy C4 e4 h4 ry q4 => ?_⟩
          revert q4
          dsimp only
          split
          · rename_i acc hc
            rintro ⟨hz, q4⟩
            obtain ⟨f0, us, hu, ru⟩ := h4.cell Dl _ hc
            exact ⟨us, hu, by rw [ru.length]; exact sz_lt hz, F4, _, (e2.trans e3).trans e4, h4.put (c := .lst (acc ++ [dy])) f0 ⟨_, upd_same, ru.append (.cons ry .nil)⟩, q4⟩
          · exact fun z => z.elim
      · exact fun z => z.elim
theorem dts_nil : PTs X [] (tT X.K W wYes) := ⟨fun pins s σ H Q I ⟨F, C, ρ, P, PX, hs, en, xr, w, k⟩ => pts_nil.run pins s σ H Q I (k _ F H C (Ex.refl F) hs w)⟩
theorem dts_one {c : Expr} {t : DT} (h : PT X c (tT X.K W t)) : PTs X [c] (tT X.K W t) := pts_one h
theorem d_lc {elt tg iter : Expr} {ifs : List Expr} {scope : Scope} {own : List (Str × Nat)} {pos : Pos} {wi : DI} {t : Tgt} {wt : DT} {we : DE} (hc : X.calm = true) (hN : X.N.Nodup) (hi : PI X tg iter (tI X.K W wi)) (ok : BlkOk X.N X.env.scope scope own) (hsl : ∀ i ∈ t.slots, i ∈ own.map (·.2))
    (hg : ∀ (s : Shared) (H : Hp) (C : Addr) (cl : List (Str × Addr)) (fp : List Addr), PG (X.blk s H scope (compEnvC scope cl C X.env) fp) tg (t.tg X.K)) (ht : ∀ (s : Shared) (H : Hp) (C : Addr) (cl : List (Str × Addr)) (fp : List Addr), PTs (X.blk s H scope (compEnvC scope cl C X.env) fp) ifs (tT X.K W0 wt))
    (he : ∀ (s : Shared) (H : Hp) (C : Addr) (cl : List (Str × Addr)) (fp : List Addr), PE (X.blk s H scope (compEnvC scope cl C X.env) fp) elt (tE X.K W0 we)) (hs : ∀ x, foldedSetIterable iter X.env x = pure x := by intro _; rfl) :
    PE X (.ListComp elt [⟨tg, iter, ifs, 0⟩] scope pos) (tE X.K W (wLc wi t wt we (own.map (·.2)))) := PE.imp (pe_lc hc hN hi ok hg ht he hs) fun _ _ _ => i_lc hsl
theorem ds_setLc (i : Nat) {y : Str} {py : Pos} {elt tg iter : Expr} {ifs : List Expr} {scope : Scope} {own : List (Str × Nat)} {pos spos : Pos} {wi : DI} {t : Tgt} {wt : DT} {we : DE} (hc : X.calm = true) (hN : X.N.Nodup) (hy : X.N[i]? = some y) (hyl : X.env.scope.names.lookup y = some .local)
    (hsw : swapsWith (.ListComp elt [⟨tg, iter, ifs, 0⟩] scope pos) (some (.Name y py)) spos.line X.env = pure true) (hi : PI X tg iter (tI X.K W wi)) (ok : BlkOk X.N X.env.scope scope own) (hsl : ∀ i ∈ t.slots, i ∈ own.map (·.2))
    (hg : ∀ (s : Shared) (H : Hp) (C : Addr) (cl : List (Str × Addr)) (fp : List Addr), PG (X.blk s H scope (compEnvC scope cl C X.env) fp) tg (t.tg X.K)) (ht : ∀ (s : Shared) (H : Hp) (C : Addr) (cl : List (Str × Addr)) (fp : List Addr), PTs (X.blk s H scope (compEnvC scope cl C X.env) fp) ifs (tT X.K W0 wt))
    (he : ∀ (s : Shared) (H : Hp) (C : Addr) (cl : List (Str × Addr)) (fp : List Addr), PE (X.blk s H scope (compEnvC scope cl C X.env) fp) elt (tE X.K W0 we)) (hs : ∀ x, foldedSetIterable iter X.env x = pure x := by intro _; rfl) :
    PS X (.Assign [.Name y py] (.ListComp elt [⟨tg, iter, ifs, 0⟩] scope pos) spos) (tS X.K W (wSet i (wLc wi t wt we (own.map (·.2))))) := PS.imp (ps_setLc hc hN hy hyl hsw hi ok hg ht he hs) fun Dn σ H ⟨F, C, ρ, DE, hs, en, xr, w, er⟩ => by
  have z : tE X.K W (wLc wi t wt we (own.map (·.2))) σ H (fun x H1 => Dn.nx (σ.set i (some x)) H1) := ⟨F, C, ρ, _, _, hs, en, xr, w, fun v F1 H1 d C1 e1 h1 r q => er.nx _ F1 H1 _ C1 e1 h1 ((en.mono e1).set r) q⟩
  exact i_lc hsl z
end
/-- a comprehension that changes nothing -/
theorem lc_pure {t : Tgt} {wt : DT} {we : DE} {vs : List Nat} {J : DIt} {C1 : Cells} {ρ : DEnv} {P : DK} (f : D → Option D) (hf : ∀ C', Sub C1 C' → J.still C') (hn : J.items.length ≤ 100000)
    (h : ∀ (i : Nat) d C' (Q : Option D → Cells → Prop), J.items[i]? = some d → Sub C1 C' → Q (f d) C' → match t.dg d (dwipe ρ vs) with
      | some ρ2 => wt ρ2 C' (fun b C2 => if b = true then we ρ2 C2 (fun y C3 => Q (some y) C3) noX else Q none C2) noX
      | none => False)
    (hP : P (.lst (J.items.filterMap f)) C1) : LcG J t wt we vs ρ C1 P := by
  intro Dl hD
  refine ⟨fun i C' => C' = cput C1 Dl (.lst ((J.items.take i).filterMap f)), by simp, fun i C' e => hf C' (by rw [e]; exact Sub.new hD), fun i d C' hd e => ?_, fun C' e => ?_⟩
  · have ht : J.items.take (i + 1) = J.items.take i ++ [d] := by rw [List.take_succ, hd]; rfl
    refine h i d C' (fun o C3 => match o with
      | some y => match C3 Dl with
        | some (.lst acc) => acc.length < 100000 ∧ cput C3 Dl (.lst (acc ++ [y])) = cput C1 Dl (.lst ((J.items.take (i + 1)).filterMap f))
        | _ => False
      | none => C3 = cput C1 Dl (.lst ((J.items.take (i + 1)).filterMap f))) hd (by rw [e]; exact Sub.new hD) ?_
    split
    · rename_i y hy
      rw [e, cput_same]
      refine ⟨?_, ?_⟩
      · have := List.length_filterMap_le f (J.items.take i)
        have hlt : i < J.items.length := (List.getElem?_eq_some_iff.mp hd).1
        rw [List.length_take] at this
        omega
      · rw [cput_cput, ht, List.filterMap_append]
        simp [hy]
    · rename_i hy
      rw [e, ht, List.filterMap_append]
      simp [hy]
  · rw [e, cput_same, List.take_length]
    exact ⟨C1, Sub.new hD, hD, hP⟩
end DD

set_option Elab.async false
set_option linter.all false
set_option maxRecDepth 100000
set_option maxHeartbeats 4000000
/-! Readings over data: constants of the module, further operators, the law's end, what loops ask. -/
namespace DD
open PySem L2 PyProof.Rows
section
variable {X : Cx} {W : WX} {K : PySem.W.Frag}
/-- a module's whole number -/
theorem d_kint {x : Str} {i : Int} {pos : Pos} (h : ∃ t, X.mg x = some (.int i t)) (hg : Gl X x := by rfl) (hd : (x == ("__debug__" : Str)) = false := by decide) : PE X (.Name x pos) (tE X.K W (wC (.int i))) := by
  obtain ⟨t, h⟩ := h
  exact d_glob (v := .int i) hg h ⟨t, rfl⟩ (fun _ => .int i) hd
/-- // by a divisor below 2 ^ 64 -/
abbrev dDivW : DR2 := dI (fun _ j => 0 < j ∧ j < 18446744073709551616) fun i j => .int (i / j)
theorem s_divW : SimR K (rI CDivW fun i j => .int (i / j)) dDivW := fun F C H x y dx dy P Q hs rx ry w k => by
  cases rx <;> cases ry <;> first
    | exact w.elim
    | exact ⟨_, _, rfl, rfl, wide_div (b := 64) w.1.1 (by have := w.1; omega) (by decide) (by decide), k _ F H _ C (Ex.refl F) hs (.int _) w.2⟩
def dPow : DR2 := dI CPow fun i j => .int (i ^ j.toNat)
theorem s_pow : SimR K (rI CPow fun i j => .int (i ^ j.toNat)) dPow := simI fun _ _ _ => .int _
theorem s_tupleOf : SimA K (fun xs H Q => ∃ p ys, xs = [.ref p] ∧ ((SqL K H p ys ∧ ∀ l, H l = none → Q (.ref l) (upd H l (.tup ys))) ∨ (SqT K H p ys ∧ Q (.ref p) H))) dTupleOf := fun F C H xs ds P Q hs r w k => by
  revert w
  unfold dTupleOf
  split
  · rename_i x
    obtain ⟨v, rfl, r1⟩ := r.one
    have go : ∀ ys, seqOf x C = some ys → P (.tup ys) C → ∃ p zs, [v] = [V.ref p] ∧ ((SqL K H p zs ∧ ∀ l, H l = none → Q (.ref l) (upd H l (.tup zs))) ∨ (SqT K H p zs ∧ Q (.ref p) H)) := fun ys hy w => by
      obtain ⟨a, us, rfl, h2, h3⟩ := seq_of hs r1 hy
      refine ⟨a, us, rfl, .inl ⟨h2, fun p hp => ?_⟩⟩
      obtain ⟨e4, h4, r4⟩ := hs.newT h3 hp
      exact k _ _ _ _ C e4 h4 r4 w
    cases r1 <;> first
      | (split
         · rename_i ys hy
           exact go ys hy
         · exact fun z => z.elim)
      | (rename_i a us ds hq hr
         exact fun w => ⟨a, us, rfl, .inr ⟨.of (hs.ex.nd hq rfl), k _ F H _ C (Ex.refl F) hs (.tup hq hr) w⟩⟩)
      | (rename_i a us ds hq hr
         exact fun w => ⟨a, us, rfl, .inr ⟨ex_t hs.ex hq, k _ F H _ C (Ex.refl F) hs (.ktup hq hr) w⟩⟩)
  · exact fun z => z.elim
/-- a, b = e1, e2 -/
def wPar (i j : Nat) (a : DA) (E : DEnds) (ρ : DEnv) (C : Cells) : Prop := a ρ C (fun ds C1 => match ds with
  | [x, y] => E.nx ((ρ.set i (some x)).set j (some y)) C1
  | _ => False) E.ex
theorem ds_par {i j : Nat} {x y : Str} {a b : Expr} {wr : DA} {px py pt pos : Pos} {kt k2 pt2} (hc : X.calm = true) (hN : X.N.Nodup) (hi : X.N[i]? = some x) (hj : X.N[j]? = some y) (hij : i ≠ j)
    (hx : X.env.scope.names.lookup x = some .local) (hy : X.env.scope.names.lookup y = some .local) (ha : PA X [a, b] (tA X.K W wr))
    (hw : swappedStores [.Tuple [.Name x px, .Name y py] kt pt] (.Tuple [a, b] k2 pt2) X.env = pure (some [x, y]))
    (hs : swapsWithSole [.Tuple [.Name x px, .Name y py] kt pt] (.Tuple [a, b] k2 pt2) pos.line X.env = pure false := by rfl) :
    PS X (.Assign [.Tuple [.Name x px, .Name y py] kt pt] (.Tuple [a, b] k2 pt2) pos) (tS X.K W (wPar i j wr)) := PS.imp (ps_par hc hN hi hj hij hx hy ha hw hs) fun Dn σ H ⟨F, C, ρ, DE, hs, en, xr, w, er⟩ =>
  ⟨F, C, ρ, _, _, hs, en, xr, w, fun vs F1 H1 ds C1 e1 h1 r q => by
    revert q
    dsimp only
    split
    · intro q
      cases r with
      | cons r1 r2 =>
        cases r2 with
        | cons r2 r3 =>
          cases r3
          exact ⟨_, _, rfl, er.nx _ F1 H1 _ C1 e1 h1 (((en.mono e1).set r1).set r2) q⟩
    · exact fun z => z.elim⟩
end

/-! ### the law's own promise -/
def spLawD (K : PySem.W.Frag) : Sp := fun vs H Q _ => ∃ (a : Addr) (ns : List Int), vs = [.ref a] ∧ SqL K H a (ns.map V.int) ∧ ns.length ≤ 63 ∧ ∀ H', Q (.bl true) H'
theorem spLaw_imp {K : PySem.W.Frag} (R : DSp) (go : ∀ (ns : List Int) (P : DK), ns.length ≤ 63 → (∀ C', P (.bl true) C') → R [.lst (ns.map D.int)] (fun _ => none) P) : ∀ vs H Q E, spLawD K vs H Q E → spD K R vs H Q E :=
  fun vs H Q E ⟨a, ns, hv, hs, hl, k⟩ => by
    subst hv
    refine ⟨H, fun _ => none, [.lst (ns.map D.int)], fun d _ => d = .bl true, ⟨Ex.refl H, fun _ _ e => by cases e⟩, .cons (.lst hs (RepL.ints ns)) .nil, go ns _ hl fun _ => rfl, fun v F' H' d C' _ _ r q => ?_⟩
    subst q
    cases r
    exact k H'
end DD

set_option Elab.async false
set_option linter.all false
set_option maxRecDepth 100000
set_option maxHeartbeats 4000000
/-! Readings over data: sorted(..) of data of any kind. -/
namespace DD
open PySem L2 PyProof.Rows PySem.W
def rSortedD (K : PySem.W.Frag) : List V → Hp → VK → Prop := fun vs H Q => ∃ (a : Addr) (xs : List V) (ps : List PyData), vs = [V.ref a] ∧ SqL K H a xs ∧ DpAll K H xs ps ∧ AllAlike ps ∧ Sortable ps ∧ (∀ d ∈ ps, d.depth ≤ 60) ∧
  ∀ p, H p = none → Q (.ref p) (upd H p (.lst (((xs.zip ps).mergeSort (dataLe false Prod.snd)).map Prod.fst)))
theorem dpAll_len {K : PySem.W.Frag} {H : Hp} : ∀ {xs : List V} {ps : List PyData}, DpAll K H xs ps → xs.length = ps.length
  | _, _, .nil => rfl
  | _, _, .cons _ r => congrArg (· + 1) (dpAll_len r)
theorem each_zip {xs : List V} {ps : List PyData} {vs : List Value} : ∀ {xs : List V} {ps : List PyData} {vs : List Value}, Vals xs vs → xs.length = ps.length → EachIs (fun v (b : V × PyData) => RelV b.1 v) vs (xs.zip ps)
  | _, [], _, .nil, _ => .nil
  | _, p :: ps, _, .cons r t, h => .cons r (each_zip (xs := xs) (ps := ps) (vs := vs) t (by simpa using h))
theorem each_reads {X : Cx} {pins : List (Addr × Obj)} {σ : L2.St} {H : Hp} {s : Shared} (I : Inv X pins σ H s) : ∀ {xs : List V} {ps : List PyData} {vs : List Value}, Vals xs vs → DpAll X.K H xs ps → EachIs (fun v (b : V × PyData) => ∃ as, Reads s.heap v b.2 as) vs (xs.zip ps)
  | _, _, _, .nil, .nil => .nil
  | _, _, _, .cons r t, .cons d e => .cons (Dp.reads I _ _ _ d r) (each_reads I t e)
theorem each_vals {bs : List (V × PyData)} {vs : List Value} : ∀ {bs : List (V × PyData)} {vs : List Value}, EachIs (fun v (b : V × PyData) => RelV b.1 v) vs bs → Vals (bs.map Prod.fst) vs
  | _, _, .nil => .nil
  | _, _, .cons r t => .cons r (each_vals (bs := bs) (vs := vs) t)
theorem zip_snd {xs : List V} {ps : List PyData} (h : xs.length = ps.length) : (xs.zip ps).map Prod.snd = ps := List.map_snd_zip (by omega)
theorem cr_sortedD {X : Cx} (hu : X.A.units + 64 < cLine) : CallR X (.builtin "sorted") (rSortedD X.K) := by
  intro pins s σ H vs us Q I r h
  obtain ⟨a, xs, ps, rfl, hs, hd, hal, hk, hdep, q⟩ := h
  obtain ⟨its, rv, hl, hz⟩ := I.list hs
  rw [Vals.ref1 r]
  have hlen := dpAll_len hd
  have hb : (xs.zip ps).length = xs.length := by rw [List.length_zip]; omega
  refine sorted_data (bs := xs.zip ps) (enc := Prod.snd) (R := fun v b => RelV b.1 v) hl.isList (each_zip (xs := xs) (ps := ps) (vs := its) rv hlen) (each_reads I rv hd) (by rw [zip_snd hlen]; exact hal) (by rw [zip_snd hlen]; exact hk) (by rw [hb]; exact hz) (fun b hb => ?_) fun out h1 h2 => ?_
  · have := hdep b.2 (by rw [← zip_snd hlen]; exact List.mem_map_of_mem hb)
    omega
  · obtain ⟨ep, he'⟩ := PyProof.Rows.sortedAll_at s.heap its out.toArray
    have k1 := each_vals (bs := []) (vs := []) h2
    have hlen2 : (((xs.zip ps).mergeSort (dataLe false Prod.snd)).map Prod.fst).length ≤ sizeLine := by
      rw [List.length_map, List.length_mergeSort, hb]; exact hz
    exact ⟨.ref _, upd H (s.heap.objs.size + 1) (.lst (((xs.zip ps).mergeSort (dataLe false Prod.snd)).map Prod.fst)), I.laid (t' := s.toks) (fun _ _ => PyProof.Rows.sortedAll_old) (Nat.le_succ _) ⟨hlen2, out, ep, k1, he'⟩, rfl, q _ (I.hok.fresh (Nat.le_succ _))⟩
/-- sorted(x), data of one kind -/
def leD : D → D → Bool := dataLe false D.py
structure SortsD (ds : List D) : Prop where
  dat : ∃ n, n ≤ 60 ∧ ∀ d ∈ ds, Dat n d
  alike : AllAlike (ds.map D.py)
  ok : Sortable (ds.map D.py)
def dSortD (ds : List D) (C : Cells) (P : DK) : Prop := match ds with
  | [x] => match itsOf x C with
    | some xs => SortsD xs ∧ seqOf x C = some xs ∧ P (.lst (xs.mergeSort leD)) C
    | none => False
  | _ => False
section
variable {K : PySem.W.Frag}
theorem pys_map : ∀ ds : List D, pys ds = ds.map D.py
  | [] => by simp [pys]
  | d :: r => by simp [pys, pys_map r]
theorem RepL.of_zip {F : Hp} : ∀ {L : List (V × D)}, (∀ p ∈ L, Rep K F p.1 p.2) → RepL K F (L.map Prod.fst) (L.map Prod.snd)
  | [], _ => .nil
  | p :: r, h => .cons (h p List.mem_cons_self) (RepL.of_zip fun q hq => h q (List.mem_cons_of_mem _ hq))
theorem RepL.zip_mem {F : Hp} : ∀ {xs : List V} {ds : List D}, RepL K F xs ds → ∀ p ∈ xs.zip ds, Rep K F p.1 p.2
  | _, _, .nil, p, hp => by simp at hp
  | _, _, .cons h r, p, hp => by
    simp only [List.zip_cons_cons, List.mem_cons] at hp
    rcases hp with rfl | hp
    · exact h
    · exact RepL.zip_mem r p hp
theorem RepL.sort {F : Hp} {xs : List V} {ds : List D} (r : RepL K F xs ds) : RepL K F (((xs.zip (pys ds)).mergeSort (dataLe false Prod.snd)).map Prod.fst) (ds.mergeSort leD) := by
  have hl := r.length
  have e1 : xs.zip (pys ds) = (xs.zip ds).map (fun p => (p.1, p.2.py)) := by rw [pys_map, List.zip_map_right]; congr
  have e2 : (((xs.zip ds).map (fun p => (p.1, p.2.py))).mergeSort (dataLe false Prod.snd)) = ((xs.zip ds).mergeSort (fun p q => leD p.2 q.2)).map (fun p => (p.1, p.2.py)) :=
    (List.map_mergeSort (r := fun p q : V × D => leD p.2 q.2) (s := dataLe false Prod.snd) (f := fun p : V × D => (p.1, p.2.py)) (fun a _ b _ => rfl)).symm
  have e3 : ds.mergeSort leD = ((xs.zip ds).mergeSort (fun p q => leD p.2 q.2)).map Prod.snd := by
    have e4 : ds = (xs.zip ds).map Prod.snd := (List.map_snd_zip (by omega)).symm
    conv => lhs; rw [e4]
    exact (List.map_mergeSort (r := fun p q : V × D => leD p.2 q.2) (s := leD) (f := Prod.snd) (fun a _ b _ => rfl)).symm
  rw [e1, e2, e3, List.map_map]
  exact RepL.of_zip (L := (xs.zip ds).mergeSort (fun p q => leD p.2 q.2)) fun p hp => r.zip_mem p (List.mem_mergeSort.mp hp)
theorem s_sortD : SimA K (rSortedD K) dSortD := fun F C H xs ds P Q hs r w k => by
  revert w
  unfold dSortD
  split
  · rename_i x
    split
    · rename_i ys hy
      rintro ⟨⟨⟨n, hn, hd⟩, hal, hok⟩, hsq, w⟩
      obtain ⟨v, rfl, r1⟩ := r.one
      obtain ⟨a, us, rfl, h2, h3⟩ := seq_of hs r1 hsq
      refine ⟨a, us, pys ys, rfl, h2, dpAll_of (n := n) (fun d hd' v r => rep_dp hs.ex (hd d hd') v r) h3, by rw [pys_map]; exact hal, by rw [pys_map]; exact hok, fun d hd' => ?_, fun p hp => ?_⟩
      · rw [pys_map, List.mem_map] at hd'
        obtain ⟨e, he, rfl⟩ := hd'
        have := (dat_lay (hd e he)).2
        omega
      · obtain ⟨e4, h4, r4⟩ := hs.newL h3.sort hp
        exact k _ _ _ _ C e4 h4 r4 w
    · exact fun z => z.elim
  · exact fun z => z.elim
end

/-! ### pairs of whole numbers -/
def pairD (p : Int × Int) : D := .tup [.int p.1, .int p.2]
def lePair (p q : Int × Int) : Bool := decide (p.1 < q.1 ∨ (p.1 = q.1 ∧ p.2 ≤ q.2))
theorem leD_pair (p q : Int × Int) : leD (pairD p) (pairD q) = lePair p q := by
  have := congrFun (congrFun (dataLe_ii (fun p : Int × Int => p.1) (fun p => p.2)) p) q
  exact this
theorem sorts_pairs (ps : List (Int × Int)) : SortsD (ps.map pairD) := by
  refine ⟨⟨1, by decide, fun d hd => ?_⟩, ?_, ?_⟩
  · obtain ⟨p, _, rfl⟩ := List.mem_map.mp hd
    exact .tup fun e he => by
      simp only [List.mem_cons, List.not_mem_nil, or_false] at he
      rcases he with rfl | rfl <;> exact .int _
  · rw [List.map_map]
    exact AllAlike.of fun b b' => by simp [pairD, D.py, pys, alike, alikeAll]
  · rw [List.map_map]
    exact Sortable.tuples fun b => ⟨.int b.1, [.int b.2], by simp [pairD, D.py, pys]⟩
theorem sort_pairs (ps : List (Int × Int)) : (ps.map pairD).mergeSort leD = (ps.mergeSort lePair).map pairD :=
  (List.map_mergeSort (fun a _ b _ => (leD_pair a b).symm)).symm
theorem lePair_sorted (ps : List (Int × Int)) : (ps.mergeSort lePair).Pairwise fun p q => p.1 < q.1 ∨ (p.1 = q.1 ∧ p.2 ≤ q.2) := by
  have h := List.pairwise_mergeSort (le := lePair) (by intro a b c; simp [lePair]; omega) (by intro a b; simp [lePair]; omega) ps
  exact h.imp (by intro a b; simp [lePair])
end DD

set_option Elab.async false
set_option linter.all false
set_option maxRecDepth 100000
set_option maxHeartbeats 4000000
/-! Tools for readings over data: loops, places. -/
namespace DD
open PySem L2

theorem for_rng {lo : Int} {n i : Nat} {b : DS} {E : DEnds} {ρ : DEnv} {C : Cells} (Inv : Nat → DEnv → Cells → Prop) (h0 : Inv 0 ρ C)
    (hs : ∀ (k : Nat) ρ' C', k < n → Inv k ρ' C' → b { nx := Inv (k + 1), ct := Inv (k + 1), bk := E.nx, rt := E.rt, ex := E.ex } (ρ'.set i (some (.int (lo + (k : Int))))) C')
    (hd : ∀ ρ' C', Inv n ρ' C' → E.nx ρ' C') : ForG ⟨rngD lo n, frozen⟩ (.name i) b E ρ C := by
  refine ⟨Inv, h0, fun _ _ _ _ => trivial, fun k d ρ' C' hk hI => ?_, fun ρ' C' hI => hd ρ' C' (by have e := rngD_len lo n; simp only [e] at hI; exact hI)⟩
  obtain ⟨hk2, rfl⟩ := rngD_get hk
  simp only [Tgt.dg]
  exact hs k ρ' C' hk2 hI
theorem for_items {ds : List D} {t : Tgt} {b : DS} {E : DEnds} {ρ : DEnv} {C : Cells} (Inv : Nat → DEnv → Cells → Prop) (h0 : Inv 0 ρ C)
    (hs : ∀ (k : Nat) d ρ' C', ds[k]? = some d → Inv k ρ' C' → match t.dg d ρ' with
      | some ρ2 => b { nx := Inv (k + 1), ct := Inv (k + 1), bk := E.nx, rt := E.rt, ex := E.ex } ρ2 C'
      | none => False)
    (hd : ∀ ρ' C', Inv ds.length ρ' C' → E.nx ρ' C') : ForG ⟨ds, frozen⟩ t b E ρ C := ⟨Inv, h0, fun _ _ _ _ => trivial, hs, hd⟩
theorem for_map {α : Type} {L : List α} {enc : α → D} {t : Tgt} {b : DS} {E : DEnds} {ρ : DEnv} {C : Cells} (Inv : Nat → DEnv → Cells → Prop) (h0 : Inv 0 ρ C)
    (hs : ∀ (k : Nat) a ρ' C', L[k]? = some a → Inv k ρ' C' → match t.dg (enc a) ρ' with
      | some ρ2 => b { nx := Inv (k + 1), ct := Inv (k + 1), bk := E.nx, rt := E.rt, ex := E.ex } ρ2 C'
      | none => False)
    (hd : ∀ ρ' C', Inv L.length ρ' C' → E.nx ρ' C') : ForG ⟨L.map enc, frozen⟩ t b E ρ C := by
  refine for_items Inv h0 (fun k d ρ' C' hk hI => ?_) (fun ρ' C' hI => hd ρ' C' (by rw [List.length_map] at hI; exact hI))
  rw [List.getElem?_map] at hk
  cases hL : L[k]? with
  | none => rw [hL] at hk; cases hk
  | some a =>
    rw [hL] at hk
    simp only [Option.map_some, Option.some.injEq] at hk
    subst hk
    exact hs k a ρ' C' hL hI
/-- a loop over a list that is a cell and stays as it is -/
theorem for_cell {α : Type} {L : List α} {enc : α → D} {a : Addr} {t : Tgt} {b : DS} {E : DEnds} {ρ : DEnv} {C : Cells} (Inv : Nat → DEnv → Cells → Prop) (h0 : Inv 0 ρ C) (hst : ∀ k ρ' C', Inv k ρ' C' → C' a = some (.lst (L.map enc)))
    (hs : ∀ (k : Nat) x ρ' C', L[k]? = some x → Inv k ρ' C' → match t.dg (enc x) ρ' with
      | some ρ2 => b { nx := Inv (k + 1), ct := Inv (k + 1), bk := E.nx, rt := E.rt, ex := E.ex } ρ2 C'
      | none => False)
    (hd : ∀ ρ' C', Inv L.length ρ' C' → E.nx ρ' C') : ForG ⟨L.map enc, fun C' => C' a = some (.lst (L.map enc))⟩ t b E ρ C := by
  refine ⟨Inv, h0, hst, (fun k d ρ' C' hk hI => ?_), (fun ρ' C' hI => hd ρ' C' (by simp only [List.length_map] at hI; exact hI))⟩
  simp only [List.getElem?_map] at hk
  cases hL : L[k]? with
  | none => rw [hL] at hk; cases hk
  | some a =>
    rw [hL] at hk
    simp only [Option.map_some, Option.some.injEq] at hk
    subst hk
    exact hs k a ρ' C' hL hI
/-- a comprehension over a range that changes nothing -/
theorem lc_rng {lo : Int} {n i : Nat} {wt : DT} {we : DE} {vs : List Nat} {C1 : Cells} {ρ : DEnv} {P : DK} (f : Int → Option D) (hn : n ≤ 100000)
    (h : ∀ (k : Nat) C' (Q : Option D → Cells → Prop), k < n → Sub C1 C' → Q (f (lo + (k : Int))) C' →
      wt ((dwipe ρ vs).set i (some (.int (lo + (k : Int))))) C' (fun b C2 => if b = true then we ((dwipe ρ vs).set i (some (.int (lo + (k : Int))))) C2 (fun y C3 => Q (some y) C3) noX else Q none C2) noX)
    (hP : P (.lst ((List.range n).filterMap fun (k : Nat) => f (lo + (k : Int)))) C1) : LcG ⟨rngD lo n, frozen⟩ (.name i) wt we vs ρ C1 P := by
  refine lc_pure (fun d => match d with | .int z => f z | _ => none) (fun _ _ => trivial) (by simpa [rngD_len] using hn) (fun k d C' Q hk hs hq => ?_) ?_
  · obtain ⟨hk2, rfl⟩ := rngD_get hk
    simp only [Tgt.dg]
    exact h k C' Q hk2 hs hq
  · have e : (rngD lo n).filterMap (fun d => match d with | .int z => f z | _ => none) = (List.range n).filterMap fun (k : Nat) => f (lo + (k : Int)) := by
      unfold rngD
      rw [List.filterMap_map]
      rfl
    show P (.lst ((rngD lo n).filterMap (fun d => match d with | .int z => f z | _ => none))) C1
    rw [e]
    exact hP
theorem lc_map {α : Type} {L : List α} {enc : α → D} {st : Cells → Prop} {t : Tgt} {wt : DT} {we : DE} {vs : List Nat} {C1 : Cells} {ρ : DEnv} {P : DK} (f : α → Option D) (hf : ∀ C', Sub C1 C' → st C') (hn : L.length ≤ 100000)
    (h : ∀ (k : Nat) a C' (Q : Option D → Cells → Prop), L[k]? = some a → Sub C1 C' → Q (f a) C' → match t.dg (enc a) (dwipe ρ vs) with
      | some ρ2 => wt ρ2 C' (fun b C2 => if b = true then we ρ2 C2 (fun y C3 => Q (some y) C3) noX else Q none C2) noX
      | none => False)
    (hP : P (.lst (L.filterMap f)) C1) : LcG ⟨L.map enc, st⟩ t wt we vs ρ C1 P := by
  intro Dl hD
  refine ⟨fun i C' => C' = cput C1 Dl (.lst ((L.take i).filterMap f)), by simp, fun i C' e => hf C' (by rw [e]; exact Sub.new hD), fun i d C' hd e => ?_, fun C' e => ?_⟩
  · simp only [List.getElem?_map] at hd
    cases hL : L[i]? with
    | none => rw [hL] at hd; cases hd
    | some a =>
      rw [hL] at hd
      simp only [Option.map_some, Option.some.injEq] at hd
      subst hd
      have ht : L.take (i + 1) = L.take i ++ [a] := by rw [List.take_succ, hL]; rfl
      refine h i a C' (fun o C3 => match o with
        | some y => match C3 Dl with
          | some (.lst acc) => acc.length < 100000 ∧ cput C3 Dl (.lst (acc ++ [y])) = cput C1 Dl (.lst ((L.take (i + 1)).filterMap f))
          | _ => False
        | none => C3 = cput C1 Dl (.lst ((L.take (i + 1)).filterMap f))) hL (by rw [e]; exact Sub.new hD) ?_
      split
      · rename_i y hy
        rw [e, cput_same]
        refine ⟨?_, ?_⟩
        · have := List.length_filterMap_le f (L.take i)
          have hlt : i < L.length := (List.getElem?_eq_some_iff.mp hL).1
          rw [List.length_take] at this
          omega
        · rw [cput_cput, ht, List.filterMap_append]
          simp [hy]
      · rename_i hy
        rw [e, ht, List.filterMap_append]
        simp [hy]
  · simp only [List.length_map, List.take_length] at e
    rw [e, cput_same]
    exact ⟨C1, Sub.new hD, hD, hP⟩
theorem atI_nat' {α : Type} (xs : List α) (j : Nat) : atI xs (j : Int) = xs[j]? := by
  unfold atI ixN
  rw [if_pos (by omega)]
  by_cases h : (j : Int) < xs.length
  · rw [if_pos h]
    simp
  · rw [if_neg h]
    rw [List.getElem?_eq_none (by omega)]
    rfl
theorem atI_at {α : Type} {xs : List α} {i : Int} (h0 : 0 ≤ i) : atI xs i = xs[i.toNat]? := by
  obtain ⟨j, rfl⟩ := Int.eq_ofNat_of_zero_le h0
  rw [atI_nat']
  simp
theorem atI_zero {α : Type} (x : α) (xs : List α) : atI (x :: xs) 0 = some x := by
  rw [atI_at (by omega)]; rfl
theorem ixN_at {n : Nat} {i : Int} (h0 : 0 ≤ i) (h1 : i < n) : ixN n i = some i.toNat := by
  unfold ixN
  rw [if_pos h0, if_pos h1]
theorem ixN_nat {n j : Nat} (h1 : j < n) : ixN n (j : Int) = some j := by
  rw [ixN_at (by omega) (by omega)]; simp
theorem sub_put {C : Cells} {p : Addr} {c : Cell} (h : C p = none) : Sub C (cput C p c) := Sub.new h
theorem seq_hide {a b : DS} {E : DEnds} {ρ : DEnv} {C : Cells} (h : ∀ E', { E with nx := fun ρ' C' => b E ρ' C' } = E' → a E' ρ C) : wSeqL a b E ρ C := h _ rfl
theorem while_hide {t : DT} {b : DS} {E : DEnds} {ρ : DEnv} {C : Cells} (h : ∀ b', b = b' → wWhile t b' E ρ C) : wWhile t b E ρ C := h _ rfl
section
variable {C : Cells} {a Cl : Addr} {ds : List D} {fs : List (String × D)} {f : String} {i : Int}
theorem seqOf_lst : seqOf (.lst ds) C = some ds := rfl
theorem seqOf_ptr : seqOf (.ptr a) C = match C a with | some (.lst ds) => some ds | _ => none := rfl
theorem itsOf_lst : itsOf (.lst ds) C = some ds := rfl
theorem itsOf_tup : itsOf (.tup ds) C = some ds := rfl
theorem itsOf_ptr : itsOf (.ptr a) C = match C a with | some (.lst ds) => some ds | _ => none := rfl
theorem lenOf_lst : lenOf (.lst ds) C = some ds.length := rfl
theorem lenOf_tup : lenOf (.tup ds) C = some ds.length := rfl
theorem lenOf_ptr : lenOf (.ptr a) C = match C a with | some (.lst ds) => some ds.length | _ => none := by
  show Option.map List.length (itsOf (.ptr a) C) = _
  rw [itsOf_ptr]
  split <;> simp_all
theorem lenOf_str {z : Str} (h : z.length ≤ 100000) : lenOf (.str z) C = some z.length := by simp only [lenOf, if_pos h]
theorem itemOf_lst : itemOf (.lst ds) C i = atI ds i := rfl
theorem itemOf_tup : itemOf (.tup ds) C i = atI ds i := rfl
theorem itemOf_ptr : itemOf (.ptr a) C i = match C a with | some (.lst ds) => atI ds i | _ => none := by
  show (itsOf (.ptr a) C).bind (fun ds => atI ds i) = _
  rw [itsOf_ptr]
  split <;> simp_all
theorem itemOf_str {z : Str} (h : z.length ≤ 100000) : itemOf (.str z) C i = (atI z.cps.toList i).map fun c => .str ⟨#[c]⟩ := by simp only [itemOf, if_pos h]
theorem isSeq_ptr : isSeq (.ptr a) C = match C a with | some (.lst _) => True | _ => False := by
  show ((seqOf (.ptr a) C).isSome = true) = _
  rw [seqOf_ptr]
  split <;> simp_all
theorem isSeq_lst : isSeq (.lst ds) C := rfl
theorem fldOf_ins : fldOf Cl f (.ins Cl fs) C = fs.lookup f := by simp only [fldOf, if_true]
theorem fldOf_ptr : fldOf Cl f (.ptr a) C = match C a with | some (.ins c fs) => if c = Cl then fs.lookup f else none | _ => none := rfl
theorem isIns_ins : isIns Cl f (.ins Cl fs) C = (fs.lookup f = none) := by simp only [isIns, true_and]
theorem isIns_ptr : isIns Cl f (.ptr a) C = match C a with | some (.ins c fs) => c = Cl ∧ fs.lookup f = none | _ => False := rfl
theorem res_lst : D.res C (.lst ds) = .lst ds := rfl
theorem res_tup : D.res C (.tup ds) = .tup ds := rfl
theorem res_ptr : D.res C (.ptr a) = match C a with | some (.lst ds) => .lst ds | _ => .ptr a := rfl
end
/-- a product that is no wide one -/
theorem cmul_l {i j : Int} (h : -(2 ^ 64) < i) (h' : i < 2 ^ 64) : CMul i j := .inl ⟨h, h'⟩
theorem cmul_r {i j : Int} (h : -(2 ^ 64) < j) (h' : j < 2 ^ 64) : CMul i j := .inr ⟨h, h'⟩
theorem mod_lo (a : Int) {m : Int} (h : 0 < m) : 0 ≤ a % m := Int.emod_nonneg _ (by omega)
theorem mod_hi (a : Int) {m : Int} (h : 0 < m) : a % m < m := Int.emod_lt_of_pos _ h
end DD

set_option Elab.async false
set_option linter.all false
set_option maxRecDepth 100000
set_option maxHeartbeats 4000000
/-! Tools for readings over data: cells taken away, == of lists, comprehensions over places. -/
namespace DD
open PySem L2
/-- without the cell at p -/
def crem (C : Cells) (p : Addr) : Cells := fun a => if a = p then none else C a
theorem crem_sub (C : Cells) (p : Addr) : Sub (crem C p) C := fun a c h => by
  unfold crem at h
  split at h
  · cases h
  · exact h
theorem crem_same {C : Cells} {p : Addr} : crem C p p = none := by unfold crem; rw [if_pos rfl]
theorem crem_ne {C : Cells} {p a : Addr} (h : a ≠ p) : crem C p a = C a := by unfold crem; rw [if_neg h]
theorem eqv_lists {α : Type} {enc : α → D} [DecidableEq α] (h : ∀ a b, (enc a).eqb (enc b) = decide (a = b)) : ∀ xs ys : List α, PyData.eqvAll (pys (xs.map enc)) (pys (ys.map enc)) = decide (xs = ys)
  | [], [] => by simp [pys, PyData.eqvAll]
  | [], y :: ys => by simp [pys, PyData.eqvAll]
  | x :: xs, [] => by simp [pys, PyData.eqvAll]
  | x :: xs, y :: ys => by
    have e := h x y
    unfold D.eqb at e
    simp only [List.map_cons, pys, PyData.eqvAll, e, eqv_lists h xs ys, List.cons.injEq]
    by_cases h1 : x = y <;> by_cases h2 : xs = ys <;> simp [h1, h2]
theorem eqb_lst {α : Type} {enc : α → D} [DecidableEq α] (h : ∀ a b, (enc a).eqb (enc b) = decide (a = b)) (xs ys : List α) : (D.lst (xs.map enc)).eqb (.lst (ys.map enc)) = decide (xs = ys) := by
  show PyData.eqv (D.lst (xs.map enc)).py (D.lst (ys.map enc)).py = _
  simp only [D.py, PyData.eqv]
  exact eqv_lists h xs ys
theorem eqb_tup {α : Type} {enc : α → D} [DecidableEq α] (h : ∀ a b, (enc a).eqb (enc b) = decide (a = b)) (xs ys : List α) : (D.tup (xs.map enc)).eqb (.tup (ys.map enc)) = decide (xs = ys) := by
  show PyData.eqv (D.tup (xs.map enc)).py (D.tup (ys.map enc)).py = _
  simp only [D.py, PyData.eqv]
  exact eqv_lists h xs ys
theorem eqb_int (a b : Int) : (D.int a).eqb (.int b) = decide (a = b) := by simp [D.eqb, D.py, PyData.eqv]; rfl
theorem eqb_str (a b : Str) : (D.str a).eqb (.str b) = decide (a = b) := by simp [D.eqb, D.py, PyData.eqv]; rfl
theorem eqb_ints (xs ys : List Int) : (D.lst (xs.map D.int)).eqb (.lst (ys.map D.int)) = decide (xs = ys) := eqb_lst eqb_int xs ys
theorem eqb_pair (p q : Int × Int) : (pairD p).eqb (pairD q) = decide (p = q) := by
  have e : (pairD p).eqb (pairD q) = decide ([p.1, p.2] = [q.1, q.2]) := eqb_tup eqb_int [p.1, p.2] [q.1, q.2]
  rw [e]
  cases p; cases q
  simp
theorem eqb_lst_nil {α : Type} (enc : α → D) : ∀ xs : List α, (D.lst (xs.map enc)).eqb (.lst []) = xs.isEmpty
  | [] => by simp [D.eqb, D.py, pys, PyData.eqv, PyData.eqvAll]
  | x :: xs => by simp [D.eqb, D.py, pys, PyData.eqv, PyData.eqvAll]
theorem dat_lst {α : Type} {enc : α → D} {n : Nat} (h : ∀ a, Dat n (enc a)) (xs : List α) : Dat (n + 1) (.lst (xs.map enc)) := .lst fun d hd => by
  obtain ⟨a, _, rfl⟩ := List.mem_map.mp hd
  exact h a
theorem dat_tup {α : Type} {enc : α → D} {n : Nat} (h : ∀ a, Dat n (enc a)) (xs : List α) : Dat (n + 1) (.tup (xs.map enc)) := .tup fun d hd => by
  obtain ⟨a, _, rfl⟩ := List.mem_map.mp hd
  exact h a
theorem dat_ints {n : Nat} (xs : List Int) : Dat (n + 1) (.lst (xs.map D.int)) := dat_lst (fun _ => .int _) xs
theorem dat_nil {n : Nat} : Dat (n + 1) (.lst []) := .lst fun d hd => by cases hd
theorem dat_pair {n : Nat} (p : Int × Int) : Dat (n + 1) (pairD p) := dat_tup (enc := D.int) (fun _ => .int _) [p.1, p.2]
/-- == of two lists of ints -/
theorem range_filterMap {α β : Type} (L : List α) (g : α → Option β) : (List.range L.length).filterMap (fun k => (L[k]?).bind g) = L.filterMap g := by
  suffices h : ∀ n, n ≤ L.length → (List.range n).filterMap (fun k => (L[k]?).bind g) = (L.take n).filterMap g by
    rw [h L.length (Nat.le_refl _), List.take_length]
  intro n
  induction n with
  | zero => intro _; rfl
  | succ n ih =>
    intro hn
    rw [List.range_succ, List.filterMap_append, ih (by omega), List.take_succ, List.filterMap_append]
    have e : L[n]? = some L[n] := List.getElem?_eq_getElem (by omega)
    simp only [e, List.filterMap_cons, List.filterMap_nil, Option.bind_some, Option.toList_some]
theorem take_snoc {α : Type} {L : List α} {k : Nat} {e : α} (h : L[k]? = some e) : L.take (k + 1) = L.take k ++ [e] := by
  rw [List.take_succ, h]; rfl
theorem filterMap_map {α β γ : Type} (L : List α) (g : α → Option β) (f : β → γ) : L.filterMap (fun a => (g a).map f) = (L.filterMap g).map f := by
  rw [List.map_filterMap]
theorem ints_ptr {C : Cells} {a : Addr} {ns : List Int} (h : C a = some (.lst (ns.map D.int))) : IntsOf (.ptr a) C ns := by simp only [IntsOf, seqOf, h]
theorem ints_lst {C : Cells} {ns : List Int} : IntsOf (.lst (ns.map D.int)) C ns := rfl
/-- the first of a sorted list -/
theorem sortI_head {l : List Int} (h : l ≠ []) : ∃ r, sortI l = minI l :: r := by
  obtain ⟨h1, h2⟩ := minI_spec h
  have hp := sortI_perm l
  have hs := sortI_pair l
  cases e : sortI l with
  | nil =>
    rw [e] at hp
    exact absurd hp.symm.eq_nil h
  | cons x r =>
    refine ⟨r, ?_⟩
    rw [e] at hp hs
    have hx : x ∈ l := hp.mem_iff.mp List.mem_cons_self
    have hm : minI l ∈ x :: r := hp.mem_iff.mpr h1
    have hle := h2 x hx
    rcases List.mem_cons.mp hm with q | q
    · rw [q]
    · have := (List.pairwise_cons.mp hs).1 _ q
      rw [show x = minI l by omega]
end DD

set_option Elab.async false
set_option linter.all false
set_option maxRecDepth 100000
set_option maxHeartbeats 4000000
/-! More: range with a step, the last of a list, cuts. -/
namespace DD
open PySem L2

def rngC (lo c : Int) (n : Nat) : List D := (List.range n).map fun (k : Nat) => D.int (lo + (k : Int) * c)
theorem rngC_len (lo c : Int) (n : Nat) : (rngC lo c n).length = n := by simp [rngC]
theorem rngC_get {lo c : Int} {n i : Nat} {d : D} (h : (rngC lo c n)[i]? = some d) : i < n ∧ d = .int (lo + (i : Int) * c) := by
  unfold rngC at h
  rw [List.getElem?_map] at h
  rcases Nat.lt_or_ge i n with z | z
  · rw [List.getElem?_range z] at h
    exact ⟨z, (Option.some.inj h).symm⟩
  · rw [List.getElem?_eq_none (by simpa using z)] at h; cases h
def wRng3 (a : DA) (ρ : DEnv) (C : Cells) (P : DIt → Cells → Prop) (PX : DX) : Prop := a ρ C (fun ds C1 => match ds with
  | [.int i, .int j, .int c] => ∃ n, RgC i j c n ∧ P ⟨rngC i c n, frozen⟩ C1
  | _ => False) PX
theorem itr_rngC {K : PySem.W.Frag} {F : Hp} {lo c : Int} {n : Nat} : ItR K F (Itc lo c n) ⟨rngC lo c n, frozen⟩ := fun F' H C e hs _ => by
  refine ⟨fun i d hd => ?_, by show n ≤ (rngC lo c n).length; rw [rngC_len]; exact Nat.le_refl _⟩
  obtain ⟨hi, rfl⟩ := rngC_get hd
  refine ⟨hi, fun x H' y => ?_⟩
  obtain ⟨rfl, rfl⟩ := y
  exact ⟨F', Ex.refl _, hs, .int _⟩
theorem di_rng3 {X : Cx} {W : WX} {tg : Expr} {wr : DA} {pos : Pos} {a b c : Expr} {p : Pos} (hg : Gl X "range") (hm : X.mg "range" = none) (ha : PA X [a, b, c] (tA X.K W wr))
    (hs : starEach [a, b, c] X.env = (false, eval a X.env) :: starEach [b, c] X.env := by rfl) (hpl : (backTo pos (starEach [b, c] X.env)).any (·.1) = false := by rfl) :
    PI X tg (.Call (.Name "range" p) [a, b, c] [] pos) (tI X.K W (wRng3 wr)) :=
  PI.imp (pi_range3 hg hm ha hs hpl) fun σ H R ⟨F, C, ρ, P, PX, hs, en, xr, w, k⟩ => ⟨F, C, ρ, _, PX, hs, en, xr, w, fun v F1 H1 d C1 e1 h1 r q => by
    revert q
    dsimp only
    split
    · rintro ⟨n, hn, q⟩
      rename_i i j c
      cases r with
      | cons r1 r2 =>
        cases r1
        cases r2 with
        | cons r2 r3 =>
          cases r2
          cases r3 with
          | cons r3 r4 =>
            cases r3; cases r4
            exact ⟨i, j, c, n, rfl, hn, k _ F1 H1 _ C1 e1 h1 itr_rngC q⟩
    · exact fun z => z.elim⟩
theorem for_rngC {lo c : Int} {n i : Nat} {b : DS} {E : DEnds} {ρ : DEnv} {C : Cells} (Inv : Nat → DEnv → Cells → Prop) (h0 : Inv 0 ρ C)
    (hs : ∀ (k : Nat) ρ' C', k < n → Inv k ρ' C' → b { nx := Inv (k + 1), ct := Inv (k + 1), bk := E.nx, rt := E.rt, ex := E.ex } (ρ'.set i (some (.int (lo + (k : Int) * c)))) C')
    (hd : ∀ ρ' C', Inv n ρ' C' → E.nx ρ' C') : ForG ⟨rngC lo c n, frozen⟩ (.name i) b E ρ C := by
  refine ⟨Inv, h0, fun _ _ _ _ => trivial, fun k d ρ' C' hk hI => ?_, fun ρ' C' hI => hd ρ' C' (by have e := rngC_len lo c n; simp only [e] at hI; exact hI)⟩
  obtain ⟨hk2, rfl⟩ := rngC_get hk
  simp only [Tgt.dg]
  exact hs k ρ' C' hk2 hI
theorem rgC_two {n : Nat} (h : n ≤ 1000000) : RgC 0 (n : Int) 2 ((n + 1) / 2) := by
  have e : Builtin.Range.rangeSize 0 (n : Int) 2 = (((n + 1) / 2 : Nat) : Int) := by
    unfold Builtin.Range.rangeSize
    split <;> omega
  refine ⟨by decide, by decide, ?_, e⟩
  unfold Builtin.Range.small
  rw [e]
  have e1 : ((2 : Int) > 0) = True := by simp
  have e2 : Builtin.Range.rangeFitsLong 2 = true := by decide
  have e3 : Builtin.Range.rangeFitsLong 0 = true := by decide
  have e4 : ∀ i : Int, 0 ≤ i → i ≤ 3000000 → Builtin.Range.rangeFitsLong i = true := fun i h1 h2 => by
    simp only [Builtin.Range.rangeFitsLong, Bool.and_eq_true, decide_eq_true_eq]; omega
  rw [e2, e3, e4 _ (by omega) (by omega)]
  simp only [Bool.and_eq_true, Bool.or_eq_true, decide_eq_true_eq, beq_iff_eq, e1, if_true, true_and]
  exact ⟨e4 _ (by omega) (by omega), .inr (e4 _ (by omega) (by omega))⟩

theorem atI_getLast {α : Type} (xs : List α) : atI xs (-1) = xs.getLast? := by
  unfold atI ixN
  rcases List.eq_nil_or_concat xs with h | ⟨r, x, h⟩
  · subst h; rfl
  · subst h
    simp only [List.concat_eq_append, List.length_append, List.length_singleton]
    rw [if_neg (by decide), if_pos (by omega)]
    have : (-1 + ((r.length + 1 : Nat) : Int)).toNat = r.length := by omega
    simp only [Option.bind_some, this]
    simp
theorem atI_snoc {α : Type} (xs : List α) (x : α) : atI (xs ++ [x]) (-1) = some x := by rw [atI_getLast, List.getLast?_concat]
theorem atI_succ {α : Type} (xs : List α) (j : Nat) : atI xs ((j : Int) + 1) = xs[j + 1]? := atI_nat' xs (j + 1)
theorem cut_init (xs : List D) : cutD xs none (some (-1)) = xs.dropLast := by
  unfold cutD
  simp only [HT.sIx, List.drop_zero, Nat.sub_zero]
  rw [if_pos (by decide), List.dropLast_eq_take]
  congr 1
  omega
theorem cut_from (xs : List D) (k : Nat) : cutD xs (some (k : Int)) none = xs.drop k := by
  unfold cutD
  simp only [HT.sIx_nat, HT.sIx_none]
  rw [List.take_of_length_le (by rw [List.length_drop]; omega)]
  rcases Nat.le_total k xs.length with h | h
  · rw [Nat.min_eq_left h]
  · rw [Nat.min_eq_right h, List.drop_eq_nil_of_le (Nat.le_refl _), List.drop_eq_nil_of_le h]
theorem cut_to (xs : List D) (k : Nat) : cutD xs none (some (k : Int)) = xs.take k := by
  unfold cutD
  simp only [HT.sIx_nat, HT.sIx_none, List.drop_zero, Nat.sub_zero]
  rcases Nat.le_total k xs.length with h | h
  · rw [Nat.min_eq_left h]
  · rw [Nat.min_eq_right h, List.take_of_length_le (Nat.le_refl _), List.take_of_length_le h]
end DD

set_option Elab.async false
set_option linter.all false
set_option maxRecDepth 100000
set_option maxHeartbeats 4000000
/-! More: a module's tuple, x in xs of data, tuples put together. -/
namespace DD
open PySem L2 PySem.Spec PyProof.Rows

/-! ### a tuple of the module -/
theorem rep_tupK {K : PySem.W.Frag} {a : Addr} {od : Option Addr} {its : Array Value} {n : Nat} {sl : Array (Option Value)} {vs : List V} {ds : List D} (h : K.lookup a = some ⟨.type "tuple", od, .seq its n, sl⟩) (hs : its.size ≤ sizeLine) (r : Vals vs its.toList)
    (q : ∀ F, RepL K F vs ds) : ∀ F, Rep K F (.ref a) (.ktup ds) := fun F => .ktup (.inr ⟨_, its, n, h, rfl, rfl, hs, r⟩) (q F)
theorem d_kdat {X : Cx} {W : WX} {x : Str} {d : D} {pos : Pos} (h : ∃ a, X.mg x = some (.ref a) ∧ ∀ F, Rep X.K F (.ref a) d) (hg : Gl X x := by rfl) (hd : (x == ("__debug__" : Str)) = false := by decide) : PE X (.Name x pos) (tE X.K W (wC d)) := by
  obtain ⟨a, hm, hr⟩ := h
  exact d_glob hg hm (v := .ref a) rfl hr hd

/-! ### x in xs, data of any depth -/
def rInQ (K : PySem.W.Frag) (neg : Bool) : R2 := fun x y H Q => ∃ d e ds, (e = .list ds ∨ e = .tuple ds) ∧ Dp K H x d ∧ Dp K H y e ∧ SeqAt.shaped d = true ∧ SeqAt.shaped e = true ∧ Q (.bl (neg ^^ ds.any fun z => PyData.eqv z d)) H
theorem room_in_tuple {A : Around} {xs : List PyData} {d : PyData} (hd : SeqAt.shaped d = true) (hu : A.units + 65 < cLine) : A.units + 1 + min (PyData.depthAll xs) d.depth < cLine := by
  unfold SeqAt.shaped at hd
  simp only [Bool.and_eq_true, decide_eq_true_eq] at hd
  have : min (PyData.depthAll xs) d.depth ≤ d.depth := Nat.min_le_right _ _
  omega
theorem op_inQ {X : Cx} (hu : X.A.units + 65 < cLine) : OpR X (compareOp .In) (rInQ X.K false) := by
  intro pins s σ H x y v u Q I rx ry h
  obtain ⟨d, e, ds, he, hd, hq, sd, se, q⟩ := h
  obtain ⟨as, r1⟩ := Dp.reads I d x v hd rx
  obtain ⟨bs, r2⟩ := Dp.reads I e y u hq ry
  rw [Bool.false_xor] at q
  rcases he with rfl | rfl
  · exact SeqAt.in_list_reads r2 r1 (SeqAt.canLay_of_shaped se) (SeqAt.canLay_of_shaped sd) (room_in_tuple sd hu) ⟨.bl _, H, I, rfl, q⟩
  · exact SeqAt.in_tuple_reads r2 r1 (SeqAt.canLay_of_shaped se) (SeqAt.canLay_of_shaped sd) (room_in_tuple sd hu) ⟨.bl _, H, I, rfl, q⟩
theorem op_notInQ {X : Cx} (hu : X.A.units + 65 < cLine) : OpR X (compareOp .NotIn) (rInQ X.K true) := by
  intro pins s σ H x y v u Q I rx ry h
  obtain ⟨d, e, ds, he, hd, hq, sd, se, q⟩ := h
  obtain ⟨as, r1⟩ := Dp.reads I d x v hd rx
  obtain ⟨bs, r2⟩ := Dp.reads I e y u hq ry
  rw [Bool.true_xor] at q
  rcases he with rfl | rfl
  · exact SeqAt.notIn_list_reads r2 r1 (SeqAt.canLay_of_shaped se) (SeqAt.canLay_of_shaped sd) (room_in_tuple sd hu) ⟨.bl _, H, I, rfl, q⟩
  · exact SeqAt.notIn_tuple_reads r2 r1 (SeqAt.canLay_of_shaped se) (SeqAt.canLay_of_shaped sd) (room_in_tuple sd hu) ⟨.bl _, H, I, rfl, q⟩
/-- the items of a list or a tuple that is data -/
def inItems : D → Option (List D)
  | .lst ds => some ds
  | .tup ds => some ds
  | .ktup ds => some ds
  | _ => none
def dInD (neg : Bool) (x : D) (y : D) (C : Cells) (P : DK) : Prop := match inItems (y.res C) with
  | some ds => ∃ n, n ≤ 60 ∧ Dat n (x.res C) ∧ Dat n (y.res C) ∧ P (.bl (neg ^^ ds.any fun z => z.eqb (x.res C))) C
  | none => False
theorem any_pys (d : PyData) : ∀ ds : List D, ((pys ds).any fun z => PyData.eqv z d) = ds.any fun z => PyData.eqv z.py d
  | [] => rfl
  | x :: r => by simp only [pys, List.any_cons, any_pys d r]
theorem s_inD {K : PySem.W.Frag} {neg : Bool} : SimR K (rInQ K neg) (dInD neg) := fun F C H x y dx dy P Q hs rx ry w k => by
  revert w
  unfold dInD
  split
  · rename_i ds hd
    rintro ⟨n, hn, h1, h2, w⟩
    have kk := k _ F H _ C (Ex.refl F) hs (.bl _) w
    have e : (fun z : D => z.eqb (dx.res C)) = fun z : D => PyData.eqv z.py (dx.res C).py := rfl
    rw [e, ← any_pys] at kk
    refine ⟨_, _, pys ds, ?_, res_dp hs rx h1, res_dp hs ry h2, dat_shaped h1 hn, dat_shaped h2 hn, kk⟩
    cases hy : dy.res C <;> rw [hy] at hd <;> cases hd
    · exact .inr (by rw [D.py])
    · exact .inl (by rw [D.py])
    · exact .inr (by rw [D.py])
  · exact fun z => z.elim

/-! ### tuples put together -/
def dCatT (x : D) (y : D) (C : Cells) (P : DK) : Prop := match x, y with
  | .tup xs, .tup ys => xs.length + ys.length ≤ 100000 ∧ P (.tup (xs ++ ys)) C
  | _, _ => False
theorem s_catT {K : PySem.W.Frag} : SimR K (rCatA K) dCatT := fun F C H x y dx dy P Q hs rx ry w k => by
  unfold dCatT at w
  split at w
  · rename_i xs ys
    cases rx with
    | tup h1 r1 =>
      cases ry with
      | tup h2 r2 =>
        rename_i a us b vs
        have e1 := r1.length
        have e2 := r2.length
        refine ⟨a, b, us, vs, rfl, rfl, .of (hs.ex.nd h1 rfl), .of (hs.ex.nd h2 rfl), by rw [e1, e2]; exact Nat.le_trans w.1 (by decide), fun e => ?_, fun _ e => ?_, fun _ _ p hp => ?_⟩
        · subst e
          cases r1
          exact k _ F H _ C (Ex.refl F) hs (.tup h2 r2) w.2
        · subst e
          cases r2
          have w2 := w.2
          rw [List.append_nil] at w2
          exact k _ F H _ C (Ex.refl F) hs (.tup h1 r1) w2
        · obtain ⟨ex, hs'⟩ := hs.lay (o := .tup (us ++ vs)) hp
          exact k _ _ _ _ C ex hs' (.tup (by unfold upd; rw [if_pos rfl]) ((r1.mono ex).append (r2.mono ex))) w.2
  · exact w.elim
theorem atI_lit {α : Type} (xs : List α) (n : Nat) : atI xs (no_index (@OfNat.ofNat Int n _)) = xs[n]? := atI_nat' xs n
theorem _root_.L2.Room.units2 {k : Nat} {A : Around} (r : L2.Room k A) : A.units + 65 < cLine := by have := r.un; omega
end DD

set_option Elab.async false
set_option linter.all false
set_option maxRecDepth 100000
set_option maxHeartbeats 4000000
/-! Exceptions: raise of an own class, try and except. -/
namespace DD
open PySem L2 PySem.Spec PyProof.Rows

/-- what is known of an own class of errors without an __init__ -/
structure XcT (K : PySem.W.Frag) (C : Addr) : Prop where
  xi : PySem.W.excIn K C [.type "ValueError", .type "Exception", .type "BaseException", .type "object"] "ValueError.__new__" = true
  xb : PySem.W.subIn K (.ref C) (.type "BaseException") = some true
  xt : PySem.W.typeIn K (.ref C) = some (.type "type")
  xk : PySem.W.keepIn K (.ref C) = true
theorem exm_is {K : PySem.W.Frag} {C1 C2 : Addr} {b : Bool} (h1 : PySem.W.subIn K (.ref C2) (.type "BaseException") = some true) (h2 : PySem.W.isClsIn K C2 = true) (h3 : PySem.W.typeIn K (.ref C2) = some (.type "type")) (h4 : PySem.W.subIn K (.ref C1) (.ref C2) = some b) :
    PySem.W.exmOne K (.ref C1) (.ref C2) = some b := by
  unfold PySem.W.exmOne PySem.W.kitCls
  have h5 : (PySem.W.clsIn K C2).isSome = true := h2
  rw [h1, if_pos (by decide)]
  dsimp only
  rw [h5, h3, if_pos (by decide), h4]

def wRaise (cls : Value) (E : DEnds) (ρ : DEnv) (C : Cells) : Prop := E.ex cls [] ρ C
section
variable {X : Cx} {W : WX} {K : PySem.W.Frag} {pos : Pos}
theorem ds_raise0 {x m : Str} {j : Nat} {p p2 pos' : Pos} {C : Addr} (hc : X.calm = true) (tk : Takes X W) (T : XcT X.K C) (gC : X.mg x = some (.ref C)) (hg : Gl X x) (hdb : (x == ("__debug__" : Str)) = false := by decide) :
    PS X (.Raise (some (.Call (.Name x p) [.Constant (.str m) j p2] [] pos)) none pos') (tS X.K W (wRaise (.ref C))) :=
  PS.imp (ps_raise hc tk (pmk_own PySem.F.excBase_ValueError T.xi gC T.xk (raises_own T.xb T.xt) hg hdb)) fun D σ H ⟨F, C', ρ, E, hs, en, xr, w, k⟩ =>
    xr _ none [] σ F H ρ C' (Ex.refl F) hs en (.inl rfl) w

/-! try: .. except X: .. (the suite raises nothing) -/
def wTry (K : PySem.W.Frag) (c : Value) (wb ws : DS) (E : DEnds) (ρ : DEnv) (C : Cells) : Prop := wb { E with ex := fun cls fs ρ' C' => ∃ b, PySem.W.exmOne K cls c = some b ∧ (b = true → ws { E with ex := fun _ _ _ _ => False } ρ' C') ∧ (b = false → E.ex cls fs ρ' C') } ρ C
theorem EndsR.exx {F : Hp} {E : DEnds} {D : Ends} {px : DX} (h : EndsR K F E D) : EndsR K F { E with ex := px } D := ⟨h.nx, h.rt, h.bk, h.ct⟩
theorem ds_try {x : Str} {C : Addr} {K' : PySem.W.Frag} {body suite : List Stmt} {b₀ : Stmt} {np pos' : Pos} {wb ws : DS} (hs : X.stack = X.env :: X.outer) (hf : X.env.frame = some X.env.locals) (T : XcT K' C) (gC : X.mg x = some (.ref C)) (tk : Takes X W)
    (hb : ∀ (W' : WX) (pn : List (Addr × Obj)) (xe : Value → Shared → Prop), Takes (X.tr pn xe) W' → PassesOwn (model X.prog X.w) X.A X.env xe → PSs (X.tr pn xe) body (tS X.K W' wb))
    (hsu : ∀ (a : Addr) (oe : Obj) (cls : Value) (d : Option Addr) (pn : List (Addr × Obj)), Zc cls d oe → (∃ vs, oe.data = .fields vs) → PSs (X.suite a ((a, oe) :: pn)) (b₀ :: suite) (tS X.K (fun _ _ _ _ => False) ws))
    (hK : X.K = K' := by rfl) (hg : Gl X x := by rfl) (hdb : (x == ("__debug__" : Str)) = false := by decide) :
    PS X (.Try body [.ExceptHandler (some (.Name x np)) none (b₀ :: suite) pos'] [] [] pos) (tS X.K W (wTry K' (.ref C) wb ws)) := by
  subst hK
  exact PS.imp (ps_try_only (tb := fun W' => tS X.K W' wb) (ts := fun _ _ _ => tS X.K (fun _ _ _ _ => False) ws) hs hf ⟨hg, hdb, .inl gC⟩ tk hb hsu) fun D σ H ⟨F, C', ρ, E, hs', en, xr, w, k⟩ =>
    ⟨F, C', ρ, { E with ex := fun cls fs ρ' C' => ∃ b, PySem.W.exmOne X.K cls (.ref C) = some b ∧ (b = true → ws { E with ex := fun _ _ _ _ => False } ρ' C') ∧ (b = false → E.ex cls fs ρ' C') }, hs', en, fun cls d fs σ1 F1 H1 ρ1 C1 e1 h1 n1 rx ⟨b, hb1, hy, hn⟩ =>
      ⟨b, hb1, fun hbt a ha => ⟨F1, C1, ρ1, { E with ex := fun _ _ _ _ => False }, h1, n1, fun _ _ _ _ _ _ _ _ _ _ _ _ z => z.elim, hy hbt, (k.mono e1).exx⟩, fun hbf => xr cls d fs σ1 F1 H1 ρ1 C1 e1 h1 n1 rx (hn hbf)⟩, w, k.exx⟩
end

/-! an object made, its __init__ may raise -/
section
variable {X : Cx} {W : WX} {k : Nat} {f Cl : Addr} {fd : FuncData} {ps : List Str} {x : Str} {p pos : Pos} {e : Expr} {es : List Expr} {dvs : List V} {dsv : List Value}
theorem make_at {CX : CXT} {sp : Sp} {E : XK} {pins : List (Addr × Obj)} {σ : L2.St} {H : Hp} {s : Shared} {Q : VK} {us : List Value} {vs : List V} (M : Mk X.K Cl f) (F : FnOk X.prog X.w X.K X.mg X.base CX k f fd ps sp) (hr : Room (k + 1) X.A) (hb : Binds X.K fd ps dsv) (hd : Vals dvs dsv)
    (hx : PassesAt CX X σ E) (I : Inv X pins σ H s) (r : Vals vs us)
    (h : ∀ z dx, H z = none → H dx = none → dx ≠ z → sp (.ref z :: (vs ++ dvs)) (upd (upd H dx (.own z)) z (.ins Cl dx [])) (fun v H2 => v = .non ∧ Q (.ref z) H2) E) :
    wpAny (model X.prog X.w) X.A (call (.ref Cl) us) (EP X pins σ Q) X.xe s := by
  have q := h _ _ (I.hok.fresh (Nat.le_succ s.heap.objs.size)) (I.hok.fresh (Nat.le_refl s.heap.objs.size)) (Nat.ne_of_lt (Nat.lt_succ_self s.heap.objs.size))
  have J := Inv.made (C := Cl) I
  have rv : Vals (V.ref (s.heap.objs.size + 1) :: (vs ++ dvs)) (Value.ref (s.heap.objs.size + 1) :: (us ++ dsv)) := .cons rfl (r.append hd)
  have len : (Value.ref (s.heap.objs.size + 1) :: us ++ dsv).length = ps.length := rv.length.symm.trans (F.len _ _ _ _ q)
  refine wpAny_call (make_map (f := f) I.kIn M.makes M.init (beq_iff_eq.mp M.fn) (codeAny_mono (F.run _ X.stack _ _ ⟨Value.ref (s.heap.objs.size + 1) :: us, []⟩ (Value.ref (s.heap.objs.size + 1) :: (us ++ dsv)) _ _ E (hr.make Cl us []) (J.env0.make Cl us []) (hb _ (Value.ref (s.heap.objs.size + 1) :: us) J.kIn len) rv q) fun o s' z => ?_))
  match o, z with
  | .error e, z => exact hx pins _ _ e s' J z
  | .ok (.ret u), z =>
    obtain ⟨v, H', J2, _, ev, q3⟩ := J.after z
    subst ev
    exact ⟨by assumption, ⟨V.ref _, H', J2, rfl, q3⟩⟩
  | .ok .next, z => exact z.elim
  | .ok .brk, z => exact z.elim
  | .ok .cont, z => exact z.elim
theorem d_makeX {RX : DSpX} {dd : List D} {wr : DA} (tk : Takes X W) (M : Mk X.K Cl f) (G : FnOk X.prog X.w X.K X.mg X.base (L2.CX X.prog X.w) k f fd ps (spX X.K RX)) (hr : Room (k + 1) X.A) (hm : X.mg x = some (.ref Cl)) (hb : Binds X.K fd ps dsv) (ha : PA X (e :: es) (tA X.K W wr)) (hd : Vals dvs dsv := by exact .nil) (hdd : ∀ F, RepL X.K F dvs dd := by exact fun _ => .nil) (hg : Gl X x := by rfl)
    (hdb : (x == ("__debug__" : Str)) = false := by decide) (he : starEach (e :: es) X.env = (false, eval e X.env) :: starEach es X.env := by rfl) (hpl : (backTo pos (starEach es X.env)).any (·.1) = false := by rfl) :
    PE X (.Call (.Name x p) (e :: es) [] pos) (tE X.K W (wMakeX Cl RX dd wr)) := by
  refine ⟨fun pins s σ H Q I ⟨F, C, ρ, P, PX, hs, en, xr, w, kk⟩ => ?_⟩
  refine wpAny_Call_Name_kw (ld_glob I hg hm ?_ hdb)
  refine PySem.W.callWith_K (h₀ := X.base) I.ok.mod.kin M.kp (thn (ha.run pos pins s σ H (fun vs H1 => ∃ F1 C1 ds, Ex F F1 ∧ Hs X.K F1 C1 H1 ∧ RepL X.K F1 vs ds ∧ ∀ q, C1 q = none → RX (.ptr q :: (ds ++ dd)) (cput C1 q (.ins Cl [])) (fun r C2 => r = .non ∧ P (.ptr q) C2) (fun cls fs C3 => PX cls fs ρ C3)) I
    ⟨F, C, ρ, _, PX, hs, en, xr, w, fun vs F1 H1 ds C1 e1 h1 r q => ⟨F1, C1, ds, e1, h1, r, q⟩⟩) fun us s1 ⟨vs, H1, I1, r, F1, C1, ds, e1, h1, rr, q⟩ => ⟨I1.kIn, ?_⟩) he hpl
  refine make_at (E := WE W σ) M G hr hb hd (passAt tk σ) I1 r fun z dx hz hdx ne => ?_
  obtain ⟨c0, h2⟩ := h1.inst (Cl := Cl) hz hdx ne
  exact ⟨F1, _, .ptr z :: (ds ++ dd), _, _, h2, .cons (.ptr z) (rr.append (hdd F1)), q z c0, ptr_kont (kk.mono e1), KontX.of (xr.mono e1) (en.mono e1)⟩
end

/-! xs.index(y), flat items -/
def dIndex (x : D) (ds : List D) (C : Cells) (P : DK) : Prop := match ds with
  | [y] => ∃ xs, seqOf x C = some xs ∧ flatD y = true ∧ xs.all flatD = true ∧ ∃ (j : Nat) (z : D), xs[j]? = some z ∧ eqV (toV z) (toV y) = true ∧ (∀ (m : Nat) (z' : D), m < j → xs[m]? = some z' → eqV (toV z') (toV y) = false) ∧ P (.int (j : Int)) C
  | _ => False
theorem s_index {K : PySem.W.Frag} : SimM K (rIndex K) dIndex := fun F C H x dx xs ds P Q hs rx rl w k => by
  revert w
  unfold dIndex
  split
  · rename_i y
    rintro ⟨zs, hz, fy, fz, j, z, hj, hzy, hno, w⟩
    obtain ⟨a, us, rfl, hq, hr⟩ := seq_of hs rx hz
    cases rl with
    | cons r1 r2 =>
      cases r2
      obtain ⟨e1, f1⟩ := flat_rep r1 fy
      obtain ⟨e2, f2⟩ := flat_reps hr fz
      refine ⟨a, us, _, j, toV z, rfl, rfl, hq, f1, f2, ?_, by rw [e1]; exact hzy, fun m z' hm hz' => ?_, k _ F H _ C (Ex.refl F) hs (.int _) w⟩
      · rw [e2, List.getElem?_map, hj]; rfl
      · rw [e2, List.getElem?_map] at hz'
        cases hm' : zs[m]? with
        | none => rw [hm'] at hz'; cases hz'
        | some z2 =>
          rw [hm'] at hz'
          cases hz'
          rw [e1]
          exact hno m z2 hm hm'
  · exact fun z => z.elim
theorem eqV_int (a b : Int) : eqV (toV (.int a)) (toV (.int b)) = decide (a = b) := by
  simp only [toV, eqV]
  exact Bool.beq_eq_decide_eq a b
end DD

set_option Elab.async false
set_option linter.all false
set_option maxRecDepth 100000
set_option maxHeartbeats 4000000
/-! xs.extend(ys) of a cell by any list. -/
namespace DD
open PySem L2 HT PySem.Spec PyProof.Rows
open PySem.AutoSeq1 (wpAny_loadPart')

theorem list_extendW (l : Addr) (items : Array Value) (n : Nat) (b : Addr) (items2 : Array Value) (n2 : Nat) (sl2 : Array (Option Value)) (hc0 : ¬(!items.isEmpty && Builtin.List.listTooLong (items.size + items2.size)) = true) (hc1 : items.size ≤ sizeLine) (hs2 : items.size + items2.size ≤ sizeLine + 1) :
    Meets (Builtin.«list.extend» ⟨[.ref l, .ref b], []⟩) (fun _ R s => s.heap.get? l = some { cls := .type "list", dict := none, data := .seq items n, slots := #[] } ∧ s.heap.get? b = some { cls := .type "list", dict := none, data := .seq items2 n2, slots := sl2 } ∧ R (.ok (.ret Value.none)) { s with heap := s.heap.update l (Obj.mapSeq fun x => x ++ items2), toks := s.toks }) :=
  .of_wp fun prog w A R s h => by
    obtain ⟨hp, g, d, tk, os⟩ := s
    obtain ⟨hl, hb, h⟩ := h
    have f1 := AutoSeq1.idx_int
    have f2 := AutoSeq1.sub_tuple_tuple
    have f3 := AutoSeq1.sub_list_list
    have f4 := AutoSeq1.sub_tuple_list
    have f5 := AutoSeq1.sub_list_tuple
    have hz' : (items ++ items2).size ≤ sizeLine + 1 := by rw [Array.size_append]; exact hs2
    wp_walk using (wpAny_updateSeq hl rfl (hz := hc1) (_hz' := hz')), wpAny_loadPart' hl, wpAny_loadPart' hb
    exact ⟨_, rfl, h⟩
def rExtendS (K : PySem.W.Frag) : V → List V → Hp → VK → Prop := fun x vs H Q => ∃ l b xs zs, x = .ref l ∧ vs = [.ref b] ∧ H l = some (.lst xs) ∧ SqL K H b zs ∧ xs.length + zs.length ≤ sizeLine ∧ Q .non (upd H l (.lst (xs ++ zs)))
theorem mt_extendS {X : Cx} : MtR X "list.extend" (rExtendS X.K) := by
  intro pins s σ H x vs v us Q I rx rv h
  obtain ⟨l, b, xs, zs, rfl, rfl, hH, hB, hz, q⟩ := h
  cases rx
  obtain ⟨u, rfl, ru⟩ := rv.one
  cases ru
  obtain ⟨z, its, n, r, hl, e⟩ := I.lstM hH
  obtain ⟨its2, r2, pl2, _⟩ := I.list hB
  obtain ⟨⟨cls2, dd2, data2, sl2⟩, n2, ho2, hc2, hdd, hd2⟩ := pl2
  simp only at hc2 hdd hd2
  subst hc2 hdd hd2
  have hl2 := r2.length
  have hsz : its.toArray.size + its2.toArray.size ≤ sizeLine := by rw [List.size_toArray, List.size_toArray]; omega
  have hlong : ¬ (!its.toArray.isEmpty && Builtin.List.listTooLong (its.toArray.size + its2.toArray.size)) = true := by
    rw [notLongL hsz, Bool.and_false]
    exact Bool.false_ne_true
  refine call_meets F.slot_list_extend ⟨_, e, rfl⟩ F.entry_list_extend (F.args_list_extend_2 _ _)
    (list_extendW l its.toArray n b its2.toArray n2 sl2 hlong (by rw [List.size_toArray]; omega) (by omega)) ⟨e, ho2, ?_⟩
  refine ⟨.non, _, I.lset (its' := its ++ its2) hH e (by simp) (r.append r2) ?_, rfl, q⟩
  rw [List.length_append]
  omega
def dExtend (x : D) (ds : List D) (C : Cells) (P : DK) : Prop := match x, ds with
  | .ptr a, [d] => match C a, seqOf d C with
    | some (.lst xs), some ys => xs.length + ys.length ≤ 100000 ∧ P .non (cput C a (.lst (xs ++ ys)))
    | _, _ => False
  | _, _ => False
theorem s_extend {K : PySem.W.Frag} : SimM K (rExtendS K) dExtend := fun F C H x dx xs ds P Q hs rx rl w k => by
  revert w
  unfold dExtend
  split
  · rename_i a d
    cases rx
    split
    · rename_i ys zs hc hd
      rintro ⟨hl, w⟩
      cases rl with
      | cons r1 r2 =>
        cases r2
        obtain ⟨f0, us, hx, r⟩ := hs.cell a _ hc
        obtain ⟨b, vs, rfl, hv, rv⟩ := seq_of hs r1 hd
        exact ⟨a, b, us, vs, rfl, rfl, hx, hv, by rw [r.length, rv.length]; exact sz_of hl, k _ F _ _ _ (Ex.refl F) (hs.put (c := .lst (ys ++ zs)) f0 ⟨_, upd_same, r.append rv⟩) .non w⟩
    · exact fun z => z.elim
  · exact fun z => z.elim
section
variable {X : Cx} {W : WX} {K : PySem.W.Frag}
theorem d_extend {o e : Expr} {es : List Expr} {wo : DE} {wr : DA} {pos apos : Pos} (ho : PE X o (tE X.K W wo)) (ha : PA X (e :: es) (tA X.K W wr))
    (hbase : attributeBase o (Str.ofString "extend") X.env (eval o X.env) = eval o X.env := by rfl)
    (hfew : ((backTo pos (starEach (e :: es) X.env)).all (fun x => !x.1) && (backToKw pos (keywordEach [] X.env)).all (fun x => x.1.isSome)
      && decide ((e :: es).length + ([] : List Keyword).length + (if ([] : List Keyword).isEmpty then 0 else 1) < 30)) = true := by rfl)
    (hline : (apos.endLine == pos.line) = true := by rfl) (hs : starEach (e :: es) X.env = (false, eval e X.env) :: starEach es X.env := by rfl) (hplain : (backTo pos (starEach es X.env)).any (·.1) = false := by rfl) :
    PE X (.Call (.Attribute o (Str.ofString "extend") apos) (e :: es) [] pos) (tE X.K W (wBML dExtend wo wr)) :=
  d_bmL PySem.F.plainAttrs_list PySem.F.slot_list_extend PySem.F.type_list_extend mt_extendS s_extend ho ha hbase hfew hline hs hplain
end
end DD

set_option Elab.async false
set_option linter.all false
set_option maxRecDepth 100000
set_option maxHeartbeats 4000000
/-! Texts: what is walked, ord, chr, join; any and all of lists; a module's text; statements that are never reached. -/
namespace DD
open PySem L2 HT PySem.Spec PyProof.Rows

/-- a sign as a text -/
def chD (c : Nat) : D := .str ⟨#[c]⟩
def strDs (z : Str) : List D := z.cps.toList.map chD
def wItS (e : DE) (ρ : DEnv) (C : Cells) (P : DIt → Cells → Prop) (PX : DX) : Prop := e ρ C (fun d C1 => match d with
  | .str z => P ⟨strDs z, frozen⟩ C1
  | _ => False) PX
def dOrd (ds : List D) (C : Cells) (P : DK) : Prop := match ds with
  | [.str z] => z.length = 1 ∧ P (.int (z.cps.getD 0 0 : Nat)) C
  | _ => False
def dChr (ds : List D) (C : Cells) (P : DK) : Prop := match ds with
  | [.int i] => (0 ≤ i ∧ i ≤ 1114111) ∧ P (chD i.toNat) C
  | _ => False
def dAny (ds : List D) (C : Cells) (P : DK) : Prop := match ds with
  | [x] => ∃ bs : List Bool, seqOf x C = some (bs.map D.bl) ∧ P (.bl (bs.any id)) C
  | _ => False
def dAll (ds : List D) (C : Cells) (P : DK) : Prop := match ds with
  | [x] => ∃ bs : List Bool, seqOf x C = some (bs.map D.bl) ∧ P (.bl (bs.all id)) C
  | _ => False
/-- a text's method -/
def wBMS (r : DRM) (o : DE) (a : DA) (ρ : DEnv) (C : Cells) (P : DK) (PX : DX) : Prop := o ρ C (fun x C1 => match x with
  | .str z => a ρ C1 (fun ds C2 => r (.str z) ds C2 P) PX
  | _ => False) PX
def dJoin (x : D) (ds : List D) (C : Cells) (P : DK) : Prop := match x, ds with
  | .str a, [y] => ∃ ys : List Str, seqOf y C = some (ys.map D.str) ∧ (ys.map (·.length)).sum + ys.length * a.length ≤ 16777216 ∧ P (.str (Txt.join a ys)) C
  | _, _ => False
def wDead (E : DEnds) (ρ : DEnv) (C : Cells) : Prop := False
section
variable {X : Cx} {W : WX} {K : PySem.W.Frag} {e tg : Expr} {we wo : DE} {wr : DA} {pos : Pos}
theorem ds_dead {s : Stmt} : PS X s (tS X.K W wDead) := ⟨fun pins s σ H D I w => by obtain ⟨F, C, ρ, DE, _, _, _, h, _⟩ := w; exact h.elim⟩
theorem itr_str {F : Hp} {z : Str} : ItR K F (Its z) ⟨strDs z, frozen⟩ := fun F' H C e hs _ => by
  refine ⟨fun i d hd => ?_, by show z.cps.size ≤ (strDs z).length; unfold strDs; rw [List.length_map, Array.length_toList]; exact Nat.le_refl _⟩
  unfold strDs at hd
  rw [List.getElem?_map, Array.getElem?_toList] at hd
  cases hc : z.cps[i]? with
  | none => rw [hc] at hd; cases hd
  | some c =>
    rw [hc] at hd
    injection hd with hd
    subst hd
    refine ⟨(Array.getElem?_eq_some_iff.mp hc).1, fun x H' y => ?_⟩
    obtain ⟨rfl, c', h1, rfl⟩ := y
    rw [hc] at h1
    injection h1 with h1
    subst h1
    exact ⟨F', Ex.refl _, hs, .str _⟩
theorem di_str (he : PE X e (tE X.K W we)) : PI X tg e (tI X.K W (wItS we)) := PI.imp (pi_str he) fun σ H R ⟨F, C, ρ, P, PX, hs, en, xr, w, k⟩ =>
  ⟨F, C, ρ, _, PX, hs, en, xr, w, fun v F1 H1 d C1 e1 h1 r q => by
    cases r <;> first | exact q.elim | skip
    exact ⟨_, rfl, k _ F1 H1 _ C1 e1 h1 itr_str q⟩⟩
theorem s_ord : SimA K (fun xs H Q => ∃ x, xs = [.str x] ∧ x.length = 1 ∧ Q (.int (x.cps.getD 0 0 : Nat)) H) dOrd := fun F C H xs ds P Q hs r w k => by
  revert w
  unfold dOrd
  split
  · rename_i z
    rintro ⟨hl, w⟩
    cases r with
    | cons r1 r2 =>
      cases r2
      cases r1
      exact ⟨z, rfl, hl, k _ F H _ C (Ex.refl F) hs (.int _) w⟩
  · exact fun z => z.elim
theorem s_chr : SimA K (fun xs H Q => ∃ i, xs = [.int i] ∧ 0 ≤ i ∧ i ≤ 1114111 ∧ Q (.str ⟨#[i.toNat]⟩) H) dChr := fun F C H xs ds P Q hs r w k => by
  revert w
  unfold dChr
  split
  · rename_i i
    rintro ⟨hl, w⟩
    cases r with
    | cons r1 r2 =>
      cases r2
      cases r1
      exact ⟨i, rfl, hl.1, hl.2, k _ F H _ C (Ex.refl F) hs (.str _) w⟩
  · exact fun z => z.elim
theorem RepL.bools {F : Hp} : ∀ {xs : List V} {bs : List Bool}, RepL K F xs (bs.map D.bl) → xs = bs.map V.bl
  | _, [], r => by cases r; rfl
  | _, b :: bs, r => by
    cases r with
    | cons r1 r2 =>
      cases r1
      rw [RepL.bools r2]
      rfl
theorem RepL.strs {F : Hp} : ∀ {xs : List V} {ys : List Str}, RepL K F xs (ys.map D.str) → xs = ys.map V.str
  | _, [], r => by cases r; rfl
  | _, b :: bs, r => by
    cases r with
    | cons r1 r2 =>
      cases r1
      rw [RepL.strs r2]
      rfl
theorem s_any : SimA K (rAny K) dAny := fun F C H xs ds P Q hs r w k => by
  revert w
  unfold dAny
  split
  · rintro ⟨bs, hn, w⟩
    cases r with
    | cons r1 r2 =>
      cases r2
      obtain ⟨a, us, rfl, h2, r3⟩ := seq_of hs r1 hn
      rw [r3.bools] at h2
      exact ⟨a, bs, rfl, h2, k _ F H _ C (Ex.refl F) hs (.bl _) w⟩
  · exact fun z => z.elim
theorem s_all : SimA K (rAll K) dAll := fun F C H xs ds P Q hs r w k => by
  revert w
  unfold dAll
  split
  · rintro ⟨bs, hn, w⟩
    cases r with
    | cons r1 r2 =>
      cases r2
      obtain ⟨a, us, rfl, h2, r3⟩ := seq_of hs r1 hn
      rw [r3.bools] at h2
      exact ⟨a, bs, rfl, h2, k _ F H _ C (Ex.refl F) hs (.bl _) w⟩
  · exact fun z => z.elim
theorem d_bmS {es : List Expr} {apos : Pos} {id : String} {name : Str} {r : V → List V → Hp → VK → Prop} {rd : DRM} {o : Expr} (pa : PlainAttrs "str") (slot : Slot "str" name id) (hty : typeOf (.builtin id) = pure (.type "method_descriptor")) (hm : MtR X id r) (hr : SimM X.K r rd) (ho : PE X o (tE X.K W wo)) (ha : PA X (e :: es) (tA X.K W wr))
    (hbase : attributeBase o name X.env (eval o X.env) = eval o X.env := by rfl)
    (hfew : ((backTo pos (starEach (e :: es) X.env)).all (fun x => !x.1) && (backToKw pos (keywordEach [] X.env)).all (fun x => x.1.isSome)
      && decide ((e :: es).length + ([] : List Keyword).length + (if ([] : List Keyword).isEmpty then 0 else 1) < 30)) = true := by rfl)
    (hline : (apos.endLine == pos.line) = true := by rfl) (hs : starEach (e :: es) X.env = (false, eval e X.env) :: starEach es X.env := by rfl) (hplain : (backTo pos (starEach es X.env)).any (·.1) = false := by rfl) :
    PE X (.Call (.Attribute o name apos) (e :: es) [] pos) (tE X.K W (wBMS rd wo wr)) :=
  PE.imp (pe_bm pa slot hty hm ho ha hbase hfew hline hs hplain) fun σ H Q ⟨F, C, ρ, P, PX, hs, en, xr, w, k⟩ => ⟨F, C, ρ, _, PX, hs, en, xr, w, fun v F1 H1 d C1 e1 h1 rv q => by
    cases rv <;> first | exact q.elim | skip
    rename_i z
    exact ⟨rfl, F1, C1, ρ, _, PX, h1, en.mono e1, xr.mono e1, q, fun vs F2 H2 ds C2 e2 h2 rl q2 => hr F2 C2 H2 (.str z) (.str z) vs ds P Q h2 (.str z) rl q2 (k.mono (e1.trans e2))⟩⟩
theorem s_join : SimM K (fun x xs H Q => ∃ a p, ∃ ys : List Str, x = .str a ∧ xs = [.ref p] ∧ (SqL K H p (ys.map V.str) ∨ SqT K H p (ys.map V.str)) ∧ (ys.map (·.length)).sum + ys.length * a.length ≤ 16777216 ∧ Q (.str (Txt.join a ys)) H) dJoin := fun F C H x dx xs ds P Q hs rx rl w k => by
  revert w
  unfold dJoin
  split
  · rename_i a y
    rintro ⟨ys, hn, hl, w⟩
    cases rx
    cases rl with
    | cons r1 r2 =>
      cases r2
      obtain ⟨p, us, rfl, h2, r3⟩ := seq_of hs r1 hn
      rw [r3.strs] at h2
      exact ⟨a, p, ys, rfl, rfl, .inl h2, hl, k _ F H _ C (Ex.refl F) hs (.str _) w⟩
  · exact fun z => z.elim
/-- a module's text -/
theorem d_kstr {x : Str} {z : Str} {pos : Pos} (h : ∃ t, X.mg x = some (.str z t)) (hg : Gl X x := by rfl) (hd : (x == ("__debug__" : Str)) = false := by decide) : PE X (.Name x pos) (tE X.K W (wC (.str z))) := by
  obtain ⟨t, h⟩ := h
  exact d_glob (v := .str z) hg h ⟨t, rfl⟩ (fun _ => .str z) hd
end
end DD

set_option Elab.async false
set_option linter.all false
set_option maxRecDepth 100000
set_option maxHeartbeats 4000000
/-! max of three whole numbers; what is joined. -/
namespace DD
open PySem L2 HT PySem.Spec PyProof.Rows

def dMax3 (ds : List D) (C : Cells) (P : DK) : Prop := match ds with
  | [.int i, .int j, .int l] => P (.int (max (max i j) l)) C
  | _ => False
theorem nu_max2 (i j : Int) : nuMax2 (.int i) (.int j) = some (.int (max i j)) := by
  have e : nuLt (.int i) (.int j) = some (decide (i < j)) := rfl
  unfold nuMax2
  rw [e]
  show some (if decide (i < j) = true then V.int j else V.int i) = _
  by_cases h : i < j
  · rw [if_pos (by simpa using h)]; congr 2; omega
  · rw [if_neg (by simpa using h)]; congr 2; omega
theorem s_max3 {K : PySem.W.Frag} : SimA K (rNuC3 nuMax3) dMax3 := fun F C H xs ds P Q hs r w k => by
  revert w
  unfold dMax3
  split
  · rename_i i j l
    intro w
    cases r with
    | cons r1 r2 =>
      cases r1
      cases r2 with
      | cons r3 r4 =>
        cases r3
        cases r4 with
        | cons r5 r6 =>
          cases r5; cases r6
          refine ⟨.int i, .int j, .int l, .int (max (max i j) l), rfl, ?_, k _ F H _ C (Ex.refl F) hs (.int _) w⟩
          unfold nuMax3
          rw [nu_max2]
          exact nu_max2 _ _
  · exact fun z => z.elim
theorem strjoin_chars : ∀ cs : List Nat, Str.join ⟨#[]⟩ (cs.map fun c => (⟨#[c]⟩ : Str)) = ⟨cs.toArray⟩
  | [] => rfl
  | [c] => rfl
  | c :: d :: r => by
    have ih := strjoin_chars (d :: r)
    show (⟨#[c]⟩ : Str) ++ ⟨#[]⟩ ++ Str.join ⟨#[]⟩ ((d :: r).map fun c => (⟨#[c]⟩ : Str)) = _
    rw [ih]
    show (⟨(#[c] ++ #[]) ++ (d :: r).toArray⟩ : Str) = _
    simp
theorem join_chars (cs : List Nat) : Txt.join ⟨#[]⟩ (cs.map fun c => (⟨#[c]⟩ : Str)) = ⟨cs.toArray⟩ := by rw [TL.join_eq, strjoin_chars]
end DD

set_option Elab.async false
set_option linter.all false
set_option maxRecDepth 100000
set_option maxHeartbeats 4000000
/-! Comprehensions whose items are not known beforehand; slices by both ends. -/
namespace DD
open PySem L2
theorem lc_gen {α : Type} {J : DIt} {t : Tgt} {we : DE} {vs : List Nat} {C1 : Cells} {ρ : DEnv} {P : DK} (enc : α → D) (ok : α → Prop) (hst : ∀ C', Sub C1 C' → J.still C') (hn : J.items.length < 100000)
    (h : ∀ (i : Nat) d C' (Q : DK), J.items[i]? = some d → Sub C1 C' → (∀ a C3, ok a → Sub C' C3 → Q (enc a) C3) → match t.dg d (dwipe ρ vs) with
      | some ρ2 => we ρ2 C' Q noX
      | none => False)
    (hP : ∀ L : List α, L.length = J.items.length → (∀ a ∈ L, ok a) → P (.lst (L.map enc)) C1) : LcG J t wYes we vs ρ C1 P := by
  intro Dl hD
  refine ⟨fun i C' => ∃ L : List α, L.length = i ∧ (∀ a ∈ L, ok a) ∧ Sub C1 C' ∧ C' Dl = some (.lst (L.map enc)), ⟨[], rfl, (fun a ha => by cases ha), Sub.new hD, cput_same⟩, fun i C' ⟨L, _, _, hs, _⟩ => hst C' hs, fun i d C' hd ⟨L, hl, hok, hs, hc⟩ => ?_, fun C' ⟨L, hl, hok, hs, hc⟩ => ?_⟩
  · have hi := (List.getElem?_eq_some_iff.mp hd).1
    have := h i d C' (fun y C3 => match C3 Dl with
        | some (.lst acc) => acc.length < 100000 ∧ ∃ L : List α, L.length = i + 1 ∧ (∀ a ∈ L, ok a) ∧ Sub C1 (cput C3 Dl (.lst (acc ++ [y]))) ∧ cput C3 Dl (.lst (acc ++ [y])) Dl = some (.lst (L.map enc))
        | _ => False) hd hs (fun a C3 ha hs3 => ?_)
    · revert this
      cases t.dg d (dwipe ρ vs) with
      | none => exact fun z => z
      | some ρ2 => exact fun z => z
    · rw [hs3 _ _ hc]
      refine ⟨by rw [List.length_map]; omega, L ++ [a], by rw [List.length_append, List.length_singleton, hl], fun b hb => ?_, fun b c hb => ?_, ?_⟩
      · rcases List.mem_append.mp hb with hb | hb
        · exact hok b hb
        · simp only [List.mem_cons, List.not_mem_nil, or_false] at hb; subst hb; exact ha
      · have hne : b ≠ Dl := fun z => by rw [z, hD] at hb; cases hb
        rw [cput_ne hne]
        exact hs3 _ _ (hs _ _ hb)
      · rw [cput_same, List.map_append]
        rfl
  · rw [hc]
    exact ⟨C1, hs, hD, hP L hl hok⟩
theorem cut_mid (xs : List D) {a b : Nat} (h1 : a ≤ b) (h2 : b ≤ xs.length) : cutD xs (some (a : Int)) (some (b : Int)) = (xs.drop a).take (b - a) := by
  unfold cutD
  rw [HT.sIx_nat, HT.sIx_nat, Nat.min_eq_left h2, Nat.min_eq_left (Nat.le_trans h1 h2)]
end DD

set_option Elab.async false
set_option linter.all false
set_option maxRecDepth 100000
set_option maxHeartbeats 4000000
/-! Dicts: keys that are numbers and texts, or tuples of these. -/
namespace DD
open PySem L2 PyProof.Rows

/-! ### tables of data -/
section
variable {κ : Type} [DecidableEq κ]
def vaD (t : List (κ × D)) (k : κ) : Option D := (t.find? fun p => decide (p.1 = k)).map (·.2)
def puD (t : List (κ × D)) (k : κ) (d : D) : List (κ × D) := if (t.any fun p => decide (p.1 = k)) = true then t.map (fun p => if p.1 = k then (p.1, d) else p) else t ++ [(k, d)]
def drD (t : List (κ × D)) (k : κ) : List (κ × D) := t.filter fun p => decide (p.1 ≠ k)
theorem vaD_nil {k : κ} : vaD [] k = none := rfl
theorem vaD_hit {k : κ} {p : κ × D} {t : List (κ × D)} (e : p.1 = k) : vaD (p :: t) k = some p.2 := by unfold vaD; rw [List.find?_cons, decide_eq_true e]; rfl
theorem vaD_miss {k : κ} {p : κ × D} {t : List (κ × D)} (e : ¬ p.1 = k) : vaD (p :: t) k = vaD t k := by unfold vaD; rw [List.find?_cons, decide_eq_false e]
theorem any_vaD (k : κ) : ∀ t : List (κ × D), (t.any fun p => decide (p.1 = k)) = (vaD t k).isSome
  | [] => rfl
  | p :: t => by
    by_cases e : p.1 = k
    · rw [vaD_hit e, List.any_cons, decide_eq_true e]; rfl
    · rw [vaD_miss e, List.any_cons, decide_eq_false e, ← any_vaD k t]; rfl
theorem vaD_app (k : κ) (u : List (κ × D)) : ∀ t : List (κ × D), vaD (t ++ u) k = match vaD t k with | some d => some d | none => vaD u k
  | [] => rfl
  | p :: t => by
    by_cases e : p.1 = k
    · rw [List.cons_append, vaD_hit e, vaD_hit e]
    · rw [List.cons_append, vaD_miss e, vaD_miss e, vaD_app k u t]
theorem vaD_set (k j : κ) (d : D) : ∀ t : List (κ × D), vaD (t.map fun p => if p.1 = k then (p.1, d) else p) j = (vaD t j).map fun x => if j = k then d else x
  | [] => rfl
  | p :: t => by
    rw [List.map_cons]
    by_cases h : p.1 = k
    · rw [if_pos h]
      by_cases e : p.1 = j
      · rw [vaD_hit (p := (p.1, d)) e, vaD_hit e, Option.map_some, if_pos (by rw [← e, h])]
      · rw [vaD_miss (p := (p.1, d)) e, vaD_miss e, vaD_set k j d t]
    · rw [if_neg h]
      by_cases e : p.1 = j
      · rw [vaD_hit e, vaD_hit e, Option.map_some, if_neg (by rw [← e]; exact h)]
      · rw [vaD_miss e, vaD_miss e, vaD_set k j d t]
/-- what is read behind a store -/
theorem vaD_put (t : List (κ × D)) (k j : κ) (d : D) : vaD (puD t k d) j = if j = k then some d else vaD t j := by
  unfold puD
  rw [any_vaD]
  cases e : vaD t k with
  | some x =>
    rw [if_pos (show (some x).isSome = true from rfl), vaD_set]
    by_cases h : j = k
    · rw [if_pos h, h, e, Option.map_some, if_pos rfl]
    · rw [if_neg h]
      cases vaD t j with
      | none => rfl
      | some y => rw [Option.map_some, if_neg h]
  | none =>
    rw [if_neg (by decide), vaD_app]
    by_cases h : j = k
    · rw [if_pos h, h, e]
      exact vaD_hit rfl
    · rw [if_neg h]
      have : vaD [(k, d)] j = none := vaD_miss (p := (k, d)) (fun z => h z.symm)
      rw [this]
      cases vaD t j <;> rfl
theorem puD_new {t : List (κ × D)} {k : κ} (h : vaD t k = none) (d : D) : puD t k d = t ++ [(k, d)] := by
  unfold puD
  rw [any_vaD, h]
  rfl
theorem puD_len (t : List (κ × D)) (k : κ) (d : D) : (puD t k d).length ≤ t.length + 1 := by
  unfold puD
  split
  · rw [List.length_map]; omega
  · rw [List.length_append]; exact Nat.le_refl _
theorem vaD_drop (k j : κ) : ∀ t : List (κ × D), vaD (drD t k) j = if j = k then none else vaD t j
  | [] => by rw [show drD ([] : List (κ × D)) k = [] from rfl, vaD_nil]; split <;> rfl
  | p :: t => by
    have ih := vaD_drop k j t
    unfold drD at ih ⊢
    rw [List.filter_cons]
    by_cases h : p.1 = k
    · rw [if_neg (by simpa using h), ih]
      by_cases e : j = k
      · rw [if_pos e, if_pos e]
      · rw [if_neg e, if_neg e, vaD_miss (by rw [h]; exact fun z => e z.symm)]
    · rw [if_pos (by simpa using h)]
      by_cases e : p.1 = j
      · rw [vaD_hit e, vaD_hit e, if_neg (by rw [← e]; exact h)]
      · rw [vaD_miss e, vaD_miss e, ih]
end
/-- keys -/
def keyOf : D → Option L2.Key
  | .int i => some (.inl i)
  | .str z => some (.inr z)
  | _ => none
def keysAll : List D → Option (List L2.Key)
  | [] => some []
  | d :: r => match keyOf d, keysAll r with
    | some k, some ks => some (k :: ks)
    | _, _ => none
def keysOf : D → Option (List L2.Key)
  | .tup ds => keysAll ds
  | _ => none
def keyD : L2.Key → D
  | .inl i => .int i
  | .inr z => .str z
/-- a dict's entries: keys that are numbers and texts; tuples of these -/
def kvsK (x : D) (C : Cells) : Option (List (L2.Key × D)) := match x with
  | .dK t => some t
  | .ptr a => match C a with
    | some (.dK t) => some t
    | some (.lK t _ _) => some t
    | _ => none
  | _ => none
def kvsT (x : D) (C : Cells) : Option (List (List L2.Key × D)) := match x with
  | .dT t => some t
  | .ptr a => match C a with
    | some (.dT t) => some t
    | some (.lT t _ _) => some t
    | _ => none
  | _ => none
def dicGet (x : D) (C : Cells) (y : D) : Option (Option D) := match kvsK x C with
  | some t => (keyOf y).map (vaD t)
  | none => match kvsT x C with
    | some t => (keysOf y).map (vaD t)
    | none => none
def isDic (x : D) (C : Cells) : Prop := (kvsK x C).isSome = true ∨ (kvsT x C).isSome = true
section
variable {K : PySem.W.Frag} {F H : Hp} {C : Cells}
theorem RepK.pair {vs : List (L2.Key × V)} {t : List (L2.Key × D)} (r : RepK K F vs t) : Paired (fun p q => p.1 = q.1 ∧ Rep K F p.2 q.2) vs t := by
  match r with
  | .nil => exact .nil
  | .cons h r => exact .cons ⟨rfl, h⟩ (RepK.pair r)
theorem RepT.pair {vs : List (List L2.Key × V)} {t : List (List L2.Key × D)} (r : RepT K F vs t) : Paired (fun p q => p.1 = q.1 ∧ Rep K F p.2 q.2) vs t := by
  match r with
  | .nil => exact .nil
  | .cons h r => exact .cons ⟨rfl, h⟩ (RepT.pair r)
theorem RepK.of {vs : List (L2.Key × V)} {t : List (L2.Key × D)} (r : Paired (fun p q => p.1 = q.1 ∧ Rep K F p.2 q.2) vs t) : RepK K F vs t := by
  induction r with
  | nil => exact .nil
  | @cons p q _ _ h _ ih =>
    obtain ⟨k, v⟩ := p
    obtain ⟨k', d⟩ := q
    obtain ⟨rfl, h⟩ := h
    exact .cons h ih
theorem RepT.of {vs : List (List L2.Key × V)} {t : List (List L2.Key × D)} (r : Paired (fun p q => p.1 = q.1 ∧ Rep K F p.2 q.2) vs t) : RepT K F vs t := by
  induction r with
  | nil => exact .nil
  | @cons p q _ _ h _ ih =>
    obtain ⟨k, v⟩ := p
    obtain ⟨k', d⟩ := q
    obtain ⟨rfl, h⟩ := h
    exact .cons h ih
section
variable {κ : Type} [DecidableEq κ]
abbrev TP (K : PySem.W.Frag) (F : Hp) : List (κ × V) → List (κ × D) → Prop := Paired fun p q => p.1 = q.1 ∧ Rep K F p.2 q.2
theorem tp_val {vs : List (κ × V)} {t : List (κ × D)} (r : TP K F vs t) (k : κ) : (vaD t k = none ∧ valV vs k = none) ∨ ∃ v d, vaD t k = some d ∧ valV vs k = some v ∧ Rep K F v d := by
  induction r with
  | nil => exact .inl ⟨rfl, rfl⟩
  | @cons p q _ _ h _ ih =>
    by_cases e : q.1 = k
    · exact .inr ⟨p.2, q.2, vaD_hit e, valV_pos (h.1.trans e), h.2⟩
    · rw [vaD_miss e, valV_neg (fun z => e (h.1.symm.trans z))]
      exact ih
theorem tp_put {vs : List (κ × V)} {t : List (κ × D)} (r : TP K F vs t) (k : κ) {v : V} {d : D} (h : Rep K F v d) : TP K F (putK vs k v) (puD t k d) := by
  have e : (vs.any fun p => decide (p.1 = k)) = (t.any fun p => decide (p.1 = k)) := by
    rw [valV_any, any_vaD]
    rcases tp_val r k with ⟨e1, e2⟩ | ⟨_, _, e1, e2, _⟩ <;> rw [e1, e2] <;> rfl
  unfold putK puD
  rw [e]
  by_cases c : (t.any fun p => decide (p.1 = k)) = true
  · rw [if_pos c, if_pos c]
    clear e c
    induction r with
    | nil => exact .nil
    | @cons p q _ _ g _ ih =>
      rw [List.map_cons, List.map_cons]
      refine .cons ?_ ih
      by_cases z : q.1 = k
      · rw [if_pos z, if_pos (g.1.trans z)]; exact ⟨g.1, h⟩
      · rw [if_neg z, if_neg (fun y => z (g.1.symm.trans y))]; exact g
  · rw [if_neg c, if_neg c]
    exact Paired.snoc r ⟨rfl, h⟩
theorem tp_drop {vs : List (κ × V)} {t : List (κ × D)} (r : TP K F vs t) (k : κ) : TP K F (dropK vs k) (drD t k) := by
  unfold dropK drD
  induction r with
  | nil => exact .nil
  | @cons p q _ _ g _ ih =>
    rw [List.filter_cons, List.filter_cons]
    by_cases z : q.1 = k
    · rw [if_neg (by simpa using g.1.trans z), if_neg (by simpa using z)]; exact ih
    · rw [if_pos (by simpa using fun y => z (g.1.symm.trans y)), if_pos (by simpa using z)]; exact .cons g ih
theorem tp_keys {vs : List (κ × V)} {t : List (κ × D)} (r : TP K F vs t) : vs.map (·.1) = t.map (·.1) := by
  induction r with
  | nil => rfl
  | cons g _ ih => rw [List.map_cons, List.map_cons, ih, g.1]
theorem tp_len {vs : List (κ × V)} {t : List (κ × D)} (r : TP K F vs t) : vs.length = t.length := Paired.length r
end
theorem key_rep {v : V} {y : D} {k : L2.Key} (r : Rep K F v y) (h : keyOf y = some k) : v = kV k := by
  cases r <;> first | (cases h; rfl) | cases h
theorem keys_all : ∀ {vs : List V} {ds : List D} {ks : List L2.Key}, RepL K F vs ds → keysAll ds = some ks → vs = ks.map kV
  | _, _, ks, .nil, h => by cases h; rfl
  | _, _, ks, .cons (d := d) (ds := ds) h1 h2, h => by
    simp only [keysAll] at h
    split at h
    · rename_i k ks' e1 e2
      cases h
      rw [key_rep h1 e1, keys_all h2 e2, List.map_cons]
    · cases h
theorem keys_rep (hs : Hs K F C H) {v : V} {y : D} {ks : List L2.Key} (r : Rep K F v y) (h : keysOf y = some ks) : ∃ b, v = .ref b ∧ H b = some (.tup (ks.map kV)) := by
  cases r <;> first | cases h | skip
  rename_i a xs ds hq hr
  exact ⟨a, rfl, by rw [← keys_all hr h]; exact hs.ex.nd hq rfl⟩
theorem kvsK_rd (hs : Hs K F C H) {v : V} {x : D} {t : List (L2.Key × D)} (r : Rep K F v x) (h : kvsK x C = some t) : ∃ a vs, v = .ref a ∧ Rd H a (.dK vs) ∧ RepK K F vs t := by
  cases r <;> first | cases h | skip
  · rename_i a
    simp only [kvsK] at h
    split at h
    · rename_i t' hc
      cases h
      obtain ⟨_, vs, h1, h2⟩ := hs.cell a _ hc
      exact ⟨a, vs, rfl, .inl h1, h2⟩
    · rename_i t' hc
      cases h
      obtain ⟨_, h1, h2⟩ := hs.cell a _ hc
      exact ⟨a, _, rfl, .inr ⟨_, h1⟩, h2⟩
    · cases h
  · rename_i a od vs hd hr
    exact ⟨a, vs, rfl, .inr ⟨od, hs.ex.nd hd rfl⟩, hr⟩
theorem kvsT_rd (hs : Hs K F C H) {v : V} {x : D} {t : List (List L2.Key × D)} (r : Rep K F v x) (h : kvsT x C = some t) : ∃ a vs, v = .ref a ∧ Rd H a (.dT vs) ∧ RepT K F vs t := by
  cases r <;> first | cases h | skip
  · rename_i a
    simp only [kvsT] at h
    split at h
    · rename_i t' hc
      cases h
      obtain ⟨_, vs, h1, h2⟩ := hs.cell a _ hc
      exact ⟨a, vs, rfl, .inl h1, h2⟩
    · rename_i t' hc
      cases h
      obtain ⟨_, h1, h2⟩ := hs.cell a _ hc
      exact ⟨a, _, rfl, .inr ⟨_, h1⟩, h2⟩
    · cases h
  · rename_i a od vs hd hr
    exact ⟨a, vs, rfl, .inr ⟨od, hs.ex.nd hd rfl⟩, hr⟩
theorem isDic_rd (hs : Hs K F C H) {v : V} {x : D} (r : Rep K F v x) (h : isDic x C) : ∃ a, v = .ref a ∧ IsD H a := by
  rcases h with h | h
  · obtain ⟨t, e⟩ := Option.isSome_iff_exists.mp h
    obtain ⟨a, vs, h1, h2, _⟩ := kvsK_rd hs r e
    exact ⟨a, h1, .inl ⟨vs, h2⟩⟩
  · obtain ⟨t, e⟩ := Option.isSome_iff_exists.mp h
    obtain ⟨a, vs, h1, h2, _⟩ := kvsT_rd hs r e
    exact ⟨a, h1, .inr ⟨vs, h2⟩⟩
/-- what is found -/
theorem dicGet_rd (hs : Hs K F C H) {v u : V} {x y : D} {o : Option D} (rx : Rep K F v x) (ry : Rep K F u y) (h : dicGet x C y = some o) :
    ∃ a w, v = .ref a ∧ DGet H a u w ∧ ((o = none ∧ w = none) ∨ ∃ z d, o = some d ∧ w = some z ∧ Rep K F z d) := by
  unfold dicGet at h
  split at h
  · rename_i t ht
    obtain ⟨a, vs, h1, h2, h3⟩ := kvsK_rd hs rx ht
    rw [Option.map_eq_some_iff] at h
    obtain ⟨k, hk, ho⟩ := h
    refine ⟨a, _, h1, .inl ⟨vs, k, h2, key_rep ry hk, rfl⟩, ?_⟩
    rcases tp_val h3.pair k with ⟨e1, e2⟩ | ⟨z, d, e1, e2, e3⟩
    · exact .inl ⟨ho.symm.trans e1, e2⟩
    · exact .inr ⟨z, d, ho.symm.trans e1, e2, e3⟩
  · split at h
    · rename_i t ht
      obtain ⟨a, vs, h1, h2, h3⟩ := kvsT_rd hs rx ht
      rw [Option.map_eq_some_iff] at h
      obtain ⟨k, hk, ho⟩ := h
      obtain ⟨b, hb, hb2⟩ := keys_rep hs ry hk
      refine ⟨a, _, h1, .inr ⟨vs, k, b, h2, hb, hb2, rfl⟩, ?_⟩
      rcases tp_val h3.pair k with ⟨e1, e2⟩ | ⟨z, d, e1, e2, e3⟩
      · exact .inl ⟨ho.symm.trans e1, e2⟩
      · exact .inr ⟨z, d, ho.symm.trans e1, e2, e3⟩
    · cases h
end

/-! ### x[y], y in x, x.get(y), x.get(y, z) -/
def dDGet (x : D) (y : D) (C : Cells) (P : DK) : Prop := match dicGet x C y with
  | some (some d) => P d C
  | _ => False
def dDIn (neg : Bool) (y : D) (x : D) (C : Cells) (P : DK) : Prop := match dicGet x C y with
  | some o => P (.bl (neg ^^ o.isSome)) C
  | none => False
def wGet1 (o k : DE) (ρ : DEnv) (C : Cells) (P : DK) (PX : DX) : Prop := o ρ C (fun x C1 => isDic x C1 ∧ k ρ C1 (fun y C2 => match dicGet x C2 y with
  | some u => P (u.getD .non) C2
  | none => False) PX) PX
def wGet2 (o k e : DE) (ρ : DEnv) (C : Cells) (P : DK) (PX : DX) : Prop := o ρ C (fun x C1 => isDic x C1 ∧ k ρ C1 (fun y C2 => e ρ C2 (fun z C3 => match dicGet x C3 y with
  | some u => P (u.getD z) C3
  | none => False) PX) PX) PX
section
variable {X : Cx} {W : WX} {K : PySem.W.Frag} {o i e : Expr} {wo wi we : DE} {pos apos tpos : Pos} {n : Nat}
theorem d_dget (hr : Room n X.A) (ho : PE X o (tE X.K W wo)) (hi : PE X i (tE X.K W wi)) (hs : NoSl i := by exact fun _ _ => rfl) : PE X (.Subscript o i pos) (tE X.K W (wOp dDGet wo wi)) :=
  PE.imp (pe_dget (hu_of hr) ho hi hs) fun σ H Q ⟨F, C, ρ, P, PX, hs, en, xr, w, k⟩ =>
  ⟨F, C, ρ, _, PX, hs, en, xr, w, fun v F1 H1 x C1 e1 h1 rx q => ⟨F1, C1, ρ, _, PX, h1, en.mono e1, xr.mono e1, q, fun u F2 H2 y C2 e2 h2 ry q2 => by
    unfold dDGet at q2
    split at q2
    · rename_i d hd
      obtain ⟨a, w', rfl, g, ⟨e3, _⟩ | ⟨z, d', e3, rfl, rz⟩⟩ := dicGet_rd h2 (rx.mono e2) ry hd
      · cases e3
      · cases e3
        exact ⟨a, z, rfl, g, k z F2 H2 d C2 (e1.trans e2) h2 rz q2⟩
    · exact q2.elim⟩⟩
theorem i_din {neg : Bool} {σ : L2.St} {H : Hp} {Q : VK} (h : tE K W (wOp (dDIn neg) wi wo) σ H Q) : tE K W wi σ H fun y H1 => tE K W wo σ H1 fun x H2 => ∃ a w, x = .ref a ∧ DGet H2 a y w ∧ Q (.bl (neg ^^ w.isSome)) H2 := by
  obtain ⟨F, C, ρ, P, PX, hs, en, xr, w, k⟩ := h
  refine ⟨F, C, ρ, _, PX, hs, en, xr, w, fun v F1 H1 y C1 e1 h1 ry q => ⟨F1, C1, ρ, _, PX, h1, en.mono e1, xr.mono e1, q, fun u F2 H2 x C2 e2 h2 rx q2 => ?_⟩⟩
  unfold dDIn at q2
  split at q2
  · rename_i o hd
    obtain ⟨a, w', rfl, g, hw⟩ := dicGet_rd h2 rx (ry.mono e2) hd
    refine ⟨a, w', rfl, g, k _ F2 H2 _ C2 (e1.trans e2) h2 (.bl _) ?_⟩
    rcases hw with ⟨e3, e4⟩ | ⟨z, d', e3, e4, rz⟩ <;> (subst e3 e4; exact q2)
  · exact q2.elim
theorem c_din (hr : Room n X.A) (hi : PE X i (tE X.K W wi)) (ho : PE X o (tE X.K W wo)) : PC X .In i o (tE X.K W (wOp (dDIn false) wi wo)) := ⟨fun pins s σ H Q I h =>
  (pc_din (hu_of hr) hi ho).run pins s σ H Q I (by
    have z := i_din h
    simp only [Bool.false_xor] at z
    exact z)⟩
theorem c_dnotin (hr : Room n X.A) (hi : PE X i (tE X.K W wi)) (ho : PE X o (tE X.K W wo)) : PC X .NotIn i o (tE X.K W (wOp (dDIn true) wi wo)) := ⟨fun pins s σ H Q I h =>
  (pc_dnotin (hu_of hr) hi ho).run pins s σ H Q I (by
    have z := i_din h
    simp only [Bool.true_xor] at z
    exact z)⟩
theorem d_din (hr : Room n X.A) (hi : PE X i (tE X.K W wi)) (ho : PE X o (tE X.K W wo)) (hb : behindInMarks .In o = false := by rfl) : PE X (.Compare i [.In] [o] pos) (tE X.K W (wOp (dDIn false) wi wo)) := pe_cmp (c_din hr hi ho) hb
theorem d_dnotin (hr : Room n X.A) (hi : PE X i (tE X.K W wi)) (ho : PE X o (tE X.K W wo)) (hb : behindInMarks .NotIn o = false := by rfl) : PE X (.Compare i [.NotIn] [o] pos) (tE X.K W (wOp (dDIn true) wi wo)) := pe_cmp (c_dnotin hr hi ho) hb
theorem d_tdin (hr : Room n X.A) (hi : PE X i (tE X.K W wi)) (ho : PE X o (tE X.K W wo)) (hb : behindInMarks .In o = false := by rfl) : PT X (.Compare i [.In] [o] pos) (tT X.K W (wTest (wOp (dDIn false) wi wo))) :=
  PT.imp (pt_cmp (c_din hr hi ho) hb) fun σ H Q h => i_test h
theorem d_tdnotin (hr : Room n X.A) (hi : PE X i (tE X.K W wi)) (ho : PE X o (tE X.K W wo)) (hb : behindInMarks .NotIn o = false := by rfl) : PT X (.Compare i [.NotIn] [o] pos) (tT X.K W (wTest (wOp (dDIn true) wi wo))) :=
  PT.imp (pt_cmp (c_dnotin hr hi ho) hb) fun σ H Q h => i_test h
theorem dd_get1 (hr : Room n X.A) (ho : PE X o (tE X.K W wo)) (hi : PE X i (tE X.K W wi)) (m : M1 X o "get" apos i pos := by exact ⟨rfl, rfl, rfl, rfl⟩) : PE X (.Call (.Attribute o "get" apos) [i] [] pos) (tE X.K W (wGet1 wo wi)) :=
  PE.imp (pe_dget1 (hu_of hr) ho hi m) fun σ H Q ⟨F, C, ρ, P, PX, hs, en, xr, w, k⟩ =>
  ⟨F, C, ρ, _, PX, hs, en, xr, w, fun v F1 H1 x C1 e1 h1 rx q => by
    obtain ⟨qd, q⟩ := q
    obtain ⟨a, rfl, ha⟩ := isDic_rd h1 rx qd
    refine ⟨a, rfl, ha, F1, C1, ρ, _, PX, h1, en.mono e1, xr.mono e1, q, fun u F2 H2 y C2 e2 h2 ry q2 => ?_⟩
    split at q2
    · rename_i o hd
      obtain ⟨a', w', ea, g, hw⟩ := dicGet_rd h2 (rx.mono e2) ry hd
      cases ea
      refine ⟨w', g, ?_⟩
      rcases hw with ⟨rfl, rfl⟩ | ⟨z, d', rfl, rfl, rz⟩
      · exact k _ F2 H2 _ C2 (e1.trans e2) h2 .non q2
      · exact k _ F2 H2 _ C2 (e1.trans e2) h2 rz q2
    · exact q2.elim⟩
theorem dd_get2 (hr : Room n X.A) (ho : PE X o (tE X.K W wo)) (hi : PE X i (tE X.K W wi)) (he : PE X e (tE X.K W we)) (m : M2 X o "get" apos i e pos := by exact ⟨rfl, rfl, rfl, rfl⟩) : PE X (.Call (.Attribute o "get" apos) [i, e] [] pos) (tE X.K W (wGet2 wo wi we)) :=
  PE.imp (pe_dget2 (hu_of hr) ho hi he m) fun σ H Q ⟨F, C, ρ, P, PX, hs, en, xr, w, k⟩ =>
  ⟨F, C, ρ, _, PX, hs, en, xr, w, fun v F1 H1 x C1 e1 h1 rx q => by
    obtain ⟨qd, q⟩ := q
    obtain ⟨a, rfl, ha⟩ := isDic_rd h1 rx qd
    refine ⟨a, rfl, ha, F1, C1, ρ, _, PX, h1, en.mono e1, xr.mono e1, q, fun u F2 H2 y C2 e2 h2 ry q2 => ⟨F2, C2, ρ, _, PX, h2, en.mono (e1.trans e2), xr.mono (e1.trans e2), q2, fun z F3 H3 dz C3 e3 h3 rz q3 => ?_⟩⟩
    split at q3
    · rename_i o hd
      obtain ⟨a', w', ea, g, hw⟩ := dicGet_rd h3 (rx.mono (e2.trans e3)) (ry.mono e3) hd
      cases ea
      refine ⟨w', g, ?_⟩
      have ee := (e1.trans e2).trans e3
      rcases hw with ⟨rfl, rfl⟩ | ⟨z, d', rfl, rfl, rz'⟩
      · exact k _ F3 H3 _ C3 ee h3 rz q3
      · exact k _ F3 H3 _ C3 ee h3 rz' q3
    · exact q3.elim⟩
end

/-! ### stores -/
def dicPut (x y d : D) (C : Cells) (P : Cells → Prop) : Prop := match x with
  | .ptr a => match C a with
    | some (.dK t) => match keyOf y with
      | some k => t.length < 100000 ∧ P (cput C a (.dK (puD t k d)))
      | none => False
    | some (.dT t) => match keysOf y with
      | some k => t.length < 100000 ∧ P (cput C a (.dT (puD t k d)))
      | none => False
    | _ => False
  | _ => False
def wSetD (o i e : DE) (E : DEnds) (ρ : DEnv) (C : Cells) : Prop := e ρ C (fun d C1 => o ρ C1 (fun x C2 => i ρ C2 (fun y C3 => dicPut x y d C3 fun C4 => E.nx ρ C4) E.ex) E.ex) E.ex
def wDelD (o i : DE) (E : DEnds) (ρ : DEnv) (C : Cells) : Prop := o ρ C (fun x C1 => i ρ C1 (fun y C2 => match x with
  | .ptr a => match C2 a with
    | some (.dK t) => match keyOf y with
      | some k => (vaD t k).isSome = true ∧ E.nx ρ (cput C2 a (.dK (drD t k)))
      | none => False
    | _ => False
  | _ => False) E.ex) E.ex
/-- {}: its keys numbers and texts; tuples -/
def wNewK (_ : DEnv) (C : Cells) (P : DK) (_ : DX) : Prop := ∀ p, C p = none → P (.ptr p) (cput C p (.dK []))
def wNewT (_ : DEnv) (C : Cells) (P : DK) (_ : DX) : Prop := ∀ p, C p = none → P (.ptr p) (cput C p (.dT []))
/-- {} that is not written at -/
def wNew0 (_ : DEnv) (C : Cells) (P : DK) (_ : DX) : Prop := P (.dK []) C
section
variable {X : Cx} {W : WX} {K : PySem.W.Frag} {o i e : Expr} {wo wi we : DE} {pos pos' tpos : Pos} {n : Nat}
theorem dicPut_ok {F H : Hp} {C : Cells} {v u z : V} {x y d : D} {P : Cells → Prop} (hs : Hs K F C H) (rx : Rep K F v x) (ry : Rep K F u y) (rz : Rep K F z d) (h : dicPut x y d C P) : ∃ a H' C', v = .ref a ∧ DPut H a u z H' ∧ Hs K F C' H' ∧ P C' := by
  unfold dicPut at h
  split at h
  · rename_i a
    cases rx
    split at h
    · rename_i t hc
      split at h
      · rename_i k hk
        obtain ⟨f0, vs, h1, h2⟩ := hs.cell a _ hc
        refine ⟨a, _, _, rfl, .inl ⟨vs, k, h1, key_rep ry hk, ?_, rfl⟩, hs.put (c := .dK (puD t k d)) f0 ⟨_, upd_same, RepK.of (tp_put h2.pair k rz)⟩, h.2⟩
        rw [tp_len h2.pair]
        exact sz_lt h.1
      · exact h.elim
    · rename_i t hc
      split at h
      · rename_i k hk
        obtain ⟨f0, vs, h1, h2⟩ := hs.cell a _ hc
        obtain ⟨b, hb, hb2⟩ := keys_rep hs ry hk
        refine ⟨a, _, _, rfl, .inr ⟨vs, k, b, h1, hb, hb2, ?_, rfl⟩, hs.put (c := .dT (puD t k d)) f0 ⟨_, upd_same, RepT.of (tp_put h2.pair k rz)⟩, h.2⟩
        rw [tp_len h2.pair]
        exact sz_lt h.1
      · exact h.elim
    · exact h.elim
  · exact h.elim
theorem ds_setD (hr : Room n X.A) (ho : PE X o (tE X.K W wo)) (hi : PE X i (tE X.K W wi)) (he : PE X e (tE X.K W we)) (hs : swapsWith e (some (.Subscript o i pos')) pos.line X.env = pure false := by rfl) :
    PS X (.Assign [.Subscript o i pos'] e pos) (tS X.K W (wSetD wo wi we)) := PS.imp (ps_dput (hu_of hr) ho hi he hs) fun Dn σ H ⟨F, C, ρ, DE, hs, en, xr, w, er⟩ =>
  ⟨F, C, ρ, _, _, hs, en, xr, w, fun z F1 H1 d C1 e1 h1 rz q => ⟨F1, C1, ρ, _, _, h1, en.mono e1, xr.mono e1, q, fun v F2 H2 x C2 e2 h2 rx q2 => ⟨F2, C2, ρ, _, _, h2, en.mono (e1.trans e2), xr.mono (e1.trans e2), q2, fun u F3 H3 y C3 e3 h3 ry q3 => by
    obtain ⟨a, H4, C4, rfl, g, h4, q4⟩ := dicPut_ok h3 (rx.mono e3) ry (rz.mono (e2.trans e3)) q3
    have ee := (e1.trans e2).trans e3
    exact ⟨a, H4, rfl, g, er.nx σ F3 H4 ρ C4 ee h4 (en.mono ee) q4⟩⟩⟩⟩
theorem ds_delD (ho : PE X o (tE X.K W wo)) (hi : PE X i (tE X.K W wi)) : PS X (.Delete [.Subscript o i tpos] pos) (tS X.K W (wDelD wo wi)) := PS.imp (ps_ddel ho hi) fun Dn σ H ⟨F, C, ρ, DE, hs, en, xr, w, er⟩ =>
  ⟨F, C, ρ, _, _, hs, en, xr, w, fun v F1 H1 x C1 e1 h1 rx q => ⟨F1, C1, ρ, _, _, h1, en.mono e1, xr.mono e1, q, fun u F2 H2 y C2 e2 h2 ry q2 => by
    split at q2
    · rename_i a
      cases rx
      split at q2
      · rename_i t hc
        split at q2
        · rename_i k hk
          obtain ⟨f0, vs, g1, g2⟩ := h2.cell a _ hc
          refine ⟨a, vs, k, rfl, g1, key_rep ry hk, ?_, er.nx σ F2 _ ρ _ (e1.trans e2) (h2.put (c := .dK (drD t k)) f0 ⟨_, upd_same, RepK.of (tp_drop g2.pair k)⟩) (en.mono (e1.trans e2)) q2.2⟩
          rcases tp_val g2.pair k with ⟨z1, z2⟩ | ⟨_, _, z1, z2, _⟩
          · have := q2.1
            rw [z1] at this
            cases this
          · rw [z2]; rfl
        · exact q2.elim
      · exact q2.elim
    · exact q2.elim⟩⟩
theorem d_newK : PE X (.Dict [] [] pos) (tE X.K W wNewK) := PE.imp pe_dnewK fun σ H Q ⟨F, C, ρ, P, PX, hs, en, xr, w, k⟩ => fun p hp =>
  k _ F _ _ _ (Ex.refl F) (hs.put (c := .dK []) (hs.fresh hp).1 ⟨[], upd_same, .nil⟩) (.ptr p) (w p (hs.fresh hp).2)
theorem d_newT : PE X (.Dict [] [] pos) (tE X.K W wNewT) := PE.imp pe_dnewT fun σ H Q ⟨F, C, ρ, P, PX, hs, en, xr, w, k⟩ => fun p hp =>
  k _ F _ _ _ (Ex.refl F) (hs.put (c := .dT []) (hs.fresh hp).1 ⟨[], upd_same, .nil⟩) (.ptr p) (w p (hs.fresh hp).2)
theorem d_new0 : PE X (.Dict [] [] pos) (tE X.K W wNew0) := PE.imp (pe_fz pe_dnewK) fun σ H Q ⟨F, C, ρ, P, PX, hs, en, xr, w, k⟩ => fun p hp => .inr ⟨p, _, upd_same, trivial, fun od => by
  obtain ⟨e, h2⟩ := hs.lay (o := .frz od (.dK [])) hp
  rw [upd_upd]
  exact k _ _ _ _ C e h2 (.dK upd_same .nil) w⟩
end
end DD

set_option Elab.async false
set_option linter.all false
set_option maxRecDepth 100000
set_option maxHeartbeats 4000000
/-! Dicts: walks, locks, len, dict(..), sorted(..). -/
namespace DD
open PySem L2 PyProof.Rows

def keyTD (ks : List L2.Key) : D := .tup (ks.map keyD)
section
variable {K : PySem.W.Frag} {F H : Hp} {C : Cells}
theorem rep_key (k : L2.Key) : Rep K F (kV k) (keyD k) := by
  cases k with
  | inl i => exact .int i
  | inr z => exact .str z
theorem rep_keys : ∀ ks : List L2.Key, RepL K F (ks.map kV) (ks.map keyD)
  | [] => .nil
  | k :: r => .cons (rep_key k) (rep_keys r)
/-- a tuple that stands is data -/
theorem Hs.adopt (h : Hs K F C H) {q : Addr} {xs : List V} (hq : H q = some (.tup xs)) : ∃ F2, Ex F F2 ∧ Hs K F2 C H ∧ F2 q = some (.tup xs) := by
  cases e : F q with
  | some u =>
    have : u = .tup xs := by
      rcases h.ex q u e with z | ⟨_, od, z⟩
      · rw [hq] at z; exact (Option.some.inj z).symm
      · rw [hq] at z; cases z
    exact ⟨F, Ex.refl F, h, by rw [e, this]⟩
  | none =>
    have c0 : C q = none := by
      cases c : C q with
      | none => rfl
      | some c1 =>
        obtain ⟨_, r⟩ := h.cell q _ c
        cases c1 <;> first
          | (obtain ⟨_, z, _⟩ := r; rw [hq] at z; cases z)
          | (obtain ⟨_, _, z, _⟩ := r; rw [hq] at z; cases z)
          | (obtain ⟨z, _⟩ := r; rw [hq] at z; cases z)
    refine ⟨upd F q (.tup xs), Ex.new e, ⟨fun a u z => ?_, fun a c z => ?_⟩, upd_same⟩
    · by_cases ne : a = q
      · subst ne; rw [upd_same] at z; cases z; exact .inl hq
      · rw [upd_ne ne] at z; exact h.ex a u z
    · have ne : a ≠ q := cell_ne z c0
      obtain ⟨f1, r⟩ := h.cell a c z
      exact ⟨by rw [upd_ne ne]; exact f1, r.ex (Ex.new e)⟩
theorem Hs.adopts (h : Hs K F C H) : ∀ {vs : List (List L2.Key × V)} {bs : List Addr}, IsKeys H vs bs → ∃ F2, Ex F F2 ∧ Hs K F2 C H ∧ RepL K F2 (bs.map V.ref) (vs.map fun p => keyTD p.1) := by
  intro vs bs r
  unfold IsKeys at r
  induction r with
  | nil => exact ⟨F, Ex.refl F, h, .nil⟩
  | @cons p b _ _ g _ ih =>
    obtain ⟨F2, e2, h2, r2⟩ := ih
    obtain ⟨F3, e3, h3, f3⟩ := h2.adopt g
    exact ⟨F3, e2.trans e3, h3, .cons (.tup f3 (rep_keys p.1)) (r2.mono e3)⟩
end

/-! ### what is walked -/
def wItK (e : DE) (ρ : DEnv) (C : Cells) (P : DIt → Cells → Prop) (PX : DX) : Prop := e ρ C (fun d C1 => match d with
  | .dK t => P ⟨t.map fun p => keyD p.1, frozen⟩ C1
  | .dT t => P ⟨t.map fun p => keyTD p.1, frozen⟩ C1
  | .ptr a => match C1 a with
    | some (.lK t od vs) => P ⟨t.map fun p => keyD p.1, fun C' => C' a = some (.lK t od vs)⟩ C1
    | some (.lT t od vs) => P ⟨t.map fun p => keyTD p.1, fun C' => C' a = some (.lT t od vs)⟩ C1
    | _ => False
  | _ => False) PX
section
variable {K : PySem.W.Frag} {F : Hp} {a : Addr} {od : Obj}
theorem itk_at {vs : List (L2.Key × V)} {t : List (L2.Key × D)} {st : Cells → Prop} (r : RepK K F vs t) (hl : ∀ F' H C, Ex F F' → Hs K F' C H → st C → H a = some (.frz od (.dK vs))) : ItR K F (Itk a od vs) ⟨t.map fun p => keyD p.1, st⟩ := fun F' H C e hs hc => by
  have hH := hl F' H C e hs hc
  have ln := tp_len r.pair
  refine ⟨fun i d hd => ?_, hH, by show vs.length ≤ (t.map _).length; rw [List.length_map, ln]; exact Nat.le_refl _⟩
  have hi : i < t.length := by
    have := (List.getElem?_eq_some_iff.mp hd).1
    simpa using this
  refine ⟨⟨hH, by rw [ln]; exact hi⟩, fun x H' y => ?_⟩
  obtain ⟨rfl, k, v, hk, rfl⟩ := y
  refine ⟨F', Ex.refl _, hs, ?_⟩
  have ek : (vs.map (·.1))[i]? = some k := by rw [List.getElem?_map, hk]; rfl
  rw [tp_keys r.pair, List.getElem?_map] at ek
  have hd' : (t.map fun p => keyD p.1)[i]? = some d := hd
  rw [List.getElem?_map] at hd'
  cases ht : t[i]? with
  | none => rw [ht] at hd'; cases hd'
  | some p =>
    rw [ht] at ek hd'
    cases ek; cases hd'
    exact rep_key p.1
theorem itkt_at {vs : List (List L2.Key × V)} {t : List (List L2.Key × D)} {st : Cells → Prop} (r : RepT K F vs t) (hl : ∀ F' H C, Ex F F' → Hs K F' C H → st C → H a = some (.frz od (.dT vs))) : ItR K F (Itkt a od vs) ⟨t.map fun p => keyTD p.1, st⟩ := fun F' H C e hs hc => by
  have hH := hl F' H C e hs hc
  have ln := tp_len r.pair
  refine ⟨fun i d hd => ?_, hH, by show vs.length ≤ (t.map _).length; rw [List.length_map, ln]; exact Nat.le_refl _⟩
  have hi : i < t.length := by
    have := (List.getElem?_eq_some_iff.mp hd).1
    simpa using this
  refine ⟨⟨hH, by rw [ln]; exact hi⟩, fun x H' y => ?_⟩
  obtain ⟨rfl, k, v, q, hk, rfl, hq⟩ := y
  obtain ⟨F2, e2, h2, f2⟩ := hs.adopt hq
  refine ⟨F2, e2, h2, ?_⟩
  have ek : (vs.map (·.1))[i]? = some k := by rw [List.getElem?_map, hk]; rfl
  rw [tp_keys r.pair, List.getElem?_map] at ek
  have hd' : (t.map fun p => keyTD p.1)[i]? = some d := hd
  rw [List.getElem?_map] at hd'
  cases ht : t[i]? with
  | none => rw [ht] at hd'; cases hd'
  | some p =>
    rw [ht] at ek hd'
    cases ek; cases hd'
    exact .tup f2 (rep_keys p.1)
end
section
variable {X : Cx} {W : WX} {e tg : Expr} {we : DE}
theorem di_keys (he : PE X e (tE X.K W we)) : PI X tg e (tI X.K W (wItK we)) := PI.imp (pi_keys he) fun σ H R ⟨F, C, ρ, P, PX, hs, en, xr, w, k⟩ =>
  ⟨F, C, ρ, _, PX, hs, en, xr, w, fun v F1 H1 d C1 e1 h1 r q => by
    cases r <;> first | exact q.elim | skip
    · rename_i a
      revert q
      dsimp only
      split
      · rename_i t od vs hc
        intro q
        obtain ⟨_, g1, g2⟩ := h1.cell a _ hc
        exact ⟨a, od, rfl, .inl ⟨vs, g1, k _ F1 H1 _ C1 e1 h1 (itk_at g2 fun F' H' C' _ h' hc' => (h'.cell a (.lK t od vs) hc').2.1) q⟩⟩
      · rename_i t od vs hc
        intro q
        obtain ⟨_, g1, g2⟩ := h1.cell a _ hc
        exact ⟨a, od, rfl, .inr ⟨vs, g1, k _ F1 H1 _ C1 e1 h1 (itkt_at g2 fun F' H' C' _ h' hc' => (h'.cell a (.lT t od vs) hc').2.1) q⟩⟩
      · exact fun z => z.elim
    · rename_i a od vs t hf hr
      exact ⟨a, od, rfl, .inl ⟨vs, h1.ex.nd hf rfl, k _ F1 H1 _ C1 e1 h1 (itk_at hr fun F' H' C' e' h' _ => h'.ex.nd (e'.nd hf rfl) rfl) q⟩⟩
    · rename_i a od vs t hf hr
      exact ⟨a, od, rfl, .inr ⟨vs, h1.ex.nd hf rfl, k _ F1 H1 _ C1 e1 h1 (itkt_at hr fun F' H' C' e' h' _ => h'.ex.nd (e'.nd hf rfl) rfl) q⟩⟩⟩
end

/-! ### a dict locked while a statement, an expression runs -/
abbrev Pth := DEnv → Cells → Option D
def pVar (i : Nat) : Pth := fun ρ _ => match (ρ[i]? : Option (Option D)) with
  | some (some d) => some d
  | _ => none
def pFld (Cl : Addr) (f : String) (g : Pth) : Pth := fun ρ C => match g ρ C with
  | some x => fldOf Cl f x C
  | none => none
def unl (E : DEnds) (a : Addr) (c c' : Cell) : DEnds := { nx := fun ρ' C' => C' a = some c ∧ E.nx ρ' (cput C' a c'), rt := fun d C' => C' a = some c ∧ E.rt d (cput C' a c'), bk := fun ρ' C' => C' a = some c ∧ E.bk ρ' (cput C' a c'), ct := fun ρ' C' => C' a = some c ∧ E.ct ρ' (cput C' a c'), ex := E.ex }
def wLockS (g : Pth) (w : DS) (E : DEnds) (ρ : DEnv) (C : Cells) : Prop := match g ρ C with
  | some (.ptr a) => match C a with
    | some (.dK t) => ∀ od vs, w (unl E a (.lK t od vs) (.dK t)) ρ (cput C a (.lK t od vs))
    | some (.dT t) => ∀ od vs, w (unl E a (.lT t od vs) (.dT t)) ρ (cput C a (.lT t od vs))
    | some (.dN q t) => ∀ od vs, w (unl E a (.lN q t od vs) (.dN q t)) ρ (cput C a (.lN q t od vs))
    | some (.dO q t) => ∀ od vs, w (unl E a (.lO q t od vs) (.dO q t)) ρ (cput C a (.lO q t od vs))
    | _ => w E ρ C
  | _ => w E ρ C
def wLockE (g : Pth) (w : DE) (ρ : DEnv) (C : Cells) (P : DK) (PX : DX) : Prop := match g ρ C with
  | some (.ptr a) => match C a with
    | some (.dK t) => ∀ od vs, w ρ (cput C a (.lK t od vs)) (fun d C' => C' a = some (.lK t od vs) ∧ P d (cput C' a (.dK t))) PX
    | some (.dT t) => ∀ od vs, w ρ (cput C a (.lT t od vs)) (fun d C' => C' a = some (.lT t od vs) ∧ P d (cput C' a (.dT t))) PX
    | some (.dN q t) => ∀ od vs, w ρ (cput C a (.lN q t od vs)) (fun d C' => C' a = some (.lN q t od vs) ∧ P d (cput C' a (.dN q t))) PX
    | some (.dO q t) => ∀ od vs, w ρ (cput C a (.lO q t od vs)) (fun d C' => C' a = some (.lO q t od vs) ∧ P d (cput C' a (.dO q t))) PX
    | _ => w ρ C P PX
  | _ => w ρ C P PX
section
variable {X : Cx} {W : WX} {K : PySem.W.Frag} {st : Stmt} {e : Expr}
theorem ps_or {t1 t2 : TS} (h1 : PS X st t1) (h2 : PS X st t2) : PS X st (fun D σ H => t1 D σ H ∨ t2 D σ H) := ⟨fun pins s σ H D I w => w.elim (h1.run pins s σ H D I) (h2.run pins s σ H D I)⟩
theorem pe_or {t1 t2 : TE} (h1 : PE X e t1) (h2 : PE X e t2) : PE X e (fun σ H Q => t1 σ H Q ∨ t2 σ H Q) := ⟨fun pins s σ H Q I w => w.elim (h1.run pins s σ H Q I) (h2.run pins s σ H Q I)⟩
theorem unl_ends {F : Hp} {E : DEnds} {D : Ends} {a : Addr} {c c' : Cell} {od : Obj} {u : HO} (er : EndsR K F E D) (hc : ∀ F' H', Ex F F' → RepC K F' H' a c → H' a = some (.frz od u) ∧ RepC K F' (upd H' a u) a c') :
    EndsR K F (unl E a c c') ⟨fun σ' H' => H' a = some (.frz od u) ∧ D.nx σ' (upd H' a u), fun v H' => H' a = some (.frz od u) ∧ D.rt v (upd H' a u), fun σ' H' => H' a = some (.frz od u) ∧ D.bk σ' (upd H' a u), fun σ' H' => H' a = some (.frz od u) ∧ D.ct σ' (upd H' a u)⟩ :=
  ⟨fun σ' F' H' ρ' C' e' h' n' ⟨hq, q⟩ => by
    obtain ⟨f0, r⟩ := h'.cell a _ hq
    obtain ⟨z1, z2⟩ := hc F' H' e' r
    exact ⟨z1, er.nx σ' F' _ ρ' _ e' (h'.put f0 z2) n' q⟩,
  fun v F' H' d C' e' h' rv ⟨hq, q⟩ => by
    obtain ⟨f0, r⟩ := h'.cell a _ hq
    obtain ⟨z1, z2⟩ := hc F' H' e' r
    exact ⟨z1, er.rt v F' _ d _ e' (h'.put f0 z2) rv q⟩,
  fun σ' F' H' ρ' C' e' h' n' ⟨hq, q⟩ => by
    obtain ⟨f0, r⟩ := h'.cell a _ hq
    obtain ⟨z1, z2⟩ := hc F' H' e' r
    exact ⟨z1, er.bk σ' F' _ ρ' _ e' (h'.put f0 z2) n' q⟩,
  fun σ' F' H' ρ' C' e' h' n' ⟨hq, q⟩ => by
    obtain ⟨f0, r⟩ := h'.cell a _ hq
    obtain ⟨z1, z2⟩ := hc F' H' e' r
    exact ⟨z1, er.ct σ' F' _ ρ' _ e' (h'.put f0 z2) n' q⟩⟩
theorem ds_lock (g : Pth) {w : DS} (h : PS X st (tS X.K W w)) : PS X st (tS X.K W (wLockS g w)) := PS.imp (ps_or h (ps_lock h)) fun D σ H ⟨F, C, ρ, DE, hs, en, xr, q, er⟩ => by
  have go : w DE ρ C → tS X.K W w D σ H := fun q => ⟨F, C, ρ, DE, hs, en, xr, q, er⟩
  unfold wLockS at q
  split at q
  · rename_i a _
    split at q
    · rename_i t hc
      obtain ⟨f0, vs, h1, r⟩ := hs.cell a _ hc
      refine .inr ⟨a, .dK vs, h1, trivial, fun od => ⟨F, _, ρ, unl DE a (.lK t od vs) (.dK t), hs.put (c := .lK t od vs) f0 ⟨upd_same, r⟩, en, xr, q od vs, ?_⟩⟩
      exact unl_ends er fun F' H' e' z => ⟨z.1, vs, upd_same, z.2⟩
    · rename_i t hc
      obtain ⟨f0, vs, h1, r⟩ := hs.cell a _ hc
      refine .inr ⟨a, .dT vs, h1, trivial, fun od => ⟨F, _, ρ, unl DE a (.lT t od vs) (.dT t), hs.put (c := .lT t od vs) f0 ⟨upd_same, r⟩, en, xr, q od vs, ?_⟩⟩
      exact unl_ends er fun F' H' e' z => ⟨z.1, vs, upd_same, z.2⟩
    · rename_i qq t hc
      obtain ⟨f0, vs, h1, r⟩ := hs.cell a _ hc
      refine .inr ⟨a, ndO qq.w a vs, h1, trivial, fun od => ⟨F, _, ρ, unl DE a (.lN qq t od vs) (.dN qq t), hs.put (c := .lN qq t od vs) f0 ⟨upd_same, r⟩, en, xr, q od vs, ?_⟩⟩
      exact unl_ends er fun F' H' e' z => ⟨z.1, vs, upd_same, z.2⟩
    · rename_i qq t hc
      obtain ⟨f0, vs, h1, r⟩ := hs.cell a _ hc
      refine .inr ⟨a, ldO qq a vs, h1, trivial, fun od => ⟨F, _, ρ, unl DE a (.lO qq t od vs) (.dO qq t), hs.put (c := .lO qq t od vs) f0 ⟨upd_same, r⟩, en, xr, q od vs, ?_⟩⟩
      exact unl_ends er fun F' H' e' z => ⟨z.1, vs, upd_same, z.2⟩
    · exact .inl (go q)
  · exact .inl (go q)
theorem d_lock (g : Pth) {w : DE} (h : PE X e (tE X.K W w)) : PE X e (tE X.K W (wLockE g w)) := PE.imp (pe_or h (pe_lock h)) fun σ H Q ⟨F, C, ρ, P, PX, hs, en, xr, q, k⟩ => by
  have go : w ρ C P PX → tE X.K W w σ H Q := fun q => ⟨F, C, ρ, P, PX, hs, en, xr, q, k⟩
  unfold wLockE at q
  split at q
  · rename_i a _
    split at q
    · rename_i t hc
      obtain ⟨f0, vs, h1, r⟩ := hs.cell a _ hc
      refine .inr ⟨a, .dK vs, h1, trivial, fun od => ⟨F, _, ρ, _, PX, hs.put (c := .lK t od vs) f0 ⟨upd_same, r⟩, en, xr, q od vs, fun v F' H' d C' e' h' rv ⟨hq, q'⟩ => ?_⟩⟩
      obtain ⟨g0, g1, g2⟩ := h'.cell a _ hq
      exact ⟨g1, k v F' _ d _ e' (h'.put (c := .dK t) g0 ⟨vs, upd_same, g2⟩) rv q'⟩
    · rename_i t hc
      obtain ⟨f0, vs, h1, r⟩ := hs.cell a _ hc
      refine .inr ⟨a, .dT vs, h1, trivial, fun od => ⟨F, _, ρ, _, PX, hs.put (c := .lT t od vs) f0 ⟨upd_same, r⟩, en, xr, q od vs, fun v F' H' d C' e' h' rv ⟨hq, q'⟩ => ?_⟩⟩
      obtain ⟨g0, g1, g2⟩ := h'.cell a _ hq
      exact ⟨g1, k v F' _ d _ e' (h'.put (c := .dT t) g0 ⟨vs, upd_same, g2⟩) rv q'⟩
    · rename_i qq t hc
      obtain ⟨f0, vs, h1, r⟩ := hs.cell a _ hc
      refine .inr ⟨a, ndO qq.w a vs, h1, trivial, fun od => ⟨F, _, ρ, _, PX, hs.put (c := .lN qq t od vs) f0 ⟨upd_same, r⟩, en, xr, q od vs, fun v F' H' d C' e' h' rv ⟨hq, q'⟩ => ?_⟩⟩
      obtain ⟨g0, g1, g2⟩ := h'.cell a _ hq
      exact ⟨g1, k v F' _ d _ e' (h'.put (c := .dN qq t) g0 ⟨vs, upd_same, g2⟩) rv q'⟩
    · rename_i qq t hc
      obtain ⟨f0, vs, h1, r⟩ := hs.cell a _ hc
      refine .inr ⟨a, ldO qq a vs, h1, trivial, fun od => ⟨F, _, ρ, _, PX, hs.put (c := .lO qq t od vs) f0 ⟨upd_same, r⟩, en, xr, q od vs, fun v F' H' d C' e' h' rv ⟨hq, q'⟩ => ?_⟩⟩
      obtain ⟨g0, g1, g2⟩ := h'.cell a _ hq
      exact ⟨g1, k v F' _ d _ e' (h'.put (c := .dO qq t) g0 ⟨vs, upd_same, g2⟩) rv q'⟩
    · exact .inl (go q)
  · exact .inl (go q)
end

/-! ### len, dict(..), list(..) -/
def rLenDic : List V → Hp → VK → Prop := fun xs H Q => ∃ (p : Addr) (n : Nat), xs = [.ref p] ∧ ((∃ t : List (L2.Key × V), Rd H p (.dK t) ∧ n = t.length) ∨ ∃ t : List (List L2.Key × V), Rd H p (.dT t) ∧ n = t.length) ∧ Q (.int ((n : Nat) : Int)) H
theorem cr_lenDic {X : Cx} : CallR X (.builtin "len") rLenDic := by
  intro pins s σ H xs us Q I r h
  obtain ⟨p, n, rfl, hp, q⟩ := h
  rw [Vals.ref1 r]
  rcases hp with ⟨t, hp, rfl⟩ | ⟨t, hp, rfl⟩
  · exact d_len I hp fun tk s' I' => ⟨.int _, H, I', ⟨tk, rfl⟩, q⟩
  · obtain ⟨z, hd, ys, rel, dd⟩ := dt_rd I.hok hp
    have e : t.length = ys.length := Paired.length rel
    refine call_len_dictH hd dd (by rw [← e]; rw [sizeLine_eq] at z; omega) ?_
    rw [← e]
    exact ⟨.int _, H, I.tok _, ⟨_, rfl⟩, q⟩
def dLenDic (ds : List D) (C : Cells) (P : DK) : Prop := match ds with
  | [x] => match kvsK x C with
    | some t => P (.int (t.length : Nat)) C
    | none => match kvsT x C with
      | some t => P (.int (t.length : Nat)) C
      | none => False
  | _ => False
def dDictC (ds : List D) (C : Cells) (P : DK) : Prop := match ds with
  | [x] => match kvsK x C with
    | some t => ∀ p, C p = none → P (.ptr p) (cput C p (.dK t))
    | none => False
  | _ => False
def dKeyList (own : Bool) (ds : List D) (C : Cells) (P : DK) : Prop := match ds with
  | [x] => match kvsK x C with
    | some t => if own = true then ∀ p, C p = none → P (.ptr p) (cput C p (.lst (t.map fun p => keyD p.1))) else P (.lst (t.map fun p => keyD p.1)) C
    | none => False
  | _ => False
section
variable {K : PySem.W.Frag}
theorem s_lenDic : SimA K rLenDic dLenDic := fun F C H xs ds P Q hs r w k => by
  unfold dLenDic at w
  split at w
  · obtain ⟨v, rfl, r1⟩ := r.one
    split at w
    · rename_i t ht
      obtain ⟨a, vs, rfl, h2, h3⟩ := kvsK_rd hs r1 ht
      exact ⟨a, _, rfl, .inl ⟨vs, h2, (tp_len h3.pair).symm⟩, k _ F H _ C (Ex.refl F) hs (.int _) w⟩
    · split at w
      · rename_i t ht
        obtain ⟨a, vs, rfl, h2, h3⟩ := kvsT_rd hs r1 ht
        exact ⟨a, _, rfl, .inr ⟨vs, h2, (tp_len h3.pair).symm⟩, k _ F H _ C (Ex.refl F) hs (.int _) w⟩
      · exact w.elim
  · exact w.elim
theorem s_dictC : SimA K (fun xs H Q => ∃ (a : Addr) (t : List (L2.Key × V)), xs = [.ref a] ∧ Rd H a (.dK t) ∧ ∀ p, H p = none → Q (.ref p) (upd H p (.dK t))) dDictC := fun F C H xs ds P Q hs r w k => by
  unfold dDictC at w
  split at w
  · obtain ⟨v, rfl, r1⟩ := r.one
    split at w
    · rename_i t ht
      obtain ⟨a, vs, rfl, h2, h3⟩ := kvsK_rd hs r1 ht
      refine ⟨a, vs, rfl, h2, fun p hp => ?_⟩
      obtain ⟨f0, c0⟩ := hs.fresh hp
      exact k _ F _ _ _ (Ex.refl F) (hs.put (c := .dK t) f0 ⟨vs, upd_same, h3⟩) (.ptr p) (w p c0)
    · exact w.elim
  · exact w.elim
theorem rep_keyl : ∀ {F : Hp} {vs : List (L2.Key × V)} {t : List (L2.Key × D)}, RepK K F vs t → RepL K F (vs.map fun p => kV p.1) (t.map fun p => keyD p.1)
  | _, _, _, .nil => .nil
  | _, _, _, .cons _ r => .cons (rep_key _) (rep_keyl r)
theorem s_keyList (own : Bool) : SimA K (fun xs H Q => ∃ (a : Addr) (t : List (L2.Key × V)), xs = [.ref a] ∧ Rd H a (.dK t) ∧ ∀ p, H p = none → Q (.ref p) (upd H p (.lst (t.map fun kv => kV kv.1)))) (dKeyList own) := fun F C H xs ds P Q hs r w k => by
  unfold dKeyList at w
  split at w
  · obtain ⟨v, rfl, r1⟩ := r.one
    split at w
    · rename_i t ht
      obtain ⟨a, vs, rfl, h2, h3⟩ := kvsK_rd hs r1 ht
      refine ⟨a, vs, rfl, h2, fun p hp => ?_⟩
      cases own with
      | true =>
        rw [if_pos rfl] at w
        obtain ⟨c0, h4⟩ := hs.newC (rep_keyl h3) hp
        exact k _ F _ _ _ (Ex.refl F) h4 (.ptr p) (w p c0)
      | false =>
        rw [if_neg (by decide)] at w
        obtain ⟨e4, h4, r4⟩ := hs.newL (rep_keyl h3) hp
        exact k _ _ _ _ C e4 h4 r4 w
    · exact w.elim
  · exact w.elim
end
end DD

set_option Elab.async false
set_option linter.all false
set_option maxRecDepth 100000
set_option maxHeartbeats 4000000
/-! Dicts: sorted keys; == . -/
namespace DD
open PySem L2 PyProof.Rows PySem.W

def keyP : L2.Key → PyData
  | .inl i => .int i
  | .inr z => .str z
theorem keyP_py (k : L2.Key) : (keyD k).py = keyP k := by cases k <;> simp [keyD, keyP, D.py]
theorem key_reads {h : Heap} {k : L2.Key} {u : Value} (r : RelV (kV k) u) : Reads h u (keyP k) [] := by
  cases k with
  | inl i => obtain ⟨t, rfl⟩ := (show ∃ t, u = Value.int i t from r); exact .int i t
  | inr z => obtain ⟨t, rfl⟩ := (show ∃ t, u = Value.str z t from r); exact .str z t
theorem keys_reads {h : Heap} : ∀ {ks : List L2.Key} {us : List Value}, Vals (ks.map kV) us → ReadsAll h us (ks.map keyP) []
  | [], _, .nil => .nil
  | _ :: _, _, .cons a b => .cons (key_reads a) (keys_reads b)
theorem tupk_reads {P : Program} {w : World} {H : Hp} {h : Heap} {q : Addr} {ks : List L2.Key} (ok : HOk P w H h) (e : H q = some (.tup (ks.map kV))) : Reads h (.ref q) (.tuple (ks.map keyP)) [] := by
  obtain ⟨_, its, r, o, h1, h2, n, h3⟩ := (show ObjOk P w H h q (.tup (ks.map kV)) from ok q _ e)
  exact .tuple h1 h2 h3 (keys_reads (by simpa using r))
/-- what is sorted: values that read as ps, none of them a list -/
inductive Keys (h : Heap) : List V → List PyData → List Value → Prop
  | nil : Keys h [] [] []
  | cons {x : V} {p : PyData} {u : Value} {xs : List V} {ps : List PyData} {us : List Value} : RelV x u → Reads h u p [] → Keys h xs ps us → Keys h (x :: xs) (p :: ps) (u :: us)
theorem Keys.rel {h : Heap} {xs : List V} {ps : List PyData} {us : List Value} (k : Keys h xs ps us) : EachIs (fun v (b : V × PyData) => RelV b.1 v) us (xs.zip ps) := by
  induction k with
  | nil => exact .nil
  | cons a _ _ ih => exact .cons a ih
theorem Keys.rd {h h' : Heap} {a : Addr} (kp : ∀ b o, h.get? b = some o → h'.get? b = some o) {xs : List V} {ps : List PyData} {us : List Value} (k : Keys h xs ps us) : EachIs (fun v (b : V × PyData) => ∃ as, Reads h' v b.2 as ∧ a ∉ as) us (xs.zip ps) := by
  induction k with
  | nil => exact .nil
  | cons _ b _ ih => exact .cons ⟨[], PyProof.Rows.Reads.keeps kp b, by simp⟩ ih
theorem Keys.len {h : Heap} {xs : List V} {ps : List PyData} {us : List Value} (k : Keys h xs ps us) : xs.length = ps.length ∧ us.length = ps.length := by
  induction k with
  | nil => exact ⟨rfl, rfl⟩
  | cons _ _ _ ih => exact ⟨congrArg (· + 1) ih.1, congrArg (· + 1) ih.2⟩
theorem Keys.snd {h : Heap} {xs : List V} {ps : List PyData} {us : List Value} (k : Keys h xs ps us) : (xs.zip ps).map Prod.snd = ps := zip_snd k.len.1
/-- the new list is sorted -/
theorem sort_new {X : Cx} {pins : List (Addr × Obj)} {σ : L2.St} {H : Hp} {s : Shared} {xs : List V} {ps : List PyData} {acc : List Value} {Q : VK} {E : Value → Shared → Prop} (hu : X.A.units + 64 < cLine) (I : Inv X pins σ H s) (k : Keys s.heap xs ps acc) (hal : AllAlike ps) (hk : Sortable ps) (hd : ∀ d ∈ ps, d.depth ≤ 60)
    (hz : ps.length ≤ sizeLine) (q : ∀ p, H p = none → Q (.ref p) (upd H p (.lst (((xs.zip ps).mergeSort (dataLe false Prod.snd)).map Prod.fst)))) :
    wpAny (model X.prog X.w) X.A.in1 (do
      let l ← newList acc
      let _ ← holding [l] (call (.builtin "list.sort") [l])
      ret l) (fun f s' => ∃ v, f = .done (.ret v) ∧ ∃ x H', Inv X pins σ H' s' ∧ RelV x v ∧ Q x H') E s := by
  obtain ⟨l1, l2⟩ := k.len
  refine wpAny_bind (wpAny_newList ?_ (by rw [l2]; exact hz))
  have ho : (s.heap.push (seqObj "list" acc.toArray 0)).get? s.heap.objs.size = some (seqObj "list" acc.toArray 0) := Heap.get?_push_size _ rfl
  refine wpAny_bind (wpAny_holding (list_sort_data (bs := xs.zip ps) (enc := Prod.snd) (R := fun v b => RelV b.1 v) (s := { s with heap := s.heap.push (seqObj "list" acc.toArray 0) }) ho k.rel (k.rd fun _ _ e => Heap.get?_push_of_some _ e) (by rw [k.snd]; exact hal) (by rw [k.snd]; exact hk) (by rw [List.length_zip]; omega) (fun b hb => ?_) fun out h1 h2 => ?_))
  · have := hd b.2 (by rw [← k.snd]; exact List.mem_map_of_mem hb)
    show X.A.units + 1 + 1 + _ < cLine
    omega
  · obtain ⟨ep, he⟩ := PyProof.Rows.sortedHeap_at (vs := acc) (out := out.toArray) ho
    have k1 := each_vals (bs := []) (vs := []) h2
    have hl : (((xs.zip ps).mergeSort (dataLe false Prod.snd)).map Prod.fst).length ≤ sizeLine := by
      rw [List.length_map, List.length_mergeSort, List.length_zip]; omega
    refine wpAny_pure ⟨_, rfl, .ref s.heap.objs.size, upd H s.heap.objs.size (.lst (((xs.zip ps).mergeSort (dataLe false Prod.snd)).map Prod.fst)), I.laid (t' := s.toks) (fun b u e => ?_) (Nat.le_refl _) ⟨hl, out, ep, k1, he⟩, rfl, q _ (I.hok.fresh (Nat.le_refl _))⟩
    have hb : b < s.heap.objs.size := Heap.lt_size e
    exact (PyProof.Rows.sortedHeap_old (Nat.ne_of_lt hb) (by rw [size_push']; exact Nat.lt_succ_of_lt hb)).trans (Heap.get?_push_of_some _ e)
def rSortedDic : List V → Hp → VK → Prop := fun xs H Q => ∃ a ps, xs = [V.ref a] ∧ AllAlike ps ∧ Sortable ps ∧ (∀ d ∈ ps, d.depth ≤ 60) ∧
  ((∃ t : List (L2.Key × V), Rd H a (.dK t) ∧ ps = t.map (fun p => keyP p.1) ∧ ∀ p, H p = none → Q (.ref p) (upd H p (.lst ((((t.map fun p => kV p.1).zip ps).mergeSort (dataLe false Prod.snd)).map Prod.fst)))) ∨
  ∃ t : List (List L2.Key × V), Rd H a (.dT t) ∧ ps = t.map (fun p => PyData.tuple (p.1.map keyP)) ∧ ∀ bs p, IsKeys H t bs → H p = none → Q (.ref p) (upd H p (.lst ((((bs.map V.ref).zip ps).mergeSort (dataLe false Prod.snd)).map Prod.fst))))
theorem keys_K {h : Heap} {prog : Program} {w : World} : ∀ {t : List (L2.Key × V)} {vs : List (L2.Key × Value)} {acc : List Value}, KV t vs → acc.length = vs.length → (∀ (j : Nat) (v : Value), acc[j]? = some v → ∃ (k : L2.Key) (x : Value), vs[j]? = some (k, x) ∧ keyIs k v = true) → Keys h (t.map fun p => kV p.1) (t.map fun p => keyP p.1) acc := by
  intro t vs acc r
  unfold KV at r
  induction r generalizing acc with
  | nil => intro hl _; cases acc with
    | nil => exact .nil
    | cons _ _ => cases hl
  | @cons p q _ _ g _ ih => intro hl ha; cases acc with
    | nil => cases hl
    | cons u us =>
      obtain ⟨k, x, e1, e2⟩ := ha 0 u rfl
      cases e1
      have e3 : p.1 = k := g.1
      refine .cons (show RelV (kV p.1) u by rw [e3]; exact relV_key e2) (show Reads h u (keyP p.1) [] by rw [e3]; exact key_reads (relV_key e2)) (ih (by simpa using hl) fun j v e => ?_)
      obtain ⟨k', x', z1, z2⟩ := ha (j + 1) v (by simpa using e)
      exact ⟨k', x', by simpa using z1, z2⟩
theorem keys_T {P : Program} {w : World} {H : Hp} {h : Heap} (ok : HOk P w H h) : ∀ {t : List (List L2.Key × V)} {bs : List Addr}, IsKeys H t bs → Keys h (bs.map V.ref) (t.map fun p => PyData.tuple (p.1.map keyP)) (bs.map Value.ref) := by
  intro t bs r
  unfold IsKeys at r
  induction r with
  | nil => exact .nil
  | cons g _ ih => exact .cons rfl (tupk_reads ok g) ih
theorem cr_sortedDic {X : Cx} (hc : X.calm = true) (hu : X.A.units + 64 < cLine) : CallR X (.builtin "sorted") rSortedDic := by
  intro pins s σ H xs us Q I r h
  obtain ⟨a, ps, rfl, hal, hk, hd, h⟩ := h
  rw [Vals.ref1 r]
  refine Calls.call_function_entry PyProof.Rows.kind_sorted PyProof.Rows.plain_sorted PyProof.Rows.entry_sorted (PyProof.Rows.args_sorted1 _) ?_
  unfold Builtin.«sorted»
  refine wpAny_bind (m := checkCount "sorted" 1 1 _) (wpAny_pure ?_)
  rcases h with ⟨t, ht, rfl, q⟩ | ⟨t, ht, rfl, q⟩
  · obtain ⟨z, lo, vs, rel, dd⟩ := dk_rd I.hok ht
    obtain ⟨ep, hat⟩ := dd.dictAt
    have hl : t.length = vs.length := rel.length
    refine wpAny_bind (PySem.W.kdu_collect (A := X.A.in1) (PySem.W.kdl_dict (knd := mixKind X.prog X.w) (kvs := vs) (ep := ep) lo) (I.ok.hd hc) hat (by omega) fun h' tk acc hkp hacc => ?_)
    have I1 : Inv X pins σ H { s with heap := h', toks := tk } := I.kept hkp
    have kk : Keys h' (t.map fun p => kV p.1) (t.map fun p => keyP p.1) acc.toList := keys_K (prog := X.prog) (w := X.w) rel (by rw [Array.length_toList]; exact hacc.1) fun j v e => hacc.2 j v (by rw [← Array.getElem?_toList]; exact e)
    have fin := sort_new (E := fun a b => X.xe a b) hu I1 kk hal hk hd (by rw [List.length_map]; exact z) q
    exact fin
  · obtain ⟨z, hs, ks, pr, o, es, ep, ho, hx, hdt, he, hn⟩ := (show ObjOk X.prog X.w H s.heap a (.dT t) from ht.ok I.hok)
    have l1 : es.size = ks.length := size_of_entries he
    have l2 : t.length = ks.length := Paired.length pr
    refine wpAny_bind (PySem.W.kdu_collect (A := X.A.in1) (kdl_raw hs hx hdt) (I.ok.hd hc) ho (by omega) fun h' tk acc hkp hacc => ?_)
    have I1 : Inv X pins σ H { s with heap := h', toks := tk } := I.kept hkp
    have ib : IsKeys H t (ks.map fun x => x.2.1) := isKeys_of pr
    have ea : acc.toList = (ks.map fun x => x.2.1).map Value.ref := by
      have hl : acc.toList.length = ks.length := by rw [Array.length_toList, hacc.1]; exact l1
      refine List.ext_getElem? fun j => ?_
      rw [List.getElem?_map, List.getElem?_map]
      cases hj : acc.toList[j]? with
      | none =>
        have := List.getElem?_eq_none_iff.mp hj
        rw [List.getElem?_eq_none (show ks.length ≤ j by omega)]
        rfl
      | some v =>
        obtain ⟨en, hen, hv⟩ := hacc.2 j v (by rw [← Array.getElem?_toList]; exact hj)
        have qe := entry_at he j
        rw [hen] at qe
        cases hb : ks[j]? with
        | none => rw [hb] at qe; cases qe
        | some b =>
          rw [hb] at qe
          have e2 : en = entryOfKey (tupleKind (mixKind X.prog X.w)) b := Option.some.inj qe
          rw [hv, e2]
          rfl
    have kk := keys_T I1.hok ib
    rw [← ea] at kk
    have fin := sort_new (E := fun a b => X.xe a b) hu I1 kk hal hk hd (by rw [List.length_map]; exact z) fun p hp => q _ p ib hp
    exact fin
/-- sorted(d) -/
def dSortDic (ds : List D) (C : Cells) (P : DK) : Prop := match ds with
  | [x] => match kvsK x C with
    | some t => SortsD (t.map fun p => keyD p.1) ∧ P (.lst ((t.map fun p => keyD p.1).mergeSort leD)) C
    | none => match kvsT x C with
      | some t => SortsD (t.map fun p => keyTD p.1) ∧ P (.lst ((t.map fun p => keyTD p.1).mergeSort leD)) C
      | none => False
  | _ => False
theorem keyTD_py (ks : List L2.Key) : (keyTD ks).py = PyData.tuple (ks.map keyP) := by
  simp only [keyTD, D.py, pys_map, List.map_map]
  congr 1
  exact List.map_congr_left fun k _ => keyP_py k
theorem s_sortDic {K : PySem.W.Frag} : SimA K rSortedDic dSortDic := fun F C H xs ds P Q hs r w k => by
  unfold dSortDic at w
  split at w
  · obtain ⟨v, rfl, r1⟩ := r.one
    split at w
    · rename_i t ht
      obtain ⟨a, vs, rfl, h2, h3⟩ := kvsK_rd hs r1 ht
      obtain ⟨⟨⟨n, hn, hd⟩, hal, hok⟩, w⟩ := w
      have e1 : vs.map (fun p => keyP p.1) = (t.map fun p => keyD p.1).map D.py := by
        rw [List.map_map, show (D.py ∘ fun p : L2.Key × D => keyD p.1) = keyP ∘ (·.1) from funext fun p => keyP_py p.1, ← List.map_map, ← tp_keys h3.pair, List.map_map]
        rfl
      refine ⟨a, _, rfl, by rw [e1]; exact hal, by rw [e1]; exact hok, fun d hd' => ?_, .inl ⟨vs, h2, rfl, fun p hp => ?_⟩⟩
      · rw [e1] at hd'
        obtain ⟨d', hm, rfl⟩ := List.mem_map.mp hd'
        have := (dat_lay (hd d' hm)).2
        omega
      · have rr := rep_keyl h3
        have e2 : vs.map (fun p => keyP p.1) = pys (t.map fun p => keyD p.1) := by rw [pys_map]; exact e1
        rw [e2]
        obtain ⟨e4, h4, r4⟩ := hs.newL rr.sort hp
        exact k _ _ _ _ C e4 h4 r4 w
    · split at w
      · rename_i t ht
        obtain ⟨a, vs, rfl, h2, h3⟩ := kvsT_rd hs r1 ht
        obtain ⟨⟨⟨n, hn, hd⟩, hal, hok⟩, w⟩ := w
        have e1 : vs.map (fun p => PyData.tuple (p.1.map keyP)) = (t.map fun p => keyTD p.1).map D.py := by
          rw [List.map_map, show (D.py ∘ fun p : List L2.Key × D => keyTD p.1) = (fun k => PyData.tuple (k.map keyP)) ∘ (·.1) from funext fun p => keyTD_py p.1, ← List.map_map, ← tp_keys h3.pair, List.map_map]
          rfl
        refine ⟨a, _, rfl, by rw [e1]; exact hal, by rw [e1]; exact hok, fun d hd' => ?_, .inr ⟨vs, h2, rfl, fun bs p ib hp => ?_⟩⟩
        · rw [e1] at hd'
          obtain ⟨d', hm, rfl⟩ := List.mem_map.mp hd'
          have := (dat_lay (hd d' hm)).2
          omega
        · obtain ⟨F2, e2, h2', rr⟩ := hs.adopts ib
          have ek : (vs.map fun p => keyTD p.1) = t.map fun p => keyTD p.1 := by
            have := congrArg (List.map keyTD) (tp_keys h3.pair)
            rw [List.map_map, List.map_map] at this
            exact this
          rw [ek] at rr
          have e3 : vs.map (fun p => PyData.tuple (p.1.map keyP)) = pys (t.map fun p => keyTD p.1) := by rw [pys_map]; exact e1
          rw [e3]
          obtain ⟨e4, h4, r4⟩ := h2'.newL rr.sort hp
          exact k _ _ _ _ C (e2.trans e4) h4 r4 w
      · exact w.elim
  · exact w.elim
end DD

set_option Elab.async false
set_option linter.all false
set_option maxRecDepth 100000
set_option maxHeartbeats 4000000
/-! Dicts: == ; displays. -/
namespace DD
open PySem L2 PyProof.Rows PySem.W

section
variable {κ : Type} [DecidableEq κ]
def vaP (t : List (κ × PyData)) (k : κ) : Option PyData := (t.find? fun p => decide (p.1 = k)).map (·.2)
theorem vaP_hit {k : κ} {p : κ × PyData} {t : List (κ × PyData)} (e : p.1 = k) : vaP (p :: t) k = some p.2 := by unfold vaP; rw [List.find?_cons, decide_eq_true e]; rfl
theorem vaP_miss {k : κ} {p : κ × PyData} {t : List (κ × PyData)} (e : ¬ p.1 = k) : vaP (p :: t) k = vaP t k := by unfold vaP; rw [List.find?_cons, decide_eq_false e]
def hitP (u : List (κ × PyData)) (p : κ × PyData) : Bool := match vaP u p.1 with
  | some d => PyData.eqv p.2 d
  | none => false
def eqP (t u : List (κ × PyData)) : Bool := t.length == u.length && t.all (hitP u)
def hitD (u : List (κ × D)) (p : κ × D) : Bool := match vaD u p.1 with
  | some d => p.2.eqb d
  | none => false
/-- == of two dicts of data -/
def eqT (t u : List (κ × D)) : Bool := t.length == u.length && t.all (hitD u)
abbrev pyT (t : List (κ × D)) : List (κ × PyData) := t.map fun p => (p.1, p.2.py)
theorem vaP_py (k : κ) : ∀ t : List (κ × D), vaP (pyT t) k = (vaD t k).map D.py
  | [] => rfl
  | p :: t => by
    by_cases e : p.1 = k
    · rw [vaD_hit e]; exact vaP_hit (p := (p.1, p.2.py)) e
    · rw [vaD_miss e, ← vaP_py k t]; exact vaP_miss (p := (p.1, p.2.py)) e
theorem eqP_py (t u : List (κ × D)) : eqP (pyT t) (pyT u) = eqT t u := by
  unfold eqP eqT pyT
  rw [List.length_map, List.length_map, List.all_map]
  congr 2
  funext p
  show hitP (pyT u) (p.1, p.2.py) = hitD u p
  unfold hitP hitD
  rw [vaP_py]
  cases vaD u p.1 <;> rfl
/-- what stands at the values reads so -/
abbrev VKr (h : Heap) : List (κ × Value) → List (κ × PyData) → Prop := Paired fun p q => p.1 = q.1 ∧ (∃ as, Reads h p.2 q.2 as) ∧ SeqAt.shaped q.2 = true
theorem vk_at {h : Heap} {vs : List (κ × Value)} {t : List (κ × PyData)} (r : VKr h vs t) (k : κ) : (valueAt vs k = none ∧ vaP t k = none) ∨ ∃ v d, valueAt vs k = some v ∧ vaP t k = some d ∧ (∃ as, Reads h v d as) ∧ SeqAt.shaped d = true := by
  induction r with
  | nil => exact .inl ⟨rfl, rfl⟩
  | @cons p q _ _ g _ ih =>
    by_cases e : q.1 = k
    · refine .inr ⟨p.2, q.2, ?_, vaP_hit e, g.2.1, g.2.2⟩
      unfold valueAt
      rw [List.find?_cons, decide_eq_true (g.1.trans e)]
      rfl
    · rw [vaP_miss e]
      have : ∀ l : List (κ × Value), valueAt (p :: l) k = valueAt l k := fun l => by
        unfold valueAt
        rw [List.find?_cons, decide_eq_false (fun z => e (g.1.symm.trans z))]
      rw [this]
      exact ih
theorem vk_hits {A : Around} {s : Shared} {va vb : List (κ × Value)} {t u : List (κ × PyData)} (hu : A.in1.units + 64 < cLine) (ra : VKr s.heap va t) (rb : VKr s.heap vb u) : KeqHits A.in1 s vb va (t.all (hitP u)) := by
  induction ra with
  | nil => exact .nil
  | @cons p q ps qs g _ ih =>
    obtain ⟨k, v⟩ := p
    obtain ⟨e, ⟨as, r1⟩, s1⟩ := g
    have e : k = q.1 := e
    rw [List.all_cons]
    rcases vk_at rb k with ⟨z1, z2⟩ | ⟨y, d, z1, z2, ⟨bs, r2⟩, s2⟩
    · have : hitP u q = false := by unfold hitP; rw [← e, z2]
      rw [this, Bool.false_and]
      exact .miss z1
    · have : hitP u q = PyData.eqv q.2 d := by unfold hitP; rw [← e, z2]
      rw [this]
      exact .hit z1 (keq_at r1 r2 s1 s2 hu) ih
end
section
variable {prog : Program} {w : World} {κ : Type} [DecidableEq κ] {knd : HeapKind prog w κ} {A : Around} {E : Value → Shared → Prop} {s : Shared}
/-- the same pairs, keys that lie on the heap -/
theorem same_heap {nm : String} {a b : Addr} {xs ys : List (κ × Addr × Value)} {e : Nat → Bool} {Q : Bool → Shared → Prop} (ha : (a == sysModules) = false) (hb : (b == sysModules) = false) (da : s.heap.DictOfH knd a xs) (db : s.heap.DictOfH knd b ys) (hu : knd.room A)
    (hits : ∀ i k p v, xs[i]? = some (k, p, v) → (atKey ys k = none ∧ e i = false) ∨ ∃ q, atKey ys k = some q ∧ SeqAt.EqAt A s v q.2 (e i)) (h : Q (xs.length == ys.length && (List.range xs.length).all e) s) : wpAny (model prog w) A (Builtin.Dict.samePairs nm a b) Q E s := by
  obtain ⟨oa, es, ep, hoa, _, hda, hea, hia, hna⟩ := da
  obtain ⟨ob, fs, fp, hob, _, hdb, heb, hib, hnb⟩ := db
  have la := size_of_entries hea
  have lb := size_of_entries heb
  rw [← la, ← lb] at h
  unfold Builtin.Dict.samePairs Builtin.Dict.showsAll
  rw [if_neg (by rw [ha]; decide), if_neg (by rw [hb]; decide)]
  refine wpAny_bind (wpAny_pure <| wpAny_bind <| wpAny_pure ?_)
  refine wpAny_bind (wpAny_dictEntries hoa hda ?_); dsimp only
  refine wpAny_bind (wpAny_dictEntries hob hdb ?_)
  by_cases hsz : es.size = fs.size
  · have fin : ∀ r : Bool, (List.range es.size).all e = r → Q r s := fun r hr => by
      rw [show (es.size == fs.size) = true by simpa using hsz, Bool.true_and, hr] at h
      exact h
    rw [if_neg (by rw [hsz]; simp)]
    refine wpAny_bind (wpAny_dictEpoch hoa hda <| wpAny_bind ?_)
    rw [Std.Legacy.Range.forIn_eq_forIn_range']
    simp only [Std.Legacy.Range.size, Nat.sub_zero, Nat.add_sub_cancel, Nat.div_one]
    refine wpAny_forIn_list _ (fun rest q t => t = s ∧ q = (none, ()) ∧ ∃ i, i ≤ es.size ∧ rest = List.range' i (es.size - i) ∧ ∀ j, j < i → e j = true) _ ?_ ?_ _ _ ⟨rfl, rfl, 0, Nat.zero_le _, by simp, fun j hj => by cases hj⟩
    · rintro x rest q t ⟨rfl, rfl, i, hi, hr, hall⟩
      have hlt : i < es.size := Nat.lt_of_le_of_ne hi fun z => by rw [z, Nat.sub_self] at hr; cases hr
      rw [show es.size - i = (es.size - (i + 1)) + 1 by omega, List.range'_succ] at hr
      injection hr with hx hrest
      subst hx
      refine wpAny_bind (wpAny_dictEntries hoa hda ?_)
      obtain ⟨⟨k, p, v⟩, hk⟩ : ∃ y, xs[x]? = some y := ⟨_, List.getElem?_eq_getElem (by omega)⟩
      have hent : es[x]? = some (entryOfKey knd (k, p, v)) := by rw [entry_at hea, hk]; rfl
      rw [hent]
      show wpAny _ _ (holding [Value.ref p, v] _ >>= _) _ _ _
      refine wpAny_bind (wpAny_holding <| wpAny_bind (wpAny_dictFind_heap hu (hia _ (List.mem_of_getElem? hk)) hob hdb heb hib hnb (fun hno => ?_) fun j q hj => ?_))
      · rcases hits x k p v hk with ⟨_, e0⟩ | ⟨q, hq, _⟩
        · refine wpAny_pure ?_
          show wpAny _ _ (if (!false) = true then _ else _) _ _ _
          rw [if_pos (by decide)]
          exact wpAny_pure (wpAny_pure (fin false (List.all_eq_false.mpr ⟨x, List.mem_range.mpr hlt, by rw [e0]; decide⟩)))
        · rw [atKey_none_of_get hno] at hq; cases hq
      · have hq := atKey_of_get hnb hj
        have hfe : fs[j]? = some (entryOfKey knd (k, q)) := by rw [entry_at heb, hj]; rfl
        rcases hits x k p v hk with ⟨h0, _⟩ | ⟨q', hq', he⟩
        · rw [hq] at h0; cases h0
        · rw [hq] at hq'
          cases hq'
          refine wpAny_bind (wpAny_dictEntries hob hdb ?_)
          rw [hfe]
          show wpAny _ _ (holding [q.2] (eqBool v q.2)) _ _ _
          refine wpAny_holding (he prog w _ _ ?_)
          cases hx : e x with
          | false =>
            show wpAny _ _ (if (!false) = true then _ else _) _ _ _
            rw [if_pos (by decide)]
            exact wpAny_pure (wpAny_pure (fin false (List.all_eq_false.mpr ⟨x, List.mem_range.mpr hlt, by rw [hx]; decide⟩)))
          | true =>
            show wpAny _ _ (if (!true) = true then _ else _) _ _ _
            rw [if_neg (by decide)]
            refine wpAny_bind (wpAny_dictEpoch hoa hda ?_)
            rw [if_neg (by simp)]
            exact wpAny_pure ⟨rfl, rfl, x + 1, hlt, hrest, fun j hj => (Nat.lt_succ_iff_lt_or_eq.mp hj).elim (hall j) fun z => by rw [z]; exact hx⟩
    · rintro q t ⟨rfl, rfl, i, hi, hr, hall⟩
      have hin : i = es.size := Nat.le_antisymm hi (by
        rcases Nat.lt_or_ge i es.size with z | z
        · rw [show es.size - i = (es.size - (i + 1)) + 1 by omega, List.range'_succ] at hr; cases hr
        · exact z)
      exact wpAny_pure (fin true (List.all_eq_true.mpr fun j hj => hall j (by rw [hin]; exact List.mem_range.mp hj)))
  · rw [if_pos (by simpa using hsz)]
    rw [show (es.size == fs.size) = false by simpa using hsz, Bool.false_and] at h
    exact wpAny_bind (wpAny_rule (wpAny_pure h))
end

theorem heap_slot {prog : Program} {w : World} {A : Around} {E : Value → Shared → Prop} {s : Shared} {κ : Type} [DecidableEq κ] {knd : HeapKind prog w κ} {a b : Addr} {xs ys : List (κ × Addr × Value)} {e : Nat → Bool} {Q : Value → Shared → Prop} (ha : (a == sysModules) = false) (hb : (b == sysModules) = false) (da : s.heap.DictOfH knd a xs) (db : s.heap.DictOfH knd b ys) (hr : knd.room A.in1) (hu : A.units < cLine)
    (hits : ∀ i k p v, xs[i]? = some (k, p, v) → (atKey ys k = none ∧ e i = false) ∨ ∃ q, atKey ys k = some q ∧ SeqAt.EqAt A.in1 s v q.2 (e i)) :
    (Q (.bool (xs.length == ys.length && (List.range xs.length).all e)) s → wpAny (model prog w) A (compareOp .Eq (.ref a) (.ref b)) Q E s) ∧ (Q (.bool (!(xs.length == ys.length && (List.range xs.length).all e))) s → wpAny (model prog w) A (compareOp .NotEq (.ref a) (.ref b)) Q E s) := by
  have ta : s.TypeIs (.ref a) "dict" := da.typeIs
  have tb : s.TypeIs (.ref b) "dict" := db.typeIs
  constructor
  · intro h
    refine wpAny_richCompare_same_room (op := .Eq) ta tb PySem.F.slot_dict_eq (wpAny_call_entry PySem.F.slot_dict_eq ta PySem.F.entry_dict_eq ?_ (PySem.F.args_dict_eq_2 _ _)) hu
    show wpAny _ _ (Builtin.Dict.dictSlotArgs "__eq__" _ >>= _) _ _ s
    unfold Builtin.Dict.dictSlotArgs
    refine wpAny_bind (wpAny_bind (wpAny_notOrdered_dict ta ?_))
    show wpAny _ _ (pure (Value.ref a, Value.ref b)) _ _ s
    refine wpAny_pure (wpAny_bind (wpAny_isInstance (T := "dict") tb PySem.F.sub_dict_dict ?_))
    simp only [Bool.not_true, Bool.false_eq_true, if_false]
    refine wpAny_bind (wpAny_pure <| wpAny_bind <| wpAny_pure <| wpAny_bind (same_heap ha hb da db hr hits <| wpAny_pure ⟨_, rfl, ?_, ?_⟩))
    · exact fun z => by cases z
    · simpa using h
  · intro h
    refine wpAny_richCompare_same_room (op := .NotEq) ta tb PySem.F.slot_dict_ne (wpAny_call_entry PySem.F.slot_dict_ne ta PySem.F.entry_dict_ne ?_ (PySem.F.args_dict_ne_2 _ _)) hu
    show wpAny _ _ (Builtin.Dict.dictSlotArgs "__ne__" _ >>= _) _ _ s
    unfold Builtin.Dict.dictSlotArgs
    refine wpAny_bind (wpAny_bind (wpAny_notOrdered_dict ta ?_))
    show wpAny _ _ (pure (Value.ref a, Value.ref b)) _ _ s
    refine wpAny_pure (wpAny_bind (wpAny_isInstance (T := "dict") tb PySem.F.sub_dict_dict ?_))
    simp only [Bool.not_true, Bool.false_eq_true, if_false]
    refine wpAny_bind (wpAny_pure <| wpAny_bind <| wpAny_pure <| wpAny_bind (same_heap ha hb da db hr hits <| wpAny_pure ⟨_, rfl, ?_, ?_⟩))
    · exact fun z => by cases z
    · simpa using h
abbrev VP {κ : Type} (K : PySem.W.Frag) (H : Hp) : List (κ × V) → List (κ × PyData) → Prop := Paired fun p q => p.1 = q.1 ∧ Dp K H p.2 q.2 ∧ SeqAt.shaped q.2 = true
/-- two dicts of data -/
def rEqDic (K : PySem.W.Frag) (neg : Bool) : R2 := fun x y H Q => ∃ a b, x = .ref a ∧ y = .ref b ∧
  ((∃ (vs us : List (L2.Key × V)) (t u : List (L2.Key × PyData)), Rd H a (.dK vs) ∧ Rd H b (.dK us) ∧ VP K H vs t ∧ VP K H us u ∧ Q (.bl (neg ^^ eqP t u)) H) ∨
  ∃ (vs us : List (List L2.Key × V)) (t u : List (List L2.Key × PyData)), Rd H a (.dT vs) ∧ Rd H b (.dT us) ∧ VP K H vs t ∧ VP K H us u ∧ Q (.bl (neg ^^ eqP t u)) H)
section
variable {X : Cx} {pins : List (Addr × Obj)} {σ : L2.St} {H : Hp} {s : Shared}
theorem vk_of (I : Inv X pins σ H s) {κ : Type} [DecidableEq κ] {vs : List (κ × V)} {ws : List (κ × Value)} {t : List (κ × PyData)} (r : KV vs ws) (q : VP X.K H vs t) : VKr s.heap ws t := by
  unfold KV at r
  induction r generalizing t with
  | nil => cases q; exact .nil
  | @cons p p' _ _ g _ ih =>
    cases q with
    | cons h z => exact .cons ⟨g.1.symm.trans h.1, Dp.reads I _ _ _ h.2.1 g.2, h.2.2⟩ (ih z)
theorem kt_vk (I : Inv X pins σ H s) {vs : List (List L2.Key × V)} {xs : List (List L2.Key × Addr × Value)} {t : List (List L2.Key × PyData)} (r : KT H vs xs) (q : VP X.K H vs t) : VKr s.heap (xs.map fun x => (x.1, x.2.2)) t := by
  induction r generalizing t with
  | nil => cases q; exact .nil
  | @cons p p' _ _ g _ ih =>
    cases q with
    | cons h z => exact .cons ⟨g.1.symm.trans h.1, Dp.reads I _ _ _ h.2.1 g.2.2, h.2.2⟩ (ih z)
theorem atKey_vals {κ : Type} [DecidableEq κ] (k : κ) : ∀ xs : List (κ × Addr × Value), valueAt (xs.map fun x => (x.1, x.2.2)) k = (atKey xs k).map (·.2)
  | [] => rfl
  | x :: r => by
    have ih := atKey_vals k r
    unfold valueAt atKey at ih ⊢
    rw [List.map_cons, List.find?_cons, List.find?_cons]
    by_cases e : x.1 = k
    · rw [decide_eq_true e]; rfl
    · rw [decide_eq_false e]; exact ih
/-- the i-th pair is found alike -/
def eAt {κ : Type} [DecidableEq κ] (t u : List (κ × PyData)) (i : Nat) : Bool := match t[i]? with
  | some p => hitP u p
  | none => false
theorem eAt_all {κ : Type} [DecidableEq κ] (t u : List (κ × PyData)) : (List.range t.length).all (eAt t u) = t.all (hitP u) := by
  rw [Bool.eq_iff_iff, List.all_eq_true, List.all_eq_true]
  constructor
  · intro h p hp
    obtain ⟨i, hi, e⟩ := List.getElem_of_mem hp
    have := h i (List.mem_range.mpr hi)
    unfold eAt at this
    rw [List.getElem?_eq_getElem hi, e] at this
    exact this
  · intro h i hi
    have hi := List.mem_range.mp hi
    unfold eAt
    rw [List.getElem?_eq_getElem hi]
    exact h _ (List.getElem_mem hi)
theorem eq_dics (hu : X.A.units + 66 < cLine) {neg : Bool} (I : Inv X pins σ H s) {x y : V} {v u : Value} {Q : VK} (rx : RelV x v) (ry : RelV y u) (h : rEqDic X.K neg x y H Q) : wpAny (model X.prog X.w) X.A (compareOp (if neg = true then .NotEq else .Eq) v u) (EP X pins σ Q) X.xe s := by
  have h1 : X.A.in1.units + 64 < cLine := by show X.A.units + 1 + 64 < cLine; omega
  obtain ⟨a, b, rfl, rfl, h⟩ := h
  cases rx; cases ry
  rcases h with ⟨vs, us, t, u, ha, hb, ta, tb, q⟩ | ⟨vs, us, t, u, ha, hb, ta, tb, q⟩
  · obtain ⟨_, ya, va, ra, da⟩ := dk_rd I.hok ha
    obtain ⟨_, yb, vb, rb, db⟩ := dk_rd I.hok hb
    have ka := vk_of I ra ta
    have kb := vk_of I rb tb
    have hits := vk_hits (A := X.A) (by show X.A.units + 1 + 64 < cLine; omega) ka kb
    have el : (va.length == vb.length && t.all (hitP u)) = eqP t u := by unfold eqP; rw [Paired.length ka, Paired.length kb]
    cases neg with
    | false =>
      rw [if_neg (by decide)]
      refine keq_eq ya yb da db (by omega) (fun _ => hits) ?_
      rw [el]
      exact ⟨.bl _, H, I, rfl, by rw [Bool.false_xor] at q; exact q⟩
    | true =>
      rw [if_pos rfl]
      refine keq_ne ya yb da db (by omega) (fun _ => hits) ?_
      rw [el]
      exact ⟨.bl _, H, I, rfl, by rw [Bool.true_xor] at q; exact q⟩
  · obtain ⟨_, ya, xa, ra, da⟩ := dt_rd I.hok ha
    obtain ⟨_, yb, xb, rb, db⟩ := dt_rd I.hok hb
    have ka := kt_vk I ra ta
    have kb := kt_vk I rb tb
    have l1 : xa.length = t.length := by have := Paired.length ka; rwa [List.length_map] at this
    have l2 : xb.length = u.length := by have := Paired.length kb; rwa [List.length_map] at this
    have z := heap_slot (A := X.A) (E := X.xe) (e := eAt t u) (Q := EP X pins σ Q) ya yb da db (tupleKind_room_in1 (A := X.A) (by omega)) (by omega) fun i k p v hi => by
      have hi2 : (xa.map fun x => (x.1, x.2.2))[i]? = some (k, v) := by rw [List.getElem?_map, hi]; rfl
      obtain ⟨q', ht, g1, ⟨as, g2⟩, g3⟩ := paired_get ka hi2
      have g1 : k = q'.1 := g1
      have ee : eAt t u i = hitP u q' := by unfold eAt; rw [ht]
      rw [ee]
      rcases vk_at kb k with ⟨z1, z2⟩ | ⟨y, d, z1, z2, ⟨bs, r2⟩, s2⟩
      · refine .inl ⟨?_, by unfold hitP; rw [← g1, z2]⟩
        rw [atKey_vals] at z1
        exact Option.map_eq_none_iff.mp z1
      · rw [atKey_vals, Option.map_eq_some_iff] at z1
        obtain ⟨p2, z3, rfl⟩ := z1
        refine .inr ⟨p2, z3, ?_⟩
        have : hitP u q' = PyData.eqv q'.2 d := by unfold hitP; rw [← g1, z2]
        rw [this]
        exact keq_at g2 r2 g3 s2 h1
    have el : (xa.length == xb.length && (List.range xa.length).all (eAt t u)) = eqP t u := by unfold eqP; rw [← eAt_all, l1, l2]
    rw [el] at z
    cases neg with
    | false =>
      rw [if_neg (by decide)]
      exact z.1 ⟨.bl _, H, I, rfl, by rw [Bool.false_xor] at q; exact q⟩
    | true =>
      rw [if_pos rfl]
      exact z.2 ⟨.bl _, H, I, rfl, by rw [Bool.true_xor] at q; exact q⟩
end
section
variable {X : Cx} {K : PySem.W.Frag}
theorem op_eqDic (hu : X.A.units + 66 < cLine) : OpR X (compareOp .Eq) (rEqDic X.K false) := fun pins s σ H x y v u Q I rx ry h => by
  have := eq_dics hu I rx ry h
  rwa [if_neg (by decide)] at this
theorem op_neDic (hu : X.A.units + 66 < cLine) : OpR X (compareOp .NotEq) (rEqDic X.K true) := fun pins s σ H x y v u Q I rx ry h => by
  have := eq_dics hu I rx ry h
  rwa [if_pos rfl] at this
def datT {κ : Type} (n : Nat) (t : List (κ × D)) : Prop := ∀ p ∈ t, Dat n p.2
def dEqDic (neg : Bool) (x : D) (y : D) (C : Cells) (P : DK) : Prop := match kvsK x C, kvsK y C with
  | some t, some u => ∃ n, n ≤ 60 ∧ datT n t ∧ datT n u ∧ P (.bl (neg ^^ eqT t u)) C
  | _, _ => match kvsT x C, kvsT y C with
    | some t, some u => ∃ n, n ≤ 60 ∧ datT n t ∧ datT n u ∧ P (.bl (neg ^^ eqT t u)) C
    | _, _ => False
theorem vp_of {F H : Hp} (ex : Ex F H) {κ : Type} [DecidableEq κ] {n : Nat} (hn : n ≤ 60) {vs : List (κ × V)} {t : List (κ × D)} (r : TP K F vs t) : datT n t → VP K H vs (pyT t) := by
  induction r with
  | nil => exact fun _ => .nil
  | @cons p q _ _ g _ ih => exact fun h => .cons ⟨g.1, rep_dp ex (h q List.mem_cons_self) _ g.2, dat_shaped (h q List.mem_cons_self) hn⟩ (ih fun z hz => h z (List.mem_cons_of_mem _ hz))
theorem s_eqDic {neg : Bool} : SimR K (rEqDic K neg) (dEqDic neg) := fun F C H x y dx dy P Q hs rx ry w k => by
  unfold dEqDic at w
  split at w
  · rename_i t u h1 h2
    obtain ⟨n, hn, d1, d2, w⟩ := w
    obtain ⟨a, vs, rfl, g1, g2⟩ := kvsK_rd hs rx h1
    obtain ⟨b, us, rfl, g3, g4⟩ := kvsK_rd hs ry h2
    refine ⟨a, b, rfl, rfl, .inl ⟨vs, us, pyT t, pyT u, g1, g3, vp_of hs.ex hn g2.pair d1, vp_of hs.ex hn g4.pair d2, ?_⟩⟩
    rw [eqP_py]
    exact k _ F H _ C (Ex.refl F) hs (.bl _) w
  · split at w
    · rename_i t u h1 h2
      obtain ⟨n, hn, d1, d2, w⟩ := w
      obtain ⟨a, vs, rfl, g1, g2⟩ := kvsT_rd hs rx h1
      obtain ⟨b, us, rfl, g3, g4⟩ := kvsT_rd hs ry h2
      refine ⟨a, b, rfl, rfl, .inr ⟨vs, us, pyT t, pyT u, g1, g3, vp_of hs.ex hn g2.pair d1, vp_of hs.ex hn g4.pair d2, ?_⟩⟩
      rw [eqP_py]
      exact k _ F H _ C (Ex.refl F) hs (.bl _) w
    · exact w.elim
theorem _root_.L2.Room.units3 {k : Nat} {A : Around} (r : L2.Room k A) : A.units + 66 < cLine := by have := r.un; omega
end
end DD

set_option Elab.async false
set_option linter.all false
set_option maxRecDepth 100000
set_option maxHeartbeats 4000000
/-! Dicts: displays. -/
namespace DD
open PySem L2 PyProof.Rows PySem.W

def wPairs : List (DE × DE) → DEnv → Cells → (List (D × D) → Cells → Prop) → DX → Prop
  | [], _, C, P, _ => P [] C
  | (k, v) :: r, ρ, C, P, PX => k ρ C (fun x C1 => v ρ C1 (fun y C2 => wPairs r ρ C2 (fun ps C3 => P ((x, y) :: ps) C3) PX) PX) PX
def pairsK : List (D × D) → Option (List (L2.Key × D))
  | [] => some []
  | (x, y) :: r => match keyOf x, pairsK r with
    | some k, some t => some ((k, y) :: t)
    | _, _ => none
def mergeD (t : List (L2.Key × D)) : List (L2.Key × D) → List (L2.Key × D)
  | [] => t
  | p :: r => mergeD (puD t p.1 p.2) r
def wDisp (ts : List (DE × DE)) (ρ : DEnv) (C : Cells) (P : DK) (PX : DX) : Prop := ∀ p, C p = none → wPairs ts ρ (cput C p (.dK [])) (fun ps C2 => C2 p = some (.dK []) ∧ match pairsK ps with
  | some t => t.length ≤ 15 ∧ P (.ptr p) (cput C2 p (.dK (mergeD [] t)))
  | none => False) PX
/-- a display that does not change any more -/
def wDispF (ts : List (DE × DE)) (ρ : DEnv) (C : Cells) (P : DK) (PX : DX) : Prop := ∀ p, C p = none → wPairs ts ρ (cput C p (.dK [])) (fun ps C2 => C2 p = some (.dK []) ∧ match pairsK ps with
  | some t => t.length ≤ 15 ∧ ∃ C3, Sub C3 C2 ∧ C3 p = none ∧ P (.dK (mergeD [] t)) C3
  | none => False) PX
section
variable {X : Cx} {W : WX} {K : PySem.W.Frag}
abbrev tPs (K : PySem.W.Frag) (W : WX) (ts : List (DE × DE)) : List (TE × TE) := ts.map fun p => (tE K W p.1, tE K W p.2)
theorem pairs_ok {F : Hp} {t : List (L2.Key × D)} : ∀ {vs : List (V × V)} {ps : List (D × D)} {t : List (L2.Key × D)}, Paired (fun p q => Rep K F p.1 q.1 ∧ Rep K F p.2 q.2) vs ps → pairsK ps = some t → ∃ ks : List (L2.Key × V), vs = ks.map (fun kv => (kV kv.1, kv.2)) ∧ TP K F ks t
  | [], [], t, .nil, h => by cases h; exact ⟨[], rfl, .nil⟩
  | p :: _, (x, y) :: ps, t, .cons g r, h => by
    simp only [pairsK] at h
    split at h
    · rename_i k t' hk ht
      cases h
      obtain ⟨ks, e, z⟩ := pairs_ok (t := t') r ht
      refine ⟨(k, p.2) :: ks, ?_, .cons ⟨rfl, g.2⟩ z⟩
      rw [List.map_cons, ← e, ← key_rep g.1 hk]
    · cases h
theorem tp_merge {F : Hp} : ∀ {more : List (L2.Key × V)} {t : List (L2.Key × D)} {vs : List (L2.Key × V)} {u : List (L2.Key × D)}, TP K F more t → TP K F vs u → TP K F (mergeK vs more) (mergeD u t)
  | [], [], vs, u, .nil, q => q
  | p :: more, d :: t, vs, u, .cons g r, q => by
    show TP K F (mergeK (putK vs p.1 p.2) more) (mergeD (puD u d.1 d.2) t)
    exact tp_merge r (by rw [g.1]; exact tp_put q _ g.2)
theorem i_pairs {F0 : Hp} : ∀ {ts : List (DE × DE)} {σ : L2.St} {H : Hp} {F : Hp} {C : Cells} {ρ : DEnv} {P : List (D × D) → Cells → Prop} {PX : DX} {Q : List (V × V) → Hp → Prop}, Hs K F C H → EnvR K F σ ρ → ExR K F W PX → wPairs ts ρ C P PX →
    (∀ vs F' H' ps C', Ex F F' → Hs K F' C' H' → Paired (fun p q => Rep K F' p.1 q.1 ∧ Rep K F' p.2 q.2) vs ps → P ps C' → Q vs H') → tPairs (tPs K W ts) σ H Q
  | [], σ, H, F, C, ρ, P, PX, Q, hs, en, xr, w, k => k [] F H [] C (Ex.refl F) hs .nil w
  | (a, b) :: ts, σ, H, F, C, ρ, P, PX, Q, hs, en, xr, w, k =>
    ⟨F, C, ρ, _, PX, hs, en, xr, w, fun x F1 H1 dx C1 e1 h1 rx q => ⟨F1, C1, ρ, _, PX, h1, en.mono e1, xr.mono e1, q, fun y F2 H2 dy C2 e2 h2 ry q2 =>
      i_pairs (F0 := F0) h2 (en.mono (e1.trans e2)) (xr.mono (e1.trans e2)) q2 fun vs F3 H3 ps C3 e3 h3 r3 q3 =>
        k ((x, y) :: vs) F3 H3 ((dx, dy) :: ps) C3 ((e1.trans e2).trans e3) h3 (.cons ⟨rx.mono (e2.trans e3), ry.mono e3⟩ r3) q3⟩⟩
variable {pos : Pos} {keys : List (Option Expr)} {values : List Expr} {ts : List (DE × DE)}
theorem dps_nil : PPs X pos [] [] (tPs X.K W []) := pps_nil
theorem dps_cons {k v : Expr} {ks : List (Option Expr)} {vs : List Expr} {wk wv : DE} (hk : PE X k (tE X.K W wk)) (hv : PE X v (tE X.K W wv)) (hr : PPs X pos ks vs (tPs X.K W ts)) : PPs X pos (some k :: ks) (v :: vs) (tPs X.K W ((wk, wv) :: ts)) := pps_cons hk hv hr
theorem d_disp (h : PPs X pos keys values (tPs X.K W ts)) (hall : keys.all (·.isSome) = true := by rfl) (hl : keys.length = values.length := by rfl) (h0 : keys ≠ [] := by exact fun z => by cases z) (h15 : keys.length ≤ 15 := by decide) : PE X (.Dict keys values pos) (tE X.K W (wDisp ts)) :=
  PE.imp (pe_disp h hall hl h0 h15) fun σ H Q ⟨F, C, ρ, P, PX, hs, en, xr, w, k⟩ => fun p hp => by
  obtain ⟨f0, c0⟩ := hs.fresh hp
  refine i_pairs (F0 := F) (hs.put (c := .dK []) f0 ⟨[], upd_same, .nil⟩) en xr (w p c0) fun vs F1 H1 ps C1 e1 h1 r q => ?_
  obtain ⟨hc, q⟩ := q
  obtain ⟨g0, us, g1, g2⟩ := h1.cell p _ hc
  cases g2
  refine ⟨g1, ?_⟩
  split at q
  · rename_i t ht
    obtain ⟨ks, e, z⟩ := pairs_ok (t := t) r ht
    refine ⟨ks, e, by rw [tp_len z]; exact q.1, k _ F1 _ _ _ e1 (h1.put (c := .dK (mergeD [] t)) g0 ⟨_, upd_same, RepK.of (tp_merge z .nil)⟩) (.ptr p) q.2⟩
  · exact q.elim
theorem d_dispF (h : PPs X pos keys values (tPs X.K W ts)) (hall : keys.all (·.isSome) = true := by rfl) (hl : keys.length = values.length := by rfl) (h0 : keys ≠ [] := by exact fun z => by cases z) (h15 : keys.length ≤ 15 := by decide) : PE X (.Dict keys values pos) (tE X.K W (wDispF ts)) :=
  PE.imp (pe_fz (pe_disp h hall hl h0 h15)) fun σ H Q ⟨F, C, ρ, P, PX, hs, en, xr, w, k⟩ => fun p hp => by
  obtain ⟨f0, c0⟩ := hs.fresh hp
  refine i_pairs (F0 := F) (hs.put (c := .dK []) f0 ⟨[], upd_same, .nil⟩) en xr (w p c0) fun vs F1 H1 ps C1 e1 h1 r q => ?_
  obtain ⟨hc, q⟩ := q
  obtain ⟨g0, us, g1, g2⟩ := h1.cell p _ hc
  cases g2
  refine ⟨g1, ?_⟩
  split at q
  · rename_i t ht
    obtain ⟨ks, e, z⟩ := pairs_ok (t := t) r ht
    obtain ⟨hz, C3, s3, n3, q⟩ := q
    refine ⟨ks, e, by rw [tp_len z]; exact hz, .inr ⟨p, _, upd_same, trivial, fun od => ?_⟩⟩
    have h2 : Hs X.K F1 C3 H1 := h1.sub s3
    obtain ⟨e4, h4⟩ := frz_dic (o := .dK (mergeK [] ks)) (C2 := C3) h2 g0 (Sub.refl _) n3 od
    rw [upd_upd]
    exact k _ _ _ _ _ (e1.trans e4) h4 (.dK upd_same ((RepK.of (tp_merge z .nil)).mono e4)) q
  · exact q.elim
end
end DD

set_option Elab.async false
set_option linter.all false
set_option maxRecDepth 100000
set_option maxHeartbeats 4000000
/-! xs == [], xs != [] of lists of anything. -/
namespace DD
open PySem L2 PyProof.Rows PySem.W

def rEmp (K : PySem.W.Frag) (neg : Bool) : R2 := fun x y H Q => ∃ a b xs, x = .ref a ∧ y = .ref b ∧ SqL K H a xs ∧ SqL K H b [] ∧ Q (.bl (neg ^^ xs.isEmpty)) H
section
variable {X : Cx}
theorem op_eqEmp (hu : X.A.units + 64 < cLine) : OpR X (compareOp .Eq) (rEmp X.K false) := by
  intro pins s σ H x y v u Q I rx ry h
  obtain ⟨a, b, xs, rfl, rfl, ha, hb, q⟩ := h
  cases xs with
  | nil => exact op_eqD hu pins s σ H _ _ _ _ Q I rx ry ⟨.list [], .list [], .lst ha .nil, .lst hb .nil, rfl, rfl, q⟩
  | cons z zs =>
    cases rx; cases ry
    obtain ⟨i1, r1, p1, _⟩ := I.list ha
    obtain ⟨i2, r2, p2, _⟩ := I.list hb
    cases r2
    have hl := r1.length
    exact SeqAt.RcAt.lists_lengths p1.isList p2.isList (by rw [List.size_toArray, ← hl]; simp) (by omega) _ _ _ _ ⟨.bl _, H, I, rfl, q⟩
theorem op_neEmp (hu : X.A.units + 64 < cLine) : OpR X (compareOp .NotEq) (rEmp X.K true) := by
  intro pins s σ H x y v u Q I rx ry h
  obtain ⟨a, b, xs, rfl, rfl, ha, hb, q⟩ := h
  cases xs with
  | nil => exact op_neD hu pins s σ H _ _ _ _ Q I rx ry ⟨.list [], .list [], .lst ha .nil, .lst hb .nil, rfl, rfl, q⟩
  | cons z zs =>
    cases rx; cases ry
    obtain ⟨i1, r1, p1, _⟩ := I.list ha
    obtain ⟨i2, r2, p2, _⟩ := I.list hb
    cases r2
    have hl := r1.length
    exact SeqAt.RcNeAt.lists_lengths p1.isList p2.isList (by rw [List.size_toArray, ← hl]; simp) (by omega) _ _ _ _ ⟨.bl _, H, I, rfl, q⟩
end
def dEmp (neg : Bool) (x : D) (y : D) (C : Cells) (P : DK) : Prop := match seqOf x C, seqOf y C with
  | some ds, some [] => P (.bl (neg ^^ ds.isEmpty)) C
  | _, _ => False
theorem s_emp {K : PySem.W.Frag} {neg : Bool} : SimR K (rEmp K neg) (dEmp neg) := fun F C H x y dx dy P Q hs rx ry w k => by
  unfold dEmp at w
  split at w
  · rename_i ds h1 h2
    obtain ⟨a, xs, rfl, g1, g2⟩ := seq_of hs rx h1
    obtain ⟨b, ys, rfl, g3, g4⟩ := seq_of hs ry h2
    cases g4
    refine ⟨a, b, xs, rfl, rfl, g1, g3, ?_⟩
    have : xs.isEmpty = ds.isEmpty := by cases g2 <;> rfl
    rw [this]
    exact k _ F H _ C (Ex.refl F) hs (.bl _) w
  · exact w.elim
end DD

set_option Elab.async false
set_option linter.all false
set_option maxRecDepth 100000
set_option maxHeartbeats 4000000
/-! Tools for tables: keys, equal tables. -/
namespace DD
open PySem L2
section
variable {κ : Type} [DecidableEq κ]
theorem mem_keys (k : κ) : ∀ t : List (κ × D), k ∈ t.map (·.1) ↔ (vaD t k).isSome = true
  | [] => by simp [vaD]
  | p :: t => by
    by_cases e : p.1 = k
    · rw [vaD_hit e, List.map_cons]; simp [e]
    · rw [vaD_miss e, List.map_cons, List.mem_cons, ← mem_keys k t]
      constructor
      · rintro (h | h)
        · exact absurd h.symm e
        · exact h
      · exact .inr
theorem vaD_mem {k : κ} {d : D} : ∀ {t : List (κ × D)}, vaD t k = some d → (k, d) ∈ t
  | p :: t, h => by
    by_cases e : p.1 = k
    · rw [vaD_hit e] at h
      cases h
      rw [← e]
      exact List.mem_cons_self
    · rw [vaD_miss e] at h
      exact List.mem_cons_of_mem _ (vaD_mem h)
theorem vaD_of_mem {k : κ} {d : D} : ∀ {t : List (κ × D)}, (t.map (·.1)).Nodup → (k, d) ∈ t → vaD t k = some d
  | p :: t, hn, h => by
    rw [List.map_cons, List.nodup_cons] at hn
    rcases List.mem_cons.mp h with h | h
    · subst h; exact vaD_hit rfl
    · have : ¬ p.1 = k := fun e => hn.1 (by rw [e]; exact List.mem_map.mpr ⟨_, h, rfl⟩)
      rw [vaD_miss this]
      exact vaD_of_mem hn.2 h
theorem puD_nodup {t : List (κ × D)} (k : κ) (d : D) (h : (t.map (·.1)).Nodup) : ((puD t k d).map (·.1)).Nodup := by
  unfold puD
  split
  · have : ((t.map fun p => if p.1 = k then (p.1, d) else p).map (·.1)) = t.map (·.1) := by
      rw [List.map_map]
      refine List.map_congr_left fun p _ => ?_
      show (if p.1 = k then (p.1, d) else p).1 = p.1
      split <;> rfl
    rw [this]; exact h
  · rename_i hno
    rw [List.map_append, List.nodup_append]
    refine ⟨h, by simp, fun a ha b hb => ?_⟩
    simp only [List.map_cons, List.map_nil, List.mem_cons, List.not_mem_nil, or_false] at hb
    subst hb
    intro e
    subst e
    rw [mem_keys, ← any_vaD] at ha
    exact hno ha
theorem drD_nodup {t : List (κ × D)} (k : κ) (h : (t.map (·.1)).Nodup) : ((drD t k).map (·.1)).Nodup := by
  unfold drD
  exact (List.Sublist.map (fun p : κ × D => p.1) (List.filter_sublist (p := fun p => decide (p.1 ≠ k)) (l := t))).nodup h
theorem nd_map {α β : Type} {f : α → β} : ∀ {L : List α}, L.Nodup → (∀ x ∈ L, ∀ y ∈ L, f x = f y → x = y) → (L.map f).Nodup
  | [], _, _ => List.nodup_nil
  | x :: L, hn, h => by
    rw [List.nodup_cons] at hn
    rw [List.map_cons, List.nodup_cons]
    refine ⟨fun hm => ?_, nd_map hn.2 fun a ha b hb => h a (List.mem_cons_of_mem _ ha) b (List.mem_cons_of_mem _ hb)⟩
    obtain ⟨y, hy, e⟩ := List.mem_map.mp hm
    have := h y (List.mem_cons_of_mem _ hy) x List.mem_cons_self e
    subst this
    exact hn.1 hy
/-- two tables that answer alike are equal -/
theorem keys_perm {t u : List (κ × D)} (ht : (t.map (·.1)).Nodup) (hu : (u.map (·.1)).Nodup) (h : ∀ k, (vaD t k).isSome = (vaD u k).isSome) : (t.map (·.1)).Perm (u.map (·.1)) :=
  (List.perm_ext_iff_of_nodup ht hu).mpr fun k => by rw [mem_keys, mem_keys, h k]
theorem eqT_of {t u : List (κ × D)} {n : Nat} (ht : (t.map (·.1)).Nodup) (hu : (u.map (·.1)).Nodup) (hd : datT n t) (h : ∀ k, vaD t k = vaD u k) : eqT t u = true := by
  unfold eqT
  have hl : t.length = u.length := by
    have := (keys_perm ht hu fun k => by rw [h k]).length_eq
    rwa [List.length_map, List.length_map] at this
  rw [hl, beq_self_eq_true, Bool.true_and, List.all_eq_true]
  intro p hp
  unfold hitD
  rw [← h p.1, vaD_of_mem (d := p.2) ht hp]
  exact eqb_self (hd p hp)
/-- a table written by a list -/
theorem vaD_map {α : Type} {key : α → κ} {val : α → D} {a : α} : ∀ {Z : List α}, (∀ x ∈ Z, key x = key a → x = a) → a ∈ Z → vaD (Z.map fun x => (key x, val x)) (key a) = some (val a)
  | z :: Z, hi, h => by
    rw [List.map_cons]
    by_cases e : key z = key a
    · have := hi z List.mem_cons_self e
      subst this
      exact vaD_hit (p := (key z, val z)) rfl
    · rw [vaD_miss (p := (key z, val z)) e]
      refine vaD_map (fun x hx => hi x (List.mem_cons_of_mem _ hx)) ?_
      rcases List.mem_cons.mp h with h | h
      · subst h; exact absurd rfl e
      · exact h
theorem vaD_map_none {α : Type} {key : α → κ} {val : α → D} {k : κ} : ∀ {Z : List α}, (∀ x ∈ Z, key x ≠ k) → vaD (Z.map fun x => (key x, val x)) k = none
  | [], _ => rfl
  | z :: Z, h => by
    rw [List.map_cons, vaD_miss (p := (key z, val z)) (h z List.mem_cons_self)]
    exact vaD_map_none fun x hx => h x (List.mem_cons_of_mem _ hx)
end
end DD

set_option Elab.async false
set_option linter.all false
set_option maxRecDepth 100000
set_option maxHeartbeats 4000000
/-! min of a list of texts. -/
namespace DD
open PySem L2 PyProof.Rows PySem.W
def ltS (x y : Str) : Bool := dataLt (.str x) (.str y)
def minS : List Str → Str
  | [] => ⟨#[]⟩
  | z :: r => r.foldl (fun a y => if ltS y a then y else a) z
theorem minD_strs (z : Str) : ∀ zs : List Str, minD (.str z) (zs.map .str) = .str (zs.foldl (fun a y => if ltS y a then y else a) z)
  | [] => rfl
  | y :: r => by
    have h1 := minD_strs y r
    have h2 := minD_strs z r
    unfold minD at h1 h2 ⊢
    rw [List.map_cons, List.foldl_cons, List.foldl_cons]
    by_cases g : ltS y z = true
    · rw [if_pos g, if_pos (show dataLt (.str y) (.str z) = true from g)]; exact h1
    · rw [if_neg g, if_neg (show ¬ dataLt (.str y) (.str z) = true from g)]; exact h2
theorem strs_readsAll {h : Heap} : ∀ {zs : List Str} {us : List Value}, Vals (zs.map V.str) us → ReadsAll h us (zs.map PyData.str) []
  | [], _, .nil => .nil
  | z :: zs, _, .cons a b => by
    obtain ⟨t, rfl⟩ := (show ∃ t, _ = Value.str z t from a)
    exact .cons (.str z t) (strs_readsAll b)
theorem depth_strs : ∀ zs : List Str, PyData.depthAll (zs.map PyData.str) = 0
  | [] => rfl
  | z :: zs => by rw [List.map_cons]; simp [PyData.depthAll, PyData.depth, depth_strs zs]
def rMinS (K : PySem.W.Frag) : List V → Hp → VK → Prop := fun xs H Q => ∃ a zs, xs = [.ref a] ∧ SqL K H a (zs.map V.str) ∧ zs ≠ [] ∧ Q (.str (minS zs)) H
theorem cr_minS {X : Cx} (hc : X.calm = true) (hu : X.A.units + 64 < cLine) : CallR X (.builtin "min") (rMinS X.K) := by
  intro pins s σ H xs us Q I r h
  obtain ⟨a, zs, rfl, hs, hne, q⟩ := h
  rw [Vals.ref1 r]
  obtain ⟨its, rv, hl, _⟩ := I.list hs
  cases zs with
  | nil => exact absurd rfl hne
  | cons z zs =>
    refine min_list_data (I.ok.hd hc) hl.isList (xs := zs.map .str) (x := .str z) (as := []) (by simpa using strs_readsAll (zs := z :: zs) rv) ⟨?_, ?_⟩ ?_ fun i v h' tk bs hv hr hk => ?_
    · intro x hx y hy
      rw [← List.map_cons (f := PyData.str)] at hx hy
      obtain ⟨x', _, rfl⟩ := List.mem_map.mp hx
      obtain ⟨y', _, rfl⟩ := List.mem_map.mp hy
      simp [alike]
    · intro x hx
      rw [← List.map_cons (f := PyData.str)] at hx
      obtain ⟨x', _, rfl⟩ := List.mem_map.mp hx
      exact fun e => by cases e
    · rw [← List.map_cons (f := PyData.str), depth_strs]; omega
    · rw [minD_strs] at hr
      have hx : ∃ t, v = Value.str (minS (z :: zs)) t := by
        cases hr
        exact ⟨_, rfl⟩
      exact ⟨.str _, H, I.kept hk, hx, q⟩
def dMinS (ds : List D) (C : Cells) (P : DK) : Prop := match ds with
  | [x] => ∃ zs, seqOf x C = some (zs.map D.str) ∧ zs ≠ [] ∧ P (.str (minS zs)) C
  | _ => False
theorem s_minS {K : PySem.W.Frag} : SimA K (rMinS K) dMinS := fun F C H xs ds P Q hs r w k => by
  unfold dMinS at w
  split at w
  · obtain ⟨v, rfl, r1⟩ := r.one
    obtain ⟨zs, hz, hne, w⟩ := w
    obtain ⟨a, us, rfl, h2, h3⟩ := seq_of hs r1 hz
    rw [h3.of_strs] at h2
    exact ⟨a, zs, rfl, h2, hne, k _ F H _ C (Ex.refl F) hs (.str _) w⟩
  · exact w.elim
theorem leD_str (x y : Str) : leD (.str x) (.str y) = !ltS y x := by
  unfold leD ltS
  rw [dataLe_eq]
  simp [D.py]
end DD

set_option Elab.async false
set_option linter.all false
set_option maxRecDepth 100000
set_option maxHeartbeats 4000000
/-! Comprehensions over a dict's keys. -/
namespace DD
open PySem L2
theorem cput_self {C : Cells} {a : Addr} {c : Cell} (h : C a = some c) : cput C a c = C := by
  funext b
  unfold cput
  split
  · rename_i e; rw [e, h]
  · rfl
/-- a dict with these entries, data or a cell -/
def DicAt (x : D) (C : Cells) (t : List (L2.Key × D)) : Prop := x = .dK t ∨ ∃ a, x = .ptr a ∧ C a = some (.dK t)
theorem DicAt.sub {x : D} {C C' : Cells} {t : List (L2.Key × D)} (h : DicAt x C t) (s : Sub C C') : DicAt x C' t := by
  rcases h with h | ⟨a, h, g⟩
  · exact .inl h
  · exact .inr ⟨a, h, s _ _ g⟩
theorem DicAt.kvs {x : D} {C : Cells} {t : List (L2.Key × D)} (h : DicAt x C t) : kvsK x C = some t := by
  rcases h with rfl | ⟨a, rfl, g⟩
  · rfl
  · simp only [kvsK, g]
theorem pVar_of {ρ : DEnv} {C : Cells} {i : Nat} {x : D} (h : ρ[i]? = some (some x)) : pVar i ρ C = some x := by unfold pVar; rw [h]
theorem wVar_of {ρ : DEnv} {C : Cells} {P : DK} {PX : DX} {i : Nat} {x : D} (h : ρ[i]? = some (some x)) : wVar i ρ C P PX = P x C := by unfold wVar; rw [h]
theorem lc_keys {t : List (L2.Key × D)} {st : Cells → Prop} {j : Nat} {wt : DT} {we : DE} {vs : List Nat} {C1 : Cells} {ρ : DEnv} {P : DK} (p : L2.Key × D → Bool) (val : L2.Key × D → D) (hf : ∀ C', Sub C1 C' → st C') (hn : t.length ≤ 100000)
    (hwt : ∀ e ∈ t, ∀ C' (Q : Bool → Cells → Prop), Sub C1 C' → Q (p e) C' → wt ((dwipe ρ vs).set j (some (keyD e.1))) C' Q noX)
    (hwe : ∀ e ∈ t, ∀ C' (Q : DK), Sub C1 C' → Q (val e) C' → we ((dwipe ρ vs).set j (some (keyD e.1))) C' Q noX)
    (hP : P (.lst ((t.filter p).map val)) C1) : LcG ⟨t.map fun e => keyD e.1, st⟩ (.name j) wt we vs ρ C1 P := by
  refine lc_map (enc := fun e : L2.Key × D => keyD e.1) (fun e => if p e = true then some (val e) else none) hf hn (fun k e C' Q hk hs hQ => ?_) ?_
  · have he := List.mem_of_getElem? hk
    simp only [Tgt.dg]
    refine hwt e he C' _ hs ?_
    cases hp : p e with
    | true =>
      rw [if_pos rfl]
      refine hwe e he C' _ hs ?_
      rw [hp, if_pos rfl] at hQ
      exact hQ
    | false =>
      rw [if_neg (by decide)]
      rw [hp, if_neg (by decide)] at hQ
      exact hQ
  · have : (t.filterMap fun e => if p e = true then some (val e) else none) = (t.filter p).map val := by
      clear hwt hwe hP hn
      induction t with
      | nil => rfl
      | cons e t ih =>
        rw [List.filterMap_cons, List.filter_cons, ih]
        cases hp : p e <;> simp
    rw [this]
    exact hP
theorem lck_gen {t : List (L2.Key × D)} {x : D} {C : Cells} {ρ : DEnv} {P : DK} {PX : DX} {i j : Nat} {wt : DT} {we : DE} {vs : List Nat} (hx : DicAt x C t) (hi : ρ[i]? = some (some x)) (p : L2.Key × D → Bool) (val : L2.Key × D → D) (hn : t.length ≤ 100000)
    (hwt : ∀ e ∈ t, ∀ C' (Q : Bool → Cells → Prop), kvsK x C' = some t → Q (p e) C' → wt ((dwipe ρ vs).set j (some (keyD e.1))) C' Q noX)
    (hwe : ∀ e ∈ t, ∀ C' (Q : DK), kvsK x C' = some t → Q (val e) C' → we ((dwipe ρ vs).set j (some (keyD e.1))) C' Q noX)
    (hP : P (.lst ((t.filter p).map val)) C) : wLockE (pVar i) (wLc (wItK (wVar i)) (.name j) wt we vs) ρ C P PX := by
  rcases hx with rfl | ⟨a, rfl, ha⟩
  · unfold wLockE
    rw [pVar_of hi]
    show wLc _ _ _ _ _ ρ C P PX
    unfold wLc wItK
    rw [wVar_of hi]
    exact lc_keys p val (fun _ _ => trivial) hn (fun e he C' Q _ h => hwt e he C' Q rfl h) (fun e he C' Q _ h => hwe e he C' Q rfl h) hP
  · unfold wLockE
    rw [pVar_of hi]
    dsimp only
    rw [ha]
    intro od ws
    unfold wLc wItK
    rw [wVar_of hi]
    dsimp only
    rw [cput_same]
    have hk : ∀ C', Sub (cput C a (.lK t od ws)) C' → kvsK (.ptr a) C' = some t := fun C' s => by
      have := s a _ cput_same
      simp only [kvsK, this]
    refine lc_keys p val (fun C' s => s a _ cput_same) hn (fun e he C' Q s h => hwt e he C' Q (hk C' s) h) (fun e he C' Q s h => hwe e he C' Q (hk C' s) h) ⟨cput_same, ?_⟩
    rw [cput_cput, cput_self ha]
    exact hP
theorem lockS_set {g : Pth} {m : Nat} {w : DE} {E : DEnds} {ρ : DEnv} {C : Cells} (h : wLockE g w ρ C (fun d C1 => E.nx (ρ.set m (some d)) C1) E.ex) : wLockS g (wSet m w) E ρ C := by
  unfold wLockE at h
  unfold wLockS
  split at h
  · rename_i a e
    split at h
    all_goals exact h
  · exact h
/-- a loop over items while something stays as it is -/
theorem for_mapS {α : Type} {L : List α} {enc : α → D} {st : Cells → Prop} {t : Tgt} {b : DS} {E : DEnds} {ρ : DEnv} {C : Cells} (Inv : Nat → DEnv → Cells → Prop) (h0 : Inv 0 ρ C) (hst : ∀ k ρ' C', Inv k ρ' C' → st C')
    (hs : ∀ (k : Nat) x ρ' C', L[k]? = some x → Inv k ρ' C' → match t.dg (enc x) ρ' with
      | some ρ2 => b { nx := Inv (k + 1), ct := Inv (k + 1), bk := E.nx, rt := E.rt, ex := E.ex } ρ2 C'
      | none => False)
    (hd : ∀ ρ' C', Inv L.length ρ' C' → E.nx ρ' C') : ForG ⟨L.map enc, st⟩ t b E ρ C := by
  refine ⟨Inv, h0, hst, fun k d ρ' C' hk hI => ?_, fun ρ' C' hI => hd ρ' C' (by simp only [List.length_map] at hI; exact hI)⟩
  simp only [List.getElem?_map] at hk
  cases hL : L[k]? with
  | none => rw [hL] at hk; cases hk
  | some x =>
    rw [hL] at hk
    cases hk
    exact hs k x ρ' C' hL hI
end DD

set_option Elab.async false
set_option linter.all false
set_option maxRecDepth 100000
set_option maxHeartbeats 4000000
/-! Texts: +, <, >, <=, >=, x * n, cuts; a def as a value, called by a local name. -/
namespace DD
open PySem L2
section
variable {K : PySem.W.Frag}
def dCatX (x y : D) (C : Cells) (P : DK) : Prop := match x, y with
  | .str i, .str j => i.length + j.length ≤ 100000 ∧ P (.str (i ++ j)) C
  | _, _ => False
theorem line_ge : 100000 ≤ sizeLine := by rw [sizeLine_eq]; omega
theorem s_catX : SimR K (fun x y H Q => ∃ i j, x = .str i ∧ y = .str j ∧ i.length + j.length ≤ sizeLine ∧ Q (.str (i ++ j)) H) dCatX := fun F C H x y dx dy P Q hs rx ry w k => by
  revert w
  unfold dCatX
  split
  · rintro ⟨hl, w⟩
    cases rx; cases ry
    exact ⟨_, _, rfl, rfl, Nat.le_trans hl line_ge, k _ F H _ C (Ex.refl F) hs (.str _) w⟩
  · exact fun z => z.elim
/-- the order of texts, by their signs -/
def ltX (i j : Str) : Bool := decide (i.cps.toList < j.cps.toList)
def dCmpX (f : Str → Str → Bool) (x y : D) (C : Cells) (P : DK) : Prop := match x, y with
  | .str i, .str j => P (.bl (f i j)) C
  | _, _ => False
abbrev dLtX := dCmpX ltX
abbrev dGtX := dCmpX fun i j => ltX j i
abbrev dLeX := dCmpX fun i j => !ltX j i
abbrev dGeX := dCmpX fun i j => !ltX i j
theorem s_cmpX {f : Str → Str → Bool} : SimR K (fun x y H Q => ∃ i j, x = .str i ∧ y = .str j ∧ Q (.bl (f i j)) H) (dCmpX f) := fun F C H x y dx dy P Q hs rx ry w k => by
  revert w
  unfold dCmpX
  split
  · intro w
    cases rx; cases ry
    exact ⟨_, _, rfl, rfl, k _ F H _ C (Ex.refl F) hs (.bl _) w⟩
  · exact fun z => z.elim
theorem s_ltX : SimR K (fun x y H Q => ∃ i j, x = .str i ∧ y = .str j ∧ Q (.bl (decide (i.cps.toList < j.cps.toList))) H) dLtX := s_cmpX
theorem s_gtX : SimR K (fun x y H Q => ∃ i j, x = .str i ∧ y = .str j ∧ Q (.bl (decide (j.cps.toList < i.cps.toList))) H) dGtX := s_cmpX
theorem s_leX : SimR K (fun x y H Q => ∃ i j, x = .str i ∧ y = .str j ∧ Q (.bl (!decide (j.cps.toList < i.cps.toList))) H) dLeX := s_cmpX
theorem s_geX : SimR K (fun x y H Q => ∃ i j, x = .str i ∧ y = .str j ∧ Q (.bl (!decide (i.cps.toList < j.cps.toList))) H) dGeX := s_cmpX
/-- x * n -/
def repX (z : Str) (n : Nat) : Str := ⟨(List.replicate n z.cps).foldl (· ++ ·) #[]⟩
theorem repX_flat (z : Str) (n : Nat) : (repX z n).cps.toList = (List.replicate n z.cps.toList).flatten := by
  have h : ∀ (l : List (Array Nat)) (a : Array Nat), (l.foldl (· ++ ·) a).toList = a.toList ++ (l.map Array.toList).flatten := by
    intro l
    induction l with
    | nil => intro a; simp
    | cons x l ih => intro a; rw [List.foldl_cons, ih]; simp
  unfold repX
  rw [h]
  simp
def rRepX : V → V → Hp → VK → Prop := fun x y H Q => ∃ z k, x = .str z ∧ y = .int k ∧ 0 ≤ k ∧ k ≤ 1000 ∧ z.length ≤ 100 ∧ Q (.str (repX z k.toNat)) H
theorem op_repX {X : Cx} : OpR X (binaryOp .Mult) rRepX := by
  intro pins s σ H x y v u Q I rx ry h
  obtain ⟨z, k, rfl, rfl, h0, h1, hz, q⟩ := h
  obtain ⟨t, rfl⟩ := rx
  obtain ⟨t', rfl⟩ := ry
  refine P.mul_str ?_ (fun hk hg => ?_) (fun hk hg => ?_) ?_
  · have a1 : ¬ k < -(2 ^ 63 : Int) := by omega
    have a2 : ¬ k ≥ 2 ^ 63 := by omega
    rw [decide_eq_false a1, decide_eq_false a2]; rfl
  · have h3 : (1000 : Int) ≤ (2 ^ 63 - 1 : Int) / k := by
      rw [Int.le_ediv_iff_mul_le (by omega)]
      omega
    omega
  · have hm : z.length * k.toNat ≤ 100 * 1000 := Nat.mul_le_mul hz (by omega)
    have := line_ge
    unfold Builtin.Str.tooLong
    simp only [decide_eq_false_iff_not]
    omega
  · have hm : (repX z k.toNat).length ≤ 100000 := by
      have h4 : (repX z k.toNat).length = (repX z k.toNat).cps.toList.length := by rw [Array.length_toList]; rfl
      rw [h4, repX_flat]
      have h5 : ((List.replicate k.toNat z.cps.toList).flatten).length = k.toNat * z.length := by
        rw [List.length_flatten, List.map_replicate, List.sum_replicate_nat, Array.length_toList]; rfl
      rw [h5]
      exact Nat.le_trans (Nat.mul_le_mul (by omega : k.toNat ≤ 1000) hz) (by decide)
    by_cases hk : k < 1
    · rw [if_pos hk]
      have e : k.toNat = 0 := by omega
      rw [e] at q
      exact ⟨by decide, ⟨.str Str.empty, H, I.tok _, ⟨_, rfl⟩, q⟩⟩
    · rw [if_neg hk]
      by_cases hg : (k == 1 || z.length == 0) = true
      · rw [if_pos hg]
        have e : repX z k.toNat = z := by
          have h6 : (repX z k.toNat).cps.toList = z.cps.toList := by
            rw [repX_flat]
            simp only [Bool.or_eq_true, beq_iff_eq] at hg
            rcases hg with hg | hg
            · subst hg; simp
            · have : z.cps.toList = [] := List.length_eq_zero_iff.mp (by rw [Array.length_toList]; exact hg)
              rw [this]; simp
          have h7 : (repX z k.toNat).cps = z.cps := Array.toList_inj.mp h6
          cases z; cases hr : repX _ k.toNat; rw [hr] at h7; exact congrArg Str.mk h7
        rw [e] at q
        exact ⟨.str z, H, I, ⟨_, rfl⟩, q⟩
      · rw [if_neg hg]
        exact ⟨Nat.le_trans hm line_ge, ⟨.str (repX z k.toNat), H, I.tok _, ⟨_, rfl⟩, q⟩⟩
def dRepX (x y : D) (C : Cells) (P : DK) : Prop := match x, y with
  | .str z, .int k => (0 ≤ k ∧ k ≤ 1000 ∧ z.length ≤ 100) ∧ P (.str (repX z k.toNat)) C
  | _, _ => False
theorem s_repX : SimR K rRepX dRepX := fun F C H x y dx dy P Q hs rx ry w k => by
  revert w
  unfold dRepX
  split
  · rintro ⟨⟨h0, h1, h2⟩, w⟩
    cases rx; cases ry
    exact ⟨_, _, rfl, rfl, h0, h1, h2, k _ F H _ C (Ex.refl F) hs (.str _) w⟩
  · exact fun z => z.elim
/-- x[a:b] of a text -/
def wSlX (e : DE) (lo hi : DO) (ρ : DEnv) (C : Cells) (P : DK) (PX : DX) : Prop := e ρ C (fun x C1 => lo ρ C1 (fun l C2 => hi ρ C2 (fun h C3 => match x with
  | .str z => z.length ≤ 100000 ∧ P (.str (cutS z l h)) C3
  | _ => False) PX) PX) PX
theorem d_slX {X : Cx} {W : WX} {e : Expr} {lo hi : Option Expr} {we : DE} {wl wh : DO} {p2 pos : Pos} (he : PE X e (tE X.K W we)) (hl : PO X lo (tO X.K W wl)) (hh : PO X hi (tO X.K W wh)) : PE X (.Subscript e (.Slice lo hi none p2) pos) (tE X.K W (wSlX we wl wh)) :=
  PE.imp (pe_slice sl_str he hl hh) fun σ H Q ⟨F, C, ρ, P, PX, hs, en, xr, w, k⟩ =>
  ⟨F, C, ρ, _, PX, hs, en, xr, w, fun v F1 H1 x C1 e1 h1 rv q => ⟨F1, C1, ρ, _, PX, h1, en.mono e1, xr.mono e1, q, fun l F2 H2 C2 e2 h2 q2 => ⟨F2, C2, ρ, _, PX, h2, en.mono (e1.trans e2), xr.mono (e1.trans e2), q2, fun h F3 H3 C3 e3 h3 q3 => by
    cases rv <;> first | exact q3.elim | exact ⟨_, rfl, Nat.le_trans q3.1 line_ge, k _ F3 H3 _ C3 ((e1.trans e2).trans e3) h3 (.str _) q3.2⟩⟩⟩⟩
end
/-! ### a def as a value, called by a local name -/
section
variable {X : Cx} {W : WX} {pos p : Pos} {x : Str} {e : Expr} {es : List Expr} {wr : DA} {i : Nat}
theorem d_fnV {f : Addr} (hm : X.mg x = some (.ref f)) (hg : Gl X x := by rfl) (hd : (x == ("__debug__" : Str)) = false := by decide) : PE X (.Name x pos) (tE X.K W (wC (.ptr f))) :=
  d_glob hg hm (v := .ref f) rfl (fun _ => .ptr f) hd
def wCallV (ok : List Addr) (RV : Addr → DSpX) (i : Nat) (wr : DA) (ρ : DEnv) (C : Cells) (P : DK) (PX : DX) : Prop := match (ρ[i]? : Option (Option D)) with
  | some (some (.ptr a)) => a ∈ ok ∧ wr ρ C (fun ds C1 => RV a ds C1 P (fun cls fs C3 => PX cls fs ρ C3)) PX
  | _ => False
theorem d_callV {ok : List Addr} {RV : Addr → DSpX} (tk : Takes X W) (hk : ∀ a, a ∈ ok → PySem.W.keepIn X.K (.ref a) = true)
    (G : ∀ a ds C P PX, RV a ds C P PX → ∃ (R : DSpX) (k : Nat) (fd : FuncData) (ps : List Str), R ds C P PX ∧ FnOk X.prog X.w X.K X.mg X.base (L2.CX X.prog X.w) k a fd ps (spX X.K R) ∧ Room k X.A ∧ Binds X.K fd ps [])
    (hN : X.N[i]? = some x) (hv : Vis X.env.scope x) (ha : PA X (e :: es) (tA X.K W wr)) (hdb : (x == ("__debug__" : Str)) = false := by decide) (hcd : (x == ("__classdict__" : Str)) = false := by decide)
    (he : starEach (e :: es) X.env = (false, eval e X.env) :: starEach es X.env := by rfl) (hpl : (backTo pos (starEach es X.env)).any (·.1) = false := by rfl) :
    PE X (.Call (.Name x p) (e :: es) [] pos) (tE X.K W (wCallV ok RV i wr)) := by
  refine ⟨fun pins s σ H Q I ⟨F, C, ρ, P, PX, hs, en, xr, w, kk⟩ => ?_⟩
  revert w
  show (match (ρ[i]? : Option (Option D)) with | some (some (.ptr a)) => _ | _ => False) → _
  split
  · rename_i a hp
    rintro ⟨hok, w⟩
    obtain ⟨v, hvσ, rv⟩ := en.2 i _ hp
    cases rv
    refine wpAny_Call_Name_kw (wpAny_mono ((pe_var hN hv hdb hcd).run pins s σ H (fun v H1 => v = V.ref a ∧ H1 = H) I ⟨_, hvσ, rfl, rfl⟩) (fun u s1 ⟨v, H1, I1, r, ev, eH⟩ => ?_) (fun _ _ z => z))
    subst ev
    subst eH
    have eu : u = .ref a := r
    subst eu
    refine PySem.W.callWith_K (h₀ := X.base) I1.ok.mod.kin (hk a hok) (thn (ha.run pos pins s1 σ H1 (fun vs H2 => ∃ F1 C1 ds, Ex F F1 ∧ Hs X.K F1 C1 H2 ∧ RepL X.K F1 vs ds ∧ RV a ds C1 P (fun cls fs C3 => PX cls fs ρ C3)) I1
      ⟨F, C, ρ, _, PX, hs, en, xr, w, fun vs F1 H2 ds C1 e1 h1 r q => ⟨F1, C1, ds, e1, h1, r, q⟩⟩) fun us s2 ⟨vs, H2, I2, r2, F1, C1, ds, e1, h1, rr, q⟩ => ⟨I2.kIn, ?_⟩) he hpl
    obtain ⟨R, k, fd, ps, hq, hF, hr, hb⟩ := G a ds C1 P _ q
    have hz := run_fnSD (E := WE W) hF hr hb (ds := []) (dvs := []) .nil (passAt tk σ) I2 r2 (Q := Q) (by
      rw [List.append_nil]
      exact ⟨F1, C1, ds, P, _, h1, rr, hq, kk.mono e1, KontX.of (xr.mono e1) (en.mono e1)⟩)
    simpa using hz
  · exact fun z => z.elim
end
end DD

set_option Elab.async false
set_option linter.all false
set_option maxRecDepth 100000
set_option maxHeartbeats 4000000
/-! sorted(xs, key=f), f a def of the program that raises nothing and changes nothing. -/
namespace DD
open PySem L2 PyProof.Rows PySem.W

/-- the order by keys -/
def leK (key : D → D) (a b : D) : Bool := leD (key a) (key b)
def wSortK (R : DSp) (e : DE) (ρ : DEnv) (C : Cells) (P : DK) (PX : DX) : Prop := e ρ C (fun x C1 => match seqOf x C1 with
  | some ds => ∃ key : D → D, SortsD (ds.map key) ∧ (∀ d ∈ ds, R [d] C1 fun r C2 => r = key d ∧ Sub C1 C2) ∧ P (.lst (ds.mergeSort (leK key))) C1
  | none => False) PX
/-- the heap without the object at a -/
def gone (h : Heap) (a : Addr) : Heap := h.update a fun o => { o with data := .freed }
theorem gone_ne {h : Heap} {a b : Addr} (e : b ≠ a) : (gone h a).get? b = h.get? b := Heap.get?_update_ne _ _ _ _ e
theorem gone_at {h : Heap} {a : Addr} : (gone h a).get? a = none := by
  cases h with
  | mk objs life =>
    unfold gone Heap.update Heap.get?
    simp only [Array.getElem?_modify]
    cases objs[a]? <;> simp
theorem Hs.aside {K : PySem.W.Frag} {F H : Hp} {C : Cells} {p : Addr} {o : HO} (h : Hs K F C H) (hp : H p = none) : Hs K F C (upd H p o) := by
  obtain ⟨f0, c0⟩ := h.fresh hp
  refine ⟨fun a u e => ?_, fun a c e => ?_⟩
  · rw [upd_ne (ne_of_none e f0)]
    exact h.ex a u e
  · obtain ⟨f1, r⟩ := h.cell a c e
    exact ⟨f1, r.at (upd_ne (cell_ne e c0))⟩
section
variable {X : Cx} {W : WX} {k : Nat} {f : Addr} {fd : FuncData} {q : Str} {R : DSp} {pins : List (Addr × Obj)} {σ : L2.St} {H F : Hp} {C : Cells} {s : Shared}
/-- what stands while the keys are made -/
structure Mid (X : Cx) (pins : List (Addr × Obj)) (σ : L2.St) (F : Hp) (C : Cells) (ks : List D) (a b : Addr) (e1 : Nat) (s' : Shared) (F' H' : Hp) (ys : List Value) (e : Nat) (vs : List V) : Prop where
  iv : Inv X pins σ H' s'
  ex : Ex F F'
  hs : Hs X.K F' C H'
  va : Vals vs ys
  rp : RepL X.K F' vs ks
  na : H' a = none
  nb : H' b = none
  ga : s'.heap.get? a = some (seqObj "list" #[] e1)
  gb : s'.heap.get? b = some (seqObj "list" ys.toArray e)
theorem vals_get : ∀ {vs : List V} {us : List Value} {i : Nat} {v : V}, Vals vs us → vs[i]? = some v → ∃ u, us[i]? = some u ∧ RelV v u
  | _, _, _, _, .nil, e => by simp at e
  | _, _, 0, _, .cons h _, e => by simp at e; subst e; exact ⟨_, rfl, h⟩
  | _, _, i + 1, _, .cons _ r, e => by
    obtain ⟨u, h1, h2⟩ := vals_get (i := i) r (by simpa using e)
    exact ⟨u, by simpa using h1, h2⟩
theorem vals_getU : ∀ {vs : List V} {us : List Value} {i : Nat} {u : Value}, Vals vs us → us[i]? = some u → ∃ v, vs[i]? = some v ∧ RelV v u
  | _, _, _, _, .nil, e => by simp at e
  | _, _, 0, _, .cons h _, e => by simp at e; subst e; exact ⟨_, rfl, h⟩
  | _, _, i + 1, _, .cons _ r, e => by
    obtain ⟨u, h1, h2⟩ := vals_getU (i := i) r (by simpa using e)
    exact ⟨u, by simpa using h1, h2⟩
theorem vals_snoc {vs : List V} {us : List Value} {v : V} {u : Value} (r : Vals vs us) (h : RelV v u) : Vals (vs ++ [v]) (us ++ [u]) := r.append (.cons h .nil)
/-- the pairs of values and data that an item stands for -/
theorem each_zipD : ∀ {xs : List V} {ds : List D} {vs : List Value}, Vals xs vs → RepL X.K F xs ds → EachIs (fun v (b : V × D) => RelV b.1 v ∧ Rep X.K F b.1 b.2) vs (xs.zip ds)
  | _, _, _, .nil, .nil => .nil
  | _, _, _, .cons r t, .cons d e => .cons ⟨r, d⟩ (each_zipD t e)
theorem each_valsD : ∀ {bs : List (V × D)} {vs : List Value}, EachIs (fun v (b : V × D) => RelV b.1 v ∧ Rep X.K F b.1 b.2) vs bs → Vals (bs.map Prod.fst) vs ∧ RepL X.K F (bs.map Prod.fst) (bs.map Prod.snd)
  | _, _, .nil => ⟨.nil, .nil⟩
  | _, _, .cons r t => ⟨.cons r.1 (each_valsD t).1, .cons r.2 (each_valsD t).2⟩
/-- one key -/
theorem key_turn {a b : Addr} {e1 e : Nat} {s' : Shared} {F' H' : Hp} {ys : List Value} {vs : List V} {ks : List D} {v : V} {u : Value} {d kd : D}
    (G : FnOk X.prog X.w X.K X.mg X.base CX0 k f fd [q] (spD X.K R)) (hr : Room (k + 2) X.A) (hb : Binds X.K fd [q] []) (M : Mid X pins σ F C ks a b e1 s' F' H' ys e vs)
    (hfa : a ∉ frs X.stack) (hfb : b ∉ frs X.stack) (rv : Rep X.K F v d) (ru : RelV v u) (w : R [d] C fun r C2 => r = kd ∧ Sub C C2) :
    wpAny (model X.prog X.w) X.A.in1.in1 (call (.ref f) [u]) (fun y s'' => ∃ F'' H'' z, Mid X pins σ F C ks a b e1 s'' F'' H'' ys e vs ∧ RelV z y ∧ Rep X.K F'' z kd) (fun _ _ => False) s' := by
  have I := M.iv
  refine wpAny_call (codeAny_mono (G.run X.A.in1.in1 X.stack s' H' ⟨[u], []⟩ [u] [v] (fun z H'' => ∃ F'' C2, Ex F' F'' ∧ Hs X.K F'' C2 H'' ∧ Rep X.K F'' z kd ∧ Sub C C2) E0 (Room.in1 (Room.in1 hr)) I.env0.in1.in1 ?_ (.cons ru .nil) ?_) fun r s'' hq => ?_)
  · have := hb s' [u] I.kIn (by simp)
    simpa using this
  · exact ⟨F', C, [d], _, M.hs, .cons (rv.mono M.ex) .nil, w, fun z F2 H2 dz C2 e2 h2 rz q2 => ⟨F2, C2, e2, h2, by rw [← q2.1]; exact rz, q2.2⟩⟩
  · cases r with
    | error e => exact hq.elim
    | ok fl =>
      cases fl with
      | next => exact False.elim hq
      | brk => exact False.elim hq
      | cont => exact False.elim hq
      | ret y =>
        obtain ⟨z, H2, os, bare, un, hok, ry, F2, C2, e2, h2, rz, sb⟩ := hq
        exact ⟨F2, H2, z, ⟨I.call' (ch := []) os un hok bare (fun _ z => nomatch z), M.ex.trans e2, h2.sub sb, M.va, M.rp.mono e2, un.free a _ M.ga M.na (by simp), un.free b _ M.gb M.nb (by simp), un.keep a _ M.ga M.na hfa (by simp), un.keep b _ M.gb M.nb hfb (by simp)⟩, ry, rz⟩
theorem key_sort {xs : List V} {ds : List D} {l : Addr} {key : D → D} {Q : VK} (I : Inv X pins σ H s) (hs : Hs X.K F C H) (hl : SqL X.K H l xs) (r : RepL X.K F xs ds)
    (G : FnOk X.prog X.w X.K X.mg X.base CX0 k f fd [q] (spD X.K R)) (hr : Room (k + 2) X.A) (hb : Binds X.K fd [q] []) (S : SortsD (ds.map key)) (hk : ∀ d ∈ ds, R [d] C fun r C2 => r = key d ∧ Sub C C2)
    (kq : ∀ F' H' v, Ex F F' → Hs X.K F' C H' → Rep X.K F' v (.lst (ds.mergeSort (leK key))) → Q v H') :
    wpAny (model X.prog X.w) X.A (call (.builtin "sorted") [.ref l] [(Str.ofString "key", .ref f)]) (EP X pins σ Q) X.xe s := by
  obtain ⟨its, rv, pl, hz⟩ := I.list hl
  have hlen : its.length = xs.length := rv.length.symm
  have hld : xs.length = ds.length := r.length
  have zL : its.length ≤ sizeLine := by omega
  refine sorted_of_sort pl.isList zL (ksk_s1 _ _) (fun _ => ksk_l1 _ _) fun E' => ?_
  rw [ksk_t1]
  have c0 := copyHeap_at s.heap its
  obtain ⟨e1, c1⟩ : ∃ e1, ((copyHeap s.heap its).update (s.heap.objs.size + 1) (Obj.mapSeq fun _ => (#[] : Array Value))).get? (s.heap.objs.size + 1) = some (seqObj "list" #[] e1) := ⟨_, get?_update_seq c0 fun _ => #[]⟩
  have za : s.heap.objs.size + 1 < (copyHeap s.heap its).objs.size := Heap.lt_size c0
  unfold ksk_tree
  refine wpAny_bind (listItems_at c0 rfl ?_)
  refine wpAny_bind (listUpdate_at c0 rfl ?_ (by rw [List.size_toArray]; exact zL) (Nat.zero_le _))
  refine wpAny_bind (seqEpoch_at c1 rfl ?_)
  refine wpAny_bind (wpAny_newTuple ?_ (by show its.length ≤ _; exact zL))
  refine wpAny_bind (wpAny_newList ?_ (Nat.zero_le _))
  refine wpAny_holding ?_
  show wpAny _ _ (ksk_rest (s.heap.objs.size + 1) (.ref f) false its.toArray e1 (.ref (((copyHeap s.heap its).update (s.heap.objs.size + 1) (Obj.mapSeq fun _ => (#[] : Array Value))).push (seqObj "tuple" its.toArray 0)).objs.size)) _ _ { s with heap := sortingHeap (copyHeap s.heap its) (s.heap.objs.size + 1) its }
  have zb : (((copyHeap s.heap its).update (s.heap.objs.size + 1) (Obj.mapSeq fun _ => (#[] : Array Value))).push (seqObj "tuple" its.toArray 0)).objs.size = (copyHeap s.heap its).objs.size + 1 := by rw [size_push', Heap.size_update]
  have ga : (sortingHeap (copyHeap s.heap its) (s.heap.objs.size + 1) its).get? (s.heap.objs.size + 1) = some (seqObj "list" #[] e1) := Heap.get?_push_of_some _ (Heap.get?_push_of_some _ c1)
  have gb : (sortingHeap (copyHeap s.heap its) (s.heap.objs.size + 1) its).get? (((copyHeap s.heap its).update (s.heap.objs.size + 1) (Obj.mapSeq fun _ => (#[] : Array Value))).push (seqObj "tuple" its.toArray 0)).objs.size = some (seqObj "list" (([] : List Value).toArray) 0) := Heap.get?_push_size _ rfl
  rw [zb] at gb ⊢
  generalize ea : s.heap.objs.size + 1 = a at *
  generalize eb : (copyHeap s.heap its).objs.size + 1 = b at *
  have hab : b ≠ a := by omega
  have la : s.heap.objs.size ≤ a := by omega
  have lb : s.heap.objs.size ≤ b := by omega
  have hfa : a ∉ frs X.stack := fun z => by
    rcases List.mem_cons.mp (I.stkSub a z) with z | z
    · exact absurd z (Nat.ne_of_gt (Nat.lt_of_lt_of_le I.lt la))
    · exact I.nofs la z
  have hfb : b ∉ frs X.stack := fun z => by
    rcases List.mem_cons.mp (I.stkSub b z) with z | z
    · exact absurd z (Nat.ne_of_gt (Nat.lt_of_lt_of_le I.lt lb))
    · exact I.nofs lb z
  have I0 : Inv X pins σ H { s with heap := sortingHeap (copyHeap s.heap its) a its } := I.kept fun c u e => by
    rw [← ea]
    exact sorting_copy_old e
  have M0 : Mid X pins σ F C [] a b e1 { s with heap := sortingHeap (copyHeap s.heap its) a its } F H [] 0 [] := ⟨I0, Ex.refl F, hs, .nil, .nil, I.hok.fresh la, I.hok.fresh lb, ga, gb⟩
  generalize ({ s with heap := sortingHeap (copyHeap s.heap its) a its } : Shared) = s2 at *
  unfold ksk_rest
  refine wpAny_bind (wpAny_rule ?_)
  rw [List.forIn_toArray]
  refine wpAny_bind (ksk_fold (fun i s' => ∃ F' H' ys e vs, Mid X pins σ F C ((ds.take i).map key) a b e1 s' F' H' ys e vs) its 0 s2 ⟨F, H, [], 0, [], M0⟩ (fun j u s' hu hM => ?_) fun s' hM => ?_)
  · obtain ⟨F', H', ys, e, vs, M⟩ := hM
    obtain ⟨v, hv, ru⟩ := vals_getU rv hu
    obtain ⟨d, hd, rd⟩ := r.getV hv
    have hmem : d ∈ ds := List.mem_of_getElem? hd
    rw [Nat.zero_add] at M ⊢
    have ly : ys.length ≤ its.length := by
      rw [← M.va.length, M.rp.length, List.length_map, List.length_take]
      omega
    refine wpAny_bind (wpAny_attempt (wpAny_mono (key_turn G hr hb M hfa hfb rd ru (hk d hmem)) (fun y s'' hy => ?_) fun _ _ z => z.elim))
    obtain ⟨F2, H2, z, N, ry, rz⟩ := hy
    have g2 := N.gb
    obtain ⟨ep, g3⟩ : ∃ ep, (s''.heap.update b (Obj.mapSeq fun xs => xs.push y)).get? b = some (seqObj "list" (ys ++ [y]).toArray ep) := ⟨_, by
      have h := get?_update_seq g2 fun xs => xs.push y
      have e3 : ys.toArray.push y = (ys ++ [y]).toArray := by simp
      rw [e3] at h
      exact h⟩
    refine wpAny_bind (listUpdate_at g2 rfl ?_ (by rw [List.size_toArray]; omega) (by rw [Array.size_push, List.size_toArray]; omega))
    have old : ∀ c o, c ≠ b → s''.heap.get? c = some o → (s''.heap.update b (Obj.mapSeq fun xs => xs.push y)).get? c = some o := fun c o hc e => (Heap.get?_update_ne _ _ _ _ hc).trans e
    refine wpAny_pure ⟨rfl, F2, H2, ys ++ [y], ep, vs ++ [z], ?_⟩
    have e2 : (ds.take (j + 1)).map key = (ds.take j).map key ++ [key d] := by rw [List.take_add_one, hd]; simp
    rw [e2]
    refine ⟨N.iv.turned (it := b) (t' := s''.toks) old N.nb (Nat.ne_of_gt (Nat.lt_of_lt_of_le I.lt lb)) (.inr (Nat.le_trans I.sz lb)) (fun x c ec z => ?_) (fun p hp z => ?_), N.ex, N.hs, vals_snoc N.va ry, N.rp.append (.cons rz .nil), N.na, N.nb, old a _ (Ne.symm hab) N.ga, g3⟩
    · obtain ⟨w0, o, ho, _⟩ := I.cell x c ec
      exact absurd z (Nat.ne_of_lt (Nat.lt_of_lt_of_le (Heap.lt_size ho) lb))
    · exact absurd z (Nat.ne_of_lt (Nat.lt_of_lt_of_le (Heap.lt_size (I.pin p hp).1) lb))
  · obtain ⟨F', H', ys, e, vs, M⟩ := hM
    have et : ds.take (0 + its.length) = ds := List.take_of_length_le (by omega)
    rw [et] at M
    have ly : ys.length = its.length := by
      rw [← M.va.length, M.rp.length, List.length_map]
      omega
    obtain ⟨⟨n, hn, hdat⟩, hal, hok⟩ := S
    have hrd := each_reads M.iv M.va (dpAll_of (n := n) (fun d hd v r => rep_dp M.hs.ex (hdat d hd) v r) M.rp)
    have lk : vs.length = ((ds.map key).map D.py).length := by rw [M.rp.length]; simp
    have hkz : EachIs (fun v k => ∃ as, Reads s'.heap v k as) ys ((ds.map key).map D.py) := by
      have h1 := each_map (R := fun v k => ∃ as, Reads s'.heap v k as) Prod.snd hrd
      rw [pys_map, zip_snd lk] at h1
      exact h1
    refine wpAny_bind (listItems_at M.gb rfl ?_)
    refine keyH_end (κ := dataKind s'.heap ((ds.map key).map D.py)) (h₁ := gone s'.heap b) (fun c o hc ec => ?_) gone_at M.gb M.ga hab ?_ (by rw [List.size_toArray]; exact ly) zL fun h3 tk3 c3 k3 n3 => ⟨rfl, ?_⟩
    · by_cases z : c = b
      · rw [z, gone_at] at ec; cases ec
      · rw [gone_ne z] at ec; exact ec
    · refine SortsAt.data hkz hal hok fun d hd => ?_
      rw [List.mem_map] at hd
      obtain ⟨d', hd', rfl⟩ := hd
      have := (dat_lay (hdat d' hd')).2
      have := hr.un
      show X.A.units + 1 + 1 + _ < cLine
      omega
    · have ko : KeyedOut false ((xs.zip ds).map fun p => (key p.2).py) its (sortVals (dataKind s'.heap ((ds.map key).map D.py)) false ys its) := by
        have e5 : (xs.zip ds).map (fun p : V × D => (key p.2).py) = (ds.map key).map D.py := by
          rw [List.map_map]
          have e6 : ds = (xs.zip ds).map Prod.snd := (List.map_snd_zip (by omega)).symm
          conv => rhs; rw [e6]
          rw [List.map_map]
          rfl
        rw [e5]
        exact ⟨s'.heap, ys, hal, rfl, hkz⟩
      have ke := keyedOut_each (R := fun v (p : V × D) => RelV p.1 v ∧ Rep X.K F p.1 p.2) (bs := xs.zip ds) (fun p => (key p.2).py) ko (each_zipD rv r)
      obtain ⟨kv, kr⟩ := each_valsD ke
      have e7 : ((xs.zip ds).mergeSort (dataLe false fun p => (key p.2).py)).map Prod.snd = ds.mergeSort (leK key) := by
        have e6 : ds = (xs.zip ds).map Prod.snd := (List.map_snd_zip (by omega)).symm
        conv => rhs; rw [e6]
        exact List.map_mergeSort (r := dataLe false fun p : V × D => (key p.2).py) (s := leK key) (f := Prod.snd) fun _ _ _ _ => rfl
      rw [e7] at kr
      generalize ((xs.zip ds).mergeSort (dataLe false fun p => (key p.2).py)).map Prod.fst = zs at kv kr
      have lz : zs.length ≤ sizeLine := by rw [kr.length, List.length_mergeSort]; omega
      have hm : ∀ c u, H' c = some u → c ≠ a ∧ c ≠ b := fun c u z => ⟨fun y => (by rw [y, M.na] at z; cases z), fun y => (by rw [y, M.nb] at z; cases z)⟩
      have kp : ∀ c o, c ≠ a → c ≠ b → s'.heap.get? c = some o → h3.get? c = some o := fun c o z1 z2 z => k3 c o z1 (by rw [gone_ne z2]; exact z)
      have n4 : h3.get? a = some { cls := .type "list", data := .seq (sortVals (dataKind s'.heap ((ds.map key).map D.py)) false ys its).toArray c3 } := n3
      have hok3 : HOk X.prog X.w (upd H' a (.lst zs)) h3 := fun c u hc => by
        by_cases z : c = a
        · subst z
          rw [upd_same] at hc
          cases hc
          exact ⟨lz, _, c3, kv, n4⟩
        · rw [upd_ne z] at hc
          refine (M.iv.hok c u hc).stay (fun g o hg eg => ?_) (fun g hg => by rw [upd_ne (hm g _ hg).1]; exact hg) fun g o hg => by rw [upd_ne (hm g _ hg).1]; exact hg
          rcases hg with rfl | hg
          · exact kp g o (hm g _ hc).1 (hm g _ hc).2 eg
          · exact kp g o (hm g _ hg).1 (hm g _ hg).2 eg
      have un3 : Un (frs X.stack) [a, b] H' (upd H' a (.lst zs)) s'.heap h3 := by
        have nm : ∀ c : Addr, c ∉ [a, b] → c ≠ a ∧ c ≠ b := fun c h => by simpa [not_or] using h
        refine ⟨fun c o e1 e2 _ h => kp c o (nm c h).1 (nm c h).2 e1, fun c o e1 e2 _ h => ⟨o.slots, kp c o (nm c h).1 (nm c h).2 e1⟩, fun c o e1 e2 h => by rw [upd_ne (nm c h).1]; exact e2, fun c o e1 h => ⟨o, kp c o (nm c h).1 (nm c h).2 e1⟩, ?_, ?_, ?_⟩
        · intro c o hc
          rw [upd_ne (hm c _ hc).1]; exact hc
        · intro c o u hc
          rw [upd_ne (hm c _ hc).1]; exact hc
        · intro c ps hc
          exact ⟨#[], by rw [upd_ne (hm c _ hc).1, hc]; simp⟩
      have hs4 := (M.hs.aside (o := .lst zs) M.na)
      obtain ⟨e8, h8, r8⟩ := M.hs.newL (kr.mono M.ex) M.na
      have I9 : Inv X pins σ (upd H' a (.lst zs)) { s' with heap := h3, toks := tk3 } := M.iv.call' (ch := [a, b]) rfl un3 hok3 M.iv.bare fun c hc => by
        have hlc : s.heap.objs.size ≤ c := by
          simp only [List.mem_cons, List.not_mem_nil, or_false] at hc
          rcases hc with rfl | rfl <;> assumption
        refine ⟨.inr (Nat.le_trans I.sz hlc), Nat.ne_of_gt (Nat.lt_of_lt_of_le I.lt hlc), fun x c' ec z => ?_, fun p hp z => ?_⟩
        · obtain ⟨w0, o, ho, _⟩ := I.cell x c' ec
          exact absurd z (Nat.ne_of_lt (Nat.lt_of_lt_of_le (Heap.lt_size ho) hlc))
        · exact absurd z (Nat.ne_of_lt (Nat.lt_of_lt_of_le (Heap.lt_size (I.pin p hp).1) hlc))
      exact ⟨.ref a, _, I9, rfl, kq _ _ _ (M.ex.trans e8) h8 r8⟩
end
end DD

set_option Elab.async false
set_option linter.all false
set_option maxRecDepth 100000
set_option maxHeartbeats 4000000
/-! sorted(xs, key=f) as an expression; the truth of numbers, texts, lists and tuples; startswith. -/
namespace DD
open PySem L2 PyProof.Rows PySem.W

def rSortK (K : PySem.W.Frag) (f : Addr) (R : DSp) : List V → List V → Hp → VK → Prop := fun vs zs H Q => zs = [.ref f] ∧ ∃ l xs ds F C key, vs = [.ref l] ∧ Hs K F C H ∧ SqL K H l xs ∧ RepL K F xs ds ∧ SortsD (ds.map key) ∧
  (∀ d ∈ ds, R [d] C fun r C2 => r = key d ∧ Sub C C2) ∧ ∀ F' H' v, Ex F F' → Hs K F' C H' → Rep K F' v (.lst (ds.mergeSort (leK key))) → Q v H'
section
variable {X : Cx} {W : WX} {K : PySem.W.Frag} {k : Nat} {f : Addr} {fd : FuncData} {q : Str} {R : DSp} {e : Expr} {we : DE} {x fx : Str} {p p2 pos kp : Pos}
theorem cr_sortK (G : FnOk X.prog X.w X.K X.mg X.base CX0 k f fd [q] (spD X.K R)) (hr : Room (k + 2) X.A) (hb : Binds X.K fd [q] []) : CallRK X (.builtin "sorted") [Str.ofString "key"] (rSortK X.K f R) := by
  intro pins s σ H vs zs us ws Q I rv rz h
  obtain ⟨rfl, l, xs, ds, F, C, key, rfl, hs, hl, r, S, hk, kq⟩ := h
  obtain rfl := Vals.ref1 rv
  obtain ⟨w1, rfl, e1⟩ := vals1 rz
  obtain rfl : w1 = Value.ref f := e1
  exact key_sort I hs hl r G hr hb S hk kq
theorem d_sortK (G : FnOk X.prog X.w X.K X.mg X.base CX0 k f fd [q] (spD X.K R)) (hr : Room (k + 2) X.A) (hb : Binds X.K fd [q] []) (hm : X.mg fx = some (.ref f)) (hg : Gl X x) (hz : X.mg x = none) (hv : bootBuiltins x = some (.builtin "sorted")) (he : PE X e (tE X.K W we)) (hgf : Gl X fx := by rfl)
    (hn : x ≠ "__name__" := by decide) (hdb : (x == ("__debug__" : Str)) = false := by decide) (hdf : (fx == ("__debug__" : Str)) = false := by decide)
    (hse : starEach [e] X.env = (false, eval e X.env) :: starEach [] X.env := by rfl) (h1 : backTo pos (starEach [e] X.env) = (false, eval e X.env) :: backTo pos (starEach [] X.env) := by rfl) (hpl : (backTo pos (starEach [e] X.env)).any (·.1) = false := by rfl)
    (hall : (backToKw pos (keywordEach [⟨some (Str.ofString "key"), .Name fx p2, kp⟩] X.env)).all (·.1.isSome) = true := by rfl) (hnone : (backToKw pos (keywordEach [⟨some (Str.ofString "key"), .Name fx p2, kp⟩] X.env)).any (·.1.isNone) = false := by rfl)
    (hks : (backToKw pos (keywordEach [⟨some (Str.ofString "key"), .Name fx p2, kp⟩] X.env)).filterMap (·.1) = [Str.ofString "key"] := by rfl) :
    PE X (.Call (.Name x p) [e] [⟨some (Str.ofString "key"), .Name fx p2, kp⟩] pos) (tE X.K W (wSortK R we)) :=
  PE.imp (pe_callBK (cr_sortK G hr hb) hg hz hv (pa_cons he pa_nil hse) (pk_cons (pe_glob (v := .ref f) hgf hm rfl hdf) pk_nil) hn hdb h1 hpl hall hnone hks) fun σ H Q ⟨F, C, ρ, P, PX, hs, en, xr, w, kk⟩ => ⟨F, C, ρ, _, PX, hs, en, xr, w, fun v F1 H1 d C1 e1 h1 rv q => by
    revert q
    dsimp only
    split
    · rename_i ds hd
      rintro ⟨key, S, hk, q⟩
      obtain ⟨l, xs, rfl, hl, r⟩ := seq_of h1 rv hd
      exact ⟨rfl, l, xs, ds, F1, C1, key, rfl, h1, hl, r, S, hk, fun F' H' v e h r => kk v F' H' _ C1 (e1.trans e) h r q⟩
    · exact fun z => z.elim⟩
end
/-- a value's truth, over data -/
def truOf (x : D) (C : Cells) : Option Bool := match x with
  | .non => some false
  | .bl b => some b
  | .int i => some (i != 0)
  | .str z => if z.length ≤ 100000 then some ((z.length : Int) != 0) else none
  | x => (itsOf x C).map fun ds => !ds.isEmpty
def wTru (e : DE) (ρ : DEnv) (C : Cells) (P : Bool → Cells → Prop) (PX : DX) : Prop := e ρ C (fun x C1 => match truOf x C1 with
  | some k => P k C1
  | none => False) PX
theorem RepL.isEmpty {K : PySem.W.Frag} {F : Hp} {xs : List V} {ds : List D} (r : RepL K F xs ds) : xs.isEmpty = ds.isEmpty := by
  cases r <;> rfl
theorem tru_of {K : PySem.W.Frag} {F H : Hp} {C : Cells} {v : V} {x : D} {k : Bool} (hs : Hs K F C H) (r : Rep K F v x) (h : truOf x C = some k) : TruV K v H k := by
  have go : ∀ ds', itsOf x C = some ds' → k = !ds'.isEmpty → TruV K v H k := fun ds' e en => by
    obtain ⟨a, xs, rfl, h2, h3⟩ := its_of hs r e
    show (∃ xs, SqL K H a xs ∧ k = !xs.isEmpty) ∨ (∃ xs, SqT K H a xs ∧ k = !xs.isEmpty) ∨ _
    rcases h2 with h2 | h2
    · exact .inl ⟨xs, h2, by rw [en, h3.isEmpty]⟩
    · exact .inr (.inl ⟨xs, h2, by rw [en, h3.isEmpty]⟩)
  cases r <;> first
    | (simp only [truOf, Option.map_eq_some_iff] at h
       obtain ⟨ds', e1, e2⟩ := h
       exact go ds' e1 e2.symm)
    | (simp only [truOf, Option.some.injEq] at h
       exact h.symm)
    | (simp only [truOf] at h
       split at h
       · rename_i hz
         simp only [Option.some.injEq] at h
         exact ⟨sz_of hz, h.symm⟩
       · cases h)
theorem d_tru {X : Cx} {W : WX} {e : Expr} {we : DE} (he : PE X e (tE X.K W we)) (hi : ∀ whole, isTrue e X.env whole = (do let v ← whole; standAt e.pos; holding [v] (truthy v)) := by intro _; rfl) : PT X e (tT X.K W (wTru we)) :=
  PT.imp (pt_truth he hi) fun σ H Q ⟨F, C, ρ, P, PX, hs, en, xr, w, k⟩ => ⟨F, C, ρ, _, PX, hs, en, xr, w, fun v F1 H1 d C1 e1 h1 r q => by
    revert q
    dsimp only
    split
    · rename_i b hb
      exact fun q => ⟨b, tru_of h1 r hb, k b F1 H1 C1 e1 h1 q⟩
    · exact fun z => z.elim⟩
/-- s.startswith(t) -/
def dStarts (x : D) (ds : List D) (C : Cells) (P : DK) : Prop := match x, ds with
  | .str a, [.str b] => P (.bl (Txt.startswith a b)) C
  | _, _ => False
theorem s_starts {K : PySem.W.Frag} : SimM K (fun x xs H Q => ∃ a b, x = .str a ∧ xs = [.str b] ∧ Q (.bl (Txt.startswith a b)) H) dStarts := fun F C H x dx xs ds P Q hs rx rl w k => by
  revert w
  unfold dStarts
  split
  · rename_i a b
    intro w
    cases rx
    obtain ⟨v, rfl, r1⟩ := rl.one
    cases r1
    exact ⟨a, b, rfl, rfl, k _ F H _ C (Ex.refl F) hs (.bl _) w⟩
  · exact fun z => z.elim
end DD

set_option Elab.async false
set_option linter.all false
set_option maxRecDepth 100000
set_option maxHeartbeats 4000000
/-! Tables of plain values, and the dicts that hold them. -/
namespace DD
open PySem L2
section
variable {κ β : Type} [DecidableEq κ]
def lkA (t : List (κ × β)) (k : κ) : Option β := (t.find? fun p => decide (p.1 = k)).map fun p => p.2
def puA (t : List (κ × β)) (k : κ) (v : β) : List (κ × β) := if (t.any fun p => decide (p.1 = k)) = true then t.map (fun p => if p.1 = k then (p.1, v) else p) else t ++ [(k, v)]
theorem lkA_nil (k : κ) : lkA ([] : List (κ × β)) k = none := rfl
theorem lkA_cons (p : κ × β) (t : List (κ × β)) (k : κ) : lkA (p :: t) k = if p.1 = k then some p.2 else lkA t k := by
  unfold lkA
  rw [List.find?_cons]
  by_cases g : p.1 = k
  · rw [decide_eq_true g, if_pos g]; rfl
  · rw [decide_eq_false g, if_neg g]
theorem lkA_app (t u : List (κ × β)) (k : κ) : lkA (t ++ u) k = match lkA t k with
  | some v => some v
  | none => lkA u k := by
  induction t with
  | nil => rfl
  | cons p t ih =>
    rw [List.cons_append, lkA_cons, lkA_cons, ih]
    by_cases g : p.1 = k
    · rw [if_pos g, if_pos g]
    · rw [if_neg g, if_neg g]
theorem lkA_none {t : List (κ × β)} {k : κ} : lkA t k = none ↔ k ∉ t.map fun p => p.1 := by
  induction t with
  | nil => simp [lkA]
  | cons p t ih =>
    rw [lkA_cons, List.map_cons, List.mem_cons, not_or]
    by_cases g : p.1 = k
    · rw [if_pos g]; simp [g]
    · rw [if_neg g, ih]
      exact ⟨fun h => ⟨fun z => g z.symm, h⟩, fun h => h.2⟩
theorem lkA_some_mem {t : List (κ × β)} {k : κ} {v : β} (h : lkA t k = some v) : (k, v) ∈ t := by
  induction t with
  | nil => cases h
  | cons p t ih =>
    rw [lkA_cons] at h
    by_cases g : p.1 = k
    · rw [if_pos g] at h
      injection h with h
      rw [← g, ← h]
      exact List.mem_cons_self
    · rw [if_neg g] at h
      exact List.mem_cons_of_mem _ (ih h)
theorem lkA_mem {t : List (κ × β)} (nd : (t.map fun p => p.1).Nodup) {k : κ} {v : β} (h : (k, v) ∈ t) : lkA t k = some v := by
  induction t with
  | nil => cases h
  | cons p t ih =>
    rw [List.map_cons, List.nodup_cons] at nd
    rw [lkA_cons]
    rcases List.mem_cons.mp h with rfl | h
    · exact if_pos rfl
    · rw [if_neg (fun z => nd.1 (List.mem_map.mpr ⟨_, h, z.symm⟩))]
      exact ih nd.2 h
theorem puA_any {t : List (κ × β)} {k : κ} : (t.any fun p => decide (p.1 = k)) = (lkA t k).isSome := by
  induction t with
  | nil => rfl
  | cons p t ih =>
    rw [List.any_cons, lkA_cons, ih]
    by_cases g : p.1 = k
    · rw [decide_eq_true g, if_pos g]; rfl
    · rw [decide_eq_false g, if_neg g]; rfl
theorem lkA_map_put (t : List (κ × β)) (k k' : κ) (v : β) : lkA (t.map fun p => if p.1 = k then (p.1, v) else p) k' = if k' = k then (lkA t k).map fun _ => v else lkA t k' := by
  induction t with
  | nil => simp [lkA]
  | cons p t ih =>
    rw [List.map_cons, lkA_cons, ih, lkA_cons, lkA_cons]
    by_cases g : p.1 = k
    · simp only [if_pos g]
      by_cases g2 : k' = k
      · rw [if_pos g2, if_pos g2, if_pos (by rw [g, g2])]; rfl
      · rw [if_neg g2, if_neg (fun z => g2 (by rw [← z, g])), if_neg g2, if_neg (fun z => g2 (by rw [← z, g]))]
    · simp only [if_neg g]
      by_cases g2 : k' = k
      · rw [if_pos g2, if_neg (fun z => g (by rw [z, g2])), if_pos g2]
      · rw [if_neg g2, if_neg g2]
theorem lkA_pu (t : List (κ × β)) (k k' : κ) (v : β) : lkA (puA t k v) k' = if k' = k then some v else lkA t k' := by
  unfold puA
  rw [puA_any]
  cases h : lkA t k with
  | some w =>
    rw [Option.isSome_some, if_pos rfl, lkA_map_put, h]
    rfl
  | none =>
    rw [if_neg (by simp), lkA_app]
    by_cases g : k' = k
    · rw [if_pos g, g, h, lkA_cons, if_pos rfl]
    · rw [if_neg g, lkA_cons, if_neg (fun z => g z.symm), lkA_nil]
      cases lkA t k' <;> rfl
theorem puA_len (t : List (κ × β)) (k : κ) (v : β) : (puA t k v).length ≤ t.length + 1 := by
  unfold puA
  split <;> simp
theorem puA_keys (t : List (κ × β)) (k : κ) (v : β) : (puA t k v).map (fun p => p.1) = if (lkA t k).isSome = true then t.map (fun p => p.1) else t.map (fun p => p.1) ++ [k] := by
  unfold puA
  rw [puA_any]
  split
  · rw [List.map_map]
    refine List.map_congr_left fun p _ => ?_
    simp only [Function.comp]
    split <;> rfl
  · rw [List.map_append]; rfl
theorem puA_nodup {t : List (κ × β)} (h : (t.map fun p => p.1).Nodup) (k : κ) (v : β) : ((puA t k v).map fun p => p.1).Nodup := by
  rw [puA_keys]
  cases e : lkA t k with
  | some w => rw [Option.isSome_some, if_pos rfl]; exact h
  | none =>
    rw [if_neg (by simp)]
    refine List.nodup_append.mpr ⟨h, by simp, fun a ha b hb => ?_⟩
    rw [List.mem_singleton] at hb
    rw [hb]
    exact fun z => lkA_none.mp e (z ▸ ha)
variable {κ' : Type} [DecidableEq κ']
theorem va_tab (key : κ → κ') (inj : ∀ a b, key a = key b → a = b) (f : β → D) (k : κ) : ∀ t : List (κ × β), vaD (t.map fun p => (key p.1, f p.2)) (key k) = (lkA t k).map f
  | [] => rfl
  | p :: t => by
    have ih := va_tab key inj f k t
    rw [lkA_cons]
    unfold vaD at ih ⊢
    rw [List.map_cons, List.find?_cons]
    by_cases g : p.1 = k
    · rw [decide_eq_true (show key p.1 = key k by rw [g]), if_pos g]; rfl
    · rw [decide_eq_false (fun z => g (inj _ _ z)), if_neg g]
      exact ih
theorem pu_tab (key : κ → κ') (inj : ∀ a b, key a = key b → a = b) (f : β → D) (t : List (κ × β)) (k : κ) (v : β) : puD (t.map fun p => (key p.1, f p.2)) (key k) (f v) = (puA t k v).map fun p => (key p.1, f p.2) := by
  have e0 : ((t.map fun p => (key p.1, f p.2)).any fun p => decide (p.1 = key k)) = t.any fun p => decide (p.1 = k) := by
    rw [List.any_map]
    congr 1
    funext p
    exact decide_eq_decide.mpr ⟨fun z => inj _ _ z, fun z => congrArg key z⟩
  unfold puD puA
  rw [e0]
  split
  · rw [List.map_map, List.map_map]
    refine List.map_congr_left fun p _ => ?_
    simp only [Function.comp]
    by_cases g : p.1 = k
    · rw [if_pos g, if_pos (show key p.1 = key k by rw [g])]
    · rw [if_neg g, if_neg (fun z => g (inj _ _ z))]
  · rw [List.map_append]; rfl
end
end DD

set_option Elab.async false
set_option linter.all false
set_option maxRecDepth 100000
set_option maxHeartbeats 4000000
/-! Dicts whose keys are tuples: setdefault, {k: v}. Values handed back whole: what hangs below changes no more. -/
namespace DD
open PySem L2 PyProof.Rows PySem.W

section
variable {X : Cx} {pins : List (Addr × Obj)} {σ : L2.St} {H : Hp} {s : Shared} {a b : Addr} {A : Around} {E : Value → Shared → Prop}
theorem dt_laid {kvs : List (List L2.Key × V)} {ks : List L2.Key} {d : V} {h1 : Heap} {xs : List (List L2.Key × Addr × Value)} {n : Nat} (I : L2.Inv X pins σ H s) (e : H a = some (.dT kvs))
    (sb : Heap.SameBut a s.heap h1) (hd : (a == sysModules) = false) (l : (putK kvs ks d).length ≤ sizeLine) (rel : KT H (putK kvs ks d) xs) (dd : h1.DictOfH (tupleKind (mixKind X.prog X.w)) a xs) :
    L2.Inv X pins σ (upd H a (.dT (putK kvs ks d))) { s with heap := h1, toks := n } := by
  obtain ⟨q, es, ep, g1, g2, g3, g4, _, g5⟩ := dd
  have mu : Mut (H a) := e ▸ True.intro
  exact d_write I mu sb ⟨q, g1⟩ ⟨l, hd, xs, rel.keeps fun c ys ec => (upd_ne (ne_of ec e fun z => by cases z)).trans ec, q, es, ep, g1, g2, g3, g4, g5⟩
theorem d_setT {kvs : List (List L2.Key × V)} {ks : List L2.Key} {d : V} {r : Value} {Q : Value → Shared → Prop} (hu : A.units + 1 < cLine) (I : L2.Inv X pins σ H s) (e : H a = some (.dT kvs)) (eb : H b = some (.tup (ks.map kV)))
    (rd : RelV d r) (hl : kvs.length < sizeLine) (h1 : ∀ x, valV kvs ks = some x → ∀ w' s', L2.Inv X pins σ H s' → RelV x w' → Q w' s') (h2 : valV kvs ks = none → ∀ s', L2.Inv X pins σ (upd H a (.dT (putK kvs ks d))) s' → Q r s') :
    wpAny (model X.prog X.w) A (call (.builtin "dict.setdefault") [.ref a, .ref b, r]) Q E s := by
  obtain ⟨z, hd, xs, rel, dd⟩ := dt_of I.hok e
  have lx : xs.length ≤ sizeLine := (Paired.length rel) ▸ z
  have rv := rel.val ks
  refine call_setdefault_heap (hsz := lx) (tupleKind_room_in1 hu) (key_of I.hok eb) hd dd (fun p hp => ?_) fun hn h' dd' sb => ?_
  · rw [hp] at rv
    cases q : valV kvs ks with
    | none => rw [q] at rv; exact False.elim rv
    | some x => rw [q] at rv; exact h1 x q _ _ (I.tok _) rv
  · rw [hn] at rv
    cases q : valV kvs ks with
    | some x => rw [q] at rv; exact False.elim rv
    | none =>
      have l2 := length_putK kvs ks d
      exact h2 q _ (dt_laid I e sb hd (by omega) (rel.put ks eb rd) dd')
end
/-- x.setdefault(y, z), the keys tuples -/
def tSetT (td ty tx : TE) : TE := fun σ H Q => td σ H fun x H1 => ∃ a, x = .ref a ∧ IsD H1 a ∧ ty σ H1 fun y H2 => tx σ H2 fun z H3 => ∃ kvs ks b, H3 a = some (.dT kvs) ∧ y = .ref b ∧ H3 b = some (.tup (ks.map kV)) ∧ kvs.length < sizeLine ∧
  (∀ v, valV kvs ks = some v → Q v H3) ∧ (valV kvs ks = none → Q z (upd H3 a (.dT (putK kvs ks z))))
def wSetT (o k e : DE) (ρ : DEnv) (C : Cells) (P : DK) (PX : DX) : Prop := o ρ C (fun x C1 => isDic x C1 ∧ k ρ C1 (fun y C2 => e ρ C2 (fun z C3 => match x with
  | .ptr a => match C3 a with
    | some (.dT t) => match keysOf y with
      | some ks => t.length < 100000 ∧ match vaD t ks with
        | some d => P d C3
        | none => P z (cput C3 a (.dT (puD t ks z)))
      | none => False
    | _ => False
  | _ => False) PX) PX) PX
section
variable {X : Cx} {W : WX} {K : PySem.W.Frag} {o i e : Expr} {to ti tx : TE} {wo wi we : DE} {apos pos : Pos} {n : Nat}
theorem pe_setT (hu : X.A.units + 1 < cLine) (ho : PE X o to) (hi : PE X i ti) (he : PE X e tx) (m : M2 X o "setdefault" apos i e pos) : PE X (.Call (.Attribute o "setdefault" apos) [i, e] [] pos) (tSetT to ti tx) := ⟨fun pins s σ H Q I h => by
  refine wpAny_Call_method m.base m.few m.line PySem.F.plainAttrs_dict PySem.F.slot_dict_setdefault PySem.F.type_dict_setdefault (thn (ho.run pins s σ H _ I h) fun u s1 ⟨x, H1, I1, rx, a, ex, d, q1⟩ => ?_)
  cases ex
  cases (show u = Value.ref a from rx)
  have ⟨t1, t2, _⟩ := isD_at I1 d
  refine ⟨t1, t2, ?_⟩
  rw [m.trees]
  exact Calls.callWith_builtin rfl (Calls.evalArgs_plain (Calls.spliced_cons (thn (hi.run pins s1 σ H1 _ I1 q1) fun iv s2 ⟨y, H2, I2, ry, q2⟩ =>
    Calls.spliced_cons (thn (he.run pins s2 σ H2 _ I2 q2) fun ev s3 ⟨z, H3, I3, rz, kvs, ks, b, ea, ey, eb, hl, q3, q4⟩ => Calls.spliced_nil (by
      cases ey
      cases (show iv = Value.ref b from ry)
      exact d_setT hu I3 ea eb rz hl (fun v hv w' s4 I4 rw' => ⟨v, H3, I4, rw', q3 v hv⟩) fun hn s4 I4 => ⟨z, _, I4, rz, q4 hn⟩)))))⟩
theorem d_setdT (hr : Room n X.A) (ho : PE X o (tE X.K W wo)) (hi : PE X i (tE X.K W wi)) (he : PE X e (tE X.K W we)) (m : M2 X o "setdefault" apos i e pos := by exact ⟨rfl, rfl, rfl, rfl⟩) :
    PE X (.Call (.Attribute o "setdefault" apos) [i, e] [] pos) (tE X.K W (wSetT wo wi we)) := PE.imp (pe_setT (hu_of hr) ho hi he m) fun σ H Q ⟨F, C, ρ, P, PX, hs, en, xr, w, k⟩ =>
  ⟨F, C, ρ, _, PX, hs, en, xr, w, fun v F1 H1 x C1 e1 h1 rx q => by
    obtain ⟨qd, q⟩ := q
    obtain ⟨a, rfl, ha⟩ := isDic_rd h1 rx qd
    refine ⟨a, rfl, ha, F1, C1, ρ, _, PX, h1, en.mono e1, xr.mono e1, q, fun u F2 H2 y C2 e2 h2 ry q2 => ⟨F2, C2, ρ, _, PX, h2, en.mono (e1.trans e2), xr.mono (e1.trans e2), q2, fun z F3 H3 dz C3 e3 h3 rz q3 => ?_⟩⟩
    split at q3
    · rename_i a'
      cases rx
      split at q3
      · rename_i t hc
        split at q3
        · rename_i ks hk
          obtain ⟨f0, vs, g1, g2⟩ := h3.cell a _ hc
          obtain ⟨b, rfl, hb⟩ := keys_rep h3 (ry.mono e3) hk
          obtain ⟨hl, q3⟩ := q3
          have ee := (e1.trans e2).trans e3
          refine ⟨vs, ks, b, g1, rfl, hb, by rw [tp_len g2.pair]; exact sz_lt hl, fun v hv => ?_, fun hv => ?_⟩
          · rcases tp_val g2.pair ks with ⟨_, e5⟩ | ⟨v', d, e4, e5, rd⟩
            · rw [hv] at e5; cases e5
            · rw [hv] at e5
              cases e5
              rw [e4] at q3
              exact k v F3 H3 d C3 ee h3 rd q3
          · rcases tp_val g2.pair ks with ⟨e4, _⟩ | ⟨v', d, e4, e5, rd⟩
            · rw [e4] at q3
              exact k z F3 _ dz _ ee (h3.put (c := .dT (puD t ks dz)) f0 ⟨_, upd_same, RepT.of (tp_put g2.pair ks rz)⟩) rz q3
            · rw [hv] at e5; cases e5
        · exact q3.elim
      · exact q3.elim
    · exact q3.elim⟩
end

/-! ### {k: v}, the key a tuple -/
def tOneT (tk tv : TE) : TE := fun σ H Q => ∀ p, H p = none → tk σ (upd H p (.dT [])) fun y H1 => tv σ H1 fun z H2 => H2 p = some (.dT []) ∧ ∃ ks b, y = .ref b ∧ H2 b = some (.tup (ks.map kV)) ∧ Q (.ref p) (upd H2 p (.dT [(ks, z)]))
def wOneT (k v : DE) (ρ : DEnv) (C : Cells) (P : DK) (PX : DX) : Prop := ∀ p, C p = none → k ρ (cput C p (.dT [])) (fun y C1 => v ρ C1 (fun z C2 => C2 p = some (.dT []) ∧ match keysOf y with
  | some ks => P (.ptr p) (cput C2 p (.dT [(ks, z)]))
  | none => False) PX) PX
section
variable {X : Cx} {W : WX} {K : PySem.W.Frag} {k v : Expr} {tk tv : TE} {wk wv : DE} {pos : Pos} {n : Nat}
theorem pe_oneT (hu : X.A.units < cLine) (hk : PE X k tk) (hv : PE X v tv) : PE X (.Dict [some k] [v] pos) (tOneT tk tv) := ⟨fun pins s σ H Q I q => by
  have hn := I.hok.fresh (Nat.le_refl s.heap.objs.size)
  have I1 := I.laid (o := .dT []) (h' := s.heap.push { cls := .type "dict", data := .dict #[] }) (t' := s.toks) (fun _ _ q => Heap.get?_push_of_some _ q) (Nat.le_refl _) (dt_empty s.heap I.big)
  rw [arm_eval_Dict, zip_pairTrees [some k] [v] X.env pos rfl rfl, dictDisplay_pairs _ (fun z => by cases z) (Nat.lt_of_le_of_lt (Nat.le_of_eq (pairTrees_length [some k] [v] X.env pos rfl rfl)) (show 1 < 17 by decide))]
  refine wpAny_bind (wpAny_standAt (wpAny_bind (wpAny_subDictH (knd := tupleKind (mixKind X.prog X.w)) (show (tupleKind (mixKind X.prog X.w)).room X.A from hu) (Nat.le_trans (Nat.le_of_eq (pairTrees_length [some k] [v] X.env pos rfl rfl)) (show 1 ≤ 15 by decide)) ?_)))
  refine pairTrees_cons_walk (thn (hk.run pins _ σ _ _ I1 (q _ hn)) fun u s1 ⟨y, H1, I1, ry, q1⟩ => thn (hv.run pins s1 σ H1 _ I1 q1) fun w2 s2 ⟨z, H2, I2, rz, hp, ks, b, ey, eb, q2⟩ => pairTrees_nil_walk ?_)
  cases ey
  cases (show u = Value.ref b from ry)
  obtain ⟨z0, hd, xs, rel, dd⟩ := dt_of I2.hok hp
  cases rel
  refine ⟨[(ks, b, w2)], ⟨rfl, rfl, key_of I2.hok eb, True.intro⟩, dd, fun h' tk' dd' sb => wpAny_pure ⟨.ref s.heap.objs.size, _, dt_laid (kvs := []) (ks := ks) (d := z) I2 hp sb hd (by rw [sizeLine_eq]; exact (show 1 ≤ 16777216 by decide)) (.cons ⟨rfl, eb, rz⟩ .nil) dd', rfl, q2⟩⟩⟩
theorem d_oneT (hr : Room n X.A) (hk : PE X k (tE X.K W wk)) (hv : PE X v (tE X.K W wv)) : PE X (.Dict [some k] [v] pos) (tE X.K W (wOneT wk wv)) := PE.imp (pe_oneT (Nat.lt_of_succ_lt (hu_of hr)) hk hv) fun σ H Q ⟨F, C, ρ, P, PX, hs, en, xr, w, kk⟩ => fun p hp => by
  obtain ⟨f0, c0⟩ := hs.fresh hp
  refine ⟨F, _, ρ, _, PX, hs.put (c := .dT []) f0 ⟨[], upd_same, .nil⟩, en, xr, w p c0, fun y F1 H1 dy C1 e1 h1 ry q => ⟨F1, C1, ρ, _, PX, h1, en.mono e1, xr.mono e1, q, fun z F2 H2 dz C2 e2 h2 rz q2 => ?_⟩⟩
  obtain ⟨hc, q2⟩ := q2
  obtain ⟨g0, us, g1, g2⟩ := h2.cell p _ hc
  cases g2
  refine ⟨g1, ?_⟩
  split at q2
  · rename_i ks hk
    obtain ⟨b, rfl, hb⟩ := keys_rep h2 (ry.mono e2) hk
    exact ⟨ks, b, rfl, hb, kk _ F2 _ _ _ (e1.trans e2) (h2.put (c := .dT [(ks, dz)]) g0 ⟨_, upd_same, .cons rz .nil⟩) (.ptr p) q2⟩
  · exact q2.elim
end
end DD

set_option Elab.async false
set_option linter.all false
set_option maxRecDepth 100000
set_option maxHeartbeats 4000000
/-! Values handed back whole: the cells below change no more. -/
namespace DD
open PySem L2 PyProof.Rows PySem.W

mutual
/-- d, with the cells of S read as data -/
inductive Deep (S : Addr → Prop) (C : Cells) : D → D → Prop
  | refl (d : D) : Deep S C d d
  | ptrL {a : Addr} {ds es : List D} : S a → C a = some (.lst ds) → DeepL S C ds es → Deep S C (.ptr a) (.lst es)
  | ptrI {a Cl : Addr} {ds es : List (String × D)} : S a → C a = some (.ins Cl ds) → DeepF S C ds es → Deep S C (.ptr a) (.ins Cl es)
  | lst {ds es : List D} : DeepL S C ds es → Deep S C (.lst ds) (.lst es)
  | tup {ds es : List D} : DeepL S C ds es → Deep S C (.tup ds) (.tup es)
  | ins {Cl : Addr} {ds es : List (String × D)} : DeepF S C ds es → Deep S C (.ins Cl ds) (.ins Cl es)
inductive DeepL (S : Addr → Prop) (C : Cells) : List D → List D → Prop
  | nil : DeepL S C [] []
  | cons {d e : D} {ds es : List D} : Deep S C d e → DeepL S C ds es → DeepL S C (d :: ds) (e :: es)
inductive DeepF (S : Addr → Prop) (C : Cells) : List (String × D) → List (String × D) → Prop
  | nil : DeepF S C [] []
  | cons {f : String} {d e : D} {ds es : List (String × D)} : Deep S C d e → DeepF S C ds es → DeepF S C ((f, d) :: ds) ((f, e) :: es)
end
theorem DeepL_refl {S : Addr → Prop} {C : Cells} : ∀ ds : List D, DeepL S C ds ds
  | [] => .nil
  | d :: r => .cons (.refl d) (DeepL_refl r)
theorem DeepF_refl {S : Addr → Prop} {C : Cells} : ∀ ds : List (String × D), DeepF S C ds ds
  | [] => .nil
  | (_, d) :: r => .cons (.refl d) (DeepF_refl r)
inductive DeepT {κ : Type} (S : Addr → Prop) (C : Cells) : List (κ × D) → List (κ × D) → Prop
  | nil : DeepT S C [] []
  | cons {k : κ} {d e : D} {ds es : List (κ × D)} : Deep S C d e → DeepT S C ds es → DeepT S C ((k, d) :: ds) ((k, e) :: es)
inductive DeepC (S : Addr → Prop) (C : Cells) : Cell → Cell → Prop
  | refl (c : Cell) : DeepC S C c c
  | lst {ds es : List D} : DeepL S C ds es → DeepC S C (.lst ds) (.lst es)
  | ins {Cl : Addr} {ds es : List (String × D)} : DeepF S C ds es → DeepC S C (.ins Cl ds) (.ins Cl es)
  | dK {ds es : List (L2.Key × D)} : DeepT S C ds es → DeepC S C (.dK ds) (.dK es)
  | dT {ds es : List (List L2.Key × D)} : DeepT S C ds es → DeepC S C (.dT ds) (.dT es)
open Classical in
/-- what is known of the heap when S is known too -/
noncomputable def deepH (S : Addr → Prop) (F H : Hp) : Hp := fun a => if S a then H a else F a
section
variable {K : PySem.W.Frag} {F H : Hp} {C C2 : Cells} {S : Addr → Prop}
theorem deep_ex (h : Ex F H) : Ex F (deepH S F H) := fun a o q => by
  unfold deepH
  split
  · exact h a o q
  · exact .inl q
theorem deep_in {a : Addr} (s : S a) : deepH S F H a = H a := by unfold deepH; rw [if_pos s]
mutual
theorem Deep.rep (h : Hs K F C H) : ∀ {v : V} {d e : D}, Rep K F v d → Deep S C d e → Rep K (deepH S F H) v e
  | _, _, _, r, .refl _ => r.mono (deep_ex h.ex)
  | _, _, _, r, .ptrL s hc l => by
    cases r
    obtain ⟨_, xs, h1, h2⟩ := h.cell _ _ hc
    exact .lst (.of ((deep_in s).trans h1)) (DeepL.rep h h2 l)
  | _, _, _, r, .ptrI s hc l => by
    cases r
    obtain ⟨_, dx, xs, h1, h2⟩ := h.cell _ _ hc
    exact .ins ((deep_in s).trans h1) (DeepF.rep h h2 l)
  | _, _, _, r, .lst l => by
    cases r with
    | lst q r => exact .lst (ex_l (deep_ex h.ex) q) (DeepL.rep h r l)
  | _, _, _, r, .tup l => by
    cases r with
    | tup q r => exact .tup ((deep_ex h.ex).nd q rfl) (DeepL.rep h r l)
  | _, _, _, r, .ins l => by
    cases r with
    | ins q r => exact .ins ((deep_ex h.ex).nd q rfl) (DeepF.rep h r l)
theorem DeepL.rep (h : Hs K F C H) : ∀ {v : List V} {d e : List D}, RepL K F v d → DeepL S C d e → RepL K (deepH S F H) v e
  | _, _, _, r, .nil => by cases r; exact .nil
  | _, _, _, r, .cons l m => by
    cases r with
    | cons a b => exact .cons (Deep.rep h a l) (DeepL.rep h b m)
theorem DeepF.rep (h : Hs K F C H) : ∀ {v : List (Str × V)} {d e : List (String × D)}, RepF K F v d → DeepF S C d e → RepF K (deepH S F H) v e
  | _, _, _, r, .nil => by cases r; exact .nil
  | _, _, _, r, .cons l m => by
    cases r with
    | cons a b => exact .cons (Deep.rep h a l) (DeepF.rep h b m)
end
theorem DeepT.repK (h : Hs K F C H) {d e : List (L2.Key × D)} (l : DeepT S C d e) : ∀ {v : List (L2.Key × V)}, RepK K F v d → RepK K (deepH S F H) v e := by
  induction l with
  | nil => intro v r; cases r; exact .nil
  | cons l _ ih => intro v r; cases r with
    | cons a b => exact .cons (l.rep h a) (ih b)
theorem DeepT.repT (h : Hs K F C H) {d e : List (List L2.Key × D)} (l : DeepT S C d e) : ∀ {v : List (List L2.Key × V)}, RepT K F v d → RepT K (deepH S F H) v e := by
  induction l with
  | nil => intro v r; cases r; exact .nil
  | cons l _ ih => intro v r; cases r with
    | cons a b => exact .cons (l.rep h a) (ih b)
theorem DeepC.rep (h : Hs K F C H) {a : Addr} {c e : Cell} (r : RepC K F H a c) (l : DeepC S C c e) : RepC K (deepH S F H) H a e := by
  cases l with
  | refl => exact r.ex (deep_ex h.ex)
  | lst l => obtain ⟨xs, h1, h2⟩ := r; exact ⟨xs, h1, l.rep h h2⟩
  | ins l => obtain ⟨dx, xs, h1, h2⟩ := r; exact ⟨dx, xs, h1, l.rep h h2⟩
  | dK l => obtain ⟨xs, h1, h2⟩ := r; exact ⟨xs, h1, l.repK h h2⟩
  | dT l => obtain ⟨xs, h1, h2⟩ := r; exact ⟨xs, h1, l.repT h h2⟩
/-- the cells that stay -/
def Stay (S : Addr → Prop) (C C2 : Cells) : Prop := ∀ a e, C2 a = some e → ¬ S a ∧ ∃ c, C a = some c ∧ DeepC S C c e
theorem Stay.sub (s : Sub C2 C) (n : ∀ a, S a → C2 a = none) : Stay S C C2 := fun a e h => ⟨(fun z => by rw [n a z] at h; cases h), e, s a e h, .refl e⟩
theorem Stay.hs (h : Hs K F C H) (s : Stay S C C2) : Hs K (deepH S F H) C2 H := by
  refine ⟨fun a o q => ?_, fun a e q => ?_⟩
  · unfold deepH at q
    split at q
    · exact .inl q
    · exact h.ex a o q
  · obtain ⟨n, c, hc, l⟩ := s a e q
    obtain ⟨f0, r⟩ := h.cell a c hc
    refine ⟨?_, l.rep h r⟩
    unfold deepH
    rw [if_neg n]
    exact f0
end
/-- what a value handed back becomes -/
def retK (E : DEnds) (d : D) (C : Cells) : Prop := wRetF (fun _ C P _ => P d C) E [] C
def wRetD (e : DE) (E : DEnds) (ρ : DEnv) (C : Cells) : Prop := e ρ C (fun d C1 => ∃ S C2 d', Stay S C1 C2 ∧ Deep S C1 d d' ∧ retK E d' C2) E.ex
section
variable {X : Cx} {W : WX} {K : PySem.W.Frag} {e : Expr} {we : DE} {pos : Pos}
theorem retK_go {F H : Hp} {C : Cells} {DE : DEnds} {Dn : Ends} {v : V} {d : D} (h1 : Hs K F C H) (r : Rep K F v d) (q : retK DE d C) (k : Kont K F DE.rt Dn.rt) : Fz (Dn.rt v) H := by
  revert q
  unfold retK wRetF
  cases r <;> first
    | (exact fun q => .inl (k _ F H _ C (Ex.refl F) h1 (by constructor <;> assumption) q))
    | (rename_i p
       show (match C p with | some (.lst ds) => _ | some (.dK ds) => _ | some (.dT ds) => _ | some (.ins Cl ds) => _ | _ => False) → _
       cases ec : C p with
       | none => exact fun z => z.elim
       | some c =>
         cases c <;> first | exact fun z => z.elim |
         (rintro ⟨C2, s2, n2, q⟩
          exact frz_any h1 ec s2 n2 fun F2 H2 e2 h2 r2 => k _ F2 H2 _ C2 e2 h2 r2 q))
theorem ds_retD (he : PE X e (tE X.K W we)) : PS X (.Return (some e) pos) (tS X.K W (wRetD we)) := PS.imp (ps_fz (ps_ret he)) fun D σ H ⟨F, C, ρ, DE, hs, en, xr, w, er⟩ => ⟨F, C, ρ, _, _, hs, en, xr, w, fun v F1 H1 d C1 e1 h1 r ⟨S, C2, d', st, dp, q⟩ =>
  retK_go (DE := DE) (Dn := D) (st.hs h1) (dp.rep h1 r) q (er.rt.mono (e1.trans (deep_ex h1.ex)))⟩
end
end DD

set_option Elab.async false
set_option linter.all false
set_option maxRecDepth 100000
set_option maxHeartbeats 4000000
/-! Tuples of the module; t.index(text) of a tuple. -/
namespace DD
open PySem L2 PyProof.Rows PySem.W
section
variable {C : Cells} {ds : List D} {i : Int}
theorem itsOf_ktup : itsOf (.ktup ds) C = some ds := rfl
theorem lenOf_ktup : lenOf (.ktup ds) C = some ds.length := rfl
theorem itemOf_ktup : itemOf (.ktup ds) C i = atI ds i := rfl
theorem res_ktup : D.res C (.ktup ds) = .ktup ds := rfl
end
def tupOf : D → Option (List D)
  | .tup ds => some ds
  | .ktup ds => some ds
  | _ => none
/-- a tuple's method -/
def wBMK (r : DRM) (d : D) (a : DA) (ρ : DEnv) (C : Cells) (P : DK) (PX : DX) : Prop := a ρ C (fun ds C2 => r d ds C2 P) PX
/-- t.index(x), the texts of t all told -/
def dTIx (x : D) (ds : List D) (C : Cells) (P : DK) : Prop := match ds with
  | [.str z] => ∃ ys : List Str, tupOf x = some (ys.map D.str) ∧ ∃ j, ys[j]? = some z ∧ (∀ m, m < j → ys[m]? ≠ some z) ∧ P (.int (j : Nat)) C
  | _ => False
section
variable {X : Cx} {W : WX} {K : PySem.W.Frag} {o e : Expr} {wo : DE} {wr : DA} {pos : Pos}
theorem tup_of {F H : Hp} {C : Cells} {v : V} {x : D} {ds : List D} (hs : Hs K F C H) (r : Rep K F v x) (h : tupOf x = some ds) : ∃ a xs, v = .ref a ∧ SqT K H a xs ∧ RepL K F xs ds := by
  cases r <;> first | cases h | skip
  · rename_i a xs hq hr
    exact ⟨a, xs, rfl, .inl (.inl (hs.ex.nd hq rfl)), hr⟩
  · rename_i a xs hq hr
    exact ⟨a, xs, rfl, ex_t hs.ex hq, hr⟩
/-- a method of a tuple of the module -/
theorem d_bmK {es : List Expr} {apos npos : Pos} {x id : String} {name : Str} {d : D} {r : V → List V → Hp → VK → Prop} {rd : DRM} (pa : PlainAttrs "tuple") (slot : Slot "tuple" name id) (hty : typeOf (.builtin id) = pure (.type "method_descriptor")) (hm : MtR X id r) (hr : SimM X.K r rd)
    (hk : ∃ a o, X.mg x = some (.ref a) ∧ X.K.lookup a = some o ∧ o.cls = .type "tuple" ∧ o.dict = none ∧ ∀ F, Rep X.K F (.ref a) d) (ha : PA X (e :: es) (tA X.K W wr)) (hg : Gl X x := by rfl) (hd : ((x : Str) == ("__debug__" : Str)) = false := by decide)
    (hb : attributeBase (.Name x npos) name X.env (eval (.Name x npos) X.env) = eval (.Name x npos) X.env := by rfl)
    (hf : ((backTo pos (starEach (e :: es) X.env)).all (fun x => !x.1) && (backToKw pos (keywordEach [] X.env)).all (fun x => x.1.isSome) && decide ((e :: es).length + ([] : List Keyword).length + (if ([] : List Keyword).isEmpty then 0 else 1) < 30)) = true := by rfl)
    (hl : (apos.endLine == pos.line) = true := by rfl) (hs : starEach (e :: es) X.env = (false, eval e X.env) :: starEach es X.env := by rfl) (hp : (backTo pos (starEach es X.env)).any (·.1) = false := by rfl) :
    PE X (.Call (.Attribute (.Name x npos) name apos) (e :: es) [] pos) (tE X.K W (wBMK rd d wr)) := by
  obtain ⟨a, o, hx, ho, hc, hn, rp⟩ := hk
  exact PE.imp (pe_bm pa slot hty hm (pe_glob hg hx (v := .ref a) rfl hd) ha hb hf hl hs hp) fun σ H Q ⟨F, C, ρ, P, PX, hs, en, xr, w, k⟩ =>
    ⟨.inr (.inl ⟨rfl, o, ho, hc, hn⟩), F, C, ρ, _, PX, hs, en, xr, w, fun vs F2 H2 ds C2 e2 h2 rl q2 => hr F2 C2 H2 _ d vs ds P Q h2 (rp F2) rl q2 (k.mono e2)⟩
theorem s_tupIx : SimM K (fun x xs H Q => ∃ p, ∃ ys : List Str, ∃ z j, x = .ref p ∧ xs = [.str z] ∧ SqT K H p (ys.map V.str) ∧ ys[j]? = some z ∧ (∀ m, m < j → ys[m]? ≠ some z) ∧ Q (.int (j : Nat)) H) dTIx := fun F C H x dx xs ds P Q hs rx rl w k => by
  revert w
  unfold dTIx
  split
  · rename_i z
    rintro ⟨ys, h1, j, h2, h3, w⟩
    obtain ⟨a, us, rfl, h4, h5⟩ := tup_of hs rx h1
    cases rl with
    | cons r1 r2 =>
      cases r1
      cases r2
      rw [h5.of_strs] at h4
      exact ⟨a, ys, z, j, rfl, rfl, h4, h2, h3, k _ F H _ C (Ex.refl F) hs (.int _) w⟩
  · exact fun z => z.elim
end
end DD

set_option Elab.async false
set_option linter.all false
set_option maxRecDepth 100000
set_option maxHeartbeats 4000000
/-! Dicts whose keys are nested tuples, and dicts whose keys are numbers, texts and None. -/
namespace DD
open PySem L2 PySem.Spec PyProof.Rows

/-! ### keys -/
def keysNf (f : D → Option NestedKey) : List D → Option (List NestedKey)
  | [] => some []
  | d :: r => (f d).bind fun k => (keysNf f r).map fun ks => k :: ks
def keyN : Nat → D → Option NestedKey
  | _, .non => some .none
  | _, .int i => some (.num i)
  | _, .str x => some (.text x)
  | n + 1, .tup ds => (keysNf (keyN n) ds).map .tup
  | _, _ => none
/-- tuples (true), or numbers, texts and None -/
def keyB : Bool → D → Option NestedKey
  | true, .tup ds => (keysNf (keyN 7) ds).map .tup
  | false, .non => some .none
  | false, .int i => some (.num i)
  | false, .str x => some (.text x)
  | _, _ => none
def leafOf : D → Option Leaf
  | .non => some .none
  | .int i => some (.num i)
  | .str x => some (.text x)
  | _ => none
theorem keyB_leaf {y : D} {k : NestedKey} (h : keyB false y = some k) : ∃ l : Leaf, l.key = k ∧ leafOf y = some l := by
  cases y <;> simp only [keyB, Option.some.injEq, reduceCtorEq] at h
  · exact ⟨.none, h, rfl⟩
  · exact ⟨.num _, h, rfl⟩
  · exact ⟨.text _, h, rfl⟩
theorem leaf_is {K : PySem.W.Frag} {F : Hp} {v : V} {y : D} {l : Leaf} {u : Value} (r : Rep K F v y) (h : leafOf y = some l) (ru : RelV v u) : Leaf.isOf l u = true := by
  cases r <;> simp only [leafOf, Option.some.injEq, reduceCtorEq] at h
  · subst h
    obtain rfl : u = .none := ru
    rfl
  · subst h
    obtain ⟨t, rfl⟩ := ru
    exact decide_eq_true rfl
  · subst h
    obtain ⟨t, rfl⟩ := ru
    simp [Leaf.isOf, Value.isStrOf]
section
variable {P : Program} {w : World} {K : PySem.W.Frag} {F H : Hp} {h : Heap}
theorem keysN_is {f : D → Option NestedKey} {n : Nat} (hf : ∀ {v : V} {d : D} {k : NestedKey} {u : Value}, Rep K F v d → f d = some k → RelV v u → NestedIs h k u ∧ k.depth ≤ n) :
    ∀ {vs : List V} {ds : List D} {ks : List NestedKey} {us : List Value}, RepL K F vs ds → keysNf f ds = some ks → Vals vs us → NestedAll h ks us ∧ NestedKey.depthAll ks ≤ n
  | _, _, ks, _, .nil, e, .nil => by
    simp only [keysNf, Option.some.injEq] at e
    subst e
    exact ⟨.nil, Nat.zero_le _⟩
  | _, _, ks, _, .cons (d := d) (ds := ds) a b, e, .cons r s => by
    simp only [keysNf, Option.bind_eq_some_iff, Option.map_eq_some_iff] at e
    obtain ⟨k, hk, ks', hks, rfl⟩ := e
    obtain ⟨h1, h2⟩ := hf a hk r
    obtain ⟨h3, h4⟩ := keysN_is hf b hks s
    exact ⟨.cons h1 h3, by simp only [NestedKey.depthAll]; omega⟩
theorem tup_is (ok : HOk P w H h) {a : Addr} {xs : List V} (e : H a = some (.tup xs)) : ∃ o its n, h.get? a = some o ∧ o.cls = .type "tuple" ∧ o.data = .seq its n ∧ Vals xs its.toList := by
  obtain ⟨_, its, r, o, h1, h2, n, h3⟩ := (show ObjOk P w H h a (.tup xs) from ok a _ e)
  exact ⟨o, its.toArray, n, h1, h2, h3, by simpa using r⟩
theorem keyN_is (ok : HOk P w H h) (ex : Ex F H) : ∀ (n : Nat) {v : V} {d : D} {k : NestedKey} {u : Value}, Rep K F v d → keyN n d = some k → RelV v u → NestedIs h k u ∧ k.depth ≤ n := by
  intro n
  induction n with
  | zero =>
    intro v d k u r e ru
    cases r <;> simp only [keyN, Option.some.injEq, reduceCtorEq] at e
    · subst e; obtain rfl : u = .none := ru; exact ⟨.none, Nat.le_refl _⟩
    · subst e; obtain ⟨t, rfl⟩ := ru; exact ⟨.int _ _, Nat.le_refl _⟩
    · subst e; obtain ⟨t, rfl⟩ := ru; exact ⟨.text _ _, Nat.le_refl _⟩
  | succ n ih =>
    intro v d k u r e ru
    cases r <;> simp only [keyN, Option.some.injEq, Option.map_eq_some_iff, reduceCtorEq] at e
    · subst e; obtain rfl : u = .none := ru; exact ⟨.none, Nat.zero_le _⟩
    · subst e; obtain ⟨t, rfl⟩ := ru; exact ⟨.int _ _, Nat.zero_le _⟩
    · subst e; obtain ⟨t, rfl⟩ := ru; exact ⟨.text _ _, Nat.zero_le _⟩
    · obtain ⟨ks, hks, rfl⟩ := e
      rename_i a xs ds hF hr
      obtain rfl : u = .ref a := ru
      obtain ⟨o, its, m, h1, h2, h3, h4⟩ := tup_is ok (ex.nd hF rfl)
      obtain ⟨g1, g2⟩ := keysN_is (fun a b c => ih a b c) hr hks h4
      exact ⟨.tup h1 h2 h3 g1, by simp only [NestedKey.depth]; omega⟩
theorem keyB_is (ok : HOk P w H h) (ex : Ex F H) {v : V} {d : D} {k : NestedKey} {u : Value} (r : Rep K F v d) (e : keyB true d = some k) (ru : RelV v u) : ∃ b, v = .ref b ∧ u = .ref b ∧ (nestedKind P w).is h k b ∧ Rep K F (.ref b) d := by
  have e' : keyN 8 d = some k := by
    cases d <;> simp only [keyB, Option.map_eq_some_iff, reduceCtorEq] at e ⊢
    simp only [keyN, Option.map_eq_some_iff]
    exact e
  obtain ⟨h1, h2⟩ := keyN_is ok ex 8 r e' ru
  cases r <;> simp only [keyB, reduceCtorEq] at e
  rename_i a xs ds hF hr
  obtain rfl : u = .ref a := ru
  exact ⟨a, rfl, rfl, ⟨h1, h2⟩, .tup hF hr⟩
mutual
theorem nkD_keyN : ∀ (k : NestedKey) (n : Nat), k.depth ≤ n → keyN n (nkD k) = some k
  | .none, n, _ => by cases n <;> rfl
  | .num _, n, _ => by cases n <;> rfl
  | .text _, n, _ => by cases n <;> rfl
  | .tup ks, 0, h => by simp only [NestedKey.depth] at h; omega
  | .tup ks, n + 1, h => by
    simp only [NestedKey.depth] at h
    simp only [nkD, keyN, nkDs_keysN ks n (by omega), Option.map_some]
theorem nkDs_keysN : ∀ (ks : List NestedKey) (n : Nat), NestedKey.depthAll ks ≤ n → keysNf (keyN n) (nkDs ks) = some ks
  | [], n, _ => rfl
  | k :: ks, n, h => by
    simp only [NestedKey.depthAll] at h
    simp only [nkDs, keysNf, nkD_keyN k n (by omega), nkDs_keysN ks n (by omega), Option.bind_some, Option.map_some]
end
end
mutual
theorem keyN_nkD : ∀ (n : Nat) (d : D) (k : NestedKey), keyN n d = some k → d = nkD k
  | 0, d, k, e => by
    cases d <;> simp only [keyN, Option.some.injEq, reduceCtorEq] at e <;> (subst e; rfl)
  | n + 1, d, k, e => by
    cases d <;> simp only [keyN, Option.some.injEq, Option.map_eq_some_iff, reduceCtorEq] at e
    · subst e; rfl
    · subst e; rfl
    · subst e; rfl
    · obtain ⟨ks, hks, rfl⟩ := e
      rw [keysN_nkD n _ ks hks]; rfl
theorem keysN_nkD : ∀ (n : Nat) (ds : List D) (ks : List NestedKey), keysNf (keyN n) ds = some ks → ds = nkDs ks
  | n, [], ks, e => by
    simp only [keysNf, Option.some.injEq] at e
    subst e; rfl
  | n, d :: ds, ks, e => by
    simp only [keysNf, Option.bind_eq_some_iff, Option.map_eq_some_iff] at e
    obtain ⟨k, hk, ks', hks, rfl⟩ := e
    rw [keyN_nkD n d k hk, keysN_nkD n ds ks' hks]; rfl
end
theorem keyB_nkD {b : Bool} {d : D} {k : NestedKey} (e : keyB b d = some k) : d = nkD k := by
  cases b
  · cases d <;> simp only [keyB, Option.some.injEq, reduceCtorEq] at e <;> (subst e; rfl)
  · cases d <;> simp only [keyB, Option.map_eq_some_iff, reduceCtorEq] at e
    obtain ⟨ks, hks, rfl⟩ := e
    rw [keysN_nkD 7 _ ks hks]; rfl

/-! ### a dict that is a cell -/
/-- which kind, what it holds -/
def withN (q : Pgw) (x : D) (C : Cells) (P : Bool → List (NestedKey × D) → Prop) : Prop := match x with
  | .ptr a => match C a with
    | some (.dN q' t) => q' = q ∧ P true t
    | some (.lN q' t _ _) => q' = q ∧ P true t
    | some (.dO q' t) => q' = q ∧ P false t
    | some (.lO q' t _ _) => q' = q ∧ P false t
    | _ => False
  | _ => False
section
variable {X : Cx} {pins : List (Addr × Obj)} {σ : L2.St} {H F : Hp} {C : Cells} {s : Shared} {a : Addr} {t : List (NestedKey × D)}
abbrev NdV (K : PySem.W.Frag) (F : Hp) : List (NestedKey × D) → List (NestedKey × Addr × Value) → Prop := Paired fun p y => p.1 = y.1 ∧ p.1.depth ≤ 8 ∧ Rep K F (.ref y.2.1) (nkD p.1) ∧ ∃ v, RelV v y.2.2 ∧ Rep K F v p.2
abbrev LdV (K : PySem.W.Frag) (F : Hp) : List (NestedKey × D) → List (Leaf × Value) → Prop := Paired fun p y => p.1 = y.1.key ∧ ∃ v, RelV v y.2 ∧ Rep K F v p.2
theorem paired_comp {α β γ : Type} {f : α → β → Prop} {g : α → γ → Prop} {h : β → γ → Prop} (hc : ∀ a b c, f a b → g a c → h b c) : ∀ {as : List α} {bs : List β} {cs : List γ}, Paired f as bs → Paired g as cs → Paired h bs cs
  | _, _, _, .nil, .nil => .nil
  | _, _, _, .cons x xs, .cons y ys => .cons (hc _ _ _ x y) (paired_comp hc xs ys)
theorem paired_left {α β : Type} {f : α → β → Prop} {p : α → Prop} (hp : ∀ a b, f a b → p a) : ∀ {as : List α} {bs : List β}, Paired f as bs → ∀ a ∈ as, p a
  | _, _, .nil, a, h => by cases h
  | _, _, .cons x xs, a, h => by
    rcases List.mem_cons.mp h with rfl | h
    · exact hp _ _ x
    · exact paired_left hp xs a h
theorem paired_right {α β : Type} {f : α → β → Prop} {p : β → Prop} (hp : ∀ a b, f a b → p b) : ∀ {as : List α} {bs : List β}, Paired f as bs → ∀ b ∈ bs, p b
  | _, _, .nil, a, h => by cases h
  | _, _, .cons x xs, b, h => by
    rcases List.mem_cons.mp h with rfl | h
    · exact hp _ _ x
    · exact paired_right hp xs b h
theorem nd_open {w : World} {xs : List (NestedKey × Addr × V)} (h : NdAt w a xs s.heap) (r : NdR X.K F xs t) (hw : w = X.w) (hs : Hs X.K F C H) (ok : HOk X.prog X.w H s.heap) :
    t.length ≤ sizeLine ∧ (a == sysModules) = false ∧ ∃ ys, s.heap.DictOfH (nestedKind X.prog X.w) a ys ∧ NdV X.K F t ys := by
  subst hw
  obtain ⟨z, sm, ys, pr, o, es, ep, ho, hx, hd, he, hn⟩ := h
  have l1 : xs.length = t.length := Paired.length r
  have nv : NdV X.K F t ys := paired_comp (fun x p y (h1 : x.1 = p.1 ∧ p.1.depth ≤ 8 ∧ Rep X.K F (.ref x.2.1) (nkD p.1) ∧ Rep X.K F x.2.2 p.2) (h2 : x.1 = y.1 ∧ x.2.1 = y.2.1 ∧ RelV x.2.2 y.2.2) =>
    ⟨h1.1.symm.trans h2.1, h1.2.1, by rw [← h2.2.1]; exact h1.2.2.1, x.2.2, h2.2.2, h1.2.2.2⟩) r pr
  refine ⟨by omega, sm, ys, ⟨o, es, ep, ho, hx, hd, he, fun y hy => ?_, hn⟩, nv⟩
  refine paired_right (p := fun y => (nestedKind X.prog X.w).is s.heap y.1 y.2.1) (fun p y hz => ?_) nv y hy
  obtain ⟨h1, h2, h3, _⟩ := hz
  have := keyN_is ok hs.ex 8 h3 (nkD_keyN p.1 8 h2) (u := .ref y.2.1) rfl
  rw [h1] at this
  exact this
theorem nd_at {q : Pgw} (I : Inv X pins σ H s) (hs : Hs X.K F C H) (hq : q = ⟨X.prog, X.w⟩) (hc : C a = some (.dN q t) ∨ ∃ od xs, C a = some (.lN q t od xs)) :
    t.length ≤ sizeLine ∧ (a == sysModules) = false ∧ ∃ ys, s.heap.DictOfH (nestedKind X.prog X.w) a ys ∧ NdV X.K F t ys := by
  rcases hc with hc | ⟨od, xs, hc⟩
  · obtain ⟨_, xs, h1, h2⟩ := hs.cell a _ hc
    exact nd_open (show ObjOk X.prog X.w H s.heap a (ndO q.w a xs) from I.hok a _ h1).1 h2 (by rw [hq]) hs I.hok
  · obtain ⟨_, h1, h2⟩ := hs.cell a _ hc
    obtain ⟨_, h3⟩ := (show ObjOk X.prog X.w H s.heap a (.frz od (ndO q.w a xs)) from I.hok a _ h1)
    exact nd_open (show ObjOk X.prog X.w H s.heap a (ndO q.w a xs) from h3).1 h2 (by rw [hq]) hs I.hok
theorem ld_open {q : Pgw} {xs : List (Leaf × V)} (h : LdAt q a xs s.heap) (r : LdR X.K F xs t) (hq : q = ⟨X.prog, X.w⟩) :
    t.length ≤ sizeLine ∧ (a == sysModules) = false ∧ ∃ vs, s.heap.DictOf (leafKind X.prog X.w) a vs ∧ LdV X.K F t vs := by
  subst hq
  obtain ⟨z, sm, vs, pr, hd⟩ := h
  have l1 : xs.length = t.length := Paired.length r
  exact ⟨by omega, sm, vs, hd, paired_comp (fun x p y (h1 : x.1.key = p.1 ∧ Rep X.K F x.2 p.2) (h2 : x.1 = y.1 ∧ RelV x.2 y.2) => ⟨by rw [← h1.1, h2.1], x.2, h2.2, h1.2⟩) r pr⟩
theorem ld_at {q : Pgw} (I : Inv X pins σ H s) (hs : Hs X.K F C H) (hq : q = ⟨X.prog, X.w⟩) (hc : C a = some (.dO q t) ∨ ∃ od xs, C a = some (.lO q t od xs)) :
    t.length ≤ sizeLine ∧ (a == sysModules) = false ∧ ∃ vs, s.heap.DictOf (leafKind X.prog X.w) a vs ∧ LdV X.K F t vs := by
  rcases hc with hc | ⟨od, xs, hc⟩
  · obtain ⟨_, xs, h1, h2⟩ := hs.cell a _ hc
    exact ld_open (show ObjOk X.prog X.w H s.heap a (ldO q a xs) from I.hok a _ h1).1 h2 hq
  · obtain ⟨_, h1, h2⟩ := hs.cell a _ hc
    obtain ⟨_, h3⟩ := (show ObjOk X.prog X.w H s.heap a (.frz od (ldO q a xs)) from I.hok a _ h1)
    exact ld_open (show ObjOk X.prog X.w H s.heap a (ldO q a xs) from h3).1 h2 hq
theorem withN_dict {q : Pgw} {x : D} {v : V} {u : Value} {P : Bool → List (NestedKey × D) → Prop} (I : Inv X pins σ H s) (hs : Hs X.K F C H) (hq : q = ⟨X.prog, X.w⟩) (r : Rep X.K F v x) (ru : RelV v u) (h : withN q x C P) :
    ∃ a, v = .ref a ∧ u = .ref a ∧ x = .ptr a ∧ (a == sysModules) = false ∧ s.TypeIs (.ref a) "dict" ∧ (∀ b, Value.ref a = .ref b → ∃ ob, s.heap.get? b = some ob ∧ ob.dict = none) ∧
      ((∃ t ys, P true t ∧ t.length ≤ sizeLine ∧ s.heap.DictOfH (nestedKind X.prog X.w) a ys ∧ NdV X.K F t ys) ∨ ∃ t vs, P false t ∧ t.length ≤ sizeLine ∧ s.heap.DictOf (leafKind X.prog X.w) a vs ∧ LdV X.K F t vs) := by
  unfold withN at h
  split at h
  · rename_i a
    cases r
    obtain rfl : u = .ref a := ru
    refine ⟨a, rfl, rfl, rfl, ?_⟩
    have tN : ∀ {ys}, s.heap.DictOfH (nestedKind X.prog X.w) a ys → s.TypeIs (.ref a) "dict" ∧ (∀ b, Value.ref a = .ref b → ∃ ob, s.heap.get? b = some ob ∧ ob.dict = none) := fun hd => by
      refine ⟨hd.typeIs, fun b e => ?_⟩
      cases e
      obtain ⟨o, _, _, h1, h2, _⟩ := hd
      exact ⟨o, h1, h2.2.1⟩
    have tL : ∀ {vs}, s.heap.DictOf (leafKind X.prog X.w) a vs → s.TypeIs (.ref a) "dict" ∧ (∀ b, Value.ref a = .ref b → ∃ ob, s.heap.get? b = some ob ∧ ob.dict = none) := fun hd => by
      refine ⟨hd.typeIs, fun b e => ?_⟩
      cases e
      obtain ⟨o, _, _, h1, h2, _⟩ := hd
      exact ⟨o, h1, h2.2.1⟩
    split at h
    · rename_i q' t hc
      obtain ⟨rfl, h⟩ := h
      obtain ⟨z, sm, ys, hd, nv⟩ := nd_at I hs hq (.inl hc)
      exact ⟨sm, (tN hd).1, (tN hd).2, .inl ⟨t, ys, h, z, hd, nv⟩⟩
    · rename_i q' t od xs hc
      obtain ⟨rfl, h⟩ := h
      obtain ⟨z, sm, ys, hd, nv⟩ := nd_at I hs hq (.inr ⟨_, _, hc⟩)
      exact ⟨sm, (tN hd).1, (tN hd).2, .inl ⟨t, ys, h, z, hd, nv⟩⟩
    · rename_i q' t hc
      obtain ⟨rfl, h⟩ := h
      obtain ⟨z, sm, ys, hd, nv⟩ := ld_at I hs hq (.inl hc)
      exact ⟨sm, (tL hd).1, (tL hd).2, .inr ⟨t, ys, h, z, hd, nv⟩⟩
    · rename_i q' t od xs hc
      obtain ⟨rfl, h⟩ := h
      obtain ⟨z, sm, ys, hd, nv⟩ := ld_at I hs hq (.inr ⟨_, _, hc⟩)
      exact ⟨sm, (tL hd).1, (tL hd).2, .inr ⟨t, ys, h, z, hd, nv⟩⟩
    · exact h.elim
  · exact h.elim
/-- what is found -/
theorem nv_val {K : PySem.W.Frag} {ys : List (NestedKey × Addr × Value)} (r : NdV K F t ys) (k : NestedKey) : (vaD t k = none ∧ atKey ys k = none) ∨ ∃ d p v, vaD t k = some d ∧ atKey ys k = some p ∧ RelV v p.2 ∧ Rep K F v d := by
  induction r with
  | nil => exact .inl ⟨rfl, rfl⟩
  | @cons p y ps qs hz _ ih =>
    obtain ⟨h1, _, _, v, h3, h4⟩ := hz
    by_cases e : p.1 = k
    · have e' : y.1 = k := h1 ▸ e
      refine .inr ⟨p.2, y.2, v, vaD_hit e, ?_, h3, h4⟩
      simp [atKey, List.find?_cons, e']
    · have e' : ¬ y.1 = k := h1 ▸ e
      rw [vaD_miss e, show atKey (y :: qs) k = atKey qs k by simp [atKey, List.find?_cons, e']]
      exact ih
theorem lv_val {K : PySem.W.Frag} {vs : List (Leaf × Value)} (r : LdV K F t vs) (l : Leaf) : (vaD t l.key = none ∧ valueAt vs l = none) ∨ ∃ d u v, vaD t l.key = some d ∧ valueAt vs l = some u ∧ RelV v u ∧ Rep K F v d := by
  induction r with
  | nil => exact .inl ⟨rfl, rfl⟩
  | @cons p y ps qs hz _ ih =>
    obtain ⟨h1, v, h3, h4⟩ := hz
    by_cases e : y.1 = l
    · have e' : p.1 = l.key := by rw [h1, e]
      refine .inr ⟨p.2, y.2, v, vaD_hit e', ?_, h3, h4⟩
      simp [valueAt, List.find?_cons, e]
    · have e' : ¬ p.1 = l.key := fun z => e (Leaf.key_inj (h1.symm.trans z))
      rw [vaD_miss e', show valueAt (y :: qs) l = valueAt qs l by simp [valueAt, List.find?_cons, e]]
      exact ih
end
end DD

set_option Elab.async false
set_option linter.all false
set_option maxRecDepth 100000
set_option maxHeartbeats 4000000
/-! Rules for dicts whose keys are nested tuples, or numbers, texts and None. -/
namespace DD
open PySem L2 PySem.Spec PyProof.Rows

/-- a reading as an operation of its own -/
def rdR (K : PySem.W.Frag) (rd : DR2) : R2 := fun x y H Q => ∃ F C dx dy P, Hs K F C H ∧ Rep K F x dx ∧ Rep K F y dy ∧ rd dx dy C P ∧ Kont K F P Q
theorem s_rd {K : PySem.W.Frag} {rd : DR2} : SimR K (rdR K rd) rd := fun F C H x y dx dy P Q hs rx ry w k => ⟨F, C, dx, dy, P, hs, rx, ry, w, k⟩
def rdA (K : PySem.W.Frag) (rd : DRA) : List V → Hp → VK → Prop := fun xs H Q => ∃ F C ds P, Hs K F C H ∧ RepL K F xs ds ∧ rd ds C P ∧ Kont K F P Q
theorem s_rdA {K : PySem.W.Frag} {rd : DRA} : SimA K (rdA K rd) rd := fun F C H xs ds P Q hs r w k => ⟨F, C, ds, P, hs, r, w, k⟩

def dNGet (q : Pgw) (x : D) (y : D) (C : Cells) (P : DK) : Prop := withN q x C fun b t => match keyB b y with
  | some k => match vaD t k with
    | some d => P d C
    | none => False
  | none => False
def dNIn (q : Pgw) (neg : Bool) (y : D) (x : D) (C : Cells) (P : DK) : Prop := withN q x C fun b t => match keyB b y with
  | some k => P (.bl (neg ^^ (vaD t k).isSome)) C
  | none => False
def isN (q : Pgw) (x : D) (C : Cells) : Prop := withN q x C fun _ _ => True
def wNGet1 (q : Pgw) (o k : DE) (ρ : DEnv) (C : Cells) (P : DK) (PX : DX) : Prop := o ρ C (fun x C1 => isN q x C1 ∧ k ρ C1 (fun y C2 => withN q x C2 fun b t => match keyB b y with
  | some k => P ((vaD t k).getD .non) C2
  | none => False) PX) PX
def wNGet2 (q : Pgw) (o k e : DE) (ρ : DEnv) (C : Cells) (P : DK) (PX : DX) : Prop := o ρ C (fun x C1 => isN q x C1 ∧ k ρ C1 (fun y C2 => e ρ C2 (fun z C3 => withN q x C3 fun b t => match keyB b y with
  | some k => P ((vaD t k).getD z) C3
  | none => False) PX) PX) PX
section
variable {X : Cx} {W : WX} {K : PySem.W.Frag} {o i e : Expr} {wo wi we : DE} {pos apos tpos : Pos} {n : Nat} {q : Pgw}
theorem room_N (hu : X.A.units + 64 < cLine) : (nestedKind X.prog X.w).room X.A.in1 := by
  show X.A.units + 1 + 8 < cLine
  omega
theorem room_N2 (hu : X.A.units + 64 < cLine) : (nestedKind X.prog X.w).room X.A.in1.in1 := by
  show X.A.units + 1 + 1 + 8 < cLine
  omega
/-- the value at a key -/
theorem withN_key {pins : List (Addr × Obj)} {σ : L2.St} {H F : Hp} {C : Cells} {s : Shared} {x y : D} {v z : V} {u r : Value} {R : Bool → NestedKey → Option D → Prop} (I : Inv X pins σ H s) (hs : Hs X.K F C H) (hq : q = ⟨X.prog, X.w⟩)
    (rx : Rep X.K F v x) (rv : RelV v u) (ry : Rep X.K F z y) (rz : RelV z r) (h : withN q x C fun b t => match keyB b y with | some k => R b k (vaD t k) | none => False) :
    ∃ a, u = .ref a ∧ (a == sysModules) = false ∧ s.TypeIs (.ref a) "dict" ∧ (∀ b, Value.ref a = .ref b → ∃ ob, s.heap.get? b = some ob ∧ ob.dict = none) ∧ ∃ (b : Bool) (k : NestedKey) (o : Option D), R b k o ∧ ∃ (w : Option Value), ((o = none ∧ w = none) ∨ ∃ d v' u', o = some d ∧ w = some u' ∧ RelV v' u' ∧ Rep X.K F v' d) ∧
      ((∃ c ys, r = .ref c ∧ (nestedKind X.prog X.w).is s.heap k c ∧ s.heap.DictOfH (nestedKind X.prog X.w) a ys ∧ (atKey ys k).map (·.2) = w) ∨ ∃ l : Leaf, ∃ vs, l.key = k ∧ (leafKind X.prog X.w).is l r = true ∧ s.heap.DictOf (leafKind X.prog X.w) a vs ∧ valueAt vs l = w) := by
  obtain ⟨a, rfl, rfl, rfl, sm, ty, nd, h⟩ := withN_dict I hs hq rx rv h
  refine ⟨a, rfl, sm, ty, nd, ?_⟩
  rcases h with ⟨t, ys, h, hl, hd, nv⟩ | ⟨t, vs, h, hl, hd, nv⟩
  · split at h
    · rename_i k hk
      obtain ⟨c, rfl, rfl, hkc, _⟩ := keyB_is I.hok hs.ex ry hk rz
      refine ⟨true, k, _, h, (atKey ys k).map (·.2), ?_, .inl ⟨c, ys, rfl, hkc, hd, rfl⟩⟩
      rcases nv_val nv k with ⟨h1, h2⟩ | ⟨d, p, v', h1, h2, h3, h4⟩
      · exact .inl ⟨h1, by rw [h2]; rfl⟩
      · exact .inr ⟨d, v', p.2, h1, by rw [h2]; rfl, h3, h4⟩
    · exact h.elim
  · split at h
    · rename_i k hk
      obtain ⟨l, rfl, hl2⟩ := keyB_leaf hk
      have hkl : (leafKind X.prog X.w).is l r = true := leaf_is ry hl2 rz
      refine ⟨false, _, _, h, valueAt vs l, ?_, .inr ⟨l, vs, rfl, hkl, hd, rfl⟩⟩
      rcases lv_val nv l with ⟨h1, h2⟩ | ⟨d, u', v', h1, h2, h3, h4⟩
      · exact .inl ⟨h1, h2⟩
      · exact .inr ⟨d, v', u', h1, h2, h3, h4⟩
    · exact h.elim
/-- x[y] -/
theorem ix_N (hu : X.A.units + 64 < cLine) (hq : q = ⟨X.prog, X.w⟩) : IxR X (rdR X.K (dNGet q)) := by
  intro value slice pins s σ H x y v u Q I rx ry ⟨F, C, dx, dy, P, hs, r1, r2, w, k⟩ hsl
  obtain ⟨a, rfl, sm, hT, nd, b, kk, o, hR, w', hw, hkk⟩ := withN_key (R := fun _ _ o => match o with | some d => P d C | none => False) I hs hq r1 rx r2 ry w
  unfold subscriptTail
  refine wpAny_bind ?_
  rw [getitemInPython_of_ne hT.not_modules]
  refine wpAny_bind (wpAny_specialOf hT PySem.F.slot_dict_getitem.lookup ?_)
  have fin : wpAny (model X.prog X.w) X.A (subscripted slice false (.ref a) u) (fun r s₃ => wpAny (model X.prog X.w) X.A (letTemporaryGo value (.ref a) r >>= fun _ => pure r) (EP X pins σ Q) X.xe s₃) X.xe s := by
    rw [hsl]
    refine wpAny_operating (wpAny_mono (Q := EP X pins σ Q) (E := X.xe) ?_ (fun r s₃ h₃ => wpAny_bind (wpAny_letTemporaryGo (wpAny_pure h₃))) fun _ _ x => x)
    rcases hw with ⟨rfl, rfl⟩ | ⟨d, v', u', rfl, rfl, h3, h4⟩
    · exact hR.elim
    · rcases hkk with ⟨c, ys, rfl, hc, hd, hv⟩ | ⟨l, vs, _, hl, hd, hv⟩
      · obtain ⟨p, hp, hp2⟩ := Option.map_eq_some_iff.mp hv
        refine wpAny_getItem_heap (room_N hu) hc hd hp ?_
        rw [hp2]
        exact ⟨v', H, I.tok _, h3, k v' F H d C (Ex.refl F) hs h4 hR⟩
      · exact wpAny_getItem_of hl hd.mapOf hv ⟨v', H, I.tok _, h3, k v' F H d C (Ex.refl F) hs h4 hR⟩
  first
    | exact wpAny_pure (wpAny_bind fin)
    | exact wpAny_bind (wpAny_pure (wpAny_bind fin))
    | exact wpAny_bind fin
/-- y in x, y not in x -/
theorem op_inN (hu : X.A.units + 64 < cLine) (hq : q = ⟨X.prog, X.w⟩) : OpR X (compareOp .In) (rdR X.K (dNIn q false)) := by
  intro pins s σ H y x v u Q I ry rx ⟨F, C, dy, dx, P, hs, r1, r2, w, k⟩
  obtain ⟨a, rfl, sm, hT, nd, b, kk, o, hR, w', hw, hkk⟩ := withN_key (R := fun _ _ o => P (.bl (false ^^ o.isSome)) C) I hs hq r2 rx r1 ry w
  have e : w'.isSome = o.isSome := by rcases hw with ⟨rfl, rfl⟩ | ⟨_, _, _, rfl, rfl, _, _⟩ <;> rfl
  rw [Bool.false_xor] at hR
  rcases hkk with ⟨c, ys, rfl, hc, hd, hv⟩ | ⟨l, vs, _, hl, hd, hv⟩
  · refine wpAny_in_heap (room_N hu) hc sm hd ?_
    have e2 : (atKey ys kk).isSome = o.isSome := by rw [← e, ← hv, Option.isSome_map]
    rw [e2]
    exact ⟨.bl o.isSome, H, I.tok _, rfl, k _ F H _ C (Ex.refl F) hs (.bl _) hR⟩
  · refine wpAny_in_of hl sm hd.mapOf ?_
    rw [hv, e]
    exact ⟨.bl o.isSome, H, I.tok _, rfl, k _ F H _ C (Ex.refl F) hs (.bl _) hR⟩
theorem op_notInN (hu : X.A.units + 64 < cLine) (hq : q = ⟨X.prog, X.w⟩) : OpR X (compareOp .NotIn) (rdR X.K (dNIn q true)) := by
  intro pins s σ H y x v u Q I ry rx ⟨F, C, dy, dx, P, hs, r1, r2, w, k⟩
  obtain ⟨a, rfl, sm, hT, nd, b, kk, o, hR, w', hw, hkk⟩ := withN_key (R := fun _ _ o => P (.bl (true ^^ o.isSome)) C) I hs hq r2 rx r1 ry w
  have e : w'.isSome = o.isSome := by rcases hw with ⟨rfl, rfl⟩ | ⟨_, _, _, rfl, rfl, _, _⟩ <;> rfl
  rw [Bool.true_xor] at hR
  rcases hkk with ⟨c, ys, rfl, hc, hd, hv⟩ | ⟨l, vs, _, hl, hd, hv⟩
  · refine wpAny_notIn_heap (room_N hu) hc sm hd ?_
    have e2 : (atKey ys kk).isSome = o.isSome := by rw [← e, ← hv, Option.isSome_map]
    rw [e2]
    exact ⟨.bl (!o.isSome), H, I.tok _, rfl, k _ F H _ C (Ex.refl F) hs (.bl _) hR⟩
  · refine wpAny_notIn_of hl sm hd.mapOf ?_
    rw [hv, e]
    exact ⟨.bl (!o.isSome), H, I.tok _, rfl, k _ F H _ C (Ex.refl F) hs (.bl _) hR⟩
/-- x.get(y), x.get(y, z) -/
theorem d_nget1 (hu : X.A.units + 64 < cLine) (hq : q = ⟨X.prog, X.w⟩) (ho : PE X o (tE X.K W wo)) (hi : PE X i (tE X.K W wi)) (m : M1 X o "get" apos i pos := by exact ⟨rfl, rfl, rfl, rfl⟩) : PE X (.Call (.Attribute o "get" apos) [i] [] pos) (tE X.K W (wNGet1 q wo wi)) := by
  refine ⟨fun pins s σ H Q I ⟨F, C, ρ, P, PX, hs, en, xr, w, k⟩ => ?_⟩
  refine wpAny_Call_method m.base m.few m.line PySem.F.plainAttrs_dict PySem.F.slot_dict_get PySem.F.type_dict_get (thn (ho.run pins s σ H (fun v H1 => ∃ F1 C1 x, Ex F F1 ∧ Hs X.K F1 C1 H1 ∧ Rep X.K F1 v x ∧ isN q x C1 ∧ wi ρ C1 (fun y C2 => withN q x C2 fun b t => match keyB b y with
    | some k => P ((vaD t k).getD .non) C2
    | none => False) PX) I ⟨F, C, ρ, _, PX, hs, en, xr, w, fun v F1 H1 x C1 e1 h1 rx q => ⟨F1, C1, x, e1, h1, rx, q.1, q.2⟩⟩) fun u s1 ⟨v, H1, I1, rv, F1, C1, x, e1, h1, rx, hn, w1⟩ => ?_)
  obtain ⟨a, _, rfl, _, sm, hT, nd, _⟩ := withN_dict I1 h1 hq rx rv hn
  refine ⟨hT, nd, ?_⟩
  rw [m.trees]
  refine Calls.callWith_builtin rfl (Calls.evalArgs_plain (Calls.spliced_cons (thn (hi.run pins s1 σ H1 (fun z H2 => ∃ F2 C2 y, Ex F1 F2 ∧ Hs X.K F2 C2 H2 ∧ Rep X.K F2 z y ∧ withN q x C2 fun b t => match keyB b y with
    | some k => P ((vaD t k).getD .non) C2
    | none => False) I1 ⟨F1, C1, ρ, _, PX, h1, en.mono e1, xr.mono e1, w1, fun z F2 H2 y C2 e2 h2 ry q2 => ⟨F2, C2, y, e2, h2, ry, q2⟩⟩) fun r s2 ⟨z, H2, I2, rz, F2, C2, y, e2, h2, ry, w2⟩ => Calls.spliced_nil ?_)))
  obtain ⟨a', ea, sm, hT, nd, b, kk, o, hR, w', hw, hkk⟩ := withN_key (R := fun _ _ o => P (o.getD .non) C2) I2 h2 hq (rx.mono e2) rv ry rz w2
  cases ea
  have fin : ∀ (w'' : Option Value), w'' = w' → ∀ s', Inv X pins σ H2 s' → EP X pins σ Q (w''.getD .none) s' := fun w'' ew s' I3 => by
    subst ew
    rcases hw with ⟨rfl, rfl⟩ | ⟨d, v', u', rfl, rfl, h3, h4⟩
    · exact ⟨.non, H2, I3, rfl, k _ F2 H2 _ C2 (e1.trans e2) h2 .non hR⟩
    · exact ⟨v', H2, I3, h3, k v' F2 H2 d C2 (e1.trans e2) h2 h4 hR⟩
  rcases hkk with ⟨c, ys, rfl, hc, hd, hv⟩ | ⟨l, vs, _, hl, hd, hv⟩
  · exact call_meetsIn PySem.F.slot_dict_get hd.typeIs PySem.F.entry_dict_get (PySem.F.args_dict_get_2 _ _) (meetsH_dict_get (nestedKind X.prog X.w) a c sm) ⟨room_N hu, kk, ys, hc, hd, fin _ hv _ (I2.tok _)⟩
  · exact call_meetsIn PySem.F.slot_dict_get hd.typeIs PySem.F.entry_dict_get (PySem.F.args_dict_get_2 _ _) (meets_dict_get (leafKind X.prog X.w) a hl sm) ⟨_, hd.mapOf, fin _ hv _ (I2.tok _)⟩
theorem d_nget2 (hu : X.A.units + 64 < cLine) (hq : q = ⟨X.prog, X.w⟩) (ho : PE X o (tE X.K W wo)) (hi : PE X i (tE X.K W wi)) (he : PE X e (tE X.K W we)) (m : M2 X o "get" apos i e pos := by exact ⟨rfl, rfl, rfl, rfl⟩) : PE X (.Call (.Attribute o "get" apos) [i, e] [] pos) (tE X.K W (wNGet2 q wo wi we)) := by
  refine ⟨fun pins s σ H Q I ⟨F, C, ρ, P, PX, hs, en, xr, w, k⟩ => ?_⟩
  refine wpAny_Call_method m.base m.few m.line PySem.F.plainAttrs_dict PySem.F.slot_dict_get PySem.F.type_dict_get (thn (ho.run pins s σ H (fun v H1 => ∃ F1 C1 x, Ex F F1 ∧ Hs X.K F1 C1 H1 ∧ Rep X.K F1 v x ∧ isN q x C1 ∧ wi ρ C1 (fun y C2 => we ρ C2 (fun z C3 => withN q x C3 fun b t => match keyB b y with
    | some k => P ((vaD t k).getD z) C3
    | none => False) PX) PX) I ⟨F, C, ρ, _, PX, hs, en, xr, w, fun v F1 H1 x C1 e1 h1 rx q => ⟨F1, C1, x, e1, h1, rx, q.1, q.2⟩⟩) fun u s1 ⟨v, H1, I1, rv, F1, C1, x, e1, h1, rx, hn, w1⟩ => ?_)
  obtain ⟨a, _, rfl, _, sm, hT, nd, _⟩ := withN_dict I1 h1 hq rx rv hn
  refine ⟨hT, nd, ?_⟩
  rw [m.trees]
  refine Calls.callWith_builtin rfl (Calls.evalArgs_plain (Calls.spliced_cons (thn (hi.run pins s1 σ H1 (fun z H2 => ∃ F2 C2 y, Ex F1 F2 ∧ Hs X.K F2 C2 H2 ∧ Rep X.K F2 z y ∧ we ρ C2 (fun z C3 => withN q x C3 fun b t => match keyB b y with
    | some k => P ((vaD t k).getD z) C3
    | none => False) PX) I1 ⟨F1, C1, ρ, _, PX, h1, en.mono e1, xr.mono e1, w1, fun z F2 H2 y C2 e2 h2 ry q2 => ⟨F2, C2, y, e2, h2, ry, q2⟩⟩) fun r s2 ⟨z, H2, I2, rz, F2, C2, y, e2, h2, ry, w2⟩ =>
    Calls.spliced_cons (thn (he.run pins s2 σ H2 (fun g H3 => ∃ F3 C3 dg, Ex F2 F3 ∧ Hs X.K F3 C3 H3 ∧ Rep X.K F3 g dg ∧ withN q x C3 fun b t => match keyB b y with
    | some k => P ((vaD t k).getD dg) C3
    | none => False) I2 ⟨F2, C2, ρ, _, PX, h2, en.mono (e1.trans e2), xr.mono (e1.trans e2), w2, fun g F3 H3 dg C3 e3 h3 rg q3 => ⟨F3, C3, dg, e3, h3, rg, q3⟩⟩) fun gr s3 ⟨g, H3, I3, rg, F3, C3, dg, e3, h3, rdg, w3⟩ => Calls.spliced_nil ?_))))
  obtain ⟨a', ea, sm, hT, nd, b, kk, o, hR, w', hw, hkk⟩ := withN_key (R := fun _ _ o => P (o.getD dg) C3) I3 h3 hq (rx.mono (e2.trans e3)) rv (ry.mono e3) rz w3
  cases ea
  have fin : ∀ (w'' : Option Value), w'' = w' → ∀ s', Inv X pins σ H3 s' → EP X pins σ Q (w''.getD gr) s' := fun w'' ew s' I4 => by
    subst ew
    rcases hw with ⟨rfl, rfl⟩ | ⟨d, v', u', rfl, rfl, g3, g4⟩
    · exact ⟨g, H3, I4, rg, k _ F3 H3 _ C3 ((e1.trans e2).trans e3) h3 rdg hR⟩
    · exact ⟨v', H3, I4, g3, k v' F3 H3 d C3 ((e1.trans e2).trans e3) h3 g4 hR⟩
  rcases hkk with ⟨c, ys, rfl, hc, hd, hv⟩ | ⟨l, vs, _, hl, hd, hv⟩
  · exact call_meetsIn PySem.F.slot_dict_get hd.typeIs PySem.F.entry_dict_get (PySem.F.args_dict_get_3 _ _ _) (meetsH_dict_get_default (nestedKind X.prog X.w) a c sm gr) ⟨room_N hu, kk, ys, hc, hd, fin _ hv _ (I3.tok _)⟩
  · exact call_meetsIn PySem.F.slot_dict_get hd.typeIs PySem.F.entry_dict_get (PySem.F.args_dict_get_3 _ _ _) (meets_dict_get_default (leafKind X.prog X.w) a hl sm gr) ⟨_, hd.mapOf, fin _ hv _ (I3.tok _)⟩
end

/-! ### {} -/
def wNewN (q : Pgw) (_ : DEnv) (C : Cells) (P : DK) (_ : DX) : Prop := ∀ p, C p = none → P (.ptr p) (cput C p (.dN q []))
def wNewO (q : Pgw) (_ : DEnv) (C : Cells) (P : DK) (_ : DX) : Prop := ∀ p, C p = none → P (.ptr p) (cput C p (.dO q []))
theorem ndO_ok {P : Program} {w : World} {H : Hp} {h : Heap} {a : Addr} {w0 : World} {xs : List (NestedKey × Addr × V)} (x : NdAt w0 a xs h) : ObjOk P w H h a (ndO w0 a xs) := by
  refine ⟨x, ?_, fun h1 h2 g1 k => ?_⟩
  · obtain ⟨_, _, _, _, o, _, _, ho, _⟩ := x
    exact ⟨o, ho⟩
  · obtain ⟨z, sm, ys, pr, o, es, ep, ho, r⟩ := g1
    exact ⟨z, sm, ys, pr, o, es, ep, k o ho, r⟩
theorem ldO_ok {P : Program} {w : World} {H : Hp} {h : Heap} {a : Addr} {q : Pgw} {xs : List (Leaf × V)} (x : LdAt q a xs h) : ObjOk P w H h a (ldO q a xs) := by
  refine ⟨x, ?_, fun h1 h2 g1 k => ?_⟩
  · obtain ⟨_, _, _, _, o, _, _, ho, _⟩ := x
    exact ⟨o, ho⟩
  · obtain ⟨z, sm, vs, pr, o, es, ep, ho, r⟩ := g1
    exact ⟨z, sm, vs, pr, o, es, ep, k o ho, r⟩
section
variable {X : Cx} {W : WX} {pos : Pos} {q : Pgw}
theorem d_newN : PE X (.Dict [] [] pos) (tE X.K W (wNewN q)) := ⟨fun pins s σ H Q I ⟨F, C, ρ, P, PX, hs, en, xr, w, k⟩ => by
  have hp : H s.heap.objs.size = none := I.hok.fresh (Nat.le_refl _)
  have sm : (s.heap.objs.size == sysModules) = false := beq_eq_false_iff_ne.mpr (Ne.symm (Nat.ne_of_lt I.big))
  refine wpAny_Dict_empty ⟨.ref s.heap.objs.size, _, I.laid (a := s.heap.objs.size) (o := ndO q.w s.heap.objs.size []) (t' := s.toks) (fun _ _ q => Heap.get?_push_of_some _ q) (Nat.le_refl _) (ndO_ok ⟨Nat.zero_le _, sm, [], .nil, _, #[], 0, Heap.get?_push_size _ rfl, ⟨rfl, rfl, rfl⟩, rfl, rfl, List.nodup_nil⟩), rfl, ?_⟩
  exact k _ F _ _ _ (Ex.refl F) (hs.put (c := .dN q []) (hs.fresh hp).1 ⟨[], upd_same, .nil⟩) (.ptr _) (w _ (hs.fresh hp).2)⟩
theorem d_newO : PE X (.Dict [] [] pos) (tE X.K W (wNewO q)) := ⟨fun pins s σ H Q I ⟨F, C, ρ, P, PX, hs, en, xr, w, k⟩ => by
  have hp : H s.heap.objs.size = none := I.hok.fresh (Nat.le_refl _)
  have sm : (s.heap.objs.size == sysModules) = false := beq_eq_false_iff_ne.mpr (Ne.symm (Nat.ne_of_lt I.big))
  refine wpAny_Dict_empty ⟨.ref s.heap.objs.size, _, I.laid (a := s.heap.objs.size) (o := ldO q s.heap.objs.size []) (t' := s.toks) (fun _ _ q => Heap.get?_push_of_some _ q) (Nat.le_refl _) (ldO_ok ⟨Nat.zero_le _, sm, [], .nil, Heap.DictOf.new s.heap⟩), rfl, ?_⟩
  exact k _ F _ _ _ (Ex.refl F) (hs.put (c := .dO q []) (hs.fresh hp).1 ⟨[], upd_same, .nil⟩) (.ptr _) (w _ (hs.fresh hp).2)⟩
end

/-! ### x[y] = z, del x[y] -/
def nPut (q : Pgw) (x y d : D) (C : Cells) (P : Cells → Prop) : Prop := match x with
  | .ptr a => match C a with
    | some (.dN q' t) => q' = q ∧ match keyB true y with
      | some k => t.length < 100000 ∧ P (cput C a (.dN q (puD t k d)))
      | none => False
    | some (.dO q' t) => q' = q ∧ match keyB false y with
      | some k => t.length < 100000 ∧ P (cput C a (.dO q (puD t k d)))
      | none => False
    | _ => False
  | _ => False
def nDel (q : Pgw) (x y : D) (C : Cells) (P : Cells → Prop) : Prop := match x with
  | .ptr a => match C a with
    | some (.dN q' t) => q' = q ∧ match keyB true y with
      | some k => (vaD t k).isSome = true ∧ P (cput C a (.dN q (drD t k)))
      | none => False
    | _ => False
  | _ => False
def wSetN (q : Pgw) (o i e : DE) (E : DEnds) (ρ : DEnv) (C : Cells) : Prop := e ρ C (fun d C1 => o ρ C1 (fun x C2 => i ρ C2 (fun y C3 => nPut q x y d C3 fun C4 => E.nx ρ C4) E.ex) E.ex) E.ex
def wDelN (q : Pgw) (o i : DE) (E : DEnds) (ρ : DEnv) (C : Cells) : Prop := o ρ C (fun x C1 => i ρ C1 (fun y C2 => nDel q x y C2 fun C3 => E.nx ρ C3) E.ex) E.ex
def stoX (xs : List (NestedKey × Addr × V)) (k : NestedKey) (b : Addr) (v : V) : List (NestedKey × Addr × V) := if (xs.any fun x => decide (x.1 = k)) = true then xs.map (fun x => if x.1 = k then (x.1, x.2.1, v) else x) else xs ++ [(k, b, v)]
theorem stoX_len (xs : List (NestedKey × Addr × V)) (k : NestedKey) (b : Addr) (v : V) : (stoX xs k b v).length ≤ xs.length + 1 := by
  unfold stoX
  split
  · rw [List.length_map]; omega
  · rw [List.length_append]; exact Nat.le_refl _
theorem paired_map {α β γ δ : Type} {f : α → β → Prop} {g : γ → δ → Prop} {m : α → γ} {n : β → δ} (h : ∀ a b, f a b → g (m a) (n b)) : ∀ {as : List α} {bs : List β}, Paired f as bs → Paired g (as.map m) (bs.map n)
  | _, _, .nil => .nil
  | _, _, .cons x xs => .cons (h _ _ x) (paired_map h xs)
theorem paired_any {α β : Type} {f : α → β → Prop} {p : α → Bool} {q : β → Bool} (h : ∀ a b, f a b → p a = q b) : ∀ {as : List α} {bs : List β}, Paired f as bs → as.any p = bs.any q
  | _, _, .nil => rfl
  | _, _, .cons x xs => by rw [List.any_cons, List.any_cons, h _ _ x, paired_any h xs]
theorem paired_filter {α β : Type} {f : α → β → Prop} {p : α → Bool} {q : β → Bool} (h : ∀ a b, f a b → p a = q b) : ∀ {as : List α} {bs : List β}, Paired f as bs → Paired f (as.filter p) (bs.filter q)
  | _, _, .nil => .nil
  | _, _, .cons (a := a) (b := b) x xs => by
    rw [List.filter_cons, List.filter_cons, ← h _ _ x]
    cases p a with
    | true => exact .cons x (paired_filter h xs)
    | false => exact paired_filter h xs
theorem paired_snoc {α β : Type} {f : α → β → Prop} {a : α} {b : β} (x : f a b) : ∀ {as : List α} {bs : List β}, Paired f as bs → Paired f (as ++ [a]) (bs ++ [b])
  | _, _, .nil => .cons x .nil
  | _, _, .cons y ys => .cons y (paired_snoc x ys)
theorem sto_ys {xs : List (NestedKey × Addr × V)} {ys : List (NestedKey × Addr × Value)} (r : Paired (fun (x : NestedKey × Addr × V) (y : NestedKey × Addr × Value) => x.1 = y.1 ∧ x.2.1 = y.2.1 ∧ RelV x.2.2 y.2.2) xs ys) (k : NestedKey) (b : Addr) {v : V} {u : Value} (rv : RelV v u) :
    Paired (fun (x : NestedKey × Addr × V) (y : NestedKey × Addr × Value) => x.1 = y.1 ∧ x.2.1 = y.2.1 ∧ RelV x.2.2 y.2.2) (stoX xs k b v) (storedH ys k b u) := by
  have ha : (xs.any fun x => decide (x.1 = k)) = (atKey ys k).isSome := by
    rw [paired_any (q := fun y => decide (y.1 = k)) (fun x y z => by rw [z.1]) r, ← any_pairsH]
    unfold pairsH
    rw [List.any_map]
    rfl
  unfold stoX storedH
  rw [ha]
  by_cases g : (atKey ys k).isSome = true
  · rw [if_pos g, if_pos g]
    refine paired_map (fun x y z => ?_) r
    unfold putAt
    by_cases e : x.1 = k
    · rw [if_pos e, if_pos (z.1.symm.trans e)]
      exact ⟨z.1, z.2.1, rv⟩
    · rw [if_neg e, if_neg (fun w => e (z.1.trans w))]
      exact z
  · rw [if_neg g, if_neg g]
    exact paired_snoc ⟨rfl, rfl, rv⟩ r
theorem sto_t {K : PySem.W.Frag} {F : Hp} {xs : List (NestedKey × Addr × V)} {t : List (NestedKey × D)} (r : NdR K F xs t) {k : NestedKey} {b : Addr} {v : V} {d : D} (hk : k.depth ≤ 8) (hb : Rep K F (.ref b) (nkD k)) (rv : Rep K F v d) : NdR K F (stoX xs k b v) (puD t k d) := by
  have ha : (xs.any fun x => decide (x.1 = k)) = t.any fun p => decide (p.1 = k) := paired_any (fun x p z => by rw [z.1]) r
  unfold stoX puD
  rw [ha]
  by_cases g : (t.any fun p => decide (p.1 = k)) = true
  · rw [if_pos g, if_pos g]
    refine paired_map (fun x p z => ?_) r
    by_cases e : x.1 = k
    · rw [if_pos e, if_pos (z.1.symm.trans e)]
      exact ⟨z.1, z.2.1, z.2.2.1, rv⟩
    · rw [if_neg e, if_neg (fun w => e (z.1.trans w))]
      exact z
  · rw [if_neg g, if_neg g]
    exact paired_snoc ⟨rfl, hk, hb, rv⟩ r
section
variable {X : Cx} {W : WX} {K : PySem.W.Frag} {o i e : Expr} {wo wi we : DE} {pos pos' tpos : Pos} {q : Pgw}
variable {pins : List (Addr × Obj)} {σ : L2.St} {H F : Hp} {C : Cells} {s : Shared}
theorem nPut_go {x y d : D} {v z g : V} {u r gr : Value} {P : Cells → Prop} {Q : Unit → Shared → Prop} {E : Value → Shared → Prop} (hu : X.A.units + 64 < cLine) (hq : q = ⟨X.prog, X.w⟩) (I : Inv X pins σ H s) (hs : Hs X.K F C H)
    (rx : Rep X.K F v x) (rv : RelV v u) (ry : Rep X.K F z y) (rz : RelV z r) (rd : Rep X.K F g d) (rg : RelV g gr) (h : nPut q x y d C P)
    (fin : ∀ H' C' s', Inv X pins σ H' s' → Hs X.K F C' H' → P C' → Q () s') : wpAny (model X.prog X.w) X.A (setItem u r gr) Q E s := by
  unfold nPut at h
  split at h
  · rename_i a
    cases rx
    obtain rfl : u = .ref a := rv
    split at h
    · rename_i q' t hc
      obtain ⟨rfl, h⟩ := h
      split at h
      · rename_i k hk
        obtain ⟨f0, xs, h1, h2⟩ := hs.cell a _ hc
        obtain ⟨c, rfl, rfl, hkc, rcd⟩ := keyB_is I.hok hs.ex ry hk rz
        obtain ⟨z, sm, ys, pr, ob, es, ep, ho, hx, hd, he, hn⟩ := (show ObjOk X.prog X.w H s.heap a (ndO q'.w a xs) from I.hok a _ h1).1
        obtain ⟨_, _, ys2, hdo, _⟩ := nd_open ⟨z, sm, ys, pr, ob, es, ep, ho, hx, hd, he, hn⟩ h2 (by rw [hq]) hs I.hok
        have hdo : s.heap.DictOfH (nestedKind X.prog X.w) a ys := by
          have hw : q'.w = X.w := by rw [hq]
          refine ⟨ob, es, ep, ho, hx, hd, by rw [he, hw]; rfl, fun y hy => ?_, hn⟩
          have nv : NdV X.K F t ys := paired_comp (fun x p y (h1 : x.1 = p.1 ∧ p.1.depth ≤ 8 ∧ Rep X.K F (.ref x.2.1) (nkD p.1) ∧ Rep X.K F x.2.2 p.2) (h2 : x.1 = y.1 ∧ x.2.1 = y.2.1 ∧ RelV x.2.2 y.2.2) =>
            ⟨h1.1.symm.trans h2.1, h1.2.1, by rw [← h2.2.1]; exact h1.2.2.1, x.2.2, h2.2.2, h1.2.2.2⟩) h2 pr
          refine paired_right (p := fun y => (nestedKind X.prog X.w).is s.heap y.1 y.2.1) (fun p y hz => ?_) nv y hy
          obtain ⟨g1, g2, g3, _⟩ := hz
          have := keyN_is I.hok hs.ex 8 g3 (nkD_keyN p.1 8 g2) (u := .ref y.2.1) rfl
          rw [g1] at this
          exact this
        have l1 : xs.length = t.length := Paired.length h2
        have l2 : xs.length = ys.length := Paired.length pr
        have l3 := sz_lt h.1
        refine wpAny_setItem_heap (hsz := by omega) (room_N hu) hkc hdo fun h' hd' hsb => ?_
        obtain ⟨ob', es', ep', ho', hx', hdd', he', _, hn'⟩ := hd'
        have hnd : NdAt q'.w a (stoX xs k c g) h' := by
          refine ⟨by have := stoX_len xs k c g; omega, sm, _, sto_ys pr k c rg, ob', es', ep', ho', hx', hdd', ?_, hn'⟩
          rw [he', show q'.w = X.w by rw [hq]]
          rfl
        have I2 := d_write (t' := s.toks + (nestedKind X.prog X.w).draws k) I (by rw [h1]; exact True.intro) hsb ⟨ob', ho'⟩ (ndO_ok (P := X.prog) (w := X.w) (H := upd H a (ndO q'.w a (stoX xs k c g))) hnd)
        refine fin _ _ _ I2 (hs.put (c := .dN q' (puD t k d)) f0 ⟨_, upd_same, sto_t h2 hkc.2 ?_ rd⟩) h.2
        rw [← keyB_nkD hk]
        exact rcd
      · exact h.elim
    · rename_i q' t hc
      obtain ⟨rfl, h⟩ := h
      split at h
      · rename_i k hk
        obtain ⟨f0, xs, h1, h2⟩ := hs.cell a _ hc
        obtain ⟨l, rfl, hl2⟩ := keyB_leaf hk
        obtain ⟨z, sm, vs, pr, hd⟩ := (show ObjOk X.prog X.w H s.heap a (ldO q' a xs) from I.hok a _ h1).1
        have l1 : xs.length = t.length := Paired.length h2
        have l2 : xs.length = vs.length := Paired.length pr
        have l3 := sz_lt h.1
        have hkl : (leafKind X.prog X.w).is l r = true := leaf_is ry hl2 rz
        have hd2 : s.heap.DictOf (leafKind X.prog X.w) a vs := by rw [hq] at hd; exact hd
        refine wpAny_setItem_pairs (hsz := by omega) hkl hd2 fun h' hd' hsb => ?_
        obtain ⟨ob', es', ep', ho', r'⟩ := id hd'
        have hnd : LdAt q' a (putK xs l g) h' := ⟨by have := length_putK xs l g; omega, sm, _, KV.put pr l rg, by rw [hq]; exact hd'⟩
        have I2 := d_write (t' := s.toks + 1) I (by rw [h1]; exact True.intro) hsb ⟨ob', ho'⟩ (ldO_ok (P := X.prog) (w := X.w) (H := upd H a (ldO q' a (putK xs l g))) hnd)
        refine fin _ _ _ I2 (hs.put (c := .dO q' (puD t l.key d)) f0 ⟨_, upd_same, ?_⟩) h.2
        have ha : (xs.any fun x => decide (x.1 = l)) = t.any fun p => decide (p.1 = l.key) := paired_any (fun x p z => by
          rw [← z.1]
          exact decide_eq_decide.mpr ⟨fun e => by rw [e], fun e => Leaf.key_inj e⟩) h2
        unfold putK puD
        rw [ha]
        by_cases gg : (t.any fun p => decide (p.1 = l.key)) = true
        · rw [if_pos gg, if_pos gg]
          refine paired_map (fun x p z => ?_) h2
          by_cases e : x.1 = l
          · rw [if_pos e, if_pos (by rw [← z.1, e])]
            exact ⟨z.1, rd⟩
          · rw [if_neg e, if_neg (fun w => e (Leaf.key_inj (z.1.trans w)))]
            exact z
        · rw [if_neg gg, if_neg gg]
          exact paired_snoc ⟨rfl, rd⟩ h2
      · exact h.elim
    · exact h.elim
  · exact h.elim
theorem ds_setN (hu : X.A.units + 64 < cLine) (hq : q = ⟨X.prog, X.w⟩) (ho : PE X o (tE X.K W wo)) (hi : PE X i (tE X.K W wi)) (he : PE X e (tE X.K W we)) (hsw : swapsWith e (some (.Subscript o i pos')) pos.line X.env = pure false := by rfl) :
    PS X (.Assign [.Subscript o i pos'] e pos) (tS X.K W (wSetN q wo wi we)) := by
  refine ⟨fun pins s σ H Dn I ⟨F, C, ρ, DE, hs, en, xr, w, er⟩ => ?_⟩
  refine wpAny_Assign_Subscript (thn (he.run pins s σ H (fun g H1 => ∃ F1 C1 d, Ex F F1 ∧ Hs X.K F1 C1 H1 ∧ Rep X.K F1 g d ∧ wo ρ C1 (fun x C2 => wi ρ C2 (fun y C3 => nPut q x y d C3 fun C4 => DE.nx ρ C4) DE.ex) DE.ex) I
    ⟨F, C, ρ, _, _, hs, en, xr, w, fun g F1 H1 d C1 e1 h1 rd q => ⟨F1, C1, d, e1, h1, rd, q⟩⟩) fun gr s1 ⟨g, H1, I1, rg, F1, C1, d, e1, h1, rd, w1⟩ =>
    thn (ho.run pins s1 σ H1 (fun v H2 => ∃ F2 C2 x, Ex F1 F2 ∧ Hs X.K F2 C2 H2 ∧ Rep X.K F2 v x ∧ wi ρ C2 (fun y C3 => nPut q x y d C3 fun C4 => DE.nx ρ C4) DE.ex) I1
    ⟨F1, C1, ρ, _, _, h1, en.mono e1, xr.mono e1, w1, fun v F2 H2 x C2 e2 h2 rx q => ⟨F2, C2, x, e2, h2, rx, q⟩⟩) fun u s2 ⟨v, H2, I2, rv, F2, C2, x, e2, h2, rx, w2⟩ =>
    thn (hi.run pins s2 σ H2 (fun z H3 => ∃ F3 C3 y, Ex F2 F3 ∧ Hs X.K F3 C3 H3 ∧ Rep X.K F3 z y ∧ nPut q x y d C3 fun C4 => DE.nx ρ C4) I2
    ⟨F2, C2, ρ, _, _, h2, en.mono (e1.trans e2), xr.mono (e1.trans e2), w2, fun z F3 H3 y C3 e3 h3 ry q => ⟨F3, C3, y, e3, h3, ry, q⟩⟩) fun r s3 ⟨z, H3, I3, rz, F3, C3, y, e3, h3, ry, w3⟩ => ?_) hsw
  have ee := (e1.trans e2).trans e3
  exact nPut_go hu hq I3 h3 (rx.mono e3) rv ry rz (rd.mono (e2.trans e3)) rg w3 fun H' C' s' I' h' p => ⟨σ, H', I', er.nx σ F3 H' ρ C' ee h' (en.mono ee) p⟩
theorem nDel_go {x y : D} {v z : V} {u r : Value} {P : Cells → Prop} {Q : Unit → Shared → Prop} {E : Value → Shared → Prop} (hu : X.A.units + 64 < cLine) (hq : q = ⟨X.prog, X.w⟩) (I : Inv X pins σ H s) (hs : Hs X.K F C H)
    (rx : Rep X.K F v x) (rv : RelV v u) (ry : Rep X.K F z y) (rz : RelV z r) (h : nDel q x y C P)
    (fin : ∀ H' C' s', Inv X pins σ H' s' → Hs X.K F C' H' → P C' → Q () s') : wpAny (model X.prog X.w) X.A (delItem u r) Q E s := by
  unfold nDel at h
  split at h
  · rename_i a
    cases rx
    obtain rfl : u = .ref a := rv
    split at h
    · rename_i q' t hc
      obtain ⟨rfl, h⟩ := h
      split at h
      · rename_i k hk
        obtain ⟨f0, xs, h1, h2⟩ := hs.cell a _ hc
        obtain ⟨c, rfl, rfl, hkc, rcd⟩ := keyB_is I.hok hs.ex ry hk rz
        obtain ⟨z, sm, ys, pr, ob, es, ep, ho, hx, hd, he, hn⟩ := (show ObjOk X.prog X.w H s.heap a (ndO q'.w a xs) from I.hok a _ h1).1
        have hw : q'.w = X.w := by rw [hq]
        have nv : NdV X.K F t ys := paired_comp (fun x p y (h1 : x.1 = p.1 ∧ p.1.depth ≤ 8 ∧ Rep X.K F (.ref x.2.1) (nkD p.1) ∧ Rep X.K F x.2.2 p.2) (h2 : x.1 = y.1 ∧ x.2.1 = y.2.1 ∧ RelV x.2.2 y.2.2) =>
          ⟨h1.1.symm.trans h2.1, h1.2.1, by rw [← h2.2.1]; exact h1.2.2.1, x.2.2, h2.2.2, h1.2.2.2⟩) h2 pr
        have hdo : s.heap.DictOfH (nestedKind X.prog X.w) a ys := by
          refine ⟨ob, es, ep, ho, hx, hd, by rw [he, hw]; rfl, fun y hy => ?_, hn⟩
          refine paired_right (p := fun y => (nestedKind X.prog X.w).is s.heap y.1 y.2.1) (fun p y hz => ?_) nv y hy
          obtain ⟨g1, g2, g3, _⟩ := hz
          have := keyN_is I.hok hs.ex 8 g3 (nkD_keyN p.1 8 g2) (u := .ref y.2.1) rfl
          rw [g1] at this
          exact this
        have l2 : xs.length = ys.length := Paired.length pr
        obtain ⟨p, hp⟩ : ∃ p, atKey ys k = some p := by
          rcases nv_val nv k with ⟨g1, _⟩ | ⟨_, p, _, _, g2, _⟩
          · have := h.1
            rw [g1] at this
            cases this
          · exact ⟨p, g2⟩
        refine wpAny_delItem_heap (hsz := by omega) (room_N hu) hkc sm hdo hp fun h' hd' hsb => ?_
        obtain ⟨ob', es', ep', ho', hx', hdd', he', _, hn'⟩ := hd'
        have hnd : NdAt q'.w a (xs.filter fun x => decide (x.1 ≠ k)) h' := by
          refine ⟨by have := List.length_filter_le (fun x : NestedKey × Addr × V => decide (x.1 ≠ k)) xs; omega, sm, _, paired_filter (p := fun x : NestedKey × Addr × V => decide (x.1 ≠ k)) (q := fun y : NestedKey × Addr × Value => decide (y.1 ≠ k)) (fun x y z => by rw [z.1]) pr, ob', es', ep', ho', hx', hdd', ?_, hn'⟩
          rw [he', hw]
          rfl
        have I2 := d_write (t' := s.toks + (nestedKind X.prog X.w).draws k) I (by rw [h1]; exact True.intro) hsb ⟨ob', ho'⟩ (ndO_ok (P := X.prog) (w := X.w) (H := upd H a (ndO q'.w a (xs.filter fun x => decide (x.1 ≠ k)))) hnd)
        exact fin _ _ _ I2 (hs.put (c := .dN q' (drD t k)) f0 ⟨_, upd_same, paired_filter (fun x p z => by rw [z.1]) h2⟩) h.2
      · exact h.elim
    · exact h.elim
  · exact h.elim
theorem ds_delN (hu : X.A.units + 64 < cLine) (hq : q = ⟨X.prog, X.w⟩) (ho : PE X o (tE X.K W wo)) (hi : PE X i (tE X.K W wi)) : PS X (.Delete [.Subscript o i tpos] pos) (tS X.K W (wDelN q wo wi)) := by
  refine ⟨fun pins s σ H Dn I ⟨F, C, ρ, DE, hs, en, xr, w, er⟩ => ?_⟩
  refine wpAny_Delete (wpAny_deleteEach_cons (wpAny_delete_Subscript (thn (ho.run pins s σ H (fun v H2 => ∃ F2 C2 x, Ex F F2 ∧ Hs X.K F2 C2 H2 ∧ Rep X.K F2 v x ∧ wi ρ C2 (fun y C3 => nDel q x y C3 fun C4 => DE.nx ρ C4) DE.ex) I
    ⟨F, C, ρ, _, _, hs, en, xr, w, fun v F2 H2 x C2 e2 h2 rx q => ⟨F2, C2, x, e2, h2, rx, q⟩⟩) fun u s2 ⟨v, H2, I2, rv, F2, C2, x, e2, h2, rx, w2⟩ =>
    thn (hi.run pins s2 σ H2 (fun z H3 => ∃ F3 C3 y, Ex F2 F3 ∧ Hs X.K F3 C3 H3 ∧ Rep X.K F3 z y ∧ nDel q x y C3 fun C4 => DE.nx ρ C4) I2
    ⟨F2, C2, ρ, _, _, h2, en.mono e2, xr.mono e2, w2, fun z F3 H3 y C3 e3 h3 ry q => ⟨F3, C3, y, e3, h3, ry, q⟩⟩) fun r s3 ⟨z, H3, I3, rz, F3, C3, y, e3, h3, ry, w3⟩ => ?_)))
  have ee := e2.trans e3
  exact nDel_go hu hq I3 h3 (rx.mono e3) rv ry rz w3 fun H' C' s' I' h' p => wpAny_deleteEach_nil ⟨σ, H', I', er.nx σ F3 H' ρ C' ee h' (en.mono ee) p⟩
end
end DD

set_option Elab.async false
set_option linter.all false
set_option maxRecDepth 100000
set_option maxHeartbeats 4000000
/-! Walks over the keys of such dicts; sorted(..) and len(..) of them. -/
namespace DD
open PySem L2 PySem.Spec PyProof.Rows PySem.W

theorem keyB_T (ds : List D) : keyB true (.tup ds) = (keysNf (keyN 7) ds).map .tup := rfl
theorem keyB_0 : keyB false .non = some .none := rfl
theorem keyB_S (x : Str) : keyB false (.str x) = some (.text x) := rfl
theorem keyB_I (i : Int) : keyB false (.int i) = some (.num i) := rfl
section
variable {X : Cx} {pins : List (Addr × Obj)} {σ : L2.St} {H : Hp} {s : Shared} {d : Addr} {o : Obj}
theorem frzN {w : World} {xs : List (NestedKey × Addr × V)} (I : Inv X pins σ H s) (h : H d = some (.frz o (ndO w d xs))) :
    (d == sysModules) = false ∧ s.heap.get? d = some o ∧ o.ExactDict ∧ xs.length ≤ sizeLine ∧ ∃ (es : Array DictEntry) (ep : Nat), o.data = .dict es ep ∧ es.size = xs.length ∧
      ∀ (i : Nat) (k : NestedKey) (b : Addr) (v : V), xs[i]? = some (k, b, v) → ∃ en, es[i]? = some en ∧ en.key = .ref b := by
  obtain ⟨hd, h2⟩ := (show ObjOk X.prog X.w H s.heap d (.frz o (ndO w d xs)) from I.hok d _ h)
  obtain ⟨z, sm, ys, pr, ob, es, ep, ho, hx, hdt, he, hn⟩ := (show ObjOk X.prog X.w H s.heap d (ndO w d xs) from h2).1
  rw [hd] at ho
  cases ho
  have l1 : es.size = ys.length := by rw [← Array.length_toList, he, List.length_map]
  refine ⟨sm, hd, hx, z, es, ep, hdt, by rw [l1, Paired.length pr], fun i k b v e => ?_⟩
  obtain ⟨y, hy, e1, e2, _⟩ := paired_get pr e
  refine ⟨ndEnt w y, by rw [← Array.getElem?_toList, he, List.getElem?_map, hy]; rfl, ?_⟩
  show Value.ref y.2.1 = .ref b
  rw [← e2]
theorem frzO {q : Pgw} {xs : List (Leaf × V)} (I : Inv X pins σ H s) (h : H d = some (.frz o (ldO q d xs))) :
    (d == sysModules) = false ∧ s.heap.get? d = some o ∧ o.ExactDict ∧ xs.length ≤ sizeLine ∧ ∃ (es : Array DictEntry) (ep : Nat), o.data = .dict es ep ∧ es.size = xs.length ∧
      ∀ (i : Nat) (k : Leaf) (v : V), xs[i]? = some (k, v) → ∃ en, es[i]? = some en ∧ Leaf.isOf k en.key = true := by
  obtain ⟨hd, h2⟩ := (show ObjOk X.prog X.w H s.heap d (.frz o (ldO q d xs)) from I.hok d _ h)
  obtain ⟨z, sm, vs, pr, ob, es, ep, ho, hx, hdt, hk, hp, hn⟩ := (show ObjOk X.prog X.w H s.heap d (ldO q d xs) from h2).1
  rw [hd] at ho
  cases ho
  have l1 : es.size = vs.length := by rw [← Array.length_toList]; exact hp.length
  refine ⟨sm, hd, hx, z, es, ep, hdt, by rw [l1]; exact (Paired.length pr).symm, fun i k v e => ?_⟩
  obtain ⟨y, hy, e1, e2⟩ := paired_get pr e
  have hi : i < es.size := by
    rw [l1]
    exact (List.getElem?_eq_some_iff.mp hy).1
  obtain ⟨y1, y2⟩ := y
  have hen : es.toList[i]? = some es[i] := by rw [Array.getElem?_toList]; exact Array.getElem?_eq_getElem hi
  have := hp.get? hen hy
  refine ⟨es[i], Array.getElem?_eq_getElem hi, ?_⟩
  have e1' : k = y1 := e1
  rw [e1']
  exact this.1
end
/-- the keys of a locked dict, in their order -/
def Itn (w : World) (d : Addr) (o : Obj) (xs : List (NestedKey × Addr × V)) : It :=
  ⟨fun i H => H d = some (.frz o (ndO w d xs)) ∧ i < xs.length, fun i H x H' => H' = H ∧ ∃ k b v, xs[i]? = some (k, b, v) ∧ x = .ref b, fun i H => H d = some (.frz o (ndO w d xs)) ∧ xs.length ≤ i⟩
/-- None and texts -/
def lfV : Leaf → V
  | .none => .non
  | .num i => .int i
  | .text x => .str x
def noNum : Leaf → Bool
  | .num _ => false
  | _ => true
def Itz (q : Pgw) (d : Addr) (o : Obj) (xs : List (Leaf × V)) : It :=
  ⟨fun i H => H d = some (.frz o (ldO q d xs)) ∧ i < xs.length ∧ (xs.all fun x => noNum x.1) = true, fun i H x H' => H' = H ∧ ∃ k v, xs[i]? = some (k, v) ∧ x = lfV k, fun i H => H d = some (.frz o (ldO q d xs)) ∧ xs.length ≤ i⟩
theorem lf_rel {k : Leaf} {u : Value} (h : Leaf.isOf k u = true) (n : noNum k = true) : RelV (lfV k) u := by
  cases k with
  | none => cases u <;> first | rfl | cases h
  | num i => cases n
  | text x =>
    obtain ⟨t, rfl⟩ := Value.isStrOf_shape (show Value.isStrOf x u = true from h)
    exact ⟨t, rfl⟩
section
variable {P : Program} {w : World} {K : PySem.W.Frag} {tg : Expr} {d : Addr} {o : Obj} {es : Array DictEntry} {ep : Nat}
theorem turn_keysN {w0 : World} {xs : List (NestedKey × Addr × V)} (it : Addr) (hod : o.data = .dict es ep) : Turn P w K tg (Itn w0 d o xs) [it] it (fun i h => h.IsKeyIter it d i xs.length ep) where
  mem := by simp
  obj := fun i h st b hb => by
    have e : b = it := by simpa using hb
    subst e
    obtain ⟨oi, e, c, dd⟩ := st
    exact ⟨oi, e, fun v z => by rw [dd] at z; cases z⟩
  keep := fun i h h' st k => st.at fun oi e => k it (by simp) oi e
  item := by
    intro X hP hw hK hc i pins s σ H E I hf st hg
    subst hP hw hK
    obtain ⟨hd, hi⟩ := hg
    obtain ⟨f0, f1, f2, f3, f4, f5⟩ := hf it (by simp)
    obtain ⟨hs, hgd, hx, _, es', ep', hdt, hsz, ent⟩ := frzN I hd
    obtain ⟨rfl, rfl⟩ := dict_ep hod hdt
    obtain ⟨⟨k, b, v⟩, hkv⟩ : ∃ p, xs[i]? = some p := ⟨xs[i], List.getElem?_eq_getElem hi⟩
    obtain ⟨en, hen, hkey⟩ := ent i k b v hkv
    refine next_key_item st hgd hdt hsz hen fun h' st' sb => ?_
    have I1 : Inv X pins σ H { s with heap := h' } := I.turned (t' := s.toks) (fun b ob hb e => (sb.2 b hb).trans e) f0 f1 f3 f4 f5
    obtain ⟨oi, e, c, dd⟩ := id st'
    exact ⟨en.key, rfl, go_of (s := { s with heap := h' }) e c dd (by decide) ⟨.ref b, H, I1, hkey, ⟨rfl, k, b, v, hkv, rfl⟩, st', fun b hb => (hf b hb).1⟩⟩
  done := by
    intro X hP hw hK hc i pins s σ H E I hf st hg
    subst hP hw hK
    obtain ⟨hd, hi⟩ := hg
    obtain ⟨f0, f1, f2, f3, f4, f5⟩ := hf it (by simp)
    obtain ⟨hs, hgd, hx, _, es', ep', hdt, hsz, ent⟩ := frzN I hd
    obtain ⟨rfl, rfl⟩ := dict_ep hod hdt
    exact next_key_end (I.ok.hd hc) st hgd hdt hsz hi fun h' eb => ⟨rfl, I.turned (t' := s.toks) (fun b ob hb e => eb b ob hb e) f0 f1 f3 f4 f5⟩
  self := fun A i s Q E st h => by
    refine wpAny_pyIter_slot st.typeIs F.slot_dict_keyiterator_iter (wpAny_call_entry F.slot_dict_keyiterator_iter st.typeIs F.entry_dict_keyiterator_iter ?_ (F.args_dict_keyiterator_iter_1 _))
    show wpAny _ _ (ret (.ref it)) _ _ s
    exact wpAny_pure ⟨_, rfl, "dict_keyiterator", _, st.typeIs, F.slot_dict_keyiterator_next.lookup, h⟩
theorem turn_keysO {q : Pgw} {xs : List (Leaf × V)} (it : Addr) (hod : o.data = .dict es ep) : Turn P w K tg (Itz q d o xs) [it] it (fun i h => h.IsKeyIter it d i xs.length ep) where
  mem := by simp
  obj := fun i h st b hb => by
    have e : b = it := by simpa using hb
    subst e
    obtain ⟨oi, e, c, dd⟩ := st
    exact ⟨oi, e, fun v z => by rw [dd] at z; cases z⟩
  keep := fun i h h' st k => st.at fun oi e => k it (by simp) oi e
  item := by
    intro X hP hw hK hc i pins s σ H E I hf st hg
    subst hP hw hK
    obtain ⟨hd, hi, hnn⟩ := hg
    obtain ⟨f0, f1, f2, f3, f4, f5⟩ := hf it (by simp)
    obtain ⟨hs, hgd, hx, _, es', ep', hdt, hsz, ent⟩ := frzO I hd
    obtain ⟨rfl, rfl⟩ := dict_ep hod hdt
    obtain ⟨⟨k, v⟩, hkv⟩ : ∃ p, xs[i]? = some p := ⟨xs[i], List.getElem?_eq_getElem hi⟩
    obtain ⟨en, hen, hkey⟩ := ent i k v hkv
    have hnk : noNum k = true := List.all_eq_true.mp hnn _ (List.mem_of_getElem? hkv)
    refine next_key_item st hgd hdt hsz hen fun h' st' sb => ?_
    have I1 : Inv X pins σ H { s with heap := h' } := I.turned (t' := s.toks) (fun b ob hb e => (sb.2 b hb).trans e) f0 f1 f3 f4 f5
    obtain ⟨oi, e, c, dd⟩ := id st'
    exact ⟨en.key, rfl, go_of (s := { s with heap := h' }) e c dd (by decide) ⟨lfV k, H, I1, lf_rel hkey hnk, ⟨rfl, k, v, hkv, rfl⟩, st', fun b hb => (hf b hb).1⟩⟩
  done := by
    intro X hP hw hK hc i pins s σ H E I hf st hg
    subst hP hw hK
    obtain ⟨hd, hi⟩ := hg
    obtain ⟨f0, f1, f2, f3, f4, f5⟩ := hf it (by simp)
    obtain ⟨hs, hgd, hx, _, es', ep', hdt, hsz, ent⟩ := frzO I hd
    obtain ⟨rfl, rfl⟩ := dict_ep hod hdt
    exact next_key_end (I.ok.hd hc) st hgd hdt hsz hi fun h' eb => ⟨rfl, I.turned (t' := s.toks) (fun b ob hb e => eb b ob hb e) f0 f1 f3 f4 f5⟩
  self := fun A i s Q E st h => by
    refine wpAny_pyIter_slot st.typeIs F.slot_dict_keyiterator_iter (wpAny_call_entry F.slot_dict_keyiterator_iter st.typeIs F.entry_dict_keyiterator_iter ?_ (F.args_dict_keyiterator_iter_1 _))
    show wpAny _ _ (ret (.ref it)) _ _ s
    exact wpAny_pure ⟨_, rfl, "dict_keyiterator", _, st.typeIs, F.slot_dict_keyiterator_next.lookup, h⟩
end
/-- no number among the keys -/
def noNumK : NestedKey → Bool
  | .num _ => false
  | _ => true
def wItN (e : DE) (ρ : DEnv) (C : Cells) (P : DIt → Cells → Prop) (PX : DX) : Prop := e ρ C (fun d C1 => match d with
  | .ptr a => match C1 a with
    | some (.lN q t od xs) => P ⟨t.map fun p => nkD p.1, fun C' => C' a = some (.lN q t od xs)⟩ C1
    | some (.lO q t od xs) => (t.all fun p => noNumK p.1) = true ∧ P ⟨t.map fun p => nkD p.1, fun C' => C' a = some (.lO q t od xs)⟩ C1
    | _ => False
  | _ => False) PX
section
variable {K : PySem.W.Frag} {F : Hp} {a : Addr} {od : Obj}
theorem itr_N {q : Pgw} {t : List (NestedKey × D)} {xs : List (NestedKey × Addr × V)} : ItR K F (Itn q.w a od xs) ⟨t.map fun p => nkD p.1, fun C' => C' a = some (.lN q t od xs)⟩ := fun F' H C e hs hc => by
  obtain ⟨_, h1, h2⟩ := hs.cell a _ hc
  have l1 : xs.length = t.length := Paired.length h2
  refine ⟨fun i d hd => ?_, h1, by rw [List.length_map]; omega⟩
  rw [List.getElem?_map] at hd
  cases ht : t[i]? with
  | none => rw [ht] at hd; cases hd
  | some p =>
    rw [ht] at hd
    cases hd
    have hit := (List.getElem?_eq_some_iff.mp ht).1
    refine ⟨⟨h1, by omega⟩, fun x H' y => ?_⟩
    obtain ⟨rfl, k, b, v, hx, rfl⟩ := y
    obtain ⟨p', hp', e1, e2, e3, _⟩ := paired_get h2 hx
    rw [ht] at hp'
    cases hp'
    exact ⟨F', Ex.refl _, hs, e3⟩
theorem itr_O {q : Pgw} {t : List (NestedKey × D)} {xs : List (Leaf × V)} (hn : (t.all fun p => noNumK p.1) = true) : ItR K F (Itz q a od xs) ⟨t.map fun p => nkD p.1, fun C' => C' a = some (.lO q t od xs)⟩ := fun F' H C e hs hc => by
  obtain ⟨_, h1, h2⟩ := hs.cell a _ hc
  have l1 : xs.length = t.length := Paired.length h2
  have hn2 : (xs.all fun x => noNum x.1) = true := by
    rw [List.all_eq_true] at hn ⊢
    intro x hx
    obtain ⟨i, hi⟩ := List.getElem?_of_mem hx
    obtain ⟨p, hp, e1, _⟩ := paired_get h2 hi
    have := hn p (List.mem_of_getElem? hp)
    rw [← e1] at this
    cases hk : x.1 with
    | num j => rw [hk] at this; cases this
    | none => rfl
    | text z => rfl
  refine ⟨fun i d hd => ?_, h1, by rw [List.length_map]; omega⟩
  rw [List.getElem?_map] at hd
  cases ht : t[i]? with
  | none => rw [ht] at hd; cases hd
  | some p =>
    rw [ht] at hd
    cases hd
    have hit := (List.getElem?_eq_some_iff.mp ht).1
    refine ⟨⟨h1, by omega, hn2⟩, fun x H' y => ?_⟩
    obtain ⟨rfl, k, v, hx, rfl⟩ := y
    obtain ⟨p', hp', e1, _⟩ := paired_get h2 hx
    rw [ht] at hp'
    cases hp'
    refine ⟨F', Ex.refl _, hs, ?_⟩
    have e1' : k.key = p.1 := e1
    show Rep K F' (lfV k) (nkD p.1)
    rw [← e1']
    cases k
    · exact .non
    · exact .int _
    · exact .str _
end
section
variable {X : Cx} {W : WX} {e tg : Expr} {we : DE}
theorem di_keysN (he : PE X e (tE X.K W we)) : PI X tg e (tI X.K W (wItN we)) := by
  refine ⟨fun pins s σ H R I ⟨F, C, ρ, P, PX, hs, en, xr, w, k⟩ => ?_⟩
  refine thn (he.run pins s σ H (fun v H1 => ∃ F1 C1 d, Ex F F1 ∧ Hs X.K F1 C1 H1 ∧ Rep X.K F1 v d ∧ (match d with
    | .ptr a => match C1 a with
      | some (.lN q t od xs) => P ⟨t.map fun p => nkD p.1, fun C' => C' a = some (.lN q t od xs)⟩ C1
      | some (.lO q t od xs) => (t.all fun p => noNumK p.1) = true ∧ P ⟨t.map fun p => nkD p.1, fun C' => C' a = some (.lO q t od xs)⟩ C1
      | _ => False
    | _ => False)) I ⟨F, C, ρ, _, PX, hs, en, xr, w, fun v F1 H1 d C1 e1 h1 r q => ⟨F1, C1, d, e1, h1, r, q⟩⟩) fun u s1 ⟨v, H1, I1, rv, F1, C1, d, e1, h1, r, q⟩ => ?_
  split at q
  · rename_i a
    cases r
    obtain rfl : u = .ref a := rv
    split at q
    · rename_i qq t od xs hc
      obtain ⟨_, g1, g2⟩ := h1.cell a _ hc
      obtain ⟨hs', hgd, hx, hz, es, ep, hdt, hsz, ent⟩ := frzN I1 g1
      refine iter_keys hs' hgd hx hdt (pi_one (tk := s1.toks) I1 _ (turn_keysN _ hdt) ⟨_, Heap.get?_push_size _ rfl, rfl, ?_⟩ (k _ F1 H1 _ C1 e1 h1 itr_N q))
      rw [hsz] <;> rfl
    · rename_i qq t od xs hc
      obtain ⟨_, g1, g2⟩ := h1.cell a _ hc
      obtain ⟨hs', hgd, hx, hz, es, ep, hdt, hsz, ent⟩ := frzO I1 g1
      refine iter_keys hs' hgd hx hdt (pi_one (tk := s1.toks) I1 _ (turn_keysO _ hdt) ⟨_, Heap.get?_push_size _ rfl, rfl, ?_⟩ (k _ F1 H1 _ C1 e1 h1 (itr_O q.1) q.2))
      rw [hsz] <;> rfl
    · exact q.elim
  · exact q.elim
end

/-! ### sorted(x), of nested keys -/
mutual
theorem nk_reads {P : Program} {w : World} {K : PySem.W.Frag} {F H : Hp} {h : Heap} (ok : HOk P w H h) (ex : Ex F H) : ∀ (k : NestedKey) {v : V} {u : Value}, Rep K F v (nkD k) → RelV v u → Reads h u (nkD k).py []
  | .none, v, u, r, ru => by
    simp only [nkD] at r
    cases r
    obtain rfl : u = .none := ru
    simp only [nkD, D.py]
    exact .none
  | .num i, v, u, r, ru => by
    simp only [nkD] at r
    cases r
    obtain ⟨t, rfl⟩ := ru
    simp only [nkD, D.py]
    exact .int i t
  | .text x, v, u, r, ru => by
    simp only [nkD] at r
    cases r
    obtain ⟨t, rfl⟩ := ru
    simp only [nkD, D.py]
    exact .str x t
  | .tup ks, v, u, r, ru => by
    simp only [nkD] at r
    cases r with
    | tup hF hr =>
      rename_i a xs
      obtain rfl : u = .ref a := ru
      obtain ⟨o, its, m, h1, h2, h3, h4⟩ := tup_is ok (ex.nd hF rfl)
      simp only [nkD, D.py]
      exact .tuple h1 h2 h3 (nks_reads ok ex ks hr h4)
theorem nks_reads {P : Program} {w : World} {K : PySem.W.Frag} {F H : Hp} {h : Heap} (ok : HOk P w H h) (ex : Ex F H) : ∀ (ks : List NestedKey) {vs : List V} {us : List Value}, RepL K F vs (nkDs ks) → Vals vs us → ReadsAll h us (pys (nkDs ks)) []
  | [], vs, us, r, ru => by
    simp only [nkDs] at r
    cases r
    cases ru
    simp only [nkDs, pys]
    exact .nil
  | k :: ks, vs, us, r, ru => by
    simp only [nkDs] at r
    cases r with
    | cons a b =>
      cases ru with
      | cons c d =>
        simp only [nkDs, pys]
        exact .cons (nk_reads ok ex k a c) (nks_reads ok ex ks b d)
end
def dSortN (q : Pgw) (ds : List D) (C : Cells) (P : DK) : Prop := match ds with
  | [x] => withN q x C fun b t => b = true ∧ SortsD (t.map fun p => nkD p.1) ∧ P (.lst ((t.map fun p => nkD p.1).mergeSort leD)) C
  | _ => False
def dLenN (q : Pgw) (ds : List D) (C : Cells) (P : DK) : Prop := match ds with
  | [x] => withN q x C fun _ t => P (.int (t.length : Int)) C
  | _ => False
section
variable {X : Cx} {q : Pgw}
theorem cr_sortedN (hc : X.calm = true) (hu : X.A.units + 64 < cLine) (hq : q = ⟨X.prog, X.w⟩) : CallR X (.builtin "sorted") (rdA X.K (dSortN q)) := by
  intro pins s σ H xs us Q I r ⟨F, C, ds, P, hs, rl, w, k⟩
  unfold dSortN at w
  split at w
  · rename_i x
    obtain ⟨v, rfl, r1⟩ := rl.one
    cases r with
    | cons ru rr =>
      cases rr
      rename_i u
      obtain ⟨a, rfl, rfl, rfl, sm, ty, nd, h⟩ := withN_dict I hs hq r1 ru w
      rcases h with ⟨t, ys, ⟨_, ⟨⟨n, hn, hd⟩, hal, hok⟩, w⟩, hl, hdo, nv⟩ | ⟨t, vs, ⟨hb, _⟩, _⟩
      · refine Calls.call_function_entry PyProof.Rows.kind_sorted PyProof.Rows.plain_sorted PyProof.Rows.entry_sorted (PyProof.Rows.args_sorted1 _) ?_
        unfold Builtin.«sorted»
        refine wpAny_bind (m := checkCount "sorted" 1 1 _) (wpAny_pure ?_)
        obtain ⟨o, es, ep, ho, hx, hdt, he, hkn, hnd⟩ := hdo
        have l1 : es.size = ys.length := size_of_entries he
        have l2 : t.length = ys.length := Paired.length nv
        refine wpAny_bind (PySem.W.kdu_collect (A := X.A.in1) (kdl_raw sm hx hdt) (I.ok.hd hc) ho (by omega) fun h' tk acc hkp hacc => ?_)
        have I1 : Inv X pins σ H { s with heap := h', toks := tk } := I.kept hkp
        have ea : acc.toList = ys.map fun y => Value.ref y.2.1 := by
          have hl : acc.toList.length = ys.length := by rw [Array.length_toList, hacc.1]; exact l1
          refine List.ext_getElem? fun j => ?_
          rw [List.getElem?_map]
          cases hj : acc.toList[j]? with
          | none =>
            have := List.getElem?_eq_none_iff.mp hj
            rw [List.getElem?_eq_none (show ys.length ≤ j by omega)]
            rfl
          | some v =>
            obtain ⟨en, hen, hv⟩ := hacc.2 j v (by rw [← Array.getElem?_toList]; exact hj)
            have qe := entry_at he j
            rw [hen] at qe
            cases hb : ys[j]? with
            | none => rw [hb] at qe; cases qe
            | some b =>
              rw [hb] at qe
              have e2 : en = entryOfKey (nestedKind X.prog X.w) b := Option.some.inj qe
              rw [hv, e2]
              rfl
        have rr : RepL X.K F (ys.map fun y => V.ref y.2.1) (t.map fun p => nkD p.1) := by
          clear l1 l2 hl he ea hd hal hok w hacc hkn hnd
          induction nv with
          | nil => exact .nil
          | cons z _ ih => exact .cons z.2.2.1 ih
        have kk : Keys h' (ys.map fun y => V.ref y.2.1) (pys (t.map fun p => nkD p.1)) (ys.map fun y => Value.ref y.2.1) := by
          clear l1 l2 hl he ea hd hal hok w rr hacc hkn hnd
          induction nv with
          | nil => exact .nil
          | cons z _ ih => exact .cons rfl (nk_reads I1.hok hs.ex _ z.2.2.1 rfl) ih
        rw [← ea] at kk
        have e1 : pys (t.map fun p => nkD p.1) = (t.map fun p => nkD p.1).map D.py := pys_map _
        refine sort_new (E := fun a b => X.xe a b) hu I1 kk (by rw [e1]; exact hal) (by rw [e1]; exact hok) (fun d hd' => ?_) (by rw [e1, List.length_map, List.length_map]; exact hl) fun p hp => ?_
        · rw [e1] at hd'
          obtain ⟨d', hm, rfl⟩ := List.mem_map.mp hd'
          have := (dat_lay (hd d' hm)).2
          omega
        · obtain ⟨e4, h4, r4⟩ := hs.newL rr.sort hp
          exact k _ _ _ _ C e4 h4 r4 w
      · cases hb
  · exact w.elim
end
end DD

set_option Elab.async false
set_option linter.all false
set_option maxRecDepth 100000
set_option maxHeartbeats 4000000
/-! x < y of data that are alike; {k: v} with a key that is None, a number or a text. -/
namespace DD
open PySem L2 PySem.Spec PyProof.Rows PySem.W

/-! ### x < y -/
def dLtD (x : D) (y : D) (C : Cells) (P : DK) : Prop := ∃ n, n ≤ 60 ∧ Dat n x ∧ Dat n y ∧ PySem.W.alike x.py y.py = true ∧ x.py ≠ .none ∧ P (.bl (PySem.W.dataLt x.py y.py)) C
section
variable {X : Cx}
theorem op_ltG (hu : X.A.units + 64 < cLine) : OpR X (compareOp .Lt) (rdR X.K dLtD) := by
  intro pins s σ H x y v u Q I rx ry ⟨F, C, dx, dy, P, hs, r1, r2, ⟨n, hn, h1, h2, ha, hz, w⟩, k⟩
  obtain ⟨as, g1⟩ := Dp.reads I _ x v (rep_dp hs.ex h1 _ r1) rx
  obtain ⟨bs, g2⟩ := Dp.reads I _ y u (rep_dp hs.ex h2 _ r2) ry
  refine rcLt_alike _ _ X.A s v u _ _ g1 g2 ha hz ?_ X.prog X.w _ _ ?_
  · have l1 := (dat_lay h1).2
    have := Nat.min_le_left dx.py.depth dy.py.depth
    omega
  · exact ⟨.bl _, H, I, rfl, k _ F H _ C (Ex.refl F) hs (.bl _) w⟩
end

/-! ### {k: v} -/
def wOneO (q : Pgw) (k v : DE) (ρ : DEnv) (C : Cells) (P : DK) (PX : DX) : Prop := ∀ p, C p = none → k ρ (cput C p (.dO q [])) (fun y C1 => v ρ C1 (fun z C2 => C2 p = some (.dO q []) ∧ match keyB false y with
  | some k => P (.ptr p) (cput C2 p (.dO q [(k, z)]))
  | none => False) PX) PX
section
variable {X : Cx} {q : Pgw} {W : WX} {k v : Expr} {wk wv : DE} {pos : Pos}
theorem d_oneO (hq : q = ⟨X.prog, X.w⟩) (hk : PE X k (tE X.K W wk)) (hv : PE X v (tE X.K W wv)) : PE X (.Dict [some k] [v] pos) (tE X.K W (wOneO q wk wv)) := ⟨fun pins s σ H Q I ⟨F, C, ρ, P, PX, hs, en, xr, w, kk⟩ => by
  have hn := I.hok.fresh (Nat.le_refl s.heap.objs.size)
  have sm : (s.heap.objs.size == sysModules) = false := beq_eq_false_iff_ne.mpr (Ne.symm (Nat.ne_of_lt I.big))
  have I1 := I.laid (a := s.heap.objs.size) (o := ldO q s.heap.objs.size []) (h' := s.heap.push { cls := .type "dict", data := .dict #[] }) (t' := s.toks) (fun _ _ q => Heap.get?_push_of_some _ q) (Nat.le_refl _) (ldO_ok ⟨Nat.zero_le _, sm, [], .nil, Heap.DictOf.new s.heap⟩)
  have h0 := hs.put (c := .dO q []) (hs.fresh hn).1 ⟨[], upd_same, .nil⟩
  have w := w _ (hs.fresh hn).2
  rw [arm_eval_Dict, zip_pairTrees [some k] [v] X.env pos rfl rfl, dictDisplay_pairs _ (fun z => by cases z) (Nat.lt_of_le_of_lt (Nat.le_of_eq (pairTrees_length [some k] [v] X.env pos rfl rfl)) (show 1 < 17 by decide))]
  refine wpAny_bind (wpAny_standAt (wpAny_bind (wpAny_subDict (knd := leafKind X.prog X.w) (Nat.le_trans (Nat.le_of_eq (pairTrees_length [some k] [v] X.env pos rfl rfl)) (show 1 ≤ 15 by decide)) ?_)))
  refine pairTrees_cons_walk (thn (hk.run pins _ σ _ (fun y H1 => ∃ F1 C1 dy, Ex F F1 ∧ Hs X.K F1 C1 H1 ∧ Rep X.K F1 y dy ∧ wv ρ C1 (fun z C2 => C2 s.heap.objs.size = some (.dO q []) ∧ match keyB false dy with
    | some k => P (.ptr s.heap.objs.size) (cput C2 s.heap.objs.size (.dO q [(k, z)]))
    | none => False) PX) I1 ⟨F, _, ρ, _, PX, h0, en, xr, w, fun y F1 H1 dy C1 e1 h1 ry q => ⟨F1, C1, dy, e1, h1, ry, q⟩⟩) fun u s1 ⟨y, H1, I1, ry, F1, C1, dy, e1, h1, rdy, w1⟩ =>
    thn (hv.run pins s1 σ H1 (fun z H2 => ∃ F2 C2 dz, Ex F1 F2 ∧ Hs X.K F2 C2 H2 ∧ Rep X.K F2 z dz ∧ (C2 s.heap.objs.size = some (.dO q []) ∧ match keyB false dy with
    | some k => P (.ptr s.heap.objs.size) (cput C2 s.heap.objs.size (.dO q [(k, dz)]))
    | none => False)) I1 ⟨F1, C1, ρ, _, PX, h1, en.mono e1, xr.mono e1, w1, fun z F2 H2 dz C2 e2 h2 rz q => ⟨F2, C2, dz, e2, h2, rz, q⟩⟩) fun w2 s2 ⟨z, H2, I2, rz, F2, C2, dz, e2, h2, rdz, hc, w2'⟩ => pairTrees_nil_walk ?_)
  split at w2'
  · rename_i kk' hkk
    obtain ⟨f0, xs, g1, g2⟩ := h2.cell _ _ hc
    cases g2
    obtain ⟨l, rfl, hl2⟩ := keyB_leaf hkk
    obtain ⟨z0, sm2, vs, pr, hd⟩ := (show ObjOk X.prog X.w H2 s2.heap s.heap.objs.size (ldO q s.heap.objs.size []) from I2.hok _ _ g1).1
    cases pr
    have hkl : (leafKind X.prog X.w).is l u = true := leaf_is (rdy.mono e2) hl2 ry
    have hd2 : s2.heap.DictOf (leafKind X.prog X.w) s.heap.objs.size [] := by rw [hq] at hd; exact hd
    refine ⟨[(l, w2)], ⟨hkl, rfl, True.intro⟩, hd2, fun h' dd' sb => wpAny_pure ?_⟩
    obtain ⟨ob', es', ep', ho', r'⟩ := id dd'
    have hnd : LdAt q s.heap.objs.size [(l, z)] h' := ⟨by rw [sizeLine_eq]; exact (show 1 ≤ 16777216 by decide), sm, [(l, w2)], .cons ⟨rfl, rz⟩ .nil, by rw [hq]; exact dd'⟩
    have I3 := d_write (t' := s2.toks + 1) I2 (by rw [g1]; exact True.intro) sb ⟨ob', ho'⟩ (ldO_ok (P := X.prog) (w := X.w) (H := upd H2 s.heap.objs.size (ldO q s.heap.objs.size [(l, z)])) hnd)
    exact ⟨.ref s.heap.objs.size, _, I3, rfl, kk _ F2 _ _ _ (e1.trans e2) (h2.put (c := .dO q [(l.key, dz)]) f0 ⟨_, upd_same, .cons ⟨rfl, rdz⟩ .nil⟩) (.ptr _) w2'⟩
  · exact w2'.elim⟩
end
end DD

set_option Elab.async false
set_option linter.all false
set_option maxRecDepth 100000
set_option maxHeartbeats 4000000
namespace Law
open PySem L2 DD
local macro_rules | `(tactic| walk_at "dd") => `(tactic| simp only [wFor, wLc, wYes, wSeq, wRaise, wTry, wSet, wNext, wBreak, wCont, wDrop, wRet, wRetN, wIfS, wRetF, wFrz, wAsg, wAug, wPar, wVar, wC, wNil, wCons, wOp, wUn, wCB, wTest, wAnd, wOr, wNot, wIf, wAndV, wOrV, wNotV, wChain, wTup, wLst, wLstC, wItL, wItT, wRng1, wRng2, wRng3,
  dI, dI0, dU, dEqv, dIsN, dLen, dIx, dMax2, dMin2, dAbs, dInt, dList, dListC, dTupleOf, wCall, wCallX, wMeth, wMethX, wMake, wMakeF, wMakeX, wMakeXF, frzP, wFld, wFldSet, wSetL, wAugL, wBML, dAppend, dPop, dCat, wRep, wRepC, wNoPart, wPart, wSl, wSlX, dCatX, dCmpX, dRepX, wCallV, wSortK, wTru, truOf, dStarts, wSetT, wOneT, wRetD, retK, wBMK, dTIx, tupOf, withN, keyB_T, keyB_0, keyB_S, keyB_I, keyN, keysNf, dNGet, dNIn, isN, wNGet1, wNGet2, wNewN, wNewO, wOneO, nPut, nDel, wSetN, wDelN, wItN, dSortN, noNumK, itsOf_ktup, lenOf_ktup, itemOf_ktup, res_ktup,
  endsD, endsX, startD, dput, Tgt.dg, dgs, dwipe, List.map_cons, List.map_nil, List.cons_append, List.nil_append, List.append_nil, List.length_cons, List.length_nil, List.replicate_succ, List.replicate_zero, List.getElem?_cons_zero, List.getElem?_cons_succ, List.getElem?_nil, List.set_cons_zero, List.set_cons_succ, List.set_nil, List.lookup,
  Nat.reduceAdd, Nat.reduceSub, Nat.reduceLeDiff, Option.map_some, Option.map_none, Option.bind_some, Option.bind_none, Option.isSome_some, Bool.false_xor, Bool.true_xor, Bool.not_true, Bool.not_false, decide_true, decide_false, decide_eq_true_eq, decide_eq_false_iff_not, Bool.not_eq_true, Bool.false_eq_true, reduceCtorEq, if_true, if_false, ite_true, ite_false, true_and, and_true, String.reduceBEq, String.reduceEq, ofString_eq_iff, cput_same, cput_cput, reduceIte, ↓reduceIte, atI_zero, atI_nat', atI_lit, atI_succ, atI_snoc, seqOf_lst, seqOf_ptr, itsOf_lst, itsOf_tup, itsOf_ptr, lenOf_lst, lenOf_tup, lenOf_ptr, itemOf_lst, itemOf_tup, itemOf_ptr, isSeq_ptr, isSeq_lst, fldOf_ins, fldOf_ptr, isIns_ins, isIns_ptr, dEqD, res_lst, res_tup, res_ptr, dIn, dInD, inItems, dIndex, dCatT, dExtend, wItS, dOrd, dChr, dAny, dAll, wBMS, dJoin, wDead, dMax3, dDGet, dDIn, dEmp,  wGet1, wGet2, dicGet, kvsK, kvsT, DD.keyOf, keysOf, keysAll, isDic, dicPut, wSetD, wDelD, wNewK, wNewT, wNew0, wItK, wLockS, pVar, pFld, unl, dLenDic, dDictC, dKeyList, dSortDic, dEqDic, wPairs, wDisp, wDispF, pairsK, mergeD, Option.getD_some, Option.getD_none, or_true, true_or, Option.isSome_none, List.isEmpty_nil, List.isEmpty_cons,  List.getElem?_map, List.length_map, Int.zero_add, *])
abbrev prg : PySem.Program := PySem.Challenge.pw_copperhouse_k25_cheapest_ways
def topS (i : Nat) : Stmt := prg.main.body.getD i (.Pass ⟨0, 0, 0, 0⟩)
abbrev s_law_state : Stmt := topS 40
abbrev s_law_cell : Stmt := topS 39
abbrev s_law_digit : Stmt := topS 41
abbrev s_Section_init : Stmt := inClass (topS 37) 0
abbrev s_law_sections : Stmt := topS 42
abbrev s_Tariff_init : Stmt := inClass (topS 5) 0
abbrev s_Band_init : Stmt := inClass (topS 4) 0
abbrev s_law_tariffs : Stmt := topS 43
abbrev s_month_of : Stmt := topS 24
abbrev s_months_of : Stmt := topS 25
abbrev s_Section_is_free : Stmt := inClass (topS 37) 1
abbrev s_paid_sections : Stmt := topS 26
abbrev s_ChargeRun_init : Stmt := inClass (topS 13) 0
abbrev s_section_place : Stmt := topS 14
abbrev s_Contracts_in_force : Stmt := inClass (topS 21) 2
abbrev s_ChargeRun_reason_against : Stmt := inClass (topS 13) 2
abbrev s_Band_holds : Stmt := inClass (topS 4) 1
abbrev s_Tariff_band_at : Stmt := inClass (topS 5) 1
abbrev s_stretches : Stmt := topS 8
abbrev s_price_lines : Stmt := topS 9
abbrev s_ChargeRun_lines_of : Stmt := inClass (topS 13) 3
abbrev s_ChargeRun_free_left : Stmt := inClass (topS 13) 1
abbrev s_Charge_init : Stmt := inClass (topS 12) 0
abbrev s_ChargeRun_take : Stmt := inClass (topS 13) 4
abbrev s_charge_sections : Stmt := topS 15
abbrev s_Contracts_init : Stmt := inClass (topS 21) 0
abbrev s_Contracts_set_history : Stmt := inClass (topS 21) 1
abbrev s_contracts_for : Stmt := topS 27
abbrev s_cost_with : Stmt := topS 28
abbrev s_month_cost : Stmt := topS 29
abbrev s_cost_table : Stmt := topS 30
abbrev s_is_better : Stmt := topS 33
abbrev s_step_cost : Stmt := topS 32
abbrev s_ways_behind : Stmt := topS 34
abbrev s_best_way : Stmt := topS 35
abbrev s_law_asks : Stmt := topS 47
abbrev s_law_ways : Stmt := topS 44
abbrev s_law_price : Stmt := topS 45
abbrev s_law_best : Stmt := topS 46
abbrev s_law : Stmt := topS 48
theorem sc_law_state : FnScope ["cell", "k", "prime", "first", "second", "third", "fourth"] ["cell", "k"] (defScope s_law_state) := ⟨rfl, rfl, rfl, by decide +kernel, rfl, by decide +kernel, by decide +kernel⟩
theorem sc_law_cell : FnScope ["script", "k"] ["script", "k"] (defScope s_law_cell) := ⟨rfl, rfl, rfl, by decide +kernel, rfl, by decide +kernel, by decide +kernel⟩
theorem sc_law_digit : FnScope ["state", "many", "digit"] ["state", "many"] (defScope s_law_digit) := ⟨rfl, rfl, rfl, by decide +kernel, rfl, by decide +kernel, by decide +kernel⟩
theorem sc_Section_init : FnScope ["self", "owner", "payer", "called", "opened", "start", "seconds"] ["self", "owner", "payer", "called", "opened", "start", "seconds"] (defScope s_Section_init) := ⟨rfl, rfl, rfl, by decide +kernel, rfl, by decide +kernel, by decide +kernel⟩
theorem sc_law_sections : FnScope ["script", "many", "found", "k", "state", "opened", "payer", "called", "seconds"] ["script", "many"] (defScope s_law_sections) := ⟨rfl, rfl, rfl, by decide +kernel, rfl, by decide +kernel, by decide +kernel⟩
theorem sc_Tariff_init : FnScope ["self", "setup_price", "bands"] ["self", "setup_price", "bands"] (defScope s_Tariff_init) := ⟨rfl, rfl, rfl, by decide +kernel, rfl, by decide +kernel, by decide +kernel⟩
theorem sc_Band_init : FnScope ["self", "label", "prefix", "from_hour", "to_hour", "price"] ["self", "label", "prefix", "from_hour", "to_hour", "price"] (defScope s_Band_init) := ⟨rfl, rfl, rfl, by decide +kernel, rfl, by decide +kernel, by decide +kernel⟩
theorem sc_law_tariffs : FnScope ["state", "tariffs", "name", "bands"] ["state"] (defScope s_law_tariffs) := ⟨rfl, rfl, rfl, by decide +kernel, rfl, by decide +kernel, by decide +kernel⟩
theorem sc_month_of : FnScope ["section"] ["section"] (defScope s_month_of) := ⟨rfl, rfl, rfl, by decide +kernel, rfl, by decide +kernel, by decide +kernel⟩
theorem sc_months_of : FnScope ["sections", "found", "section"] ["sections"] (defScope s_months_of) := ⟨rfl, rfl, rfl, by decide +kernel, rfl, by decide +kernel, by decide +kernel⟩
theorem sc_Section_is_free : FnScope ["self"] ["self"] (defScope s_Section_is_free) := ⟨rfl, rfl, rfl, by decide +kernel, rfl, by decide +kernel, by decide +kernel⟩
theorem sc_paid_sections : FnScope ["sections", "payers", "section"] ["sections", "payers"] (defScope s_paid_sections) := ⟨rfl, rfl, rfl, by decide +kernel, rfl, by decide +kernel, by decide +kernel⟩
theorem sc_ChargeRun_init : FnScope ["self", "contracts", "tariffs", "allowances"] ["self", "contracts", "tariffs", "allowances"] (defScope s_ChargeRun_init) := ⟨rfl, rfl, rfl, by decide +kernel, rfl, by decide +kernel, by decide +kernel⟩
theorem sc_section_place : FnScope ["section"] ["section"] (defScope s_section_place) := ⟨rfl, rfl, rfl, by decide +kernel, rfl, by decide +kernel, by decide +kernel⟩
theorem sc_Contracts_in_force : FnScope ["self", "line", "clock", "found", "since", "account", "name"] ["self", "line", "clock"] (defScope s_Contracts_in_force) := ⟨rfl, rfl, rfl, by decide +kernel, rfl, by decide +kernel, by decide +kernel⟩
theorem sc_ChargeRun_reason_against : FnScope ["self", "section", "contract"] ["self", "section", "contract"] (defScope s_ChargeRun_reason_against) := ⟨rfl, rfl, rfl, by decide +kernel, rfl, by decide +kernel, by decide +kernel⟩
theorem sc_Band_holds : FnScope ["self", "called", "clock", "hour"] ["self", "called", "clock"] (defScope s_Band_holds) := ⟨rfl, rfl, rfl, by decide +kernel, rfl, by decide +kernel, by decide +kernel⟩
theorem sc_Tariff_band_at : FnScope ["self", "called", "clock", "best", "band"] ["self", "called", "clock"] (defScope s_Tariff_band_at) := ⟨rfl, rfl, rfl, by decide +kernel, rfl, by decide +kernel, by decide +kernel⟩
theorem sc_stretches : FnScope ["tariff", "called", "start", "begin", "till", "found", "place", "band", "after"] ["tariff", "called", "start", "begin", "till"] (defScope s_stretches) := ⟨rfl, rfl, rfl, by decide +kernel, rfl, by decide +kernel, by decide +kernel⟩
theorem sc_price_lines : FnScope ["tariff", "called", "start", "begin", "till", "pieces", "lines", "band", "low", "high", "minutes"] ["tariff", "called", "start", "begin", "till"] (defScope s_price_lines) := ⟨rfl, rfl, rfl, by decide +kernel, rfl, by decide +kernel, by decide +kernel⟩
theorem sc_ChargeRun_lines_of : FnScope ["self", "section", "name", "free", "lines", "tariff"] ["self", "section", "name", "free"] (defScope s_ChargeRun_lines_of) := ⟨rfl, rfl, rfl, by decide +kernel, rfl, by decide +kernel, by decide +kernel⟩
theorem sc_ChargeRun_free_left : FnScope ["self", "account", "month"] ["self", "account", "month"] (defScope s_ChargeRun_free_left) := ⟨rfl, rfl, rfl, by decide +kernel, rfl, by decide +kernel, by decide +kernel⟩
theorem sc_Charge_init : FnScope ["self", "key", "account", "till", "mills"] ["self", "key", "account", "till", "mills"] (defScope s_Charge_init) := ⟨rfl, rfl, rfl, by decide +kernel, rfl, by decide +kernel, by decide +kernel⟩
theorem sc_ChargeRun_take : FnScope ["self", "section", "contract", "reason", "account", "name", "month", "free", "lines", "label", "low", "high", "mills"] ["self", "section"] (defScope s_ChargeRun_take) := ⟨rfl, rfl, rfl, by decide +kernel, rfl, by decide +kernel, by decide +kernel⟩
theorem sc_charge_sections : FnScope ["sections", "contracts", "tariffs", "allowances", "run", "section"] ["sections", "contracts", "tariffs", "allowances"] (defScope s_charge_sections) := ⟨rfl, rfl, rfl, by decide +kernel, rfl, by decide +kernel, by decide +kernel⟩
theorem sc_Contracts_init : FnScope ["self"] ["self"] (defScope s_Contracts_init) := ⟨rfl, rfl, rfl, by decide +kernel, rfl, by decide +kernel, by decide +kernel⟩
theorem sc_Contracts_set_history : FnScope ["self", "line", "rows", "place"] ["self", "line", "rows"] (defScope s_Contracts_set_history) := ⟨rfl, rfl, rfl, by decide +kernel, rfl, by decide +kernel, by decide +kernel⟩
theorem sc_contracts_for : FnScope ["payers", "name", "contracts", "payer"] ["payers", "name"] (defScope s_contracts_for) := ⟨rfl, rfl, rfl, by decide +kernel, rfl, by decide +kernel, by decide +kernel⟩
theorem sc_cost_with : FnScope ["sections", "payers", "name", "tariffs", "free", "asked", "charges", "left", "charge"] ["sections", "payers", "name", "tariffs", "free"] (defScope s_cost_with) := ⟨rfl, rfl, rfl, by decide +kernel, rfl, by decide +kernel, by decide +kernel⟩
theorem sc_month_cost : FnScope ["sections", "payers", "month", "name", "tariffs", "free", "section"] ["sections", "payers", "month", "name", "tariffs", "free"] (defScope s_month_cost) := ⟨rfl, rfl, rfl, by decide +kernel, rfl, by decide +kernel, by decide +kernel⟩
theorem sc_cost_table : FnScope ["sections", "payers", "tariffs", "free", "table", "month", "name"] ["sections", "payers", "tariffs", "free"] (defScope s_cost_table) := ⟨rfl, rfl, rfl, by decide +kernel, rfl, by decide +kernel, by decide +kernel⟩
theorem sc_is_better : FnScope ["one", "other"] ["one", "other"] (defScope s_is_better) := ⟨rfl, rfl, rfl, by decide +kernel, rfl, by decide +kernel, by decide +kernel⟩
theorem sc_step_cost : FnScope ["table", "month", "name", "before", "fee", "mills"] ["table", "month", "name", "before", "fee"] (defScope s_step_cost) := ⟨rfl, rfl, rfl, by decide +kernel, rfl, by decide +kernel, by decide +kernel⟩
theorem sc_ways_behind : FnScope ["ways", "table", "month", "names", "fee", "found", "name", "before", "mills", "way"] ["ways", "table", "month", "names", "fee"] (defScope s_ways_behind) := ⟨rfl, rfl, rfl, by decide +kernel, rfl, by decide +kernel, by decide +kernel⟩
theorem sc_best_way : FnScope ["sections", "payers", "tariffs", "free", "fee", "table", "names", "ways", "month", "best", "name"] ["sections", "payers", "tariffs", "free", "fee"] (defScope s_best_way) := ⟨rfl, rfl, rfl, by decide +kernel, rfl, by decide +kernel, by decide +kernel⟩
theorem sc_law_asks : FnScope ["sections", "payers", "tariffs", "free", "fee"] ["sections", "payers", "tariffs", "free", "fee"] (defScope s_law_asks) := ⟨rfl, rfl, rfl, by decide +kernel, rfl, by decide +kernel, by decide +kernel⟩
theorem sc_law_ways : FnScope ["names", "count", "ways", "spare", "longer", "way", "name"] ["names", "count"] (defScope s_law_ways) := ⟨rfl, rfl, rfl, by decide +kernel, rfl, by decide +kernel, by decide +kernel⟩
theorem sc_law_price : FnScope ["way", "months", "table", "fee", "total", "place", "mills"] ["way", "months", "table", "fee"] (defScope s_law_price) := ⟨rfl, rfl, rfl, by decide +kernel, rfl, by decide +kernel, by decide +kernel⟩
theorem sc_law_best : FnScope ["names", "months", "table", "fee", "rows", "way", "price"] ["names", "months", "table", "fee"] (defScope s_law_best) := ⟨rfl, rfl, rfl, by decide +kernel, rfl, by decide +kernel, by decide +kernel⟩
theorem sc_law : FnScope ["script", "sections", "k", "state", "tariffs", "names", "payers", "free", "fee", "table", "months", "month", "name", "mills", "first"] ["script"] (defScope s_law) := ⟨rfl, rfl, rfl, by decide +kernel, rfl, by decide +kernel, by decide +kernel⟩
/-- where things stand -/
structure Ad where
  a_law_state : Addr
  d_law_state : FuncData
  a_law_cell : Addr
  d_law_cell : FuncData
  a_law_digit : Addr
  d_law_digit : FuncData
  a_Section_init : Addr
  d_Section_init : FuncData
  a_law_sections : Addr
  d_law_sections : FuncData
  a_Tariff_init : Addr
  d_Tariff_init : FuncData
  a_Band_init : Addr
  d_Band_init : FuncData
  a_law_tariffs : Addr
  d_law_tariffs : FuncData
  a_month_of : Addr
  d_month_of : FuncData
  a_months_of : Addr
  d_months_of : FuncData
  a_Section_is_free : Addr
  d_Section_is_free : FuncData
  a_paid_sections : Addr
  d_paid_sections : FuncData
  a_ChargeRun_init : Addr
  d_ChargeRun_init : FuncData
  a_section_place : Addr
  d_section_place : FuncData
  a_Contracts_in_force : Addr
  d_Contracts_in_force : FuncData
  a_ChargeRun_reason_against : Addr
  d_ChargeRun_reason_against : FuncData
  a_Band_holds : Addr
  d_Band_holds : FuncData
  a_Tariff_band_at : Addr
  d_Tariff_band_at : FuncData
  a_stretches : Addr
  d_stretches : FuncData
  a_price_lines : Addr
  d_price_lines : FuncData
  a_ChargeRun_lines_of : Addr
  d_ChargeRun_lines_of : FuncData
  a_ChargeRun_free_left : Addr
  d_ChargeRun_free_left : FuncData
  a_Charge_init : Addr
  d_Charge_init : FuncData
  a_ChargeRun_take : Addr
  d_ChargeRun_take : FuncData
  a_charge_sections : Addr
  d_charge_sections : FuncData
  a_Contracts_init : Addr
  d_Contracts_init : FuncData
  a_Contracts_set_history : Addr
  d_Contracts_set_history : FuncData
  a_contracts_for : Addr
  d_contracts_for : FuncData
  a_cost_with : Addr
  d_cost_with : FuncData
  a_month_cost : Addr
  d_month_cost : FuncData
  a_cost_table : Addr
  d_cost_table : FuncData
  a_is_better : Addr
  d_is_better : FuncData
  a_step_cost : Addr
  d_step_cost : FuncData
  a_ways_behind : Addr
  d_ways_behind : FuncData
  a_best_way : Addr
  d_best_way : FuncData
  a_law_asks : Addr
  d_law_asks : FuncData
  a_law_ways : Addr
  d_law_ways : FuncData
  a_law_price : Addr
  d_law_price : FuncData
  a_law_best : Addr
  d_law_best : FuncData
  a_law : Addr
  d_law : FuncData
  C_Band : Addr
  C_Tariff : Addr
  C_Charge : Addr
  C_ChargeRun : Addr
  C_NoTariff : Addr
  C_Contracts : Addr
  C_Section : Addr
  pw : Pgw
structure Txt (K : PySem.W.Frag) (mg : Str → Option Value) (A : Ad) (P : Program) (w : World) : Prop where
  hq : A.pw = ⟨P, w⟩
  F_law_state : Fun K "_law_state" "_law_state" s_law_state A.a_law_state A.d_law_state
  b_law_state : Binds K A.d_law_state ["cell", "k"] []
  g_law_state : mg "_law_state" = some (.ref A.a_law_state)
  F_law_cell : Fun K "_law_cell" "_law_cell" s_law_cell A.a_law_cell A.d_law_cell
  b_law_cell : Binds K A.d_law_cell ["script", "k"] []
  g_law_cell : mg "_law_cell" = some (.ref A.a_law_cell)
  F_law_digit : Fun K "_law_digit" "_law_digit" s_law_digit A.a_law_digit A.d_law_digit
  b_law_digit : Binds K A.d_law_digit ["state", "many"] []
  g_law_digit : mg "_law_digit" = some (.ref A.a_law_digit)
  F_Section_init : Fun K "__init__" "Section.__init__" s_Section_init A.a_Section_init A.d_Section_init
  b_Section_init : Binds K A.d_Section_init ["self", "owner", "payer", "called", "opened", "start", "seconds"] []
  m_Section_init : Mk K A.C_Section A.a_Section_init
  F_law_sections : Fun K "_law_sections" "_law_sections" s_law_sections A.a_law_sections A.d_law_sections
  b_law_sections : Binds K A.d_law_sections ["script", "many"] []
  g_law_sections : mg "_law_sections" = some (.ref A.a_law_sections)
  F_Tariff_init : Fun K "__init__" "Tariff.__init__" s_Tariff_init A.a_Tariff_init A.d_Tariff_init
  b_Tariff_init : Binds K A.d_Tariff_init ["self", "setup_price", "bands"] []
  m_Tariff_init : Mk K A.C_Tariff A.a_Tariff_init
  F_Band_init : Fun K "__init__" "Band.__init__" s_Band_init A.a_Band_init A.d_Band_init
  b_Band_init : Binds K A.d_Band_init ["self", "label", "prefix", "from_hour", "to_hour", "price"] []
  m_Band_init : Mk K A.C_Band A.a_Band_init
  F_law_tariffs : Fun K "_law_tariffs" "_law_tariffs" s_law_tariffs A.a_law_tariffs A.d_law_tariffs
  b_law_tariffs : Binds K A.d_law_tariffs ["state"] []
  g_law_tariffs : mg "_law_tariffs" = some (.ref A.a_law_tariffs)
  F_month_of : Fun K "month_of" "month_of" s_month_of A.a_month_of A.d_month_of
  b_month_of : Binds K A.d_month_of ["section"] []
  g_month_of : mg "month_of" = some (.ref A.a_month_of)
  F_months_of : Fun K "months_of" "months_of" s_months_of A.a_months_of A.d_months_of
  b_months_of : Binds K A.d_months_of ["sections"] []
  g_months_of : mg "months_of" = some (.ref A.a_months_of)
  F_Section_is_free : Fun K "is_free" "Section.is_free" s_Section_is_free A.a_Section_is_free A.d_Section_is_free
  b_Section_is_free : Binds K A.d_Section_is_free ["self"] []
  m_Section_is_free : Meth K A.C_Section (Str.ofString "is_free") A.a_Section_is_free
  F_paid_sections : Fun K "paid_sections" "paid_sections" s_paid_sections A.a_paid_sections A.d_paid_sections
  b_paid_sections : Binds K A.d_paid_sections ["sections", "payers"] []
  g_paid_sections : mg "paid_sections" = some (.ref A.a_paid_sections)
  F_ChargeRun_init : Fun K "__init__" "ChargeRun.__init__" s_ChargeRun_init A.a_ChargeRun_init A.d_ChargeRun_init
  b_ChargeRun_init : Binds K A.d_ChargeRun_init ["self", "contracts", "tariffs", "allowances"] []
  m_ChargeRun_init : Mk K A.C_ChargeRun A.a_ChargeRun_init
  F_section_place : Fun K "section_place" "section_place" s_section_place A.a_section_place A.d_section_place
  b_section_place : Binds K A.d_section_place ["section"] []
  g_section_place : mg "section_place" = some (.ref A.a_section_place)
  F_Contracts_in_force : Fun K "in_force" "Contracts.in_force" s_Contracts_in_force A.a_Contracts_in_force A.d_Contracts_in_force
  b_Contracts_in_force : Binds K A.d_Contracts_in_force ["self", "line", "clock"] []
  m_Contracts_in_force : Meth K A.C_Contracts (Str.ofString "in_force") A.a_Contracts_in_force
  F_ChargeRun_reason_against : Fun K "reason_against" "ChargeRun.reason_against" s_ChargeRun_reason_against A.a_ChargeRun_reason_against A.d_ChargeRun_reason_against
  b_ChargeRun_reason_against : Binds K A.d_ChargeRun_reason_against ["self", "section", "contract"] []
  m_ChargeRun_reason_against : Meth K A.C_ChargeRun (Str.ofString "reason_against") A.a_ChargeRun_reason_against
  F_Band_holds : Fun K "holds" "Band.holds" s_Band_holds A.a_Band_holds A.d_Band_holds
  b_Band_holds : Binds K A.d_Band_holds ["self", "called", "clock"] []
  m_Band_holds : Meth K A.C_Band (Str.ofString "holds") A.a_Band_holds
  F_Tariff_band_at : Fun K "band_at" "Tariff.band_at" s_Tariff_band_at A.a_Tariff_band_at A.d_Tariff_band_at
  b_Tariff_band_at : Binds K A.d_Tariff_band_at ["self", "called", "clock"] []
  m_Tariff_band_at : Meth K A.C_Tariff (Str.ofString "band_at") A.a_Tariff_band_at
  F_stretches : Fun K "stretches" "stretches" s_stretches A.a_stretches A.d_stretches
  b_stretches : Binds K A.d_stretches ["tariff", "called", "start", "begin", "till"] []
  g_stretches : mg "stretches" = some (.ref A.a_stretches)
  F_price_lines : Fun K "price_lines" "price_lines" s_price_lines A.a_price_lines A.d_price_lines
  b_price_lines : Binds K A.d_price_lines ["tariff", "called", "start", "begin", "till"] []
  g_price_lines : mg "price_lines" = some (.ref A.a_price_lines)
  F_ChargeRun_lines_of : Fun K "lines_of" "ChargeRun.lines_of" s_ChargeRun_lines_of A.a_ChargeRun_lines_of A.d_ChargeRun_lines_of
  b_ChargeRun_lines_of : Binds K A.d_ChargeRun_lines_of ["self", "section", "name", "free"] []
  m_ChargeRun_lines_of : Meth K A.C_ChargeRun (Str.ofString "lines_of") A.a_ChargeRun_lines_of
  F_ChargeRun_free_left : Fun K "free_left" "ChargeRun.free_left" s_ChargeRun_free_left A.a_ChargeRun_free_left A.d_ChargeRun_free_left
  b_ChargeRun_free_left : Binds K A.d_ChargeRun_free_left ["self", "account", "month"] []
  m_ChargeRun_free_left : Meth K A.C_ChargeRun (Str.ofString "free_left") A.a_ChargeRun_free_left
  F_Charge_init : Fun K "__init__" "Charge.__init__" s_Charge_init A.a_Charge_init A.d_Charge_init
  b_Charge_init : Binds K A.d_Charge_init ["self", "key", "account", "till", "mills"] []
  m_Charge_init : Mk K A.C_Charge A.a_Charge_init
  F_ChargeRun_take : Fun K "take" "ChargeRun.take" s_ChargeRun_take A.a_ChargeRun_take A.d_ChargeRun_take
  b_ChargeRun_take : Binds K A.d_ChargeRun_take ["self", "section"] []
  m_ChargeRun_take : Meth K A.C_ChargeRun (Str.ofString "take") A.a_ChargeRun_take
  F_charge_sections : Fun K "charge_sections" "charge_sections" s_charge_sections A.a_charge_sections A.d_charge_sections
  b_charge_sections : Binds K A.d_charge_sections ["sections", "contracts", "tariffs", "allowances"] []
  g_charge_sections : mg "charge_sections" = some (.ref A.a_charge_sections)
  F_Contracts_init : Fun K "__init__" "Contracts.__init__" s_Contracts_init A.a_Contracts_init A.d_Contracts_init
  b_Contracts_init : Binds K A.d_Contracts_init ["self"] []
  m_Contracts_init : Mk K A.C_Contracts A.a_Contracts_init
  F_Contracts_set_history : Fun K "set_history" "Contracts.set_history" s_Contracts_set_history A.a_Contracts_set_history A.d_Contracts_set_history
  b_Contracts_set_history : Binds K A.d_Contracts_set_history ["self", "line", "rows"] []
  m_Contracts_set_history : Meth K A.C_Contracts (Str.ofString "set_history") A.a_Contracts_set_history
  F_contracts_for : Fun K "contracts_for" "contracts_for" s_contracts_for A.a_contracts_for A.d_contracts_for
  b_contracts_for : Binds K A.d_contracts_for ["payers", "name"] []
  g_contracts_for : mg "contracts_for" = some (.ref A.a_contracts_for)
  F_cost_with : Fun K "cost_with" "cost_with" s_cost_with A.a_cost_with A.d_cost_with
  b_cost_with : Binds K A.d_cost_with ["sections", "payers", "name", "tariffs", "free"] []
  g_cost_with : mg "cost_with" = some (.ref A.a_cost_with)
  F_month_cost : Fun K "month_cost" "month_cost" s_month_cost A.a_month_cost A.d_month_cost
  b_month_cost : Binds K A.d_month_cost ["sections", "payers", "month", "name", "tariffs", "free"] []
  g_month_cost : mg "month_cost" = some (.ref A.a_month_cost)
  F_cost_table : Fun K "cost_table" "cost_table" s_cost_table A.a_cost_table A.d_cost_table
  b_cost_table : Binds K A.d_cost_table ["sections", "payers", "tariffs", "free"] []
  g_cost_table : mg "cost_table" = some (.ref A.a_cost_table)
  F_is_better : Fun K "is_better" "is_better" s_is_better A.a_is_better A.d_is_better
  b_is_better : Binds K A.d_is_better ["one", "other"] []
  g_is_better : mg "is_better" = some (.ref A.a_is_better)
  F_step_cost : Fun K "step_cost" "step_cost" s_step_cost A.a_step_cost A.d_step_cost
  b_step_cost : Binds K A.d_step_cost ["table", "month", "name", "before", "fee"] []
  g_step_cost : mg "step_cost" = some (.ref A.a_step_cost)
  F_ways_behind : Fun K "ways_behind" "ways_behind" s_ways_behind A.a_ways_behind A.d_ways_behind
  b_ways_behind : Binds K A.d_ways_behind ["ways", "table", "month", "names", "fee"] []
  g_ways_behind : mg "ways_behind" = some (.ref A.a_ways_behind)
  F_best_way : Fun K "best_way" "best_way" s_best_way A.a_best_way A.d_best_way
  b_best_way : Binds K A.d_best_way ["sections", "payers", "tariffs", "free", "fee"] []
  g_best_way : mg "best_way" = some (.ref A.a_best_way)
  F_law_asks : Fun K "_law_asks" "_law_asks" s_law_asks A.a_law_asks A.d_law_asks
  b_law_asks : Binds K A.d_law_asks ["sections", "payers", "tariffs", "free", "fee"] []
  g_law_asks : mg "_law_asks" = some (.ref A.a_law_asks)
  F_law_ways : Fun K "_law_ways" "_law_ways" s_law_ways A.a_law_ways A.d_law_ways
  b_law_ways : Binds K A.d_law_ways ["names", "count"] []
  g_law_ways : mg "_law_ways" = some (.ref A.a_law_ways)
  F_law_price : Fun K "_law_price" "_law_price" s_law_price A.a_law_price A.d_law_price
  b_law_price : Binds K A.d_law_price ["way", "months", "table", "fee"] []
  g_law_price : mg "_law_price" = some (.ref A.a_law_price)
  F_law_best : Fun K "_law_best" "_law_best" s_law_best A.a_law_best A.d_law_best
  b_law_best : Binds K A.d_law_best ["names", "months", "table", "fee"] []
  g_law_best : mg "_law_best" = some (.ref A.a_law_best)
  F_law : Fun K "law" "law" s_law A.a_law A.d_law
  b_law : Binds K A.d_law ["script"] []
  g_law : mg "law" = some (.ref A.a_law)
  g_Band : mg "Band" = some (.ref A.C_Band)
  c_Band : Cls K A.C_Band
  g_Tariff : mg "Tariff" = some (.ref A.C_Tariff)
  c_Tariff : Cls K A.C_Tariff
  g_Charge : mg "Charge" = some (.ref A.C_Charge)
  c_Charge : Cls K A.C_Charge
  g_ChargeRun : mg "ChargeRun" = some (.ref A.C_ChargeRun)
  c_ChargeRun : Cls K A.C_ChargeRun
  g_NoTariff : mg "NoTariff" = some (.ref A.C_NoTariff)
  x_NoTariff : XcT K A.C_NoTariff
  g_Contracts : mg "Contracts" = some (.ref A.C_Contracts)
  c_Contracts : Cls K A.C_Contracts
  g_Section : mg "Section" = some (.ref A.C_Section)
  c_Section : Cls K A.C_Section
  e_NoTariff_NoTariff : PySem.W.exmOne K (.ref A.C_NoTariff) (.ref A.C_NoTariff) = some true
  n_Band_from_hour : NoAttr K A.C_Band (Str.ofString "from_hour")
  n_Band_label : NoAttr K A.C_Band (Str.ofString "label")
  n_Band_prefix : NoAttr K A.C_Band (Str.ofString "prefix")
  n_Band_price : NoAttr K A.C_Band (Str.ofString "price")
  n_Band_to_hour : NoAttr K A.C_Band (Str.ofString "to_hour")
  n_Charge_account : NoAttr K A.C_Charge (Str.ofString "account")
  n_Charge_key : NoAttr K A.C_Charge (Str.ofString "key")
  n_Charge_mills : NoAttr K A.C_Charge (Str.ofString "mills")
  n_Charge_till : NoAttr K A.C_Charge (Str.ofString "till")
  n_ChargeRun_allowances : NoAttr K A.C_ChargeRun (Str.ofString "allowances")
  n_ChargeRun_charges : NoAttr K A.C_ChargeRun (Str.ofString "charges")
  n_ChargeRun_contracts : NoAttr K A.C_ChargeRun (Str.ofString "contracts")
  n_ChargeRun_left_out : NoAttr K A.C_ChargeRun (Str.ofString "left_out")
  n_ChargeRun_tariffs : NoAttr K A.C_ChargeRun (Str.ofString "tariffs")
  n_ChargeRun_used : NoAttr K A.C_ChargeRun (Str.ofString "used")
  n_Contracts_histories : NoAttr K A.C_Contracts (Str.ofString "histories")
  n_Section_called : NoAttr K A.C_Section (Str.ofString "called")
  n_Section_opened : NoAttr K A.C_Section (Str.ofString "opened")
  n_Section_owner : NoAttr K A.C_Section (Str.ofString "owner")
  n_Section_payer : NoAttr K A.C_Section (Str.ofString "payer")
  n_Section_seconds : NoAttr K A.C_Section (Str.ofString "seconds")
  n_Section_start : NoAttr K A.C_Section (Str.ofString "start")
  n_Tariff_bands : NoAttr K A.C_Tariff (Str.ofString "bands")
  n_Tariff_setup_price : NoAttr K A.C_Tariff (Str.ofString "setup_price")
  z_int : mg "int" = none
  z_len : mg "len" = none
  z_min : mg "min" = none
  z_range : mg "range" = none
  z_sorted : mg "sorted" = none
  z_sum : mg "sum" = none
  z_tuple : mg "tuple" = none
  k_DAY : ∃ t, mg "DAY" = some (.int 86400 t)
  k_HOUR : ∃ t, mg "HOUR" = some (.int 3600 t)
  k_MINUTE : ∃ t, mg "MINUTE" = some (.int 60 t)
  k_MONTH : ∃ t, mg "MONTH" = some (.int 2592000 t)
  k_MONTH_SECONDS : ∃ t, mg "MONTH_SECONDS" = some (.int 2592000 t)
  k_NOBODY : ∃ t, mg "NOBODY" = some (.str (Str.ofString "advised") t)
section
variable {P : Program} {w : World} {K : PySem.W.Frag} {mg : Str → Option Value} {base : Heap} {A : Ad}
/-! charges of sections -/
def nmsT : List Str := ["big", "day", "std"]
/-- a fact put out of simp's sight -/
def Hid (p : Prop) : Prop := p
/-- a band -/
structure Bd where
  lab : Str
  pre : Str
  fh : Int
  th : Int
  pr : Int
  ok : 0 ≤ pr ∧ pr ≤ 1000 ∧ pre.length ≤ 1000
structure Tf where
  su : Int
  bs : List Bd
/-- a section -/
structure Sc where
  k : Int
  pay : Option Str
  cal : Str
  op : Int
  st : Int
  sec : Int
  ok : 0 ≤ sec ∧ sec ≤ 5000 ∧ 0 ≤ op ∧ op < 10368000
def optS : Option Str → D
  | none => .non
  | some s => .str s
def ownD (k : Int) : D := .tup [.int 0, .int 1, .int k]
def bdF (b : Bd) : List (String × D) := [("label", .str b.lab), ("prefix", .str b.pre), ("from_hour", .int b.fh), ("to_hour", .int b.th), ("price", .int b.pr)]
def bdD (A : Ad) (b : Bd) : D := .ins A.C_Band (bdF b)
def tfD (A : Ad) (t : Tf) : D := .ins A.C_Tariff [("setup_price", .int t.su), ("bands", .tup (t.bs.map (bdD A)))]
def scD (A : Ad) (s : Sc) : D := .ins A.C_Section [("owner", ownD s.k), ("payer", optS s.pay), ("called", .str s.cal), ("opened", .int s.op), ("start", .int s.st), ("seconds", .int s.sec)]
def holdsF (b : Bd) (cal : Str) (t : Int) : Bool := Txt.startswith cal b.pre && decide (b.fh ≤ t % 86400 / 3600 ∧ t % 86400 / 3600 < b.th)
def lessP : Option Bd → Bd → Bool
  | none, _ => true
  | some x, b => decide (x.pre.length < b.pre.length)
def bestS (cal : Str) (t : Int) (r : Option Bd) (b : Bd) : Option Bd := if holdsF b cal t = true ∧ lessP r b = true then some b else r
def bestF (cal : Str) (t : Int) (bs : List Bd) : Option Bd := bs.foldl (bestS cal t) none
def optB (A : Ad) : Option Bd → D
  | none => .non
  | some b => bdD A b
/-- a piece: its band, from, to -/
abbrev Pc := Bd × Int × Int
def pcD (A : Ad) (p : Pc) : D := .tup [bdD A p.1, .int p.2.1, .int p.2.2]
def putP (b : Bd) (p a : Int) (L : List Pc) : List Pc := match L.getLast? with
  | some x => if x.1.lab = b.lab then L.dropLast ++ [(b, x.2.1, a)] else L ++ [(b, p, a)]
  | none => L ++ [(b, p, a)]
def stF (bs : List Bd) (cal : Str) (st till : Int) : Nat → Int → List Pc → Option (List Pc)
  | 0, _, L => some L
  | n + 1, p, L => if p < till then
      match bestF cal (st + p) bs with
      | none => none
      | some b => stF bs cal st till n (min till (p + 3600 - (st + p) % 3600)) (putP b p (min till (p + 3600 - (st + p) % 3600)) L)
    else some L
def stretchF (bs : List Bd) (cal : Str) (st b till : Int) : Option (List Pc) := stF bs cal st till (till - b).toNat b []
def optL {α : Type} (f : α → D) : Option (List α) → D
  | none => .non
  | some L => .lst (L.map f)
theorem putP_nil (b : Bd) (p a : Int) : putP b p a [] = [(b, p, a)] := rfl
theorem putP_snoc (b : Bd) (p a : Int) (L : List Pc) (x : Pc) : putP b p a (L ++ [x]) = if x.1.lab = b.lab then L ++ [(b, x.2.1, a)] else L ++ [x] ++ [(b, p, a)] := by
  unfold putP
  rw [List.getLast?_concat]
  simp only [List.dropLast_concat]
theorem putP_len (b : Bd) (p a : Int) (L : List Pc) : (putP b p a L).length ≤ L.length + 1 := by
  rcases List.eq_nil_or_concat L with rfl | ⟨M, x, rfl⟩
  · simp [putP_nil]
  · rw [List.concat_eq_append, putP_snoc]
    split <;> simp
theorem stF_done {bs : List Bd} {cal : Str} {st till : Int} {p : Int} {L : List Pc} (h : ¬ p < till) (n : Nat) : stF bs cal st till n p L = some L := by
  cases n with
  | zero => rfl
  | succ n => exact if_neg h
theorem stF_go {bs : List Bd} {cal : Str} {st till : Int} {p : Int} {L : List Pc} (h : p < till) (n : Nat) : stF bs cal st till (n + 1) p L = match bestF cal (st + p) bs with
      | none => none
      | some b => stF bs cal st till n (min till (p + 3600 - (st + p) % 3600)) (putP b p (min till (p + 3600 - (st + p) % 3600)) L) := if_pos h
theorem stF_len {bs : List Bd} {cal : Str} {st till b0 : Int} : ∀ (n : Nat) (p : Int) (L R : List Pc), stF bs cal st till n p L = some R → b0 ≤ p → 3600 * ((L.length : Int) - 2) ≤ p - b0 →
    (p < till → L.length = 0 ∨ ((st + p) % 3600 = 0 ∧ 3600 * ((L.length : Int) - 1) ≤ p - b0)) → b0 ≤ till → p ≤ till → 3600 * ((R.length : Int) - 2) ≤ till - b0
  | 0, p, L, R, h, _, h1, _, _, h3 => by
    injection h with h
    subst h
    omega
  | n + 1, p, L, R, h, hb, h1, h2, h3, h4 => by
    by_cases g : p < till
    · rw [stF_go g] at h
      split at h
      · cases h
      · rename_i b _
        have hl := putP_len b p (min till (p + 3600 - (st + p) % 3600)) L
        refine stF_len n _ _ R h (by omega) ?_ (fun g2 => .inr ?_) h3 (by omega)
        · rcases h2 g with h2 | ⟨h2, h5⟩
          · omega
          · omega
        · rcases h2 g with h2 | ⟨h2, h5⟩
          · omega
          · omega
    · rw [stF_done g] at h
      injection h with h
      subst h
      omega
theorem stretch_len {bs : List Bd} {cal : Str} {st b till : Int} {R : List Pc} (h : stretchF bs cal st b till = some R) (hb : b ≤ till) (hl : till - b ≤ 5000) : R.length ≤ 3 := by
  have := stF_len (b0 := b) _ _ _ _ h (by omega) (by simp) (fun _ => .inl rfl) hb hb
  omega
theorem ixN_last (n : Nat) : ixN (n + 1) (-1) = some n := by
  unfold ixN
  rw [if_neg (by decide), if_pos (by omega)]
  congr 1
  omega
theorem set_last {α : Type} (L : List α) (x y : α) : (L ++ [x]).set L.length y = L ++ [y] := by
  induction L with
  | nil => rfl
  | cons a L ih => rw [List.cons_append, List.length_cons, List.set_cons_succ, ih]; rfl
/-- a line of prices -/
structure Ln where
  lab : Str
  lo : Int
  hi : Int
  mi : Int
def lnD (l : Ln) : D := .tup [.str l.lab, .int l.lo, .int l.hi, .int l.mi]
def lnP (p : Pc) : Ln := ⟨p.1.lab, p.2.1, p.2.2, p.1.pr * ((p.2.2 - p.2.1 + 60 - 1) / 60)⟩
def plF (t : Tf) (cal : Str) (st b till : Int) : Option (List Ln) := (stretchF t.bs cal st b till).map fun L => (⟨"setup", b, b, t.su⟩ : Ln) :: L.map lnP
theorem plF_len {t : Tf} {cal : Str} {st b till : Int} {R : List Ln} (h : plF t cal st b till = some R) (hb : b ≤ till) (hl : till - b ≤ 5000) : R.length ≤ 4 := by
  unfold plF at h
  cases e : stretchF t.bs cal st b till with
  | none => rw [e] at h; cases h
  | some L =>
    rw [e] at h
    injection h with h
    have := stretch_len e hb hl
    rw [← h, List.length_cons, List.length_map]
    omega
def linesF (t : Tf) (s : Sc) (free : Int) : Option (List Ln) := (if free < s.sec then plF t s.cal s.st free s.sec else some []).map fun L => if free > 0 then (⟨"free", 0, free, 0⟩ : Ln) :: L else L
theorem linesF_len {t : Tf} {s : Sc} {free : Int} {R : List Ln} (h : linesF t s free = some R) (h0 : 0 ≤ free) : R.length ≤ 5 := by
  unfold linesF at h
  have hs := s.ok
  by_cases g : free < s.sec
  · rw [if_pos g] at h
    cases e : plF t s.cal s.st free s.sec with
    | none => rw [e] at h; cases h
    | some L =>
      rw [e] at h
      injection h with h
      have := plF_len e (by omega) (by omega)
      rw [← h]
      dsimp only
      split
      · rw [List.length_cons]; omega
      · omega
  · rw [if_neg g] at h
    injection h with h
    rw [← h]
    split <;> simp
/-- a row of a history -/
structure Rh where
  since : Int
  acc : Option Str
  nm : Str
def rhD (r : Rh) : D := .tup [.int r.since, optS r.acc, .str r.nm]
abbrev Hist := List (Str × List Rh)
def hiK (h : Hist) : List (L2.Key × D) := h.map fun p => (Sum.inr p.1, .tup (p.2.map rhD))
def rowOf (rs : List Rh) (c : Int) : Option Rh := rs.foldl (fun f r => if r.since ≤ c then some r else f) none
def fndD : Option Rh → D
  | none => .non
  | some r => .tup [optS r.acc, .str r.nm]
def conOf : Option Rh → Option (Str × Str)
  | none => none
  | some r => match r.acc with
    | none => none
    | some a => some (a, r.nm)
def inForceF (h : Hist) (p : Str) (c : Int) : Option (Str × Str) := conOf (rowOf ((lkA h p).getD []) c)
def conD : Option (Str × Str) → D
  | none => .non
  | some (a, n) => .tup [.str a, .str n]
abbrev Tab := List (Str × Tf)
def tsK (A : Ad) (ts : Tab) : List (L2.Key × D) := ts.map fun p => (Sum.inr p.1, tfD A p.2)
abbrev Alw := List (Str × Int)
def alK (al : Alw) : List (L2.Key × D) := al.map fun p => (Sum.inr p.1, .int p.2)
def alF (al : Alw) (a : Str) : Int := (lkA al a).getD 0
/-- free seconds that were used -/
abbrev Us := List ((Str × Int) × Int)
def usK (u : Us) : List (List L2.Key × D) := u.map fun e => ([Sum.inr e.1.1, Sum.inl e.1.2], .int e.2)
def usKey (k : Str × Int) : List L2.Key := [Sum.inr k.1, Sum.inl k.2]
theorem usKey_inj (a b : Str × Int) (h : usKey a = usKey b) : a = b := by
  obtain ⟨a1, a2⟩ := a
  obtain ⟨b1, b2⟩ := b
  simp only [usKey, List.cons.injEq, Sum.inr.injEq, Sum.inl.injEq, and_true] at h
  rw [h.1, h.2]
def getU (u : Us) (k : Str × Int) : Int := (lkA u k).getD 0
theorem us_get (u : Us) (k : Str × Int) : (vaD (usK u) (usKey k)).getD (.int 0) = .int (getU u k) := by
  have := va_tab usKey usKey_inj D.int k u
  unfold usK getU
  rw [show (fun e : (Str × Int) × Int => (([Sum.inr e.1.1, Sum.inl e.1.2] : List L2.Key), D.int e.2)) = fun p => (usKey p.1, D.int p.2) from rfl, this]
  cases lkA u k <;> rfl
theorem us_put (u : Us) (k : Str × Int) (v : Int) : puD (usK u) (usKey k) (.int v) = usK (puA u k v) := pu_tab usKey usKey_inj D.int u k v
theorem getU_put (u : Us) (k k' : Str × Int) (v : Int) : getU (puA u k v) k' = if k' = k then v else getU u k' := by
  unfold getU
  rw [lkA_pu]
  split <;> rfl
theorem inr_inj (a b : Str) (h : (Sum.inr a : L2.Key) = Sum.inr b) : a = b := Sum.inr.inj h
/-- a charge -/
structure Cg where
  k : Int
  lo : Int
  lab : Str
  acc : Str
  hi : Int
  mi : Int
def cgKey (c : Cg) : D := .tup [ownD c.k, .int c.lo, .str c.lab]
def cgD (A : Ad) (c : Cg) : D := .ins A.C_Charge [("key", cgKey c), ("account", .str c.acc), ("till", .int c.hi), ("mills", .int c.mi)]
def lfD (e : Int × Str) : D := .tup [ownD e.1, .str e.2]
structure Rs where
  u : Us
  ch : List Cg
  lf : List (Int × Str)
def mkCg (k : Int) (a : Str) (l : Ln) : Cg := ⟨k, l.lo, l.lab, a, l.hi, l.mi⟩
def reasonF (ts : Tab) : Option (Str × Str) → Option Str
  | none => some "no contract"
  | some (_, n) => if (lkA ts n).isSome = true then none else some "no tariff"
def takeT (t : Tf) (a : Str) (f : Int) (s : Sc) (rs : Rs) : Rs := match linesF t s f with
  | none => { rs with lf := rs.lf ++ [(s.k, ("no band" : Str))] }
  | some L => ⟨puA rs.u (a, s.op / 2592000) (getU rs.u (a, s.op / 2592000) + f), rs.ch ++ L.map (mkCg s.k a), rs.lf⟩
def takeC (ts : Tab) (al : Alw) (c : Option (Str × Str)) (s : Sc) (rs : Rs) : Rs := match c with
  | none => { rs with lf := rs.lf ++ [(s.k, ("no contract" : Str))] }
  | some (a, n) => match lkA ts n with
    | none => { rs with lf := rs.lf ++ [(s.k, ("no tariff" : Str))] }
    | some t => takeT t a (min s.sec (alF al a - getU rs.u (a, s.op / 2592000))) s rs
def takeF (h : Hist) (ts : Tab) (al : Alw) (s : Sc) (rs : Rs) : Rs := match s.pay with
  | none => rs
  | some p => takeC ts al (inForceF h p s.op) s rs
def freeS (s : Sc) : Bool := s.pay.isNone || decide (s.sec = 0)
def stepF (h : Hist) (ts : Tab) (al : Alw) (rs : Rs) (s : Sc) : Rs := if freeS s = true then rs else takeF h ts al s rs
def leS (a b : Sc) : Bool := decide (a.op < b.op ∨ (a.op = b.op ∧ a.k ≤ b.k))
def runF (h : Hist) (ts : Tab) (al : Alw) (ss : List Sc) : Rs := (ss.mergeSort leS).foldl (stepF h ts al) ⟨[], [], []⟩
/-- never more free seconds than there are -/
def UOk (al : Alw) (u : Us) : Prop := ∀ k, 0 ≤ getU u k ∧ getU u k ≤ alF al k.1
structure ROk (al : Alw) (n : Nat) (rs : Rs) : Prop where
  u : UOk al rs.u
  lu : rs.u.length ≤ n
  lc : rs.ch.length ≤ 5 * n
  ll : rs.lf.length ≤ n
theorem takeC_ok {ts : Tab} {al : Alw} {c : Option (Str × Str)} {s : Sc} {rs : Rs} {n : Nat} (h : ROk al n rs) : ROk al (n + 1) (takeC ts al c s rs) := by
  have hl : ∀ r : Int × Str, ROk al (n + 1) { rs with lf := rs.lf ++ [r] } := fun r => ⟨h.u, Nat.le_succ_of_le h.lu, by have := h.lc; show rs.ch.length ≤ _; omega, by have := h.ll; show (rs.lf ++ [r]).length ≤ _; rw [List.length_append]; simp; omega⟩
  unfold takeC
  split
  · exact hl _
  · rename_i a n'
    split
    · exact hl _
    · rename_i t ht
      have hu := h.u (a, s.op / 2592000)
      dsimp only at hu
      have hs := s.ok
      unfold takeT
      split
      · exact hl _
      · rename_i L hL
        have := linesF_len hL (by omega)
        refine ⟨fun k => ?_, ?_, ?_, ?_⟩
        · rw [getU_put]
          by_cases g : k = (a, s.op / 2592000)
          · rw [if_pos g, g]; dsimp only; omega
          · rw [if_neg g]; exact h.u k
        · have := puA_len rs.u (a, s.op / 2592000) (getU rs.u (a, s.op / 2592000) + min s.sec (alF al a - getU rs.u (a, s.op / 2592000)))
          have := h.lu
          dsimp only
          omega
        · have := h.lc
          dsimp only
          rw [List.length_append, List.length_map]
          omega
        · have := h.ll
          dsimp only
          omega
theorem stepF_ok {hi : Hist} {ts : Tab} {al : Alw} {s : Sc} {rs : Rs} {n : Nat} (h : ROk al n rs) : ROk al (n + 1) (stepF hi ts al rs s) := by
  have h0 : ROk al (n + 1) rs := ⟨h.u, Nat.le_succ_of_le h.lu, by have := h.lc; omega, Nat.le_succ_of_le h.ll⟩
  unfold stepF
  split
  · exact h0
  · unfold takeF
    split
    · exact h0
    · exact takeC_ok h
def NnA (al : Alw) : Prop := ∀ a, 0 ≤ alF al a
theorem ROk.start {al : Alw} (h : NnA al) : ROk al 0 ⟨[], [], []⟩ := ⟨fun k => ⟨Int.le_refl _, h k.1⟩, Nat.le_refl _, Nat.le_refl _, Nat.le_refl _⟩
theorem runF_ok {hi : Hist} {ts : Tab} {al : Alw} (h : NnA al) : ∀ ss : List Sc, ROk al ss.length (ss.foldl (stepF hi ts al) ⟨[], [], []⟩) := fun ss => by
  have go : ∀ (ss : List Sc) (rs : Rs) (n : Nat), ROk al n rs → ROk al (n + ss.length) (ss.foldl (stepF hi ts al) rs) := fun ss => by
    induction ss with
    | nil => exact fun rs n h => h
    | cons s ss ih =>
      intro rs n h
      rw [List.foldl_cons, List.length_cons]
      have := ih (stepF hi ts al rs s) (n + 1) (stepF_ok h)
      rw [show n + (ss.length + 1) = n + 1 + ss.length by omega]
      exact this
  have := go ss _ 0 (ROk.start h)
  rw [Nat.zero_add] at this
  exact this
/-- sections sorted -/
def keyS (s : Sc) : D := .tup [.int s.op, ownD s.k]
theorem dataLt_own (o k o' k' : Int) : PySem.W.dataLt (.tuple [.int o, .tuple [.int 0, .int 1, .int k]]) (.tuple [.int o', .tuple [.int 0, .int 1, .int k']]) = decide (o < o' ∨ (o = o' ∧ k < k')) := by
  rw [PySem.W.dataLt_pair (by simp [PySem.W.alike]) (by simp [PySem.W.alike, PySem.W.alikeAll]), PySem.W.dataLt_int, PySem.W.dataLt_tuple, PySem.W.dataLt_cons (by simp [PySem.W.alike]), PySem.W.dataLt_cons (by simp [PySem.W.alike]), PySem.W.dataLt_cons (by simp [PySem.W.alike]), PySem.W.dataLt_int, PySem.W.dataLt_int, PySem.W.dataLt_int]
  have e : PyProof.Rows.lexLt PyProof.Rows.itemOrd (PySem.W.keyToksAll []) (PySem.W.keyToksAll []) = false := PyProof.Rows.lex_irrefl _
  rw [e]
  simp only [PyData.eqv, beq_iff_eq]
  by_cases h1 : o = o' <;> by_cases h2 : k = k' <;> simp [h1, h2, PyData.eqvAll, PyData.eqv]
theorem leD_keyS (a b : Sc) : leD (keyS a) (keyS b) = leS a b := by
  have h : PySem.W.dataLt (keyS b).py (keyS a).py = decide (b.op < a.op ∨ (b.op = a.op ∧ b.k < a.k)) := by
    rw [← dataLt_own]
    simp only [keyS, ownD, D.py, pys]
  show (!PySem.W.dataLt (keyS b).py (keyS a).py) = _
  rw [h]
  unfold leS
  by_cases g : b.op < a.op ∨ (b.op = a.op ∧ b.k < a.k)
  · rw [decide_eq_true g, decide_eq_false (by omega)]; rfl
  · rw [decide_eq_false g, decide_eq_true (by omega)]; rfl
theorem sorts_keyS (ss : List Sc) : SortsD (ss.map keyS) := by
  refine ⟨⟨2, by decide, fun d hd => ?_⟩, ?_, ?_⟩
  · obtain ⟨s, _, rfl⟩ := List.mem_map.mp hd
    refine .tup fun e he => ?_
    simp only [List.mem_cons, List.not_mem_nil, or_false] at he
    rcases he with rfl | rfl
    · exact .int _
    · refine .tup fun e he => ?_
      simp only [List.mem_cons, List.not_mem_nil, or_false] at he
      rcases he with rfl | rfl | rfl <;> exact .int _
  · rw [List.map_map]
    exact PySem.W.AllAlike.of fun b b' => by simp [keyS, ownD, D.py, pys, PySem.W.alike, PySem.W.alikeAll]
  · rw [List.map_map]
    exact PySem.W.Sortable.tuples fun b => ⟨.int b.op, [.tuple [.int 0, .int 1, .int b.k]], by simp [keyS, ownD, D.py, pys]⟩
/-- the key of a section's data -/
def keyD' (d : D) : D := match d with
  | .ins _ fs => .tup [(fs.lookup "opened").getD .non, (fs.lookup "owner").getD .non]
  | _ => .non
theorem keyD_sc (A : Ad) (s : Sc) : keyD' (scD A s) = keyS s := rfl
theorem sort_sc (A : Ad) (ss : List Sc) : (ss.map (scD A)).mergeSort (leK keyD') = (ss.mergeSort leS).map (scD A) :=
  (List.map_mergeSort (r := leS) (s := leK keyD') (f := scD A) fun a _ b _ => by unfold leK; rw [keyD_sc, keyD_sc, leD_keyS]).symm
def optIntD : Option Int → D
  | none => .non
  | some t => .int t
def payD (ps : List Str) : D := .lst (ps.map D.str)
/-- what is paid -/
def askF (ss : List Sc) (ps : List Str) : List Sc := ss.filter fun s => !freeS s && (match s.pay with | none => false | some p => decide (p ∈ ps))
def histF (a n : Str) (ps : List Str) : Hist := ps.foldl (fun h p => puA h p [⟨0, some a, n⟩]) []
def costF (ss : List Sc) (ps : List Str) (n : Str) (ts : Tab) (a : Str) (f : Int) : Option Int :=
  let r := runF (histF a n ps) ts [(a, f)] (askF ss ps)
  if r.lf = [] then some ((r.ch.map fun c => c.mi).sum) else none
theorem fmc {α β : Type} {f g : α → Option β} : ∀ {l : List α}, (∀ a ∈ l, f a = g a) → l.filterMap f = l.filterMap g
  | [], _ => rfl
  | a :: l, h => by
    rw [List.filterMap_cons, List.filterMap_cons, h a List.mem_cons_self, fmc fun b hb => h b (List.mem_cons_of_mem _ hb)]
def bestO (rs : List (Int × Int × Option Int)) (b : Option (Nat × Int)) (i : Nat) : Option (Nat × Int) := match rs[i]? with
  | some (_, _, some c) => match b with
    | none => some (i, c)
    | some (j, x) => if c < x then some (i, c) else some (j, x)
  | _ => b
def bestR (rs : List (Int × Int × Option Int)) : Option (Nat × Int) := (List.range rs.length).foldl (bestO rs) none
def leastF (R : List (Int × Int × Option Int)) : List (Int × Int) := (List.range R.length).filterMap fun (i : Nat) => match R[i]? with
  | some (_, _, some c) => some (c, (i : Int))
  | _ => none
theorem least_mem {R : List (Int × Int × Option Int)} {c j : Int} : (c, j) ∈ leastF R ↔ ∃ (i : Nat) (a b : Int), j = i ∧ R[i]? = some (a, b, some c) := by
  unfold leastF
  rw [List.mem_filterMap]
  constructor
  · rintro ⟨i, _, h⟩
    split at h
    · rename_i a b c' hr
      injection h with h
      injection h with h1 h2
      exact ⟨i, a, b, h2.symm, by rw [← h1]; exact hr⟩
    · cases h
  · rintro ⟨i, a, b, rfl, hr⟩
    refine ⟨i, List.mem_range.mpr (List.getElem?_eq_some_iff.mp hr).1, ?_⟩
    rw [hr]
structure BestOk (R : List (Int × Int × Option Int)) (k : Nat) (b : Option (Nat × Int)) : Prop where
  no : b = none → ∀ i, i < k → ∀ x y c, R[i]? ≠ some (x, y, some c)
  yes : ∀ i c, b = some (i, c) → (i < k ∧ ∃ x y, R[i]? = some (x, y, some c)) ∧ ∀ i' x y c', i' < k → R[i']? = some (x, y, some c') → c < c' ∨ (c = c' ∧ i ≤ i')
theorem best_ok (R : List (Int × Int × Option Int)) : ∀ k, k ≤ R.length → BestOk R k ((List.range k).foldl (bestO R) none)
  | 0, _ => ⟨fun _ i hi => absurd hi (Nat.not_lt_zero _), fun _ _ h => nomatch h⟩
  | k + 1, hk => by
    have ih := best_ok R k (by omega)
    rw [List.range_succ, List.foldl_append]
    show BestOk R (k + 1) (bestO R ((List.range k).foldl (bestO R) none) k)
    generalize (List.range k).foldl (bestO R) none = b at ih
    obtain ⟨⟨x, y, z⟩, hr⟩ : ∃ r, R[k]? = some r := ⟨_, List.getElem?_eq_getElem (by omega)⟩
    have mine : ∀ x' y' c', R[k]? = some (x', y', some c') → z = some c' := fun x' y' c' h => by
      rw [hr] at h
      injection h with h
      injection h with h1 h2
      injection h2 with h2 h3
    unfold bestO
    rw [hr]
    cases z with
    | none =>
      refine ⟨fun hb i hi x' y' c' h => ?_, fun i c hb => ⟨⟨Nat.lt_succ_of_lt (ih.yes i c hb).1.1, (ih.yes i c hb).1.2⟩, fun i' x' y' c' hi h => ?_⟩⟩
      · by_cases e : i = k
        · subst e; exact nomatch mine _ _ _ h
        · exact ih.no hb i (by omega) x' y' c' h
      · by_cases e : i' = k
        · subst e; exact nomatch mine _ _ _ h
        · exact (ih.yes i c hb).2 i' x' y' c' (by omega) h
    | some c =>
      cases b with
      | none =>
        refine ⟨(fun hb => nomatch hb), fun i c1 hb => ?_⟩
        injection hb with hb
        injection hb with h1 h2
        subst h1; subst h2
        refine ⟨⟨Nat.lt_succ_self _, x, y, hr⟩, fun i' x' y' c' hi h => ?_⟩
        by_cases e : i' = k
        · subst e
          have := mine _ _ _ h
          injection this with this
          exact .inr ⟨this, Nat.le_refl _⟩
        · exact absurd h (ih.no rfl i' (by omega) x' y' c')
      | some jx =>
        obtain ⟨j, v⟩ := jx
        obtain ⟨hj1, hj2⟩ := ih.yes j v rfl
        dsimp only
        by_cases g : c < v
        · rw [if_pos g]
          refine ⟨(fun hb => nomatch hb), fun i c1 hb => ?_⟩
          injection hb with hb
          injection hb with h1 h2
          subst h1; subst h2
          refine ⟨⟨Nat.lt_succ_self _, x, y, hr⟩, fun i' x' y' c' hi h => ?_⟩
          by_cases e : i' = k
          · subst e
            have := mine _ _ _ h
            injection this with this
            exact .inr ⟨this, Nat.le_refl _⟩
          · rcases hj2 i' x' y' c' (by omega) h with h3 | h3
            · exact .inl (by omega)
            · exact .inl (by omega)
        · rw [if_neg g]
          refine ⟨(fun hb => nomatch hb), fun i c1 hb => ?_⟩
          injection hb with hb
          injection hb with h1 h2
          subst h1; subst h2
          refine ⟨⟨Nat.lt_succ_of_lt hj1.1, hj1.2⟩, fun i' x' y' c' hi h => ?_⟩
          by_cases e : i' = k
          · subst e
            have := mine _ _ _ h
            injection this with this
            have := hj1.1
            omega
          · exact hj2 i' x' y' c' (by omega) h
theorem least_best (R : List (Int × Int × Option Int)) : ((leastF R).mergeSort lePair).head? = (bestR R).map fun p => (p.2, (p.1 : Int)) := by
  have hb := best_ok R R.length (Nat.le_refl _)
  unfold bestR
  generalize (List.range R.length).foldl (bestO R) none = b at hb
  have hs := lePair_sorted (leastF R)
  have hm : ∀ p, p ∈ (leastF R).mergeSort lePair ↔ p ∈ leastF R := fun p => List.mem_mergeSort
  generalize (leastF R).mergeSort lePair = L at hs hm
  cases b with
  | none =>
    cases L with
    | nil => rfl
    | cons p L =>
      obtain ⟨c, j⟩ := p
      obtain ⟨i, a, b, _, hr⟩ := least_mem.mp ((hm _).mp List.mem_cons_self)
      exact absurd hr (hb.no rfl i (List.getElem?_eq_some_iff.mp hr).1 a b c)
  | some ic =>
    obtain ⟨i, c⟩ := ic
    obtain ⟨⟨h0, x, y, h1⟩, h2⟩ := hb.yes i c rfl
    have hi : (c, (i : Int)) ∈ L := (hm _).mpr (least_mem.mpr ⟨i, x, y, rfl, h1⟩)
    cases L with
    | nil => cases hi
    | cons p L =>
      obtain ⟨c', j⟩ := p
      obtain ⟨i', a', b', rfl, hr⟩ := least_mem.mp ((hm _).mp List.mem_cons_self)
      have h3 := h2 i' a' b' c' (List.getElem?_eq_some_iff.mp hr).1 hr
      rw [List.pairwise_cons] at hs
      rcases List.mem_cons.mp hi with e | hi
      · show some (c', (i' : Int)) = some (c, (i : Int))
        rw [e]
      · have h4 := hs.1 _ hi
        dsimp only at h4
        have e1 : c' = c := by omega
        have e2 : i' = i := by omega
        rw [e1, e2]; rfl
theorem lk_hist (a n : Str) (p : Str) : ∀ (ps : List Str) (h : Hist), lkA (ps.foldl (fun h p => puA h p [⟨0, some a, n⟩]) h) p = if p ∈ ps then some [⟨0, some a, n⟩] else lkA h p
  | [], h => by simp
  | x :: ps, h => by
    rw [List.foldl_cons, lk_hist a n p ps, lkA_pu]
    by_cases g : p ∈ ps
    · rw [if_pos g, if_pos (List.mem_cons_of_mem _ g)]
    · rw [if_neg g]
      by_cases g2 : p = x
      · rw [if_pos g2, if_pos (by rw [g2]; exact List.mem_cons_self)]
      · rw [if_neg g2, if_neg (fun z => (List.mem_cons.mp z).elim g2 g)]
theorem force_hist (a n : Str) (ps : List Str) (p : Str) (c : Int) (hc : 0 ≤ c) : inForceF (histF a n ps) p c = if p ∈ ps then some (a, n) else none := by
  unfold inForceF histF
  rw [lk_hist]
  by_cases g : p ∈ ps
  · rw [if_pos g, if_pos g]
    show conOf (if (0 : Int) ≤ c then some _ else none) = _
    rw [if_pos hc]; rfl
  · rw [if_neg g, if_neg g]; rfl
structure Sim (a b : Str) (r r' : Rs) : Prop where
  lf : r.lf = r'.lf
  mi : (r.ch.map fun c => c.mi) = r'.ch.map fun c => c.mi
  us : ∀ m, getU r.u (a, m) = getU r'.u (b, m)
theorem al_one (a : Str) (f : Int) : alF [(a, f)] a = f := by
  unfold alF
  rw [lkA_cons, if_pos rfl]; rfl
theorem mi_mk (k : Int) (a b : Str) (L : List Ln) : (L.map (mkCg k a)).map (fun c => c.mi) = (L.map (mkCg k b)).map fun c => c.mi := by
  rw [List.map_map, List.map_map]; rfl
theorem sim_take {a b n : Str} {ts : Tab} {f : Int} {s : Sc} {r r' : Rs} (h : Sim a b r r') : Sim a b (takeC ts [(a, f)] (some (a, n)) s r) (takeC ts [(b, f)] (some (b, n)) s r') := by
  unfold takeC
  dsimp only
  cases lkA ts n with
  | none => exact ⟨by show r.lf ++ _ = r'.lf ++ _; rw [h.lf], h.mi, h.us⟩
  | some t =>
    dsimp only
    rw [al_one, al_one, h.us]
    unfold takeT
    rw [h.us]
    cases linesF t s (min s.sec (f - getU r'.u (b, s.op / 2592000))) with
    | none => exact ⟨by show r.lf ++ _ = r'.lf ++ _; rw [h.lf], h.mi, h.us⟩
    | some L =>
      refine ⟨h.lf, ?_, fun m => ?_⟩
      · dsimp only
        rw [List.map_append, List.map_append, h.mi, mi_mk s.k a b]
      · dsimp only
        rw [getU_put, getU_put]
        by_cases g : m = s.op / 2592000
        · rw [if_pos (by rw [g]), if_pos (by rw [g])]
        · rw [if_neg (fun z => g (congrArg Prod.snd z)), if_neg (fun z => g (congrArg Prod.snd z))]
          exact h.us m
theorem sim_step {a b n : Str} {ts : Tab} {f : Int} {s : Sc} {r r' : Rs} (ps : List Str) (h : Sim a b r r') : Sim a b (stepF (histF a n ps) ts [(a, f)] r s) (stepF (histF b n ps) ts [(b, f)] r' s) := by
  unfold stepF
  by_cases g : freeS s = true
  · rw [if_pos g, if_pos g]; exact h
  · rw [if_neg g, if_neg g]
    unfold takeF
    cases s.pay with
    | none => exact h
    | some p =>
      dsimp only
      rw [force_hist a n ps p s.op s.ok.2.2.1, force_hist b n ps p s.op s.ok.2.2.1]
      by_cases g : p ∈ ps
      · rw [if_pos g, if_pos g]; exact sim_take h
      · rw [if_neg g, if_neg g]
        exact ⟨by show r.lf ++ _ = r'.lf ++ _; rw [h.lf], h.mi, h.us⟩
theorem sim_run {a b n : Str} {ts : Tab} {f : Int} (ps : List Str) : ∀ (ss : List Sc) {r r' : Rs}, Sim a b r r' → Sim a b (ss.foldl (stepF (histF a n ps) ts [(a, f)]) r) (ss.foldl (stepF (histF b n ps) ts [(b, f)]) r')
  | [], _, _, h => h
  | _ :: ss, _, _, h => sim_run ps ss (sim_step ps h)
/-- the account's name does not count -/
theorem cost_acc (ss : List Sc) (ps : List Str) (n : Str) (ts : Tab) (a b : Str) (f : Int) : costF ss ps n ts a f = costF ss ps n ts b f := by
  have h : Sim a b (runF (histF a n ps) ts [(a, f)] (askF ss ps)) (runF (histF b n ps) ts [(b, f)] (askF ss ps)) := sim_run ps _ ⟨rfl, rfl, fun _ => rfl⟩
  unfold costF
  dsimp only
  rw [h.lf, h.mi]
theorem filt_some {α : Type} (p : α → Bool) (f : α → D) : ∀ L : List α, (L.filterMap fun a => if p a = true then some (f a) else none) = (L.filter p).map f
  | [] => rfl
  | a :: L => by
    rw [List.filterMap_cons, List.filter_cons]
    cases h : p a with
    | true => rw [if_pos rfl, if_pos rfl, List.map_cons, ← filt_some p f L]
    | false => rw [if_neg Bool.false_ne_true, if_neg Bool.false_ne_true, ← filt_some p f L]
theorem inD_opt (o : Option Str) (ps : List Str) : inD (optS o) (ps.map D.str) = (match o with | none => false | some p => decide (p ∈ ps)) := by
  cases o with
  | none =>
    unfold inD
    rw [List.any_map, List.any_eq_false]
    intro a _
    exact Bool.false_ne_true
  | some p =>
    unfold inD
    rw [List.any_map, Bool.eq_iff_iff, List.any_eq_true, decide_eq_true_eq]
    constructor
    · rintro ⟨a, ha, h⟩
      have h : (a == p) = true := h
      rw [beq_iff_eq] at h
      rw [← h]; exact ha
    · exact fun h => ⟨p, h, beq_self_eq_true p⟩
theorem flat_opt (o : Option Str) : flatD (optS o) = true := by cases o <;> rfl
theorem flat_strs (ps : List Str) : (ps.map D.str).all flatD = true := by
  rw [List.all_map, List.all_eq_true]
  exact fun _ _ => rfl
theorem nnA_one {a : Str} {f : Int} (h : 0 ≤ f) : NnA [(a, f)] := fun b => by
  unfold alF
  rw [lkA_cons]
  split
  · exact h
  · exact Int.le_refl _
theorem mills_map (A : Ad) (L : List Cg) : (L.filterMap fun c => some (D.int c.mi)) = (L.map fun c => c.mi).map D.int := by
  rw [List.map_map]
  exact congrFun (List.filterMap_eq_map (f := fun c : Cg => D.int c.mi)) L
/-! costs, month by month -/
def mo (s : Sc) : Int := s.op / 2592000
theorem mo_bd (s : Sc) : 0 ≤ mo s ∧ mo s ≤ 4 := by
  have := s.ok
  unfold mo
  omega
def monF (ss : List Sc) : List Int := ((List.range 5).map fun (i : Nat) => (i : Int)).filter fun m => decide (m ∈ ss.map mo)
theorem mem_monF {ss : List Sc} {m : Int} : m ∈ monF ss ↔ m ∈ ss.map mo := by
  unfold monF
  rw [List.mem_filter, decide_eq_true_eq]
  refine ⟨fun h => h.2, fun h => ⟨?_, h⟩⟩
  obtain ⟨s, _, rfl⟩ := List.mem_map.mp h
  have := mo_bd s
  exact List.mem_map.mpr ⟨(mo s).toNat, List.mem_range.mpr (by omega), by omega⟩
theorem monF_nodup (ss : List Sc) : (monF ss).Nodup := by
  unfold monF
  refine List.Nodup.sublist List.filter_sublist ?_
  decide
theorem monF_sorted (ss : List Sc) : (monF ss).Pairwise (· < ·) := by
  unfold monF
  refine List.Pairwise.filter _ ?_
  decide
def ddS (L : List Int) (x : Int) : List Int := if x ∈ L then L else L ++ [x]
def ddF (L : List Int) : List Int := L.foldl ddS []
theorem dd_go : ∀ (L M : List Int), M.Nodup → (L.foldl ddS M).Nodup ∧ ∀ x, x ∈ L.foldl ddS M ↔ x ∈ M ∨ x ∈ L
  | [], M, h => ⟨h, fun x => by simp⟩
  | y :: L, M, h => by
    rw [List.foldl_cons]
    have hd : (ddS M y).Nodup := by
      unfold ddS
      split
      · exact h
      · rename_i g
        refine List.nodup_append.mpr ⟨h, by simp, fun a ha b hb => ?_⟩
        rw [List.mem_singleton] at hb
        rw [hb]
        exact fun z => g (z ▸ ha)
    obtain ⟨h1, h2⟩ := dd_go L (ddS M y) hd
    refine ⟨h1, fun x => ?_⟩
    rw [h2]
    unfold ddS
    split
    · rename_i g
      constructor
      · rintro (z | z)
        · exact .inl z
        · exact .inr (List.mem_cons_of_mem _ z)
      · rintro (z | z)
        · exact .inl z
        · rcases List.mem_cons.mp z with rfl | z
          · exact .inl g
          · exact .inr z
    · rw [List.mem_append, List.mem_singleton, List.mem_cons, or_assoc]
theorem sort_uniq {L M : List Int} (h1 : L.Pairwise (· ≤ ·)) (h2 : M.Pairwise (· < ·)) (n1 : L.Nodup) (h : ∀ x, x ∈ L ↔ x ∈ M) : L = M := by
  have n2 : M.Nodup := h2.imp fun h => Int.ne_of_lt h
  have hp : L.Perm M := (List.perm_ext_iff_of_nodup n1 n2).mpr h
  exact hp.eq_of_pairwise (le := (· ≤ ·)) (fun a b _ _ h h' => Int.le_antisymm h h') h1 (h2.imp fun h => Int.le_of_lt h)
theorem sort_dd (ss : List Sc) : sortI (ddF (ss.map mo)) = monF ss := by
  obtain ⟨h1, h2⟩ := dd_go (ss.map mo) [] List.nodup_nil
  refine sort_uniq (sortI_pair _) (monF_sorted ss) ((sortI_perm _).nodup_iff.mpr h1) fun x => ?_
  rw [(sortI_perm _).mem_iff, mem_monF]
  have := h2 x
  simp only [List.not_mem_nil, false_or] at this
  exact this
/-! the costs of one account -/
def putW (U : Int → Int) (m v : Int) : Int → Int := fun j => if j = m then v else U j
def sumM (L : List Ln) : Int := (L.map fun l => l.mi).sum
def cU (t : Tf) (f : Int) : (Int → Int) → List Sc → Option Int
  | _, [] => some 0
  | U, s :: T => match linesF t s (min s.sec (f - U (mo s))) with
    | none => none
    | some L => (cU t f (putW U (mo s) (U (mo s) + min s.sec (f - U (mo s)))) T).map fun c => sumM L + c
theorem left_grows {hi : Hist} {ts : Tab} {al : Alw} : ∀ (T : List Sc) (rs : Rs), rs.lf ≠ [] → (T.foldl (stepF hi ts al) rs).lf ≠ []
  | [], _, h => h
  | s :: T, rs, h => by
    rw [List.foldl_cons]
    refine left_grows T _ ?_
    have hl : ∀ r : Int × Str, rs.lf ++ [r] ≠ [] := fun r z => by simp at z
    unfold stepF
    split
    · exact h
    · unfold takeF
      split
      · exact h
      · unfold takeC
        split
        · exact hl _
        · split
          · exact hl _
          · unfold takeT
            split
            · exact hl _
            · exact h
theorem mi_sum (k : Int) (a : Str) (L : List Ln) : ((L.map (mkCg k a)).map fun c => c.mi).sum = sumM L := by
  rw [List.map_map]; rfl
theorem run_cU {a n : Str} {ts : Tab} {f : Int} {ps : List Str} {t : Tf} (ht : lkA ts n = some t) : ∀ (T : List Sc) (rs : Rs) (U : Int → Int), (∀ s ∈ T, freeS s = false ∧ ∃ p ∈ ps, s.pay = some p) → rs.lf = [] → (∀ m, getU rs.u (a, m) = U m) →
    (let r := T.foldl (stepF (histF a n ps) ts [(a, f)]) rs; if r.lf = [] then some ((r.ch.map fun c => c.mi).sum) else none) = (cU t f U T).map fun c => (rs.ch.map fun c => c.mi).sum + c
  | [], rs, U, _, h, _ => by
    dsimp only [List.foldl_nil]
    rw [if_pos h]
    show _ = some ((rs.ch.map fun c => c.mi).sum + 0)
    rw [Int.add_zero]
  | s :: T, rs, U, hT, h, hU => by
    obtain ⟨hf, p, hp, hpay⟩ := hT s List.mem_cons_self
    have hst : stepF (histF a n ps) ts [(a, f)] rs s = takeT t a (min s.sec (f - U (mo s))) s rs := by
      unfold stepF
      rw [hf, if_neg Bool.false_ne_true]
      unfold takeF
      rw [hpay]
      dsimp only
      rw [force_hist a n ps p s.op s.ok.2.2.1, if_pos hp]
      unfold takeC
      dsimp only
      rw [ht]
      dsimp only
      rw [al_one, hU]; rfl
    rw [List.foldl_cons, hst]
    unfold takeT cU
    cases hL : linesF t s (min s.sec (f - U (mo s))) with
    | none =>
      dsimp only
      rw [if_neg]
      · rfl
      · refine left_grows T _ ?_
        intro z
        simp at z
    | some L =>
      dsimp only
      have ih := run_cU (f := f) ht T ⟨puA rs.u (a, s.op / 2592000) (getU rs.u (a, s.op / 2592000) + min s.sec (f - U (mo s))), rs.ch ++ L.map (mkCg s.k a), rs.lf⟩ (putW U (mo s) (U (mo s) + min s.sec (f - U (mo s)))) (fun x hx => hT x (List.mem_cons_of_mem _ hx)) h fun m => by
        dsimp only
        rw [getU_put]
        unfold putW
        by_cases g : m = mo s
        · rw [if_pos g, if_pos (by rw [g]; rfl), hU]; rfl
        · rw [if_neg g, if_neg (fun z => g (congrArg Prod.snd z)), hU]
      dsimp only at ih
      rw [ih, List.map_append, List.sum_append, mi_sum, Option.map_map]
      congr 1
      funext c
      simp only [Function.comp]
      omega
theorem ask_pays (ss : List Sc) (ps : List Str) : ∀ s ∈ askF ss ps, freeS s = false ∧ ∃ p ∈ ps, s.pay = some p := fun s hs => by
  unfold askF at hs
  rw [List.mem_filter, Bool.and_eq_true] at hs
  obtain ⟨_, h1, h2⟩ := hs
  refine ⟨by simpa using h1, ?_⟩
  cases h : s.pay with
  | none => rw [h] at h2; cases h2
  | some p => rw [h] at h2; exact ⟨p, by simpa using h2, rfl⟩
theorem cost_cU (ss : List Sc) (ps : List Str) (n : Str) (ts : Tab) (a : Str) (f : Int) {t : Tf} (ht : lkA ts n = some t) : costF ss ps n ts a f = cU t f (fun _ => 0) ((askF ss ps).mergeSort leS) := by
  have h := run_cU (a := a) (f := f) (ps := ps) ht ((askF ss ps).mergeSort leS) ⟨[], [], []⟩ (fun _ => 0) (fun s hs => ask_pays ss ps s (List.mem_mergeSort.mp hs)) rfl (fun m => rfl)
  unfold costF runF
  dsimp only at h ⊢
  rw [h]
  show Option.map (fun c => (0 : Int) + c) _ = _
  cases cU t f (fun _ => 0) ((askF ss ps).mergeSort leS) with
  | none => rfl
  | some c => show some (0 + c) = some c; rw [Int.zero_add]
/-! by months -/
def addO : Option Int → Option Int → Option Int
  | some x, some y => some (x + y)
  | _, _ => none
def sumO (M : List Int) (g : Int → Option Int) : Option Int := M.foldl (fun acc m => addO acc (g m)) (some 0)
theorem sumO_go (M : List Int) (g : Int → Option Int) : ∀ acc, M.foldl (fun acc m => addO acc (g m)) acc = addO acc (sumO M g) := by
  induction M with
  | nil =>
    intro acc
    cases acc with
    | none => rfl
    | some x => show some x = some (x + 0); rw [Int.add_zero]
  | cons m M ih =>
    intro acc
    unfold sumO
    rw [List.foldl_cons, List.foldl_cons, ih, ih (addO (some 0) (g m))]
    cases acc with
    | none => cases g m <;> rfl
    | some x =>
      cases g m with
      | none => rfl
      | some y =>
        cases sumO M g with
        | none => rfl
        | some z =>
          show some (x + y + z) = some (x + (0 + y + z))
          congr 1
          omega
theorem sumO_cons (m : Int) (M : List Int) (g : Int → Option Int) : sumO (m :: M) g = addO (g m) (sumO M g) := by
  show (M.foldl _ (addO (some 0) (g m))) = _
  rw [sumO_go]
  cases g m with
  | none => rfl
  | some x => show addO (some (0 + x)) _ = _; rw [Int.zero_add]
theorem sumO_zero (M : List Int) : sumO M (fun _ => some 0) = some 0 := by
  induction M with
  | nil => rfl
  | cons m M ih => rw [sumO_cons, ih]; rfl
theorem sumO_cong {M : List Int} {g g' : Int → Option Int} (h : ∀ m ∈ M, g m = g' m) : sumO M g = sumO M g' := by
  induction M with
  | nil => rfl
  | cons m M ih => rw [sumO_cons, sumO_cons, h m List.mem_cons_self, ih fun x hx => h x (List.mem_cons_of_mem _ hx)]
theorem sumO_at {M : List Int} (nd : M.Nodup) {g g' : Int → Option Int} {m0 : Int} (hm : m0 ∈ M) (h : ∀ m, m ≠ m0 → g' m = g m) (F : Option Int → Option Int) (h0 : g' m0 = F (g m0)) (hF : ∀ x y, addO (F x) y = F (addO x y)) : sumO M g' = F (sumO M g) := by
  induction M with
  | nil => cases hm
  | cons m M ih =>
    rw [List.nodup_cons] at nd
    rw [sumO_cons, sumO_cons]
    rcases List.mem_cons.mp hm with rfl | hm
    · rw [h0, sumO_cong (g := g') (g' := g) fun x hx => h x fun z => nd.1 (z ▸ hx), hF]
    · have hne : m ≠ m0 := fun z => nd.1 (z ▸ hm)
      rw [ih nd.2 hm, h m hne]
      have hc : ∀ x y, addO x y = addO y x := fun x y => by
        cases x <;> cases y <;> try rfl
        show some _ = some _
        rw [Int.add_comm]
      rw [hc, hF, hc]
theorem cU_cong {t : Tf} {f : Int} : ∀ (T : List Sc) (U V : Int → Int), (∀ s ∈ T, U (mo s) = V (mo s)) → cU t f U T = cU t f V T
  | [], _, _, _ => rfl
  | s :: T, U, V, h => by
    unfold cU
    rw [h s List.mem_cons_self]
    cases linesF t s (min s.sec (f - V (mo s))) with
    | none => rfl
    | some L =>
      dsimp only
      rw [cU_cong T _ (putW V (mo s) (V (mo s) + min s.sec (f - V (mo s)))) fun x hx => ?_]
      unfold putW
      split
      · rfl
      · exact h x (List.mem_cons_of_mem _ hx)
theorem cU_split {t : Tf} {f : Int} {M : List Int} (nd : M.Nodup) : ∀ (T : List Sc) (U : Int → Int), (∀ s ∈ T, mo s ∈ M) → cU t f U T = sumO M fun m => cU t f U (T.filter fun s => decide (mo s = m))
  | [], U, _ => (sumO_zero M).symm
  | s :: T, U, hT => by
    have hs := hT s List.mem_cons_self
    have hne : ∀ m, m ≠ mo s → (s :: T).filter (fun s => decide (mo s = m)) = T.filter fun s => decide (mo s = m) := fun m h => by
      rw [List.filter_cons, if_neg]
      simpa using fun z : mo s = m => h z.symm
    have heq : (s :: T).filter (fun x => decide (mo x = mo s)) = s :: T.filter fun x => decide (mo x = mo s) := by
      rw [List.filter_cons, if_pos (by simp)]
    cases hL : linesF t s (min s.sec (f - U (mo s))) with
    | none =>
      have e1 : cU t f U (s :: T) = none := by unfold cU; rw [hL]
      rw [e1]
      refine ((sumO_at nd hs (g := fun m => cU t f U (T.filter fun s => decide (mo s = m))) (fun m hm => by rw [hne m hm]) (fun _ => none) ?_ (fun x y => by cases y <;> rfl)).trans rfl).symm
      rw [heq]
      unfold cU
      rw [hL]
    | some L =>
      have e1 : cU t f U (s :: T) = (cU t f (putW U (mo s) (U (mo s) + min s.sec (f - U (mo s)))) T).map fun c => sumM L + c := by
        conv => lhs; unfold cU
        rw [hL]
      rw [e1, cU_split nd T _ fun x hx => hT x (List.mem_cons_of_mem _ hx)]
      refine (sumO_at nd hs (g := fun m => cU t f (putW U (mo s) (U (mo s) + min s.sec (f - U (mo s)))) (T.filter fun s => decide (mo s = m))) (fun m hm => ?_) (fun o => o.map fun c => sumM L + c) ?_ (fun x y => ?_)).symm
      · rw [hne m hm]
        refine cU_cong _ _ _ fun x hx => ?_
        rw [List.mem_filter, decide_eq_true_eq] at hx
        unfold putW
        rw [if_neg (by rw [hx.2]; exact hm)]
      · rw [heq]
        conv => lhs; unfold cU
        rw [hL]
      · cases x <;> cases y <;> try rfl
        show some _ = some _
        rw [Int.add_assoc]
theorem leS_trans (a b c : Sc) (h1 : leS a b = true) (h2 : leS b c = true) : leS a c = true := by
  unfold leS at *
  rw [decide_eq_true_eq] at *
  omega
theorem leS_total (a b : Sc) : (leS a b || leS b a) = true := by
  unfold leS
  rw [Bool.or_eq_true, decide_eq_true_eq, decide_eq_true_eq]
  omega
theorem sort_filter (p : Sc → Bool) (L : List Sc) (nd : (L.map fun s => s.k).Nodup) : (L.filter p).mergeSort leS = (L.mergeSort leS).filter p := by
  have inj : ∀ a ∈ L, ∀ b ∈ L, a.k = b.k → a = b := by
    clear p
    induction L with
    | nil => intro a ha; cases ha
    | cons x L ih =>
      rw [List.map_cons, List.nodup_cons] at nd
      intro a ha b hb e
      rcases List.mem_cons.mp ha with e1 | ha2 <;> rcases List.mem_cons.mp hb with e2 | hb2
      · rw [e1, e2]
      · exact absurd (List.mem_map.mpr ⟨b, hb2, by rw [← e, e1]⟩) nd.1
      · exact absurd (List.mem_map.mpr ⟨a, ha2, by rw [e, e2]⟩) nd.1
      · exact ih nd.2 a ha2 b hb2 e
  have hp : ((L.filter p).mergeSort leS).Perm ((L.mergeSort leS).filter p) := (List.mergeSort_perm _ _).trans ((List.mergeSort_perm L leS).filter p).symm
  refine hp.eq_of_pairwise (le := fun a b => leS a b = true) (fun a b ha hb h h' => ?_) (List.pairwise_mergeSort leS_trans leS_total _) ((List.pairwise_mergeSort leS_trans leS_total L).filter p)
  have ha' : a ∈ L := (List.mem_filter.mp (List.mem_mergeSort.mp ha)).1
  have hb' : b ∈ L := List.mem_mergeSort.mp (List.mem_filter.mp hb).1
  refine inj a ha' b hb' ?_
  unfold leS at h h'
  rw [decide_eq_true_eq] at h h'
  omega
theorem ask_filter (ss : List Sc) (ps : List Str) (p : Sc → Bool) : askF (ss.filter p) ps = (askF ss ps).filter p := by
  unfold askF
  rw [List.filter_filter, List.filter_filter]
  congr 1
  funext s
  rw [Bool.and_comm]
theorem cost_months (ss : List Sc) (ps : List Str) (n : Str) (ts : Tab) (a : Str) (f : Int) {t : Tf} (ht : lkA ts n = some t) (nd : (ss.map fun s => s.k).Nodup) :
    sumO (monF (askF ss ps)) (fun m => costF (ss.filter fun s => decide (mo s = m)) ps n ts a f) = costF ss ps n ts a f := by
  have nda : ((askF ss ps).map fun s => s.k).Nodup := by
    unfold askF
    exact nd.sublist (List.filter_sublist.map _)
  rw [cost_cU ss ps n ts a f ht, cU_split (monF_nodup (askF ss ps)) _ _ fun s hs => mem_monF.mpr (List.mem_map.mpr ⟨s, List.mem_mergeSort.mp hs, rfl⟩)]
  refine sumO_cong fun m _ => ?_
  rw [cost_cU _ ps n ts a f ht, ask_filter, sort_filter _ _ nda]
theorem inD_int (d : Int) (xs : List Int) : inD (.int d) (xs.map D.int) = decide (d ∈ xs) := by
  unfold inD
  rw [List.any_map, Bool.eq_iff_iff, List.any_eq_true, decide_eq_true_eq]
  constructor
  · rintro ⟨a, ha, h⟩
    have h : (a == d) = true := h
    rw [beq_iff_eq] at h
    rw [← h]; exact ha
  · exact fun h => ⟨d, h, beq_self_eq_true d⟩
theorem flat_ints (xs : List Int) : (xs.map D.int).all flatD = true := by
  rw [List.all_map, List.all_eq_true]
  exact fun _ _ => rfl
/-- names in order -/
structure Nms (ns : List Str) : Prop where
  ok : SortsD (ns.map D.str)
  st : (ns.map D.str).mergeSort leD = ns.map D.str
theorem nms_of {ns : List Str} (hd : ∀ n ∈ ns, Dat 0 (.str n)) (hp : (ns.map D.str).Pairwise fun a b => leD a b = true) : Nms ns := by
  refine ⟨⟨⟨0, by decide, fun d h => ?_⟩, ?_, ?_⟩, List.mergeSort_of_pairwise hp⟩
  · obtain ⟨n, hn, rfl⟩ := List.mem_map.mp h
    exact hd n hn
  · rw [List.map_map]
    exact PySem.W.AllAlike.of fun b b' => by simp [D.py, PySem.W.alike]
  · rw [List.map_map]
    exact PySem.W.Sortable.others fun b => by simp [D.py]
theorem nms3 : Nms nmsT := nms_of (fun n hn => by
  have : n = "big" ∨ n = "day" ∨ n = "std" := by simpa [nmsT] using hn
  rcases this with rfl | rfl | rfl <;> exact .str (by decide +kernel)) (by decide +kernel)
/-- a table of costs -/
abbrev Ct := List ((Int × Str) × Option Int)
def ctKey (k : Int × Str) : List L2.Key := [Sum.inl k.1, Sum.inr k.2]
theorem ctKey_inj (a b : Int × Str) (h : ctKey a = ctKey b) : a = b := by
  obtain ⟨a1, a2⟩ := a
  obtain ⟨b1, b2⟩ := b
  simp only [ctKey, List.cons.injEq, Sum.inr.injEq, Sum.inl.injEq, and_true] at h
  rw [h.1, h.2]
def ctK (T : Ct) : List (List L2.Key × D) := T.map fun p => (ctKey p.1, optIntD p.2)
def putAll (g : Int × Str → Option Int) (L : List (Int × Str)) : Ct := L.foldl (fun T q => puA T q (g q)) []
theorem putAll_snoc (g : Int × Str → Option Int) (L : List (Int × Str)) (q : Int × Str) : putAll g (L ++ [q]) = puA (putAll g L) q (g q) := by
  unfold putAll
  rw [List.foldl_append]; rfl
theorem putAll_go (g : Int × Str → Option Int) (q : Int × Str) : ∀ (L : List (Int × Str)) (T : Ct), lkA (L.foldl (fun T q => puA T q (g q)) T) q = if q ∈ L then some (g q) else lkA T q
  | [], T => by simp
  | x :: L, T => by
    rw [List.foldl_cons, putAll_go g q L, lkA_pu]
    by_cases h : q ∈ L
    · rw [if_pos h, if_pos (List.mem_cons_of_mem _ h)]
    · rw [if_neg h]
      by_cases h2 : q = x
      · rw [if_pos h2, if_pos (by rw [h2]; exact List.mem_cons_self), h2]
      · rw [if_neg h2, if_neg (fun z => (List.mem_cons.mp z).elim h2 h)]
theorem putAll_lk (g : Int × Str → Option Int) (L : List (Int × Str)) (q : Int × Str) : lkA (putAll g L) q = if q ∈ L then some (g q) else none := putAll_go g q L []
theorem putAll_nd (g : Int × Str → Option Int) (L : List (Int × Str)) : ((putAll g L).map fun p => p.1).Nodup := by
  have go : ∀ (L : List (Int × Str)) (T : Ct), (T.map fun p => p.1).Nodup → ((L.foldl (fun T q => puA T q (g q)) T).map fun p => p.1).Nodup := fun L => by
    induction L with
    | nil => exact fun T h => h
    | cons x L ih => exact fun T h => ih _ (puA_nodup h _ _)
  exact go L [] List.nodup_nil
theorem putAll_len (g : Int × Str → Option Int) (L : List (Int × Str)) : (putAll g L).length ≤ L.length := by
  have go : ∀ (L : List (Int × Str)) (T : Ct), (L.foldl (fun T q => puA T q (g q)) T).length ≤ T.length + L.length := fun L => by
    induction L with
    | nil => exact fun T => Nat.le_refl _
    | cons x L ih =>
      intro T
      rw [List.foldl_cons, List.length_cons]
      have := ih (puA T x (g x))
      have := puA_len T x (g x)
      omega
  have := go L []
  rw [List.length_nil, Nat.zero_add] at this
  exact this
theorem ct_put (T : Ct) (q : Int × Str) (v : Option Int) : puD (ctK T) [Sum.inl q.1, Sum.inr q.2] (optIntD v) = ctK (puA T q v) := pu_tab ctKey ctKey_inj optIntD T q v
theorem ct_va (T : Ct) (q : Int × Str) : vaD (ctK T) [Sum.inl q.1, Sum.inr q.2] = (lkA T q).map optIntD := va_tab ctKey ctKey_inj optIntD q T
def prs (M : List Int) (N : List Str) : List (Int × Str) := M.flatMap fun m => N.map fun n => (m, n)
theorem mem_prs {M : List Int} {N : List Str} {q : Int × Str} : q ∈ prs M N ↔ q.1 ∈ M ∧ q.2 ∈ N := by
  unfold prs
  rw [List.mem_flatMap]
  constructor
  · rintro ⟨m, hm, h⟩
    obtain ⟨n, hn, rfl⟩ := List.mem_map.mp h
    exact ⟨hm, hn⟩
  · rintro ⟨hm, hn⟩
    exact ⟨q.1, hm, List.mem_map.mpr ⟨q.2, hn, rfl⟩⟩
theorem prs_snoc (M : List Int) (N : List Str) (m : Int) : prs (M ++ [m]) N = prs M N ++ N.map fun n => (m, n) := by
  unfold prs
  rw [List.flatMap_append]
  simp
theorem prs_len (M : List Int) (N : List Str) : (prs M N).length = M.length * N.length := by
  unfold prs
  induction M with
  | nil => simp
  | cons m M ih => rw [List.flatMap_cons, List.length_append, ih, List.length_map, List.length_cons, Nat.succ_mul, Nat.add_comm]
theorem monF_len (ss : List Sc) : (monF ss).length ≤ 5 := by
  unfold monF
  refine Nat.le_trans (List.length_filter_le _ _) ?_
  rw [List.length_map, List.length_range]; exact Nat.le_refl _
/-- the cost of a month by a name -/
def mcF (ss : List Sc) (ps : List Str) (ts : Tab) (a : Str) (f : Int) (q : Int × Str) : Option Int := costF (ss.filter fun s => decide (mo s = q.1)) ps q.2 ts a f
/-! orders of ways -/
def ltL : List Nat → List Nat → Bool
  | [], [] => false
  | [], _ :: _ => true
  | _ :: _, [] => false
  | x :: xs, y :: ys => decide (x < y) || (decide (x = y) && ltL xs ys)
theorem ltL_nil (a : List Nat) : ltL a [] = false := by cases a <;> rfl
theorem ltL_cons (x y : Nat) (xs ys : List Nat) : ltL (x :: xs) (y :: ys) = false ↔ y ≤ x ∧ (x = y → ltL xs ys = false) := by
  simp only [ltL, Bool.or_eq_false_iff, decide_eq_false_iff_not, Bool.and_eq_false_imp, decide_eq_true_eq, Nat.not_lt]
theorem ltL_irr : ∀ a, ltL a a = false
  | [] => rfl
  | x :: xs => (ltL_cons x x xs xs).mpr ⟨Nat.le_refl _, fun _ => ltL_irr xs⟩
theorem ltL_trans : ∀ a b c, ltL b a = false → ltL c b = false → ltL c a = false
  | [], b, c, _, _ => ltL_nil c
  | x :: xs, [], c, h, _ => by cases h
  | x :: xs, y :: ys, [], _, h => by cases h
  | x :: xs, y :: ys, z :: zs, h1, h2 => by
    rw [ltL_cons] at h1 h2 ⊢
    exact ⟨by omega, fun e => ltL_trans xs ys zs (h1.2 (by omega)) (h2.2 (by omega))⟩
theorem ltL_anti : ∀ a b, ltL a b = false → ltL b a = false → a = b
  | [], [], _, _ => rfl
  | [], y :: ys, h, _ => by cases h
  | x :: xs, [], _, h => by cases h
  | x :: xs, y :: ys, h1, h2 => by
    rw [ltL_cons] at h1 h2
    have e : x = y := by omega
    rw [e, ltL_anti xs ys (h1.2 e) (h2.2 e.symm)]
theorem ltL_total : ∀ a b, ltL a b = false ∨ ltL b a = false
  | [], b => .inr (ltL_nil b)
  | x :: xs, [] => .inl rfl
  | x :: xs, y :: ys => by
    rw [ltL_cons, ltL_cons]
    rcases Nat.lt_trichotomy x y with h | h | h
    · exact .inr ⟨by omega, fun e => by omega⟩
    · rcases ltL_total xs ys with g | g
      · exact .inl ⟨by omega, fun _ => g⟩
      · exact .inr ⟨by omega, fun _ => g⟩
    · exact .inl ⟨by omega, fun e => by omega⟩
theorem ltL_app : ∀ (a b : List Nat) (n : Nat), a.length = b.length → ltL (a ++ [n]) (b ++ [n]) = ltL a b
  | [], [], n, _ => by simp [ltL]
  | [], y :: ys, n, h => by cases h
  | x :: xs, [], n, h => by cases h
  | x :: xs, y :: ys, n, h => by
    have := ltL_app xs ys n (Nat.succ.inj h)
    simp only [List.cons_append, ltL, this]
abbrev Wy := Int × List Nat
def ltW (a b : Wy) : Bool := decide (a.1 < b.1) || (decide (a.1 = b.1) && ltL a.2 b.2)
theorem ltW_no (a b : Wy) : ltW a b = false ↔ b.1 ≤ a.1 ∧ (a.1 = b.1 → ltL a.2 b.2 = false) := by
  simp only [ltW, Bool.or_eq_false_iff, decide_eq_false_iff_not, Bool.and_eq_false_imp, decide_eq_true_eq, Int.not_lt]
theorem ltW_irr (a : Wy) : ltW a a = false := (ltW_no a a).mpr ⟨Int.le_refl _, fun _ => ltL_irr _⟩
theorem ltW_trans {a b c : Wy} (h1 : ltW b a = false) (h2 : ltW c b = false) : ltW c a = false := by
  rw [ltW_no] at h1 h2 ⊢
  exact ⟨by omega, fun e => ltL_trans _ _ _ (h1.2 (by omega)) (h2.2 (by omega))⟩
theorem ltW_anti {a b : Wy} (h1 : ltW a b = false) (h2 : ltW b a = false) : a = b := by
  rw [ltW_no] at h1 h2
  have e : a.1 = b.1 := by omega
  exact Prod.ext e (ltL_anti _ _ (h1.2 e) (h2.2 e.symm))
theorem ltW_total (a b : Wy) : ltW a b = false ∨ ltW b a = false := by
  rw [ltW_no, ltW_no]
  rcases Int.lt_trichotomy a.1 b.1 with h | h | h
  · exact .inr ⟨by omega, fun e => by omega⟩
  · rcases ltL_total a.2 b.2 with g | g
    · exact .inl ⟨by omega, fun _ => g⟩
    · exact .inr ⟨by omega, fun _ => g⟩
  · exact .inl ⟨by omega, fun e => by omega⟩
theorem ltW_app {c c' x : Int} {w w' : List Nat} (n : Nat) (h : w.length = w'.length) : ltW (c + x, w ++ [n]) (c' + x, w' ++ [n]) = ltW (c, w) (c', w') := by
  unfold ltW
  dsimp only
  rw [ltL_app _ _ _ h]
  have e1 : decide (c + x < c' + x) = decide (c < c') := decide_eq_decide.mpr (by omega)
  have e2 : decide (c + x = c' + x) = decide (c = c') := decide_eq_decide.mpr (by omega)
  rw [e1, e2]
/-! the least -/
def betF (y : Wy) (o : Option Wy) : Bool := match o with
  | none => true
  | some z => ltW y z
def optW (o : Option Wy) (y : Wy) : Option Wy := if betF y o = true then some y else o
structure IsMin (L : List Wy) (o : Option Wy) : Prop where
  no : o = none → L = []
  mem : ∀ y, o = some y → y ∈ L ∧ ∀ z ∈ L, ltW z y = false
theorem min_nil : IsMin [] none := ⟨fun _ => rfl, fun y h => by cases h⟩
theorem min_snoc {L : List Wy} {o : Option Wy} (h : IsMin L o) (y : Wy) : IsMin (L ++ [y]) (optW o y) := by
  unfold optW
  cases o with
  | none =>
    rw [h.no rfl]
    refine ⟨(fun z => by cases z), fun z hz => ?_⟩
    cases hz
    refine ⟨by simp, fun x hx => ?_⟩
    simp only [List.nil_append, List.mem_cons, List.not_mem_nil, or_false] at hx
    rw [hx]; exact ltW_irr y
  | some v =>
    obtain ⟨h1, h2⟩ := h.mem v rfl
    show IsMin _ (if ltW y v = true then some y else some v)
    by_cases g : ltW y v = true
    · rw [if_pos g]
      have g' : ltW v y = false := (ltW_total v y).elim id fun z => by rw [z] at g; cases g
      refine ⟨(fun z => by cases z), fun z hz => ?_⟩
      cases hz
      refine ⟨by simp, fun x hx => ?_⟩
      rcases List.mem_append.mp hx with hx | hx
      · exact ltW_trans g' (h2 x hx)
      · simp only [List.mem_cons, List.not_mem_nil, or_false] at hx
        rw [hx]; exact ltW_irr y
    · rw [if_neg g]
      refine ⟨(fun z => by cases z), fun z hz => ?_⟩
      cases hz
      refine ⟨List.mem_append_left _ h1, fun x hx => ?_⟩
      rcases List.mem_append.mp hx with hx | hx
      · exact h2 x hx
      · simp only [List.mem_cons, List.not_mem_nil, or_false] at hx
        rw [hx]; exact Bool.eq_false_iff.mpr g
theorem min_uniq {L : List Wy} {o o' : Option Wy} (h : IsMin L o) (h' : IsMin L o') : o = o' := by
  cases o with
  | none =>
    cases o' with
    | none => rfl
    | some y =>
      have := (h'.mem y rfl).1
      rw [h.no rfl] at this; cases this
  | some x =>
    obtain ⟨h1, h2⟩ := h.mem x rfl
    cases o' with
    | none => rw [h'.no rfl] at h1; cases h1
    | some y =>
      obtain ⟨h3, h4⟩ := h'.mem y rfl
      rw [ltW_anti (h4 x h1) (h2 y h3)]
def leW (a b : Wy) : Bool := !ltW b a
theorem leW_trans (a b c : Wy) (h1 : leW a b = true) (h2 : leW b c = true) : leW a c = true := by
  unfold leW at *
  simp only [Bool.not_eq_true'] at *
  exact ltW_trans h1 h2
theorem leW_total (a b : Wy) : (leW a b || leW b a) = true := by
  unfold leW
  rcases ltW_total a b with h | h <;> simp [h]
theorem min_sort (L : List Wy) : IsMin L (L.mergeSort leW).head? := by
  have hp := List.mergeSort_perm L leW
  have hs := List.pairwise_mergeSort (le := leW) leW_trans leW_total L
  cases h : L.mergeSort leW with
  | nil =>
    rw [h] at hp
    exact ⟨fun _ => hp.symm.eq_nil, fun y hy => by cases hy⟩
  | cons x r =>
    rw [h] at hp hs
    refine ⟨(fun z => by cases z), fun y hy => ?_⟩
    cases hy
    refine ⟨hp.mem_iff.mp List.mem_cons_self, fun z hz => ?_⟩
    rcases List.mem_cons.mp (hp.mem_iff.mpr hz) with e | hz
    · rw [e]; exact ltW_irr x
    · have := (List.pairwise_cons.mp hs).1 z hz
      unfold leW at this
      simpa using this
/-! all ways and their prices -/
def allW (N : List Nat) : Nat → List (List Nat)
  | 0 => [[]]
  | k + 1 => (allW N k).flatMap fun w => N.map fun n => w ++ [n]
theorem all_succ {N : List Nat} {k : Nat} {w : List Nat} : w ∈ allW N (k + 1) ↔ ∃ v ∈ allW N k, ∃ n ∈ N, w = v ++ [n] := by
  show w ∈ (allW N k).flatMap (fun w => N.map fun n => w ++ [n]) ↔ _
  rw [List.mem_flatMap]
  constructor
  · rintro ⟨v, hv, h⟩
    obtain ⟨n, hn, rfl⟩ := List.mem_map.mp h
    exact ⟨v, hv, n, hn, rfl⟩
  · rintro ⟨v, hv, n, hn, rfl⟩
    exact ⟨v, hv, List.mem_map.mpr ⟨n, hn, rfl⟩⟩
theorem all_len {N : List Nat} : ∀ {k : Nat} {w : List Nat}, w ∈ allW N k → w.length = k
  | 0, w, h => by
    simp only [allW, List.mem_cons, List.not_mem_nil, or_false] at h
    rw [h]; rfl
  | k + 1, w, h => by
    obtain ⟨v, hv, n, _, rfl⟩ := all_succ.mp h
    rw [List.length_append, all_len hv]; rfl
theorem all_nm {N : List Nat} : ∀ {k : Nat} {w : List Nat}, w ∈ allW N k → ∀ x ∈ w, x ∈ N
  | 0, w, h => by
    simp only [allW, List.mem_cons, List.not_mem_nil, or_false] at h
    rw [h]; intro x hx; cases hx
  | k + 1, w, h => by
    obtain ⟨v, hv, n, hn, rfl⟩ := all_succ.mp h
    intro x hx
    rcases List.mem_append.mp hx with hx | hx
    · exact all_nm hv x hx
    · simp only [List.mem_cons, List.not_mem_nil, or_false] at hx
      rw [hx]; exact hn
theorem all_many (N : List Nat) (h : N.length ≤ 3) : ∀ k, (allW N k).length ≤ 3 ^ k
  | 0 => by simp [allW]
  | k + 1 => by
    have ih := all_many N h k
    have e : ∀ L : List (List Nat), (L.flatMap fun w => N.map fun n => w ++ [n]).length = L.length * N.length := by
      intro L
      induction L with
      | nil => simp
      | cons x r ih => rw [List.flatMap_cons, List.length_append, ih, List.length_map, List.length_cons, Nat.succ_mul]; omega
    unfold allW
    rw [e, Nat.pow_succ]
    exact Nat.mul_le_mul ih h
def extP (g : Int × Nat → Option Int) (fee m : Int) (n : Nat) (b : Option Nat) : Option Int := (g (m, n)).map fun c => match b with
  | none => c
  | some b => if b = n then c else c + fee
def prK (g : Int × Nat → Option Int) (fee : Int) (M : List Int) (w : List Nat) : Nat → Option Int
  | 0 => some 0
  | j + 1 => (prK g fee M w j).bind fun t => (extP g fee (M.getD j 0) (w.getD j 0) (if j = 0 then none else some (w.getD (j - 1) 0))).map fun c => t + c
theorem prK_cong (g : Int × Nat → Option Int) (fee : Int) (M : List Int) {w v : List Nat} : ∀ {j : Nat}, (∀ i, i < j → w.getD i 0 = v.getD i 0) → prK g fee M w j = prK g fee M v j
  | 0, _ => rfl
  | j + 1, h => by
    unfold prK
    rw [prK_cong g fee M (fun i hi => h i (by omega)), h j (by omega)]
    by_cases z : j = 0
    · rw [if_pos z, if_pos z]
    · rw [if_neg z, if_neg z, h (j - 1) (by omega)]
theorem prK_snoc (g : Int × Nat → Option Int) (fee : Int) (M : List Int) {w : List Nat} {j : Nat} (h : w.length = j) (n : Nat) : prK g fee M (w ++ [n]) (j + 1) = (prK g fee M w j).bind fun t => (extP g fee (M.getD j 0) n w.getLast?).map fun c => t + c := by
  subst h
  have e1 : ∀ i, i < w.length → (w ++ [n]).getD i 0 = w.getD i 0 := fun i hi => by
    rw [List.getD_eq_getElem?_getD, List.getD_eq_getElem?_getD, List.getElem?_append_left hi]
  have e2 : (w ++ [n]).getD w.length 0 = n := by rw [List.getD_eq_getElem?_getD]; simp
  have e3 : (if w.length = 0 then none else some ((w ++ [n]).getD (w.length - 1) 0)) = w.getLast? := by
    by_cases z : w.length = 0
    · rw [if_pos z, List.length_eq_zero_iff.mp z]; rfl
    · rw [if_neg z, e1 _ (by omega), List.getLast?_eq_getElem?, List.getD_eq_getElem?_getD]
      rw [List.getElem?_eq_getElem (by omega)]; rfl
  show (prK g fee M (w ++ [n]) w.length).bind _ = _
  rw [prK_cong g fee M e1, e2, e3]
theorem prK_none {g : Int × Nat → Option Int} {fee : Int} {M : List Int} {w : List Nat} {j k : Nat} (h : prK g fee M w j = none) (hk : j ≤ k) : prK g fee M w k = none := by
  induction k with
  | zero =>
    have : j = 0 := by omega
    rw [this] at h; exact h
  | succ k ih =>
    by_cases z : j = k + 1
    · rw [← z]; exact h
    · show (prK g fee M w k).bind _ = none
      rw [ih (by omega)]; rfl
/-! the tables of the best ways -/
abbrev Wt := List (Option Nat × Wy)
def stpB (g : Int × Nat → Option Int) (fee m : Int) (t : Wt) (n : Nat) (f : Wt) (b : Option Nat) : Wt := match lkA t b, extP g fee m n b with
  | some v, some x => if betF (v.1 + x, v.2 ++ [n]) (lkA f (some n)) = true then puA f (some n) (v.1 + x, v.2 ++ [n]) else f
  | _, _ => f
def nmF (g : Int × Nat → Option Int) (fee m : Int) (t : Wt) (f : Wt) (n : Nat) : Wt := (t.map fun p => p.1).foldl (stpB g fee m t n) f
def behF (g : Int × Nat → Option Int) (fee m : Int) (t : Wt) (N : List Nat) : Wt := N.foldl (nmF g fee m t) []
def cdF (g : Int × Nat → Option Int) (fee m : Int) (n : Nat) (L : Wt) : List Wy := L.filterMap fun p => (extP g fee m n p.1).map fun x => (p.2.1 + x, p.2.2 ++ [n])
theorem nm_go {g : Int × Nat → Option Int} {fee m : Int} {t : Wt} {n : Nat} : ∀ (L : Wt) (f : Wt) (C0 : List Wy), (∀ p ∈ L, lkA t p.1 = some p.2) → IsMin C0 (lkA f (some n)) → (f.map fun p => p.1).Nodup →
    IsMin (C0 ++ cdF g fee m n L) (lkA ((L.map fun p => p.1).foldl (stpB g fee m t n) f) (some n)) ∧ (∀ k, k ≠ some n → lkA ((L.map fun p => p.1).foldl (stpB g fee m t n) f) k = lkA f k) ∧ (((L.map fun p => p.1).foldl (stpB g fee m t n) f).map fun p => p.1).Nodup
  | [], f, C0, _, h, nd => ⟨by simpa [cdF] using h, fun k _ => rfl, nd⟩
  | p :: L, f, C0, hL, h, nd => by
    have hp := hL p List.mem_cons_self
    have hL' : ∀ q ∈ L, lkA t q.1 = some q.2 := fun q hq => hL q (List.mem_cons_of_mem _ hq)
    rw [List.map_cons, List.foldl_cons]
    cases hx : extP g fee m n p.1 with
    | none =>
      have e1 : stpB g fee m t n f p.1 = f := by unfold stpB; rw [hp, hx]
      have e2 : cdF g fee m n (p :: L) = cdF g fee m n L := by unfold cdF; rw [List.filterMap_cons, hx]; rfl
      rw [e1, e2]
      exact nm_go L f C0 hL' h nd
    | some x =>
      have e2 : cdF g fee m n (p :: L) = (p.2.1 + x, p.2.2 ++ [n]) :: cdF g fee m n L := by unfold cdF; rw [List.filterMap_cons, hx]; rfl
      have e1 : stpB g fee m t n f p.1 = if betF (p.2.1 + x, p.2.2 ++ [n]) (lkA f (some n)) = true then puA f (some n) (p.2.1 + x, p.2.2 ++ [n]) else f := by unfold stpB; rw [hp, hx]
      have h' : IsMin (C0 ++ [(p.2.1 + x, p.2.2 ++ [n])]) (lkA (stpB g fee m t n f p.1) (some n)) := by
        have := min_snoc h (p.2.1 + x, p.2.2 ++ [n])
        unfold optW at this
        rw [e1]
        by_cases z : betF (p.2.1 + x, p.2.2 ++ [n]) (lkA f (some n)) = true
        · rw [if_pos z] at this ⊢
          rw [lkA_pu, if_pos rfl]; exact this
        · rw [if_neg z] at this ⊢
          exact this
      have nd' : ((stpB g fee m t n f p.1).map fun p => p.1).Nodup := by
        rw [e1]
        split
        · exact puA_nodup nd _ _
        · exact nd
      have hk : ∀ k, k ≠ some n → lkA (stpB g fee m t n f p.1) k = lkA f k := fun k hk => by
        rw [e1]
        split
        · rw [lkA_pu, if_neg hk]
        · rfl
      obtain ⟨g1, g2, g3⟩ := nm_go L (stpB g fee m t n f p.1) _ hL' h' nd'
      refine ⟨?_, fun k z => (g2 k z).trans (hk k z), g3⟩
      rw [e2]
      rw [List.append_assoc] at g1
      exact g1
theorem beh_go {g : Int × Nat → Option Int} {fee m : Int} {t : Wt} (nt : (t.map fun p => p.1).Nodup) : ∀ (N : List Nat) (f : Wt), N.Nodup → (∀ n ∈ N, lkA f (some n) = none) → (f.map fun p => p.1).Nodup →
    (∀ n ∈ N, IsMin (cdF g fee m n t) (lkA (N.foldl (nmF g fee m t) f) (some n))) ∧ (∀ k, (∀ n ∈ N, k ≠ some n) → lkA (N.foldl (nmF g fee m t) f) k = lkA f k) ∧ ((N.foldl (nmF g fee m t) f).map fun p => p.1).Nodup
  | [], f, _, _, nd => ⟨(fun n h => by cases h), (fun k _ => rfl), nd⟩
  | n :: N, f, nN, h, nd => by
    rw [List.foldl_cons]
    obtain ⟨n1, n2⟩ := List.nodup_cons.mp nN
    obtain ⟨g1, g2, g3⟩ := nm_go (g := g) (fee := fee) (m := m) (t := t) (n := n) t f [] (fun p hp => lkA_mem nt (by cases p; exact hp)) (by rw [h n List.mem_cons_self]; exact min_nil) nd
    obtain ⟨r1, r2, r3⟩ := beh_go (g := g) (fee := fee) (m := m) nt N (nmF g fee m t f n) n2 (fun k hk => by
      show lkA ((t.map fun p => p.1).foldl (stpB g fee m t n) f) (some k) = none
      rw [g2 (some k) (fun z => n1 (by cases z; exact hk))]
      exact h k (List.mem_cons_of_mem _ hk)) g3
    refine ⟨fun k hk => ?_, fun k hk => ?_, r3⟩
    · rcases List.mem_cons.mp hk with rfl | hk
      · rw [r2 (some k) (fun z hz e => n1 (by cases e; exact hz))]
        rw [List.nil_append] at g1
        exact g1
      · exact r1 k hk
    · rw [r2 k (fun z hz => hk z (List.mem_cons_of_mem _ hz))]
      exact g2 k (hk n List.mem_cons_self)
structure WS (g : Int × Nat → Option Int) (fee : Int) (M : List Int) (N : List Nat) (j : Nat) (t : Wt) : Prop where
  nd : (t.map fun p => p.1).Nodup
  at_ : ∀ k c w, lkA t k = some (c, w) → w ∈ allW N j ∧ w.getLast? = k ∧ prK g fee M w j = some c ∧ ∀ w' c', w' ∈ allW N j → w'.getLast? = k → prK g fee M w' j = some c' → ltW (c', w') (c, w) = false
  no : ∀ k, lkA t k = none → ∀ w' ∈ allW N j, w'.getLast? = k → prK g fee M w' j = none
theorem ws_zero (g : Int × Nat → Option Int) (fee : Int) (M : List Int) (N : List Nat) : WS g fee M N 0 [(none, (0, []))] := by
  have hw : ∀ w', w' ∈ allW N 0 → w' = [] := fun w' h => by
    simp only [allW, List.mem_cons, List.not_mem_nil, or_false] at h
    exact h
  refine ⟨by simp, fun k c w h => ?_, fun k h w' hw' hl => ?_⟩
  · rw [lkA_cons] at h
    split at h
    · rename_i z
      cases h
      refine ⟨by simp [allW], by rw [← z]; rfl, rfl, fun w' c' h1 _ h3 => ?_⟩
      rw [hw w' h1] at h3 ⊢
      cases h3
      exact ltW_irr _
    · cases h
  · rw [hw w' hw'] at hl
    subst hl
    cases (show some ((0 : Int), ([] : List Nat)) = none from h)
theorem ws_succ {g : Int × Nat → Option Int} {fee : Int} {M : List Int} {N : List Nat} {j : Nat} {t : Wt} (hN : N.Nodup) (h : WS g fee M N j t) : WS g fee M N (j + 1) (behF g fee (M.getD j 0) t N) := by
  obtain ⟨r1, r2, r3⟩ := beh_go (g := g) (fee := fee) (m := M.getD j 0) h.nd N [] hN (fun n _ => rfl) List.nodup_nil
  have cand : ∀ w1 n, w1 ∈ allW N j → ∀ c', prK g fee M (w1 ++ [n]) (j + 1) = some c' → ∃ c1 x1 c2 w2, c' = c1 + x1 ∧ lkA t w1.getLast? = some (c2, w2) ∧ w2.length = w1.length ∧ ltW (c1, w1) (c2, w2) = false ∧ (c2 + x1, w2 ++ [n]) ∈ cdF g fee (M.getD j 0) n t := fun w1 n hw1 c' hc' => by
    rw [prK_snoc g fee M (all_len hw1)] at hc'
    obtain ⟨c1, h1, h2⟩ := Option.bind_eq_some_iff.mp hc'
    obtain ⟨x1, h3, h4⟩ := Option.map_eq_some_iff.mp h2
    cases hl : lkA t w1.getLast? with
    | none =>
      rw [h.no _ hl w1 hw1 rfl] at h1
      cases h1
    | some v =>
      obtain ⟨c2, w2⟩ := v
      obtain ⟨a1, a2, a3, a4⟩ := h.at_ _ _ _ hl
      refine ⟨c1, x1, c2, w2, h4.symm, rfl, by rw [all_len a1, all_len hw1], a4 w1 c1 hw1 rfl h1, ?_⟩
      unfold cdF
      rw [List.mem_filterMap]
      exact ⟨_, lkA_some_mem hl, by rw [h3]; rfl⟩
  refine ⟨r3, fun k c w hk => ?_, fun k hk w' hw' hl => ?_⟩
  · have hkn : ∃ n ∈ N, k = some n := by
      by_cases z : ∃ n ∈ N, k = some n
      · exact z
      · have := r2 k (fun n hn e => z ⟨n, hn, e⟩)
        rw [show N.foldl (nmF g fee (M.getD j 0) t) [] = behF g fee (M.getD j 0) t N from rfl, hk] at this
        cases this
    obtain ⟨n, hn, rfl⟩ := hkn
    obtain ⟨m1, m2⟩ := (r1 n hn).mem (c, w) hk
    have m1' := m1
    unfold cdF at m1'
    rw [List.mem_filterMap] at m1'
    obtain ⟨⟨b, c0, w0⟩, hp, hx⟩ := m1'
    obtain ⟨x, hx1, hx2⟩ := Option.map_eq_some_iff.mp hx
    cases hx2
    obtain ⟨a1, a2, a3, a4⟩ := h.at_ b c0 w0 (lkA_mem h.nd hp)
    refine ⟨all_succ.mpr ⟨w0, a1, n, hn, rfl⟩, by simp, ?_, fun w' c' h1 h2 h3 => ?_⟩
    · rw [prK_snoc g fee M (all_len a1), a3, a2]
      have hx1 : extP g fee (M.getD j 0) n b = some x := hx1
      rw [hx1]; rfl
    · obtain ⟨w1, hw1, n1, hn1, rfl⟩ := all_succ.mp h1
      have e : n1 = n := by simpa using h2
      subst e
      obtain ⟨c1, x1, c2, w2, rfl, b1, b2, b3, b4⟩ := cand w1 n1 hw1 c' h3
      have := m2 _ b4
      rw [← ltW_app (x := x1) n1 b2.symm] at b3
      exact ltW_trans this b3
  · obtain ⟨w1, hw1, n1, hn1, rfl⟩ := all_succ.mp hw'
    have e : k = some n1 := by rw [← hl]; simp
    subst e
    have hz := (r1 n1 hn1).no hk
    cases hc : prK g fee M (w1 ++ [n1]) (j + 1) with
    | none => rfl
    | some c' =>
      obtain ⟨c1, x1, c2, w2, _, _, _, _, b4⟩ := cand w1 n1 hw1 c' hc
      rw [hz] at b4; cases b4
def rowsF (g : Int × Nat → Option Int) (fee : Int) (M : List Int) (N : List Nat) (j : Nat) : List Wy := (allW N j).filterMap fun w => (prK g fee M w j).map fun c => (c, w)
theorem ws_min {g : Int × Nat → Option Int} {fee : Int} {M : List Int} {N : List Nat} {j : Nat} {t : Wt} (h : WS g fee M N j t) {o : Option Wy} (ho : IsMin (t.map fun p => p.2) o) : IsMin (rowsF g fee M N j) o := by
  have row : ∀ c w, (c, w) ∈ rowsF g fee M N j ↔ w ∈ allW N j ∧ prK g fee M w j = some c := fun c w => by
    unfold rowsF
    rw [List.mem_filterMap]
    constructor
    · rintro ⟨v, hv, e⟩
      obtain ⟨c0, e1, e2⟩ := Option.map_eq_some_iff.mp e
      cases e2
      exact ⟨hv, e1⟩
    · rintro ⟨h1, h2⟩
      exact ⟨w, h1, by rw [h2]; rfl⟩
  constructor
  · intro z
    have ht : t = [] := List.map_eq_nil_iff.mp (ho.no z)
    refine List.eq_nil_iff_forall_not_mem.mpr fun y hy => ?_
    obtain ⟨c, w⟩ := y
    obtain ⟨h1, h2⟩ := (row c w).mp hy
    rw [h.no w.getLast? (by rw [ht]; rfl) w h1 rfl] at h2
    cases h2
  · intro y hy
    obtain ⟨m1, m2⟩ := ho.mem y hy
    obtain ⟨⟨k, c, w⟩, hp, rfl⟩ := List.mem_map.mp m1
    obtain ⟨a1, a2, a3, a4⟩ := h.at_ k c w (lkA_mem h.nd hp)
    refine ⟨(row c w).mpr ⟨a1, a3⟩, fun z hz => ?_⟩
    obtain ⟨c', w'⟩ := z
    obtain ⟨h1, h2⟩ := (row c' w').mp hz
    cases hl : lkA t w'.getLast? with
    | none =>
      rw [h.no _ hl w' h1 rfl] at h2
      cases h2
    | some v =>
      obtain ⟨c2, w2⟩ := v
      have b1 := (h.at_ _ _ _ hl).2.2.2 w' c' h1 rfl h2
      have b2 := m2 (c2, w2) (List.mem_map.mpr ⟨_, lkA_some_mem hl, rfl⟩)
      exact ltW_trans b2 b1
theorem min_fold (L : List Wy) : IsMin L (L.foldl optW none) := by
  suffices h : ∀ (L : List Wy) (C0 : List Wy) (o : Option Wy), IsMin C0 o → IsMin (C0 ++ L) (L.foldl optW o) from by
    have := h L [] none min_nil
    simpa using this
  intro L
  induction L with
  | nil => intro C0 o h; simpa using h
  | cons x L ih =>
    intro C0 o h
    have := ih _ _ (min_snoc h x)
    rw [List.append_assoc] at this
    exact this
theorem min_vals (t : Wt) : IsMin (t.map fun p => p.2) ((t.map fun p => p.2).foldl optW none) := min_fold _
theorem bst_eq {g : Int × Nat → Option Int} {fee : Int} {M : List Int} {N : List Nat} {t : Wt} (h : WS g fee M N M.length t) : (t.map fun p => p.2).foldl optW none = ((rowsF g fee M N M.length).mergeSort leW).head? :=
  min_uniq (ws_min h (min_vals t)) (min_sort _)
def bstW (g : Int × Nat → Option Int) (fee : Int) (M : List Int) (N : List Nat) : Option Wy := ((rowsF g fee M N M.length).mergeSort leW).head?
theorem nm_step_len {g : Int × Nat → Option Int} {fee m : Int} {t : Wt} {n : Nat} : ∀ (L : List (Option Nat)) (f : Wt), (L.foldl (stpB g fee m t n) f).length ≤ f.length + (if (lkA f (some n)).isSome = true then 0 else 1)
  | [], f => Nat.le_add_right _ _
  | b :: L, f => by
    rw [List.foldl_cons]
    have ih := nm_step_len (g := g) (fee := fee) (m := m) (t := t) (n := n) L (stpB g fee m t n f b)
    have key : (stpB g fee m t n f b).length + (if (lkA (stpB g fee m t n f b) (some n)).isSome = true then 0 else 1) ≤ f.length + (if (lkA f (some n)).isSome = true then 0 else 1) := by
      unfold stpB
      split
      · split
        · rw [lkA_pu, if_pos rfl]
          have hl := congrArg List.length (puA_keys f (some n) (‹Wy›.1 + ‹Int›, ‹Wy›.2 ++ [n]))
          rw [List.length_map] at hl
          rw [hl]
          by_cases z : (lkA f (some n)).isSome = true
          · rw [if_pos z, if_pos z, List.length_map]; simp
          · rw [if_neg z, if_neg z, List.length_append, List.length_map]; simp
        · exact Nat.le_refl _
      · exact Nat.le_refl _
    omega
theorem beh_len (g : Int × Nat → Option Int) (fee m : Int) (t : Wt) : ∀ (N : List Nat) (f : Wt), (N.foldl (nmF g fee m t) f).length ≤ f.length + N.length
  | [], f => Nat.le_refl _
  | n :: N, f => by
    rw [List.foldl_cons]
    have h1 := beh_len g fee m t N (nmF g fee m t f n)
    have h2 := nm_step_len (g := g) (fee := fee) (m := m) (t := t) (n := n) (t.map fun p => p.1) f
    rw [show (t.map fun p => p.1).foldl (stpB g fee m t n) f = nmF g fee m t f n from rfl] at h2
    rw [List.length_cons]
    split at h2 <;> omega
theorem lc_el {α : Type} {L : List α} {enc : α → D} {j : Nat} {we : DE} {vs : List Nat} {ρ : DEnv} {C : Cells} {P : DK} (g : α → D) (hl : L.length ≤ 100000)
    (h : ∀ a C' (Q : DK), Q (g a) C' → we ((dwipe ρ vs).set j (some (enc a))) C' Q noX) (q : P (.lst (L.map g)) C) : LcG ⟨L.map enc, frozen⟩ (.name j) wYes we vs ρ C P := by
  refine lc_map (fun a => some (g a)) (fun _ _ => trivial) hl (fun i a C' Q hj hs hQ => ?_) ?_
  · simp only [Tgt.dg, wYes, if_true]
    exact h a C' _ hQ
  · rw [show L.filterMap (fun a => some (g a)) = L.map g from congrFun List.filterMap_eq_map L]
    exact q
/-! the program's data -/
def nmT (i : Nat) : Str := nmsT.getD i ""
def nD (i : Nat) : D := .str (nmT i)
def wyD (v : Wy) : D := .tup [.int v.1, .tup (v.2.map nD)]
def opWD : Option Wy → D
  | none => .non
  | some v => wyD v
def okN : Option Nat → NestedKey
  | none => .none
  | some i => .text (nmT i)
def okD : Option Nat → D
  | none => .non
  | some i => .str (nmT i)
theorem nmT_inj : ∀ i j : Nat, i < 3 → j < 3 → nmT i = nmT j → i = j := by
  have : ∀ i j : Fin 3, nmT i = nmT j → i = j := by decide +kernel
  intro i j hi hj h
  exact congrArg Fin.val (this ⟨i, hi⟩ ⟨j, hj⟩ h)
theorem nmT_lt2 : ∀ i j : Fin 3, (PyData.eqv (.str (nmT i)) (.str (nmT j)) = decide (i.val = j.val)) ∧ PySem.W.dataLt (.str (nmT i)) (.str (nmT j)) = decide (i.val < j.val) := by decide +kernel
def nmP (i : Nat) : PyData := .str (nmT i)
theorem row_nm : ∀ xs ys : List Nat, (∀ x ∈ xs, x < 3) → (∀ y ∈ ys, y < 3) → PySem.W.rowLt (xs.map nmP) (ys.map nmP) = ltL xs ys ∧ (PyData.eqvAll (xs.map nmP) (ys.map nmP) = true → ltL xs ys = false)
  | [], [], _, _ => ⟨PyProof.Rows.lex_irrefl _, fun _ => rfl⟩
  | [], y :: ys, _, _ => by
    refine ⟨?_, fun h => by simp [PyData.eqvAll] at h⟩
    show PySem.W.rowLt [] (nmP y :: ys.map nmP) = true
    unfold PySem.W.rowLt
    rw [PySem.W.toks_all_cons]
    simp only [PySem.W.keyToksAll]
    rw [PyProof.Rows.lex_diff (O := PyProof.Rows.itemOrd) (by simp)]
    rfl
  | x :: xs, [], _, _ => by
    refine ⟨?_, fun h => by simp [PyData.eqvAll] at h⟩
    show PySem.W.rowLt (nmP x :: xs.map nmP) [] = false
    unfold PySem.W.rowLt
    rw [PySem.W.toks_all_cons]
    simp only [PySem.W.keyToksAll]
    rw [PyProof.Rows.lex_diff (O := PyProof.Rows.itemOrd) (by simp)]
    rfl
  | x :: xs, y :: ys, hx, hy => by
    obtain ⟨ih1, ih2⟩ := row_nm xs ys (fun z hz => hx z (List.mem_cons_of_mem _ hz)) (fun z hz => hy z (List.mem_cons_of_mem _ hz))
    obtain ⟨h1, h2⟩ := nmT_lt2 ⟨x, hx x List.mem_cons_self⟩ ⟨y, hy y List.mem_cons_self⟩
    dsimp only at h1 h2
    have e : PySem.W.rowLt (nmP x :: xs.map nmP) (nmP y :: ys.map nmP) = if PyData.eqv (nmP x) (nmP y) = true then PySem.W.rowLt (xs.map nmP) (ys.map nmP) else PySem.W.dataLt (nmP x) (nmP y) := by
      unfold PySem.W.rowLt
      rw [PySem.W.dataLt_cons (by simp [PySem.W.alike, nmP])]
    refine ⟨?_, fun h => ?_⟩
    · show PySem.W.rowLt (nmP x :: xs.map nmP) (nmP y :: ys.map nmP) = _
      rw [e, ih1]
      unfold nmP
      rw [h1, h2]
      by_cases g : x = y
      · rw [if_pos (decide_eq_true g)]
        simp [ltL, g]
      · rw [if_neg (by simpa using g)]
        simp [ltL, g]
    · rw [List.map_cons, List.map_cons, PySem.W.eqv_all_cons, Bool.and_eq_true] at h
      have g : x = y := by
        have := h.1
        unfold nmP at this
        rw [h1] at this
        exact of_decide_eq_true this
      have := ih2 h.2
      simp [ltL, g, this]
theorem pys_nm : ∀ xs : List Nat, pys (xs.map nD) = xs.map nmP
  | [] => rfl
  | x :: xs => by
    show (nD x).py :: pys (xs.map nD) = _
    rw [pys_nm xs]; rfl
theorem lt_wy (v u : Wy) (hv : ∀ x ∈ v.2, x < 3) (hu : ∀ x ∈ u.2, x < 3) : PySem.W.dataLt (wyD v).py (wyD u).py = ltW v u := by
  obtain ⟨r1, r2⟩ := row_nm v.2 u.2 hv hu
  have hal : PySem.W.alike (.tuple (v.2.map nmP)) (.tuple (u.2.map nmP)) = true := by
    generalize v.2 = xs
    generalize u.2 = ys
    show PySem.W.alikeAll (xs.map nmP) (ys.map nmP) = true
    induction xs generalizing ys with
    | nil => cases ys <;> simp [PySem.W.alikeAll]
    | cons x xs ih => cases ys <;> simp [PySem.W.alikeAll, PySem.W.alike, nmP]; exact ih _
  have e1 : ∀ w : Wy, (wyD w).py = .tuple [.int w.1, .tuple (w.2.map nmP)] := fun w => by
    simp only [wyD, D.py, pys, pys_nm]
  rw [e1, e1, PySem.W.dataLt_pair (by simp [PySem.W.alike]) hal, PySem.W.dataLt_int]
  have r1' : PySem.W.dataLt (.tuple (v.2.map nmP)) (.tuple (u.2.map nmP)) = ltL v.2 u.2 := r1
  have e2 : PyData.eqv (.tuple (v.2.map nmP)) (.tuple (u.2.map nmP)) = PyData.eqvAll (v.2.map nmP) (u.2.map nmP) := by simp only [PyData.eqv]
  rw [r1', e2]
  unfold ltW
  by_cases g : v.1 = u.1
  · rw [if_pos (by simp [PyData.eqv, g])]
    by_cases g2 : PyData.eqvAll (v.2.map nmP) (u.2.map nmP) = true
    · rw [if_pos g2, r2 g2]; simp [g]
    · rw [if_neg g2]; simp [g]
  · rw [if_neg (by simpa [PyData.eqv] using g)]
    simp [g]
theorem alike_wy (v u : Wy) : PySem.W.alike (wyD v).py (wyD u).py = true := by
  have e1 : ∀ w : Wy, (wyD w).py = .tuple [.int w.1, .tuple (w.2.map nmP)] := fun w => by
    simp only [wyD, D.py, pys, pys_nm]
  have hal : ∀ xs ys : List Nat, PySem.W.alikeAll (xs.map nmP) (ys.map nmP) = true := fun xs => by
    induction xs with
    | nil => intro ys; cases ys <;> simp [PySem.W.alikeAll]
    | cons x xs ih => intro ys; cases ys <;> simp [PySem.W.alikeAll, PySem.W.alike, nmP]; exact ih _
  rw [e1, e1]
  simp [PySem.W.alike, PySem.W.alikeAll, hal]
theorem dat_wy (v : Wy) (hv : ∀ x ∈ v.2, x < 3) : Dat 2 (wyD v) := .tup fun d hd => by
  simp only [List.mem_cons, List.not_mem_nil, or_false] at hd
  rcases hd with rfl | rfl
  · exact .int _
  · refine .tup fun e he => ?_
    obtain ⟨i, hi, rfl⟩ := List.mem_map.mp he
    have : ∀ i : Fin 3, PyData.canLay0 (.str (nmT i)) = true := by decide +kernel
    exact .str (this ⟨i, hv i hi⟩)
theorem ltD_wy {v u : Wy} (hv : ∀ x ∈ v.2, x < 3) (hu : ∀ x ∈ u.2, x < 3) {C : Cells} {P : DK} (h : P (.bl (ltW v u)) C) : dLtD (wyD v) (wyD u) C P := by
  refine ⟨2, by decide, dat_wy v hv, dat_wy u hu, alike_wy v u, by simp [wyD, D.py], ?_⟩
  rw [lt_wy v u hv hu]
  exact h
theorem sort_wy {R : List Wy} (h : ∀ v ∈ R, ∀ x ∈ v.2, x < 3) : SortsD (R.map wyD) ∧ (R.map wyD).mergeSort leD = (R.mergeSort leW).map wyD := by
  refine ⟨⟨⟨2, by decide, fun d hd => ?_⟩, ?_, ?_⟩, ?_⟩
  · obtain ⟨p, hp, rfl⟩ := List.mem_map.mp hd
    exact dat_wy p (h p hp)
  · rw [List.map_map]
    exact PySem.W.AllAlike.of fun b b' => alike_wy b b'
  · rw [List.map_map]
    exact PySem.W.Sortable.tuples fun b => ⟨.int b.1, [.tuple (b.2.map nmP)], by simp [wyD, D.py, pys, pys_nm]⟩
  · refine (List.map_mergeSort fun a ha b hb => ?_).symm
    show leW a b = !PySem.W.dataLt (wyD b).py (wyD a).py
    rw [lt_wy b a (h b hb) (h a ha)]; rfl
/-! tables of ways as the program has them -/
def KOk (k : Option Nat) : Prop := ∀ i, k = some i → i < 3
theorem okN_inj {a b : Option Nat} (ha : KOk a) (hb : KOk b) (h : okN a = okN b) : a = b := by
  cases a with
  | none => cases b with
    | none => rfl
    | some j => cases h
  | some i => cases b with
    | none => cases h
    | some j =>
      simp only [okN, NestedKey.text.injEq] at h
      rw [nmT_inj i j (ha i rfl) (hb j rfl) h]
def wtK (t : Wt) : List (NestedKey × D) := t.map fun p => (okN p.1, wyD p.2)
theorem wt_va (t : Wt) (h : ∀ p ∈ t, KOk p.1) {k : Option Nat} (hk : KOk k) : vaD (wtK t) (okN k) = (lkA t k).map wyD := by
  induction t with
  | nil => rfl
  | cons p t ih =>
    have ih := ih fun q hq => h q (List.mem_cons_of_mem _ hq)
    rw [lkA_cons]
    unfold vaD wtK at ih ⊢
    rw [List.map_cons, List.find?_cons]
    by_cases g : p.1 = k
    · rw [decide_eq_true (show okN p.1 = okN k by rw [g]), if_pos g]; rfl
    · rw [decide_eq_false (fun z => g (okN_inj (h p List.mem_cons_self) hk z)), if_neg g]
      exact ih
theorem wt_pu (t : Wt) (h : ∀ p ∈ t, KOk p.1) {k : Option Nat} (hk : KOk k) (v : Wy) : puD (wtK t) (okN k) (wyD v) = wtK (puA t k v) := by
  have e0 : ((wtK t).any fun p => decide (p.1 = okN k)) = t.any fun p => decide (p.1 = k) := by
    unfold wtK
    rw [List.any_map, Bool.eq_iff_iff, List.any_eq_true, List.any_eq_true]
    constructor
    · rintro ⟨p, hp, hz⟩
      exact ⟨p, hp, decide_eq_true (okN_inj (h p hp) hk (of_decide_eq_true hz))⟩
    · rintro ⟨p, hp, hz⟩
      exact ⟨p, hp, decide_eq_true (show okN p.1 = okN k by rw [of_decide_eq_true hz])⟩
  unfold puD puA
  rw [e0]
  unfold wtK
  split
  · rw [List.map_map, List.map_map]
    refine List.map_congr_left fun p hp => ?_
    simp only [Function.comp]
    by_cases g : p.1 = k
    · rw [if_pos (show okN p.1 = okN k by rw [g]), if_pos g]
    · rw [if_neg (fun z => g (okN_inj (h p hp) hk z)), if_neg g]
  · rw [List.map_append]; rfl
theorem wt_len (t : Wt) : (wtK t).length = t.length := by unfold wtK; rw [List.length_map]
theorem wt_keys (t : Wt) : (wtK t).map (fun p => nkD p.1) = (t.map fun p => p.1).map okD := by
  unfold wtK
  rw [List.map_map, List.map_map]
  refine List.map_congr_left fun p _ => ?_
  obtain ⟨k, v⟩ := p
  cases k <;> simp [okN, okD, nkD]
/-- keys and names of a table of ways -/
def TOk (t : Wt) : Prop := ∀ p ∈ t, KOk p.1 ∧ ∀ x ∈ p.2.2, x < 3
def LOk (j : Nat) (t : Wt) : Prop := ∀ p ∈ t, p.2.2.length = j
theorem lok_pu {j : Nat} {t : Wt} (h : LOk j t) {k : Option Nat} {v : Wy} (hv : v.2.length = j) : LOk j (puA t k v) := fun p hp => by
  unfold puA at hp
  split at hp
  · obtain ⟨q, hq, rfl⟩ := List.mem_map.mp hp
    split
    · exact hv
    · exact h q hq
  · rcases List.mem_append.mp hp with hp | hp
    · exact h p hp
    · simp only [List.mem_cons, List.not_mem_nil, or_false] at hp
      subst hp; exact hv
/-- the names -/
structure NOk (N : List Nat) : Prop where
  nd : N.Nodup
  lt : ∀ n ∈ N, n < 3
  ln : N.length ≤ 3
  ns : Nms (N.map nmT)
theorem nok3 : NOk [0, 1, 2] := ⟨by decide, by decide, by decide, nms3⟩
theorem nok2 : NOk [0, 2] := ⟨by decide, by decide, by decide, nms_of (fun n hn => by
  have : n = "big" ∨ n = "std" := by simpa [nmT, nmsT] using hn
  rcases this with rfl | rfl <;> exact .str (by decide +kernel)) (by decide +kernel)⟩
/-- what the table of costs tells -/
def TbOk (T : Ct) (g : Int × Nat → Option Int) (M : List Int) (N : List Nat) : Prop := ∀ m ∈ M, ∀ n ∈ N, lkA T (m, nmT n) = some (g (m, n))
def extS (v : Option Int) (n : Str) (b : Option Str) (fee : Int) : Option Int := v.map fun c => match b with
  | none => c
  | some b => if b = n then c else c + fee
theorem ext_eq (g : Int × Nat → Option Int) (fee m : Int) (n : Nat) (b : Option Nat) (hn : n < 3) (hb : KOk b) : extS (g (m, n)) (nmT n) (b.map nmT) fee = extP g fee m n b := by
  unfold extS extP
  congr 1
  funext c
  cases b with
  | none => rfl
  | some i =>
    show (if nmT i = nmT n then c else c + fee) = if i = n then c else c + fee
    by_cases z : i = n
    · rw [if_pos (by rw [z]), if_pos z]
    · rw [if_neg (fun y => z (nmT_inj i n (hb i rfl) hn y)), if_neg z]
def gT (ss : List Sc) (ps : List Str) (ts : Tab) (f : Int) (q : Int × Nat) : Option Int := mcF ss ps ts "advised" f (q.1, nmT q.2)
theorem put_tb (ss : List Sc) (ps : List Str) (ts : Tab) (f : Int) (M : List Int) (N : List Nat) (h : ts.map (fun p => p.1) = N.map nmT) : TbOk (putAll (mcF ss ps ts "advised" f) (prs M (ts.map fun p => p.1))) (gT ss ps ts f) M N := fun m hm n hn => by
  rw [putAll_lk, if_pos (mem_prs.mpr ⟨hm, by rw [h]; exact List.mem_map.mpr ⟨n, hn, rfl⟩⟩)]
  rfl
theorem tok_pu {t : Wt} (h : TOk t) {k : Option Nat} (hk : KOk k) {v : Wy} (hv : ∀ x ∈ v.2, x < 3) : TOk (puA t k v) := fun p hp => by
  unfold puA at hp
  split at hp
  · obtain ⟨q, hq, rfl⟩ := List.mem_map.mp hp
    split
    · exact ⟨(h q hq).1, hv⟩
    · exact h q hq
  · rcases List.mem_append.mp hp with hp | hp
    · exact h p hp
    · simp only [List.mem_cons, List.not_mem_nil, or_false] at hp
      subst hp; exact ⟨hk, hv⟩
theorem beh_in (g : Int × Nat → Option Int) (fee m : Int) {N : List Nat} (hN : N.Nodup) {n : Nat} (hn : n ∈ N) : (lkA (behF g fee m [(none, (0, []))] N) (some n)).isSome = (g (m, n)).isSome := by
  have r1 := (beh_go (g := g) (fee := fee) (m := m) (t := [(none, (0, []))]) (by simp) N [] hN (fun n _ => rfl) List.nodup_nil).1 n hn
  rw [show N.foldl (nmF g fee m [(none, (0, []))]) [] = behF g fee m [(none, (0, []))] N from rfl] at r1
  cases hg : g (m, n) with
  | none =>
    have e : cdF g fee m n [(none, (0, []))] = [] := by simp [cdF, extP, hg]
    rw [e] at r1
    cases ho : lkA (behF g fee m [(none, (0, []))] N) (some n) with
    | none => rfl
    | some y =>
      have := (r1.mem y ho).1
      cases this
  | some c =>
    have e : cdF g fee m n [(none, (0, []))] = [(0 + c, [] ++ [n])] := by simp [cdF, extP, hg]
    rw [e] at r1
    cases ho : lkA (behF g fee m [(none, (0, []))] N) (some n) with
    | none =>
      have := r1.no ho
      cases this
    | some y => rfl
theorem bst_lt {g : Int × Nat → Option Int} {fee : Int} {M : List Int} {N : List Nat} (hN : NOk N) {v : Wy} (h : bstW g fee M N = some v) : ∀ x ∈ v.2, x < 3 := by
  unfold bstW at h
  have hv := ((min_sort (rowsF g fee M N M.length)).mem v h).1
  unfold rowsF at hv
  obtain ⟨w, hw, e⟩ := List.mem_filterMap.mp hv
  obtain ⟨c, _, rfl⟩ := Option.map_eq_some_iff.mp e
  exact fun x hx => hN.lt x (all_nm hw x hx)
theorem dat_bst {g : Int × Nat → Option Int} {fee : Int} {M : List Int} {N : List Nat} (hN : NOk N) : Dat 2 (opWD (bstW g fee M N)) := by
  cases h : bstW g fee M N with
  | none => exact .non
  | some v => exact dat_wy v (bst_lt hN h)
theorem lt_con (a b : Int) (x y : List D) (h1 : Dat 2 (.tup [.int a, .tup x])) (h2 : Dat 2 (.tup [.int b, .tup y])) (h3 : PySem.W.alike (D.py (.tup [.int a, .tup x])) (D.py (.tup [.int b, .tup y])) = true) {C : Cells} {P : DK} (r : Bool) (h4 : PySem.W.dataLt (D.py (.tup [.int a, .tup x])) (D.py (.tup [.int b, .tup y])) = r) (q : P (.bl r) C) : dLtD (.tup [.int a, .tup x]) (.tup [.int b, .tup y]) C P :=
  ⟨2, by decide, h1, h2, h3, by simp [D.py], by rw [h4]; exact q⟩
theorem dat_con (a : Int) (x : List Str) (h : ∀ s ∈ x, PyData.canLay0 (.str s) = true) : Dat 2 (.tup [.int a, .tup (x.map D.str)]) := .tup fun d hd => by
  simp only [List.mem_cons, List.not_mem_nil, or_false] at hd
  rcases hd with rfl | rfl
  · exact .int _
  · refine .tup fun e he => ?_
    obtain ⟨i, hi, rfl⟩ := List.mem_map.mp he
    exact .str (h i hi)
def R_law_state (A : Ad) : DSp := fun ds C P => ∃ (c k : Int), ds = [.int c, .int k] ∧ 0 ≤ k ∧ k ≤ 100 ∧ ∀ p s, 0 ≤ s → C p = none → P (.ptr p) (cput C p (.lst [.int s]))
theorem len_law_state (A : Ad) : ∀ ds C P, R_law_state A ds C P → ds.length = 2 := by rintro _ _ _ ⟨c, k, rfl, _⟩; rfl
theorem ok_law_state (T : Txt K mg A P w) : FnOk P w K mg base CX0 1 A.a_law_state A.d_law_state ["cell", "k"] (spD K (R_law_state A)) :=
  ok_D T.F_law_state sc_law_state (len_law_state A) (fun cdv Ar outer s H E hr =>
    ds_cons (ds_set 2 sc_law_state.nd (d_int))
    (ds_cons (ds_set 3 sc_law_state.nd (d_op op_mod s_mod (d_callTy call_int1 s_int (by rfl) T.z_int (by decide +kernel) (d_cons (d_op op_add s_add (d_op op_add s_add (d_op op_mul s_mul (d_op op_mod s_mod (d_callTy call_int1 s_int (by rfl) T.z_int (by decide +kernel) (d_cons (d_var 0) (d_nil))) (d_var 2)) (d_int)) (d_op op_mul s_mul (d_op op_add s_add (d_var 1) (d_int)) (d_int))) (d_int)) (d_nil))) (d_var 2)))
    (ds_cons (ds_set 4 sc_law_state.nd (d_op op_mod s_mod (d_callTy call_int1 s_int (by rfl) T.z_int (by decide +kernel) (d_cons (d_op op_add s_add (d_op op_add s_add (d_op op_mul s_mul (d_var 3) (d_var 3)) (d_op op_mul s_mul (d_int) (d_var 3))) (d_var 1)) (d_nil))) (d_var 2)))
    (ds_cons (ds_set 5 sc_law_state.nd (d_op op_mod s_mod (d_callTy call_int1 s_int (by rfl) T.z_int (by decide +kernel) (d_cons (d_op op_add s_add (d_op op_add s_add (d_op op_mul s_mul (d_var 4) (d_int)) (d_op op_mul s_mul (d_var 3) (d_int))) (d_int)) (d_nil))) (d_var 2)))
    (ds_cons (ds_set 6 sc_law_state.nd (d_op op_mod s_mod (d_callTy call_int1 s_int (by rfl) T.z_int (by decide +kernel) (d_cons (d_op op_add s_add (d_op op_mul s_mul (d_var 5) (d_var 5)) (d_var 4)) (d_nil))) (d_var 2)))
    (ds_one (ds_ret (d_lstC (d_cons (d_op op_add s_add (d_op op_mul s_mul (d_op op_add s_add (d_op op_mul s_mul (d_op op_add s_add (d_op op_mul s_mul (d_var 6) (d_var 2)) (d_var 5)) (d_var 2)) (d_var 4)) (d_var 2)) (d_var 3)) (d_nil)))))))))) (fun ds C Pk h => by
    obtain ⟨c, k, rfl, h0, h1, q⟩ := h
    walk_at "dd"
    have e1 := mod_lo c (m := 2305843009213693951) (by decide)
    have e2 := mod_hi c (m := 2305843009213693951) (by decide)
    generalize c % 2305843009213693951 = x1 at *
    have f1 := mod_lo (x1 * 6364136223 + (k + 1) * 104729 + 77) (m := 2305843009213693951) (by decide)
    have f2 := mod_hi (x1 * 6364136223 + (k + 1) * 104729 + 77) (m := 2305843009213693951) (by decide)
    generalize (x1 * 6364136223 + (k + 1) * 104729 + 77) % 2305843009213693951 = x2 at *
    have g1 := mod_lo (x2 * x2 + 1013 * x2 + k) (m := 2305843009213693951) (by decide)
    have g2 := mod_hi (x2 * x2 + 1013 * x2 + k) (m := 2305843009213693951) (by decide)
    generalize (x2 * x2 + 1013 * x2 + k) % 2305843009213693951 = x3 at *
    have i1 := mod_lo (x3 * 48271 + x2 * 31 + 9) (m := 2305843009213693951) (by decide)
    have i2 := mod_hi (x3 * 48271 + x2 * 31 + 9) (m := 2305843009213693951) (by decide)
    generalize (x3 * 48271 + x2 * 31 + 9) % 2305843009213693951 = x4 at *
    have j1 := mod_lo (x4 * x4 + x3) (m := 2305843009213693951) (by decide)
    have j2 := mod_hi (x4 * x4 + x3) (m := 2305843009213693951) (by decide)
    generalize (x4 * x4 + x3) % 2305843009213693951 = x5 at *
    refine ⟨by decide, cmul_l (by omega) (by omega), cmul_l (by omega) (by omega), by decide, cmul_l (by omega) (by omega), cmul_l (by omega) (by omega), by decide, cmul_l (by omega) (by omega), cmul_l (by omega) (by omega), by decide, cmul_l (by omega) (by omega), by decide,
      cmul_l (by omega) (by omega), cmul_r (by omega) (by omega), cmul_r (by omega) (by omega), fun p hp => ⟨_, Sub.refl _, q p _ ?_ hp⟩⟩
    omega)

def R_law_cell (A : Ad) : DSp := fun ds C P => ∃ (ns : List Int) (k : Int), ds = [.lst (ns.map D.int), .int k] ∧ ns.length ≤ 63 ∧ 0 ≤ k ∧ ∀ v, P (.int v) C
theorem len_law_cell (A : Ad) : ∀ ds C P, R_law_cell A ds C P → ds.length = 2 := by rintro _ _ _ ⟨ns, k, rfl, _⟩; rfl
theorem ok_law_cell (T : Txt K mg A P w) : FnOk P w K mg base CX0 1 A.a_law_cell A.d_law_cell ["script", "k"] (spD K (R_law_cell A)) :=
  ok_D T.F_law_cell sc_law_cell (len_law_cell A) (fun cdv Ar outer s H E hr =>
    ds_cons (ds_if (d_tcmp op_lt s_lt (d_var 1) (d_callB call_len s_len (by rfl) T.z_len (by decide +kernel) (d_cons (d_var 0) (d_nil))))
      (ds_one (ds_ret (d_ix ix_seq s_ix (d_var 0) (d_var 1))))
      (ds_nil))
    (ds_one (ds_ret (d_int)))) (fun ds C Pk h => by
    obtain ⟨ns, k, rfl, hl, hk, q⟩ := h
    walk_at "dd"
    split
    · rename_i hc
      rw [atI_at hk, List.getElem?_map, List.getElem?_eq_getElem (by omega)]
      exact ⟨C, Sub.refl _, q _⟩
    · exact ⟨C, Sub.refl _, q _⟩)

def R_law_digit (A : Ad) : DSp := fun ds C P => ∃ p s m, ds = [.ptr p, .int m] ∧ C p = some (.lst [.int s]) ∧ 0 ≤ s ∧ 0 < m ∧ m < 18446744073709551616 ∧ ∀ d s', 0 ≤ d → d < m → 0 ≤ s' → P (.int d) (cput C p (.lst [.int s']))
theorem len_law_digit (A : Ad) : ∀ ds C P, R_law_digit A ds C P → ds.length = 2 := by rintro _ _ _ ⟨p, s, m, rfl, _⟩; rfl
theorem ok_law_digit (T : Txt K mg A P w) : FnOk P w K mg base CX0 1 A.a_law_digit A.d_law_digit ["state", "many"] (spD K (R_law_digit A)) :=
  ok_D T.F_law_digit sc_law_digit (len_law_digit A) (fun cdv Ar outer s H E hr =>
    ds_cons (ds_set 2 sc_law_digit.nd (d_op op_mod s_mod (d_callTy call_int1 s_int (by rfl) T.z_int (by decide +kernel) (d_cons (d_ix ix_seq s_ix (d_var 0) (d_int)) (d_nil))) (d_var 1)))
    (ds_cons (ds_setL (d_var 0) (d_int) (d_op op_fdivW s_divW (d_ix ix_seq s_ix (d_var 0) (d_int)) (d_var 1)))
    (ds_one (ds_ret (d_var 2))))) (fun ds C Pk h => by
    obtain ⟨p, s, m, rfl, hp, hs, h0, h1, q⟩ := h
    walk_at "dd"
    rw [ixN_at (by omega) (by omega)]
    exact ⟨_, Sub.refl _, q _ _ (mod_lo s h0) (mod_hi s h0) (Int.ediv_nonneg hs (by omega))⟩)

def R_Section_init (A : Ad) : DSp := fun ds C P => ∃ p a b c d e f, ds = [.ptr p, a, b, c, d, e, f] ∧ C p = some (.ins A.C_Section []) ∧ P .non (cput C p (.ins A.C_Section [("owner", a), ("payer", b), ("called", c), ("opened", d), ("start", e), ("seconds", f)]))
theorem len_Section_init (A : Ad) : ∀ ds C P, R_Section_init A ds C P → ds.length = 7 := by rintro _ _ _ ⟨p, a, b, c, d, e, f, rfl, _⟩; rfl
theorem ok_Section_init (T : Txt K mg A P w) : FnOk P w K mg base CX0 1 A.a_Section_init A.d_Section_init ["self", "owner", "payer", "called", "opened", "start", "seconds"] (spD K (R_Section_init A)) :=
  ok_D T.F_Section_init sc_Section_init (len_Section_init A) (fun cdv Ar outer s H E hr =>
    ds_cons (ds_fld T.c_Section T.n_Section_owner (d_var 0) (d_var 1))
    (ds_cons (ds_fld T.c_Section T.n_Section_payer (d_var 0) (d_var 2))
    (ds_cons (ds_fld T.c_Section T.n_Section_called (d_var 0) (d_var 3))
    (ds_cons (ds_fld T.c_Section T.n_Section_opened (d_var 0) (d_var 4))
    (ds_cons (ds_fld T.c_Section T.n_Section_start (d_var 0) (d_var 5))
    (ds_one (ds_fld T.c_Section T.n_Section_seconds (d_var 0) (d_var 6)))))))) (fun ds C Pk h => by
    obtain ⟨p, a, b, c, d, e, f, rfl, hp, q⟩ := h
    walk_at "dd"
    exact ⟨by decide, by decide, by decide, by decide, by decide, by decide, _, Sub.refl _, q⟩)

def R_law_sections (A : Ad) : DSp := fun ds C P => ∃ (ns : List Int) (m : Nat), ds = [.lst (ns.map D.int), .int (m : Int)] ∧ ns.length ≤ 63 ∧ m ≤ 40 ∧ ∀ (ss : List Sc) C', ss.map (fun s => s.k) = (List.range m).map (fun (i : Nat) => (i : Int)) → Sub C C' → P (.lst (ss.map (scD A))) C'
theorem len_law_sections (A : Ad) : ∀ ds C P, R_law_sections A ds C P → ds.length = 2 := by rintro _ _ _ ⟨ns, m, rfl, _⟩; rfl
theorem ok_law_sections (T : Txt K mg A P w) : FnOk P w K mg base CX0 3 A.a_law_sections A.d_law_sections ["script", "many"] (spD K (R_law_sections A)) :=
  ok_D T.F_law_sections sc_law_sections (len_law_sections A) (fun cdv Ar outer s H E hr =>
    ds_consL (ds_set 2 sc_law_sections.nd (d_lstC (d_nil)))
    (ds_consL (ds_for PassesOwn.never rfl (di_rng1 (by rfl) T.z_range (d_cons (d_var 1) (d_nil))) (dg_name 3 sc_law_sections.nd)
      (ds_consL (ds_set 4 sc_law_sections.nd (d_call (ok_law_state T) (hr.mono (by decide)) T.g_law_state T.F_law_state.kp T.b_law_state (d_cons (d_call (ok_law_cell T) (hr.mono (by decide)) T.g_law_cell T.F_law_cell.kp T.b_law_cell (d_cons (d_var 0) (d_cons (d_var 3) (d_nil)))) (d_cons (d_var 3) (d_nil)))))
      (ds_consL (ds_set 5 sc_law_sections.nd (d_op op_add s_add (d_op op_mul s_mul (d_int) (d_call (ok_law_digit T) (hr.mono (by decide)) T.g_law_digit T.F_law_digit.kp T.b_law_digit (d_cons (d_var 4) (d_cons (d_int) (d_nil))))) (d_op op_mul s_mul (d_int) (d_call (ok_law_digit T) (hr.mono (by decide)) T.g_law_digit T.F_law_digit.kp T.b_law_digit (d_cons (d_var 4) (d_cons (d_int) (d_nil)))))))
      (ds_consL (ds_set 6 sc_law_sections.nd (d_ix ix_seq s_ix (d_tup (d_cons (d_str) (d_cons (d_str) (d_cons (d_str) (d_cons (d_non) (d_nil)))))) (d_call (ok_law_digit T) (hr.mono (by decide)) T.g_law_digit T.F_law_digit.kp T.b_law_digit (d_cons (d_var 4) (d_cons (d_int) (d_nil))))))
      (ds_consL (ds_set 7 sc_law_sections.nd (d_ix ix_seq s_ix (d_tup (d_cons (d_str) (d_cons (d_str) (d_cons (d_str) (d_nil))))) (d_call (ok_law_digit T) (hr.mono (by decide)) T.g_law_digit T.F_law_digit.kp T.b_law_digit (d_cons (d_var 4) (d_cons (d_int) (d_nil))))))
      (ds_consL (ds_set 8 sc_law_sections.nd (d_ix ix_seq s_ix (d_tup (d_cons (d_int) (d_cons (d_int) (d_cons (d_int) (d_cons (d_int) (d_cons (d_int) (d_cons (d_int) (d_nil)))))))) (d_call (ok_law_digit T) (hr.mono (by decide)) T.g_law_digit T.F_law_digit.kp T.b_law_digit (d_cons (d_var 4) (d_cons (d_int) (d_nil))))))
      (ds_one (ds_expr (d_bmL PySem.F.plainAttrs_list PySem.F.slot_list_append PySem.F.type_list_append mt_append s_append (d_var 2) (d_cons (d_makeF T.m_Section_init (ok_Section_init T) (hr.mono (by decide)) T.g_Section T.b_Section_init (d_cons (d_tup (d_cons (d_int) (d_cons (d_int) (d_cons (d_var 3) (d_nil))))) (d_cons (d_var 6) (d_cons (d_var 7) (d_cons (d_var 5) (d_cons (d_var 5) (d_cons (d_var 8) (d_nil)))))))) (d_nil)))))))))))
    (ds_one (ds_retF (d_var 2))))) (fun ds C Pk h => by
    obtain ⟨ns, m, rfl, hl, hm, q⟩ := h
    refine seq_hide fun E' hE => ?_
    walk_at "dd"
    intro p hp
    subst hE
    dsimp only [List.set_cons_succ, List.set_cons_zero]
    refine seq_hide fun E' hE => ?_
    walk_at "dd"
    refine ⟨by omega, for_rng (fun k ρ' C' => ∃ ss : List Sc, ss.map (fun s => s.k) = (List.range k).map (fun (i : Nat) => (i : Int)) ∧ C' p = some (.lst (ss.map (scD A))) ∧ Sub C C' ∧ ∃ o1 o2 o3 o4 o5 o6, ρ' = [some (.lst (ns.map D.int)), some (.int (m : Int)), some (.ptr p), o1, o2, o3, o4, o5, o6]) ⟨[], rfl, cput_same, Sub.new hp, _, _, _, _, _, _, rfl⟩ ?_ ?_⟩
    · rintro k ρ' C' hk ⟨ss, hss, hc, hS, o1, o2, o3, o4, o5, o6, rfl⟩
      rw [Int.zero_add]
      have lss : ss.length = k := by have := congrArg List.length hss; simpa using this
      have hss' : Hid (ss.map (fun s => s.k) = (List.range k).map (fun (i : Nat) => (i : Int))) := hss
      have lss' : Hid (ss.length = k) := lss
      clear hss lss
      refine seq_hide fun E2 hE2 => ?_
      walk_at "dd"
      refine ⟨ns, k, rfl, hl, by omega, fun v => ?_⟩
      walk_at "dd"
      refine ⟨v, k, rfl, by omega, by omega, fun ps s hs0 hps => ?_⟩
      subst hE2
      dsimp only [List.set_cons_succ, List.set_cons_zero]
      refine seq_hide fun E2 hE2 => ?_
      walk_at "dd"
      refine ⟨ps, s, 4, rfl, cput_same, hs0, by decide, by decide, fun d1 s1 a1 b1 c1 => ?_⟩
      walk_at "dd"
      refine ⟨cmul_l (by decide) (by decide), ps, s1, 24, rfl, cput_same, c1, by decide, by decide, fun d2 s2 a2 b2 c2 => ?_⟩
      walk_at "dd"
      refine ⟨cmul_l (by decide) (by decide), ?_⟩
      subst hE2
      dsimp only [List.set_cons_succ, List.set_cons_zero]
      refine seq_hide fun E2 hE2 => ?_
      walk_at "dd"
      refine ⟨ps, s2, 4, rfl, cput_same, c2, by decide, by decide, fun d3 s3 a3 b3 c3 => ?_⟩
      obtain ⟨x, hx⟩ : ∃ x : Option Str, atI (α := D) [.str "41", .str "42", .str "51", .non] d3 = some (optS x) := by
        have : d3 = 0 ∨ d3 = 1 ∨ d3 = 2 ∨ d3 = 3 := by omega
        rcases this with rfl | rfl | rfl | rfl
        · exact ⟨some "41", rfl⟩
        · exact ⟨some "42", rfl⟩
        · exact ⟨some "51", rfl⟩
        · exact ⟨none, rfl⟩
      clear a3 b3
      subst hE2
      walk_at "dd"
      refine seq_hide fun E2 hE2 => ?_
      walk_at "dd"
      refine ⟨ps, s3, 3, rfl, cput_same, c3, by decide, by decide, fun d4 s4 a4 b4 c4 => ?_⟩
      obtain ⟨y, hy⟩ : ∃ y : Str, atI (α := D) [.str "52", .str "61", .str "7"] d4 = some (.str y) := by
        have : d4 = 0 ∨ d4 = 1 ∨ d4 = 2 := by omega
        rcases this with rfl | rfl | rfl <;> exact ⟨_, rfl⟩
      clear a4 b4
      subst hE2
      walk_at "dd"
      refine seq_hide fun E2 hE2 => ?_
      walk_at "dd"
      refine ⟨ps, s4, 6, rfl, cput_same, c4, by decide, by decide, fun d5 s5 a5 b5 c5 => ?_⟩
      obtain ⟨z, hz, hz0⟩ : ∃ z : Int, atI (α := D) [.int 0, .int 1, .int 59, .int 60, .int 61, .int 4000] d5 = some (.int z) ∧ 0 ≤ z ∧ z ≤ 5000 := by
        have : d5 = 0 ∨ d5 = 1 ∨ d5 = 2 ∨ d5 = 3 ∨ d5 = 4 ∨ d5 = 5 := by omega
        rcases this with rfl | rfl | rfl | rfl | rfl | rfl <;> exact ⟨_, rfl, by decide, by decide⟩
      clear a5 b5
      subst hE2
      have hpp : p ≠ ps := cell_ne hc hps
      walk_at "dd"
      have hc2 : cput C' ps (.lst [.int s5]) p = some (.lst (ss.map (scD A))) := (cput_ne hpp).trans hc
      rw [hc2]
      refine ⟨trivial, fun pn hpn => ?_⟩
      refine ⟨pn, _, _, _, _, _, _, rfl, cput_same, rfl, ?_⟩
      rw [cput_cput, cput_same]
      refine ⟨_, Sub.new hpn, hpn, ?_⟩
      rw [hc2]
      have hss : ss.map (fun s => s.k) = (List.range k).map (fun (i : Nat) => (i : Int)) := hss'
      have lss : ss.length = k := lss'
      refine ⟨by rw [List.length_map]; omega, ss ++ [⟨k, x, y, 2592000 * d1 + 3600 * d2, 2592000 * d1 + 3600 * d2, z, by omega⟩], ?_, by rw [List.map_append]; rfl, ?_, _, _, _, _, _, _, rfl⟩
      · rw [List.map_append, hss, List.range_succ, List.map_append]; rfl
      · exact (hS.trans (Sub.new hps)).put hp
    · rintro ρ' C' ⟨ss, hss, hc, hS, o1, o2, o3, o4, o5, o6, rfl⟩
      subst hE
      walk_at "dd"
      exact ⟨C, hS, hp, C, Sub.refl _, q ss C hss (Sub.refl _)⟩)

def R_Tariff_init (A : Ad) : DSp := fun ds C P => ∃ p a L, ds = [.ptr p, a, .tup L] ∧ L.length ≤ 1000 ∧ C p = some (.ins A.C_Tariff []) ∧ P .non (cput C p (.ins A.C_Tariff [("setup_price", a), ("bands", .tup L)]))
theorem len_Tariff_init (A : Ad) : ∀ ds C P, R_Tariff_init A ds C P → ds.length = 3 := by rintro _ _ _ ⟨p, a, L, rfl, _⟩; rfl
theorem ok_Tariff_init (T : Txt K mg A P w) : FnOk P w K mg base CX0 1 A.a_Tariff_init A.d_Tariff_init ["self", "setup_price", "bands"] (spD K (R_Tariff_init A)) :=
  ok_D T.F_Tariff_init sc_Tariff_init (len_Tariff_init A) (fun cdv Ar outer s H E hr =>
    ds_cons (ds_fld T.c_Tariff T.n_Tariff_setup_price (d_var 0) (d_var 1))
    (ds_one (ds_fld T.c_Tariff T.n_Tariff_bands (d_var 0) (d_callTy call_tuple_of s_tupleOf (by rfl) T.z_tuple (by decide +kernel) (d_cons (d_var 2) (d_nil)))))) (fun ds C Pk h => by
    obtain ⟨p, a, L, rfl, hl, hp, q⟩ := h
    walk_at "dd"
    exact ⟨by decide, by decide, _, Sub.refl _, q⟩)

def R_Band_init (A : Ad) : DSp := fun ds C P => ∃ p a b c d e, ds = [.ptr p, a, b, c, d, e] ∧ C p = some (.ins A.C_Band []) ∧ P .non (cput C p (.ins A.C_Band [("label", a), ("prefix", b), ("from_hour", c), ("to_hour", d), ("price", e)]))
theorem len_Band_init (A : Ad) : ∀ ds C P, R_Band_init A ds C P → ds.length = 6 := by rintro _ _ _ ⟨p, a, b, c, d, e, rfl, _⟩; rfl
theorem ok_Band_init (T : Txt K mg A P w) : FnOk P w K mg base CX0 1 A.a_Band_init A.d_Band_init ["self", "label", "prefix", "from_hour", "to_hour", "price"] (spD K (R_Band_init A)) :=
  ok_D T.F_Band_init sc_Band_init (len_Band_init A) (fun cdv Ar outer s H E hr =>
    ds_cons (ds_fld T.c_Band T.n_Band_label (d_var 0) (d_var 1))
    (ds_cons (ds_fld T.c_Band T.n_Band_prefix (d_var 0) (d_var 2))
    (ds_cons (ds_fld T.c_Band T.n_Band_from_hour (d_var 0) (d_var 3))
    (ds_cons (ds_fld T.c_Band T.n_Band_to_hour (d_var 0) (d_var 4))
    (ds_one (ds_fld T.c_Band T.n_Band_price (d_var 0) (d_var 5))))))) (fun ds C Pk h => by
    obtain ⟨p, a, b, c, d, e, rfl, hp, q⟩ := h
    walk_at "dd"
    exact ⟨by decide, by decide, by decide, by decide, by decide, _, Sub.refl _, q⟩)

def R_law_tariffs (A : Ad) : DSp := fun ds C P => ∃ p s, ds = [.ptr p] ∧ C p = some (.lst [.int s]) ∧ 0 ≤ s ∧ ∀ (ts : Tab) s' C', ts.map (fun p => p.1) = nmsT → 0 ≤ s' → Sub (cput C p (.lst [.int s'])) C' → P (.dK (tsK A ts)) C'
theorem len_law_tariffs (A : Ad) : ∀ ds C P, R_law_tariffs A ds C P → ds.length = 1 := by rintro _ _ _ ⟨p, s, rfl, _⟩; rfl
theorem ok_law_tariffs (T : Txt K mg A P w) : FnOk P w K mg base CX0 3 A.a_law_tariffs A.d_law_tariffs ["state"] (spD K (R_law_tariffs A)) :=
  ok_D T.F_law_tariffs sc_law_tariffs (len_law_tariffs A) (fun cdv Ar outer s H E hr =>
    ds_consL (ds_set 1 sc_law_tariffs.nd (d_newK))
    (ds_consL (ds_for PassesOwn.never rfl (di_tup (d_tup (d_cons (d_str) (d_cons (d_str) (d_cons (d_str) (d_nil)))))) (dg_name 2 sc_law_tariffs.nd)
      (ds_consL (ds_set 3 sc_law_tariffs.nd (d_lst (d_cons (d_makeF T.m_Band_init (ok_Band_init T) (hr.mono (by decide)) T.g_Band T.b_Band_init (d_cons (d_str) (d_cons (d_str) (d_cons (d_int) (d_cons (d_int) (d_cons (d_call (ok_law_digit T) (hr.mono (by decide)) T.g_law_digit T.F_law_digit.kp T.b_law_digit (d_cons (d_var 0) (d_cons (d_int) (d_nil)))) (d_nil))))))) (d_cons (d_makeF T.m_Band_init (ok_Band_init T) (hr.mono (by decide)) T.g_Band T.b_Band_init (d_cons (d_str) (d_cons (d_str) (d_cons (d_int) (d_cons (d_int) (d_cons (d_call (ok_law_digit T) (hr.mono (by decide)) T.g_law_digit T.F_law_digit.kp T.b_law_digit (d_cons (d_var 0) (d_cons (d_int) (d_nil)))) (d_nil))))))) (d_nil)))))
      (ds_consL (ds_if (d_tcmp op_eq s_eq (d_call (ok_law_digit T) (hr.mono (by decide)) T.g_law_digit T.F_law_digit.kp T.b_law_digit (d_cons (d_var 0) (d_cons (d_int) (d_nil)))) (d_int))
        (ds_one (ds_set 3 sc_law_tariffs.nd (d_lst (d_cons (d_makeF T.m_Band_init (ok_Band_init T) (hr.mono (by decide)) T.g_Band T.b_Band_init (d_cons (d_str) (d_cons (d_str) (d_cons (d_int) (d_cons (d_int) (d_cons (d_call (ok_law_digit T) (hr.mono (by decide)) T.g_law_digit T.F_law_digit.kp T.b_law_digit (d_cons (d_var 0) (d_cons (d_int) (d_nil)))) (d_nil))))))) (d_cons (d_makeF T.m_Band_init (ok_Band_init T) (hr.mono (by decide)) T.g_Band T.b_Band_init (d_cons (d_str) (d_cons (d_str) (d_cons (d_int) (d_cons (d_int) (d_cons (d_int) (d_nil))))))) (d_nil))))))
        (ds_nil))
      (ds_one (ds_setD hr (d_var 1) (d_var 2) (d_makeF T.m_Tariff_init (ok_Tariff_init T) (hr.mono (by decide)) T.g_Tariff T.b_Tariff_init (d_cons (d_call (ok_law_digit T) (hr.mono (by decide)) T.g_law_digit T.F_law_digit.kp T.b_law_digit (d_cons (d_var 0) (d_cons (d_int) (d_nil)))) (d_cons (d_callTy call_tuple_of s_tupleOf (by rfl) T.z_tuple (by decide +kernel) (d_cons (d_var 3) (d_nil))) (d_nil)))))))))
    (ds_one (ds_retF (d_var 1))))) (fun ds C Pk h => by
    obtain ⟨p, s, rfl, hp, hs, q⟩ := h
    refine seq_hide fun E' hE => ?_
    walk_at "dd"
    intro pd hpd
    subst hE
    dsimp only [List.set_cons_succ, List.set_cons_zero]
    have hne : p ≠ pd := cell_ne hp hpd
    refine seq_hide fun E' hE => ?_
    walk_at "dd"
    refine for_map (enc := D.str) (L := nmsT) (fun k ρ' C' => ∃ (ts : Tab) (s' : Int), ts.map (fun p => p.1) = nmsT.take k ∧ 0 ≤ s' ∧ C' pd = some (.dK (tsK A ts)) ∧ C' p = some (.lst [.int s']) ∧ (∀ x c, C x = some c → x ≠ p → C' x = some c) ∧ ∃ o1 o2, ρ' = [some (.ptr p), some (.ptr pd), o1, o2]) ⟨[], s, rfl, hs, cput_same, (cput_ne hne).trans hp, fun x c hx h => (cput_ne (cell_ne hx hpd)).trans hx, _, _, rfl⟩ ?_ ?_
    · rintro k n ρ' C' hk ⟨ts, s', hts, hs', hd, hc, hS, o1, o2, rfl⟩
      have hn2 : ∀ x (s2 : Int), x = pd → cput C' p (.lst [.int s2]) x = some (.dK (tsK A ts)) := fun x s2 e => by rw [e, cput_ne hne.symm]; exact hd
      refine seq_hide fun E2 hE2 => ?_
      walk_at "dd"
      refine ⟨p, s', 30, rfl, hc, hs', by decide, by decide, fun d1 s1 a1 b1 c1 pb1 hb1 => ?_⟩
      refine ⟨pb1, _, _, _, _, _, rfl, cput_same, rfl, ?_⟩
      rw [cput_cput, cput_same]
      refine ⟨cput C' p (.lst [.int s1]), Sub.new hb1, hb1, ?_⟩
      refine ⟨p, s1, 90, rfl, cput_same, c1, by decide, by decide, fun d2 s2 a2 b2 c2 pb2 hb2 => ?_⟩
      rw [cput_cput] at hb2 ⊢
      refine ⟨pb2, _, _, _, _, _, rfl, cput_same, rfl, ?_⟩
      rw [cput_cput, cput_same]
      refine ⟨cput C' p (.lst [.int s2]), Sub.new hb2, hb2, ?_⟩
      subst hE2
      dsimp only [List.set_cons_succ, List.set_cons_zero]
      refine seq_hide fun E2 hE2 => ?_
      have fin : ∀ (b1 b2 : Bd) (s : Int), 0 ≤ s → E2.nx [some (.ptr p), some (.ptr pd), some (.str n), some (.lst [bdD A b1, bdD A b2])] (cput C' p (.lst [.int s])) := fun b1 b2 s hs => by
        subst hE2
        dsimp only
        walk_at "dd"
        refine ⟨p, s, 40, rfl, cput_same, hs, by decide, by decide, fun d4 s4 a4 b4 c4 pt hpt => ?_⟩
        rw [cput_cput] at hpt ⊢
        refine ⟨pt, _, _, rfl, by show 2 ≤ 1000; decide, cput_same, rfl, ?_⟩
        rw [cput_cput, cput_same]
        refine ⟨cput C' p (.lst [.int s4]), Sub.new hpt, hpt, ?_⟩
        rw [cput_ne hne.symm, hd]
        have hpu : puD (tsK A ts) (Sum.inr n) (tfD A ⟨d4, [b1, b2]⟩) = tsK A (puA ts n ⟨d4, [b1, b2]⟩) := pu_tab (fun x : Str => (Sum.inr x : L2.Key)) inr_inj (tfD A) ts n _
        have hlt : ts.length ≤ 3 := by
          have := congrArg List.length hts
          rw [List.length_map, List.length_take] at this
          have : nmsT.length = 3 := rfl
          omega
        refine ⟨by unfold tsK; rw [List.length_map]; omega, puA ts n ⟨d4, [b1, b2]⟩, s4, ?_, c4, congrArg (fun t => some (Cell.dK t)) hpu, (cput_ne hne).trans cput_same, fun x c hx hxp => ?_, _, _, rfl⟩
        · rw [puA_keys, take_snoc hk, hts]
          have hno : lkA ts n = none := lkA_none.mpr (by
            rw [hts]
            have hkl : k < 3 := (List.getElem?_eq_some_iff.mp hk).1
            have : k = 0 ∨ k = 1 ∨ k = 2 := by omega
            rcases this with rfl | rfl | rfl <;> (injection hk with hk; subst hk; decide))
          rw [hno]; rfl
        · rw [cput_ne (cell_ne hx hpd), cput_ne hxp]
          exact hS x c hx hxp
      walk_at "dd"
      refine ⟨p, s2, 6, rfl, cput_same, c2, by decide, by decide, fun d3 s3 a3 b3 c3 => ?_⟩
      rw [cput_cput]
      by_cases g : d3 = 0
      · have e0 : D.eqb (.int d3) (.int 0) = true := by rw [g]; decide
        walk_at "dd"
        refine ⟨p, s3, 30, rfl, cput_same, c3, by decide, by decide, fun d5 s5 a5 b5 c5 pb3 hb3 => ?_⟩
        rw [cput_cput] at hb3 ⊢
        refine ⟨pb3, _, _, _, _, _, rfl, cput_same, rfl, ?_⟩
        rw [cput_cput, cput_same]
        refine ⟨cput C' p (.lst [.int s5]), Sub.new hb3, hb3, fun pb4 hb4 => ?_⟩
        refine ⟨pb4, _, _, _, _, _, rfl, cput_same, rfl, ?_⟩
        rw [cput_cput, cput_same]
        refine ⟨cput C' p (.lst [.int s5]), Sub.new hb4, hb4, ?_⟩
        exact fin ⟨"low", "5", 0, 24, d5, by omega, by omega, by decide⟩ ⟨"far", "6", 0, 24, 1, by decide, by decide, by decide⟩ s5 c5
      · walk_at "dd"
        exact fin ⟨"low", "", 0, 24, d1, by omega, by omega, by decide⟩ ⟨"far", "6", 8, 20, d2, by omega, by omega, by decide⟩ s3 c3
    · rintro ρ' C' ⟨ts, s', hts, hs', hd, hc, hS, o1, o2, rfl⟩
      subst hE
      walk_at "dd"
      refine ⟨cput C p (.lst [.int s']), fun x c hx => ?_, (cput_ne hne.symm).trans hpd, _, Sub.refl _, q ts s' _ (by rw [hts]; rfl) hs' (Sub.refl _)⟩
      by_cases e : x = p
      · subst e; rw [cput_same] at hx; cases hx; exact hc
      · rw [cput_ne e] at hx; exact hS x c hx e)

def R_month_of (A : Ad) : DSp := fun ds C P => ∃ s, ds = [scD A s] ∧ P (.int (mo s)) C
theorem len_month_of (A : Ad) : ∀ ds C P, R_month_of A ds C P → ds.length = 1 := by rintro _ _ _ ⟨s, rfl, _⟩; rfl
theorem ok_month_of (T : Txt K mg A P w) : FnOk P w K mg base CX0 1 A.a_month_of A.d_month_of ["section"] (spD K (R_month_of A)) :=
  ok_D T.F_month_of sc_month_of (len_month_of A) (fun cdv Ar outer s H E hr =>
    ds_one (ds_ret (d_op op_fdivW s_divW (d_fld T.c_Section T.n_Section_opened (d_var 0)) (d_kint T.k_MONTH_SECONDS)))) (fun ds C Pk h => by
    obtain ⟨s, rfl, q⟩ := h
    simp only [scD]
    unfold mo at q
    walk_at "dd"
    exact ⟨by decide, _, Sub.refl _, q⟩)

def R_months_of (A : Ad) : DSp := fun ds C P => ∃ ss, ds = [.lst (ss.map (scD A))] ∧ ss.length ≤ 200 ∧ ∀ C', Sub C C' → P (.lst ((monF ss).map D.int)) C'
theorem len_months_of (A : Ad) : ∀ ds C P, R_months_of A ds C P → ds.length = 1 := by rintro _ _ _ ⟨ss, rfl, _⟩; rfl
theorem ok_months_of (T : Txt K mg A P w) : FnOk P w K mg base CX0 2 A.a_months_of A.d_months_of ["sections"] (spD K (R_months_of A)) :=
  ok_D T.F_months_of sc_months_of (len_months_of A) (fun cdv Ar outer s H E hr =>
    ds_consL (ds_set 1 sc_months_of.nd (d_lstC (d_nil)))
    (ds_consL (ds_for PassesOwn.never rfl (di_list (d_var 0)) (dg_name 2 sc_months_of.nd)
      (ds_one (ds_if (d_tcmp op_notIn_seq s_inS (d_call (ok_month_of T) (hr.mono (by decide)) T.g_month_of T.F_month_of.kp T.b_month_of (d_cons (d_var 2) (d_nil))) (d_var 1))
        (ds_one (ds_expr (d_bmL PySem.F.plainAttrs_list PySem.F.slot_list_append PySem.F.type_list_append mt_append s_append (d_var 1) (d_cons (d_call (ok_month_of T) (hr.mono (by decide)) T.g_month_of T.F_month_of.kp T.b_month_of (d_cons (d_var 2) (d_nil))) (d_nil)))))
        (ds_nil))))
    (ds_one (ds_ret (d_callB cr_sortedI s_sortI (by rfl) T.z_sorted (by decide +kernel) (d_cons (d_var 1) (d_nil))))))) (fun ds C Pk h => by
    obtain ⟨ss, rfl, hl, q⟩ := h
    refine seq_hide fun E' hE => ?_
    walk_at "dd"
    intro p hp
    subst hE
    dsimp only [List.set_cons_succ, List.set_cons_zero]
    refine seq_hide fun E' hE => ?_
    walk_at "dd"
    refine for_map (enc := scD A) (L := ss) (fun k ρ' C' => C' p = some (.lst ((ddF ((ss.take k).map mo)).map D.int)) ∧ (ddF ((ss.take k).map mo)).length ≤ k ∧ Sub C C' ∧ ∃ o, ρ' = [some (.lst (ss.map (scD A))), some (.ptr p), o]) ⟨cput_same, Nat.le_refl _, Sub.new hp, _, rfl⟩ ?_ ?_
    · rintro k s ρ' C' hk ⟨hc, hlk, hS, o, rfl⟩
      have hkl := (List.getElem?_eq_some_iff.mp hk).1
      have e1 : ddF ((ss.take (k + 1)).map mo) = ddS (ddF ((ss.take k).map mo)) (mo s) := by
        rw [take_snoc hk, List.map_append]
        unfold ddF
        rw [List.foldl_append]; rfl
      rw [e1]
      clear hk e1
      generalize ddF ((ss.take k).map mo) = L at hc hlk
      unfold ddS
      walk_at "dd"
      refine ⟨s, rfl, ?_⟩
      dsimp only
      rw [hc]
      refine ⟨rfl, flat_ints L, ?_⟩
      rw [inD_int]
      by_cases g : mo s ∈ L
      · rw [decide_eq_true g, if_neg (by decide), if_pos g]
        exact ⟨rfl, by omega, hS, _, rfl⟩
      · rw [decide_eq_false g, if_pos (by decide), if_neg g]
        refine ⟨trivial, s, rfl, ?_⟩
        dsimp only
        rw [hc]
        refine ⟨by rw [List.length_map]; omega, ?_, by rw [List.length_append]; exact Nat.succ_le_succ hlk, hS.put hp, _, rfl⟩
        rw [List.map_append]; rfl
    · rintro ρ' C' ⟨hc, hlk, hS, o, rfl⟩
      rw [List.take_length] at hc hlk
      subst hE
      have q2 := q C' hS
      rw [← sort_dd] at q2
      walk_at "dd"
      exact ⟨_, ints_ptr hc, C', Sub.refl _, q2⟩)

def R_Section_is_free (A : Ad) : DSp := fun ds C P => ∃ s, ds = [scD A s] ∧ P (.bl (freeS s)) C
theorem len_Section_is_free (A : Ad) : ∀ ds C P, R_Section_is_free A ds C P → ds.length = 1 := by rintro _ _ _ ⟨s, rfl, _⟩; rfl
theorem ok_Section_is_free (T : Txt K mg A P w) : FnOk P w K mg base CX0 1 A.a_Section_is_free A.d_Section_is_free ["self"] (spD K (R_Section_is_free A)) :=
  ok_D T.F_Section_is_free sc_Section_is_free (len_Section_is_free A) (fun cdv Ar outer s H E hr =>
    ds_one (ds_ret (d_orV (d_cmp op_isN s_isN (d_fld T.c_Section T.n_Section_payer (d_var 0)) (d_non)) (d_one (d_cmp op_eq s_eq (d_fld T.c_Section T.n_Section_seconds (d_var 0)) (d_int)))))) (fun ds C Pk h => by
    obtain ⟨s, rfl, q⟩ := h
    simp only [scD]
    unfold freeS at q
    cases hp : s.pay with
    | none =>
      rw [hp] at q
      have e : optS none = .non := rfl
      walk_at "dd"
      exact ⟨_, Sub.refl _, q⟩
    | some l =>
      rw [hp] at q
      have e : optS (some l) = .str l := rfl
      walk_at "dd"
      exact ⟨_, Sub.refl _, q⟩)

def R_paid_sections (A : Ad) : DSp := fun ds C P => ∃ ss ps, ds = [.lst (ss.map (scD A)), payD ps] ∧ ss.length ≤ 200 ∧ ps.length ≤ 100 ∧ P (.lst ((askF ss ps).map (scD A))) C
theorem len_paid_sections (A : Ad) : ∀ ds C P, R_paid_sections A ds C P → ds.length = 2 := by rintro _ _ _ ⟨ss, ps, rfl, _⟩; rfl
theorem ok_paid_sections (T : Txt K mg A P w) : FnOk P w K mg base CX0 2 A.a_paid_sections A.d_paid_sections ["sections", "payers"] (spD K (R_paid_sections A)) :=
  ok_D T.F_paid_sections sc_paid_sections (len_paid_sections A) (fun cdv Ar outer s H E hr =>
    ds_one (ds_ret (d_lc rfl sc_paid_sections.nd (di_list (d_var 0)) (blkOk_by (own := [("section", 2)]) (N := ["sections", "payers", "section"]) (sc := defScope s_paid_sections) (by decide +kernel)) (by decide) (fun _ _ _ _ _ => dg_name 2 sc_paid_sections.nd) (fun _ _ _ _ _ => dts_one ((d_and (d_not (d_tval (d_meth0 T.c_Section T.m_Section_is_free (ok_Section_is_free T) (hr.mono (by decide)) T.b_Section_is_free (d_var 2)))) (d_and1 (d_tcmp op_in_seq s_inS (d_fld T.c_Section T.n_Section_payer (d_var 2)) (d_var 1)))).pt)) (fun _ _ _ _ _ => d_var 2)))) (fun ds C Pk h => by
    obtain ⟨ss, ps, rfl, hl, hp, q⟩ := h
    simp only [payD]
    walk_at "dd"
    refine lc_map (enc := scD A) (L := ss) (fun s => if (!freeS s && (match s.pay with | none => false | some p => decide (p ∈ ps))) = true then some (scD A s) else none) (fun _ _ => trivial) (by omega) (fun j s C' Q hj hs hQ => ?_) ?_
    · clear hj
      walk_at "dd"
      refine ⟨⟨rfl, rfl⟩, s, rfl, ?_⟩
      have hin := inD_opt s.pay ps
      have hfo := flat_opt s.pay
      have hfs := flat_strs ps
      have hfl : fldOf A.C_Section "payer" (scD A s) C' = some (optS s.pay) := by
        simp only [scD, fldOf_ins, List.lookup]; rfl
      dsimp only
      cases hf : freeS s with
      | true =>
        rw [hf] at hQ
        rw [if_neg (by decide)]
        exact hQ
      | false =>
        rw [hf] at hQ
        rw [if_pos (by decide), hfl]
        dsimp only
        refine ⟨hfo, hfs, ?_⟩
        rw [Bool.not_false, Bool.true_and, ← hin] at hQ
        cases hi : inD (optS s.pay) (ps.map D.str) with
        | true => rw [hi, if_pos rfl] at hQ; rw [if_pos rfl]; exact hQ
        | false => rw [hi, if_neg Bool.false_ne_true] at hQ; rw [if_neg Bool.false_ne_true]; exact hQ
    · have e : ss.filterMap (fun s => if (!freeS s && (match s.pay with | none => false | some p => decide (p ∈ ps))) = true then some (scD A s) else none) = (askF ss ps).map (scD A) := by
        unfold askF
        exact filt_some _ _ ss
      rw [e]
      exact ⟨_, Sub.refl _, q⟩)

def R_ChargeRun_init (A : Ad) : DSp := fun ds C P => ∃ p c t a, ds = [.ptr p, c, t, a] ∧ C p = some (.ins A.C_ChargeRun []) ∧ ∀ C' pu p1 p2, C' p = some (.ins A.C_ChargeRun [("contracts", c), ("tariffs", t), ("allowances", a), ("used", .ptr pu), ("charges", .ptr p1), ("left_out", .ptr p2)]) →
  C' pu = some (.dT []) → C' p1 = some (.lst []) → C' p2 = some (.lst []) → C pu = none → C p1 = none → C p2 = none → p1 ≠ p2 → (∀ x c, C x = some c → x ≠ p → C' x = some c) → P .non C'
theorem len_ChargeRun_init (A : Ad) : ∀ ds C P, R_ChargeRun_init A ds C P → ds.length = 4 := by rintro _ _ _ ⟨p, c, t, a, rfl, _⟩; rfl
theorem ok_ChargeRun_init (T : Txt K mg A P w) : FnOk P w K mg base CX0 1 A.a_ChargeRun_init A.d_ChargeRun_init ["self", "contracts", "tariffs", "allowances"] (spD K (R_ChargeRun_init A)) :=
  ok_D T.F_ChargeRun_init sc_ChargeRun_init (len_ChargeRun_init A) (fun cdv Ar outer s H E hr =>
    ds_cons (ds_fld T.c_ChargeRun T.n_ChargeRun_contracts (d_var 0) (d_var 1))
    (ds_cons (ds_fld T.c_ChargeRun T.n_ChargeRun_tariffs (d_var 0) (d_var 2))
    (ds_cons (ds_fld T.c_ChargeRun T.n_ChargeRun_allowances (d_var 0) (d_var 3))
    (ds_cons (ds_fld T.c_ChargeRun T.n_ChargeRun_used (d_var 0) (d_newT))
    (ds_cons (ds_fld T.c_ChargeRun T.n_ChargeRun_charges (d_var 0) (d_lstC (d_nil)))
    (ds_one (ds_fld T.c_ChargeRun T.n_ChargeRun_left_out (d_var 0) (d_lstC (d_nil))))))))) (fun ds C Pk h => by
    obtain ⟨p, c, t, a, rfl, hp, q⟩ := h
    walk_at "dd"
    refine ⟨by decide, by decide, by decide, fun pu h1 => ?_⟩
    have n1 : p ≠ pu := cell_ne (C := cput C p _) cput_same h1
    rw [cput_ne n1, cput_same]
    refine ⟨rfl, by simp, fun p1 h2 => ?_⟩
    have n2 : p ≠ p1 := cell_ne (C := cput _ p _) cput_same h2
    rw [cput_ne n2, cput_same]
    refine ⟨rfl, by simp [dput], fun p2 h3 => ?_⟩
    have n3 : p ≠ p2 := cell_ne (C := cput _ p _) cput_same h3
    rw [cput_ne n3, cput_same]
    refine ⟨rfl, by simp [dput], _, Sub.refl _, ?_⟩
    rw [cput_ne n3.symm] at h3
    have m1 : p1 ≠ p2 := cell_ne (C := cput _ p1 _) cput_same h3
    rw [cput_ne m1.symm, cput_ne n3.symm] at h3
    have m2 : pu ≠ p2 := cell_ne (C := cput _ pu _) cput_same h3
    rw [cput_ne m2.symm, cput_ne n3.symm] at h3
    rw [cput_ne n2.symm] at h2
    have m3 : pu ≠ p1 := cell_ne (C := cput _ pu _) cput_same h2
    rw [cput_ne m3.symm, cput_ne n2.symm] at h2
    rw [cput_ne n1.symm] at h1
    refine q _ pu p1 p2 cput_same ?_ ?_ ?_ h1 h2 h3 m1 fun x c hx hxp => ?_
    · rw [cput_ne n1.symm, cput_ne m2, cput_ne n1.symm, cput_ne m3, cput_ne n1.symm, cput_same]
    · rw [cput_ne n2.symm, cput_ne m1, cput_ne n2.symm, cput_same]
    · rw [cput_ne n3.symm, cput_same]
    · rw [cput_ne hxp, cput_ne (cell_ne hx h3), cput_ne hxp, cput_ne (cell_ne hx h2), cput_ne hxp, cput_ne (cell_ne hx h1), cput_ne hxp]
      exact hx)

def R_section_place (A : Ad) : DSp := fun ds C P => ∃ s, ds = [scD A s] ∧ P (keyS s) C
theorem len_section_place (A : Ad) : ∀ ds C P, R_section_place A ds C P → ds.length = 1 := by rintro _ _ _ ⟨s, rfl, _⟩; rfl
theorem ok_section_place (T : Txt K mg A P w) : FnOk P w K mg base CX0 1 A.a_section_place A.d_section_place ["section"] (spD K (R_section_place A)) :=
  ok_D T.F_section_place sc_section_place (len_section_place A) (fun cdv Ar outer s H E hr =>
    ds_one (ds_ret (d_tup (d_cons (d_fld T.c_Section T.n_Section_opened (d_var 0)) (d_cons (d_fld T.c_Section T.n_Section_owner (d_var 0)) (d_nil)))))) (fun ds C Pk h => by
    obtain ⟨s, rfl, q⟩ := h
    simp only [scD]
    walk_at "dd"
    exact ⟨_, Sub.refl _, q⟩)

def R_Contracts_in_force (A : Ad) : DSp := fun ds C P => ∃ p l c ph hi, ds = [.ptr p, .str l, .int c] ∧ C p = some (.ins A.C_Contracts [("histories", .ptr ph)]) ∧ C ph = some (.dK (hiK hi)) ∧ P (conD (inForceF hi l c)) C
theorem len_Contracts_in_force (A : Ad) : ∀ ds C P, R_Contracts_in_force A ds C P → ds.length = 3 := by rintro _ _ _ ⟨p, l, c, ph, hi, rfl, _⟩; rfl
theorem ok_Contracts_in_force (T : Txt K mg A P w) : FnOk P w K mg base CX0 1 A.a_Contracts_in_force A.d_Contracts_in_force ["self", "line", "clock"] (spD K (R_Contracts_in_force A)) :=
  ok_D T.F_Contracts_in_force sc_Contracts_in_force (len_Contracts_in_force A) (fun cdv Ar outer s H E hr =>
    ds_cons (ds_set 3 sc_Contracts_in_force.nd (d_non))
    (ds_consL (ds_for PassesOwn.never rfl (di_tup (dd_get2 hr (d_fld T.c_Contracts T.n_Contracts_histories (d_var 0)) (d_var 1) (d_tup (d_nil)))) (dg_tup rfl (dgs_cons (dg_name 4 sc_Contracts_in_force.nd) (dgs_cons (dg_name 5 sc_Contracts_in_force.nd) (dgs_cons (dg_name 6 sc_Contracts_in_force.nd) (dgs_nil)))))
      (ds_one (ds_if (d_tcmp op_le s_le (d_var 4) (d_var 2))
        (ds_one (ds_set 3 sc_Contracts_in_force.nd (d_tup (d_cons (d_var 5) (d_cons (d_var 6) (d_nil))))))
        (ds_nil))))
    (ds_cons (ds_if ((d_or (d_tcmp op_isN s_isN (d_var 3) (d_non)) (d_or1 (d_tcmp op_isN s_isN (d_ix ix_seq s_ix (d_var 3) (d_int)) (d_non)))).pt)
      (ds_one (ds_ret (d_non)))
      (ds_nil))
    (ds_one (ds_ret (d_var 3)))))) (fun ds C Pk h => by
    obtain ⟨p, l, c, ph, hi, rfl, hp, hh, q⟩ := h
    have hv : vaD (hiK hi) (Sum.inr l) = (lkA hi l).map fun rs => D.tup (rs.map rhD) := va_tab (fun x : Str => (Sum.inr x : L2.Key)) inr_inj (fun rs : List Rh => D.tup (rs.map rhD)) l hi
    have hd : (vaD (hiK hi) (Sum.inr l)).getD (.tup []) = .tup (((lkA hi l).getD []).map rhD) := by
      rw [hv]
      cases lkA hi l <;> rfl
    clear hv
    unfold inForceF at q
    generalize (lkA hi l).getD [] = rs at hd q
    refine seq_hide fun E' hE => ?_
    walk_at "dd"
    subst hE
    dsimp only [List.set_cons_succ, List.set_cons_zero]
    refine seq_hide fun E' hE => ?_
    walk_at "dd"
    refine for_map (enc := rhD) (L := rs) (fun k ρ' C' => C' = C ∧ ∃ o1 o2 o3, ρ' = [some (.ptr p), some (.str l), some (.int c), some (fndD (rowOf (rs.take k) c)), o1, o2, o3]) ⟨rfl, _, _, _, rfl⟩ ?_ ?_
    · rintro k r ρ' C' hk ⟨rfl, o1, o2, o3, rfl⟩
      have e1 : rowOf (rs.take (k + 1)) c = if r.since ≤ c then some r else rowOf (rs.take k) c := by
        rw [take_snoc hk]
        unfold rowOf
        rw [List.foldl_append]; rfl
      rw [e1]
      clear hk e1
      simp only [rhD]
      by_cases g : r.since ≤ c
      · rw [if_pos g]
        walk_at "dd"
        exact ⟨_, _, _, rfl⟩
      · rw [if_neg g]
        walk_at "dd"
        exact ⟨_, _, _, rfl⟩
    · rintro ρ' C' ⟨rfl, o1, o2, o3, rfl⟩
      rw [List.take_length]
      subst hE
      dsimp only
      cases hr : rowOf rs c with
      | none =>
        rw [hr] at q
        have e : fndD none = .non := rfl
        rw [e]
        walk_at "dd"
        exact ⟨_, Sub.refl _, q⟩
      | some r =>
        rw [hr] at q
        have e : fndD (some r) = .tup [optS r.acc, .str r.nm] := rfl
        rw [e]
        unfold conOf at q
        dsimp only at q
        cases ha : r.acc with
        | none =>
          rw [ha] at q
          have e : optS none = .non := rfl
          rw [e]
          walk_at "dd"
          exact ⟨_, Sub.refl _, q⟩
        | some a =>
          rw [ha] at q
          have e : optS (some a) = .str a := rfl
          rw [e]
          walk_at "dd"
          exact ⟨_, Sub.refl _, q⟩)

def R_ChargeRun_reason_against (A : Ad) : DSp := fun ds C P => ∃ p s o c ts a p0 p1 p2, ds = [.ptr p, s, conD o] ∧ C p = some (.ins A.C_ChargeRun [("contracts", c), ("tariffs", .dK (tsK A ts)), ("allowances", a), ("used", p0), ("charges", p1), ("left_out", p2)]) ∧
  P (optS (reasonF ts o)) C
theorem len_ChargeRun_reason_against (A : Ad) : ∀ ds C P, R_ChargeRun_reason_against A ds C P → ds.length = 3 := by rintro _ _ _ ⟨p, s, o, c, ts, a, p0, p1, p2, rfl, _⟩; rfl
theorem ok_ChargeRun_reason_against (T : Txt K mg A P w) : FnOk P w K mg base CX0 1 A.a_ChargeRun_reason_against A.d_ChargeRun_reason_against ["self", "section", "contract"] (spD K (R_ChargeRun_reason_against A)) :=
  ok_D T.F_ChargeRun_reason_against sc_ChargeRun_reason_against (len_ChargeRun_reason_against A) (fun cdv Ar outer s H E hr =>
    ds_cons (ds_if (d_tcmp op_isN s_isN (d_var 2) (d_non))
      (ds_one (ds_ret (d_str)))
      (ds_nil))
    (ds_cons (ds_if (d_tdnotin hr (d_ix ix_seq s_ix (d_var 2) (d_int)) (d_fld T.c_ChargeRun T.n_ChargeRun_tariffs (d_var 0)))
      (ds_one (ds_ret (d_str)))
      (ds_nil))
    (ds_one (ds_ret (d_non))))) (fun ds C Pk h => by
    obtain ⟨p, s, o, c, ts, a, p0, p1, p2, rfl, hp, q⟩ := h
    cases o with
    | none =>
      have e : conD none = .non := rfl
      walk_at "dd"
      exact ⟨_, Sub.refl _, q⟩
    | some x =>
      obtain ⟨x, n⟩ := x
      have e : conD (some (x, n)) = .tup [.str x, .str n] := rfl
      have hv : vaD (tsK A ts) (Sum.inr n) = (lkA ts n).map (tfD A) := va_tab (fun x : Str => (Sum.inr x : L2.Key)) inr_inj (tfD A) n ts
      unfold reasonF at q
      dsimp only at q
      cases hl : lkA ts n with
      | none =>
        rw [hl] at q hv
        simp only [Option.map_none] at hv
        clear hl
        walk_at "dd"
        exact ⟨_, Sub.refl _, q⟩
      | some t =>
        rw [hl] at q hv
        simp only [Option.map_some] at hv
        clear hl
        walk_at "dd"
        exact ⟨_, Sub.refl _, q⟩)

def R_Band_holds (A : Ad) : DSp := fun ds C P => ∃ b cal t, ds = [bdD A b, .str cal, .int t] ∧ P (.bl (holdsF b cal t)) C
theorem len_Band_holds (A : Ad) : ∀ ds C P, R_Band_holds A ds C P → ds.length = 3 := by rintro _ _ _ ⟨b, cal, t, rfl, _⟩; rfl
theorem ok_Band_holds (T : Txt K mg A P w) : FnOk P w K mg base CX0 1 A.a_Band_holds A.d_Band_holds ["self", "called", "clock"] (spD K (R_Band_holds A)) :=
  ok_D T.F_Band_holds sc_Band_holds (len_Band_holds A) (fun cdv Ar outer s H E hr =>
    ds_cons (ds_set 3 sc_Band_holds.nd (d_op op_fdivW s_divW (d_op op_mod s_mod (d_var 2) (d_kint T.k_DAY)) (d_kint T.k_HOUR)))
    (ds_one (ds_ret (d_andV (d_bmS PySem.F.plainAttrs_str PySem.F.slot_str_startswith PySem.F.type_str_startswith mt_startswith s_starts (d_var 1) (d_cons (d_fld T.c_Band T.n_Band_prefix (d_var 0)) (d_nil))) (d_andV (d_cmp op_le s_le (d_fld T.c_Band T.n_Band_from_hour (d_var 0)) (d_var 3)) (d_one (d_cmp op_lt s_lt (d_var 3) (d_fld T.c_Band T.n_Band_to_hour (d_var 0))))))))) (fun ds C Pk h => by
    obtain ⟨b, cal, t, rfl, q⟩ := h
    simp only [bdD, bdF]
    unfold holdsF at q
    walk_at "dd"
    refine ⟨by decide, by decide, ?_⟩
    cases h1 : Txt.startswith cal b.pre with
    | false =>
      rw [h1] at q
      rw [if_neg Bool.false_ne_true]
      exact ⟨_, Sub.refl _, q⟩
    | true =>
      rw [h1, Bool.true_and] at q
      rw [if_pos rfl]
      by_cases h2 : b.fh ≤ t % 86400 / 3600
      · rw [if_pos h2]
        have e : decide (b.fh ≤ t % 86400 / 3600 ∧ t % 86400 / 3600 < b.th) = decide (t % 86400 / 3600 < b.th) := decide_eq_decide.mpr ⟨fun z => z.2, fun z => ⟨h2, z⟩⟩
        rw [e] at q
        exact ⟨_, Sub.refl _, q⟩
      · rw [if_neg h2]
        rw [decide_eq_false (fun z => h2 z.1)] at q
        exact ⟨_, Sub.refl _, q⟩)

def R_Tariff_band_at (A : Ad) : DSp := fun ds C P => ∃ t cal c, ds = [tfD A t, .str cal, .int c] ∧ P (optB A (bestF cal c t.bs)) C
theorem len_Tariff_band_at (A : Ad) : ∀ ds C P, R_Tariff_band_at A ds C P → ds.length = 3 := by rintro _ _ _ ⟨t, cal, c, rfl, _⟩; rfl
theorem ok_Tariff_band_at (T : Txt K mg A P w) : FnOk P w K mg base CX0 2 A.a_Tariff_band_at A.d_Tariff_band_at ["self", "called", "clock"] (spD K (R_Tariff_band_at A)) :=
  ok_D T.F_Tariff_band_at sc_Tariff_band_at (len_Tariff_band_at A) (fun cdv Ar outer s H E hr =>
    ds_cons (ds_set 3 sc_Tariff_band_at.nd (d_non))
    (ds_consL (ds_for PassesOwn.never rfl (di_tup (d_fld T.c_Tariff T.n_Tariff_bands (d_var 0))) (dg_name 4 sc_Tariff_band_at.nd)
      (ds_one (ds_if ((d_and (d_tval (d_meth T.c_Band T.m_Band_holds (ok_Band_holds T) (hr.mono (by decide)) T.b_Band_holds (d_var 4) (d_cons (d_var 1) (d_cons (d_var 2) (d_nil))))) (d_and1 ((d_or (d_tcmp op_isN s_isN (d_var 3) (d_non)) (d_or1 (d_tcmp op_gt s_gt (d_callB call_len s_len (by rfl) T.z_len (by decide +kernel) (d_cons (d_fld T.c_Band T.n_Band_prefix (d_var 4)) (d_nil))) (d_callB call_len s_len (by rfl) T.z_len (by decide +kernel) (d_cons (d_fld T.c_Band T.n_Band_prefix (d_var 3)) (d_nil)))))).pt))).pt)
        (ds_one (ds_set 3 sc_Tariff_band_at.nd (d_var 4)))
        (ds_nil))))
    (ds_one (ds_ret (d_var 3))))) (fun ds C Pk h => by
    obtain ⟨t, cal, c, rfl, q⟩ := h
    simp only [tfD]
    refine seq_hide fun E' hE => ?_
    walk_at "dd"
    subst hE
    dsimp only [List.set_cons_succ, List.set_cons_zero]
    refine seq_hide fun E' hE => ?_
    walk_at "dd"
    refine for_map (enc := bdD A) (L := t.bs) (fun k ρ' C' => C' = C ∧ ∃ o1, ρ' = [some (tfD A t), some (.str cal), some (.int c), some (optB A (bestF cal c (t.bs.take k))), o1]) ⟨rfl, _, rfl⟩ ?_ ?_
    · rintro k b ρ' C' hk ⟨rfl, o1, rfl⟩
      have e1 : bestF cal c (t.bs.take (k + 1)) = bestS cal c (bestF cal c (t.bs.take k)) b := by
        rw [take_snoc hk]
        unfold bestF
        rw [List.foldl_append]; rfl
      rw [e1]
      clear hk e1
      generalize bestF cal c (t.bs.take k) = r
      have hb := b.ok
      unfold bestS
      walk_at "dd"
      refine ⟨⟨rfl, rfl⟩, b, cal, c, rfl, ?_⟩
      dsimp only
      cases hh : holdsF b cal c with
      | false =>
        rw [if_neg Bool.false_ne_true, if_neg (fun z => Bool.false_ne_true z.1)]
        exact ⟨rfl, _, rfl⟩
      | true =>
        rw [if_pos rfl]
        cases r with
        | none =>
          rw [if_pos ⟨rfl, rfl⟩]
          exact ⟨rfl, _, rfl⟩
        | some r =>
          have hr := r.ok
          have e1 : optB A (some r) = bdD A r := rfl
          have l1 : lenOf (.str b.pre) C' = some b.pre.length := if_pos (by omega)
          have l2 : lenOf (.str r.pre) C' = some r.pre.length := if_pos (by omega)
          have f1 : ∀ y : Bd, fldOf A.C_Band "prefix" (bdD A y) C' = some (.str y.pre) := fun y => by
            simp only [bdD, bdF, fldOf_ins, List.lookup]
            rfl
          rw [e1]
          simp only [bdD, bdF] at f1 ⊢
          rw [f1 b]
          dsimp only
          rw [l1]
          dsimp only
          rw [f1 r]
          dsimp only
          rw [l2]
          dsimp only
          unfold lessP
          by_cases g : r.pre.length < b.pre.length
          · rw [if_pos (by omega), if_pos ⟨trivial, decide_eq_true g⟩]
            exact ⟨trivial, _, rfl⟩
          · rw [if_neg (by omega), if_neg (fun z => g (of_decide_eq_true z.2))]
            exact ⟨trivial, _, rfl⟩
    · rintro ρ' C' ⟨rfl, o1, rfl⟩
      rw [List.take_length]
      subst hE
      dsimp only
      walk_at "dd"
      exact ⟨_, Sub.refl _, q⟩)

def R_stretches (A : Ad) : DSp := fun ds C P => ∃ t cal st b e, ds = [tfD A t, .str cal, .int st, .int b, .int e] ∧ e - b ≤ 5000 ∧ P (optL (pcD A) (stretchF t.bs cal st b e)) C
theorem len_stretches (A : Ad) : ∀ ds C P, R_stretches A ds C P → ds.length = 5 := by rintro _ _ _ ⟨t, cal, st, b, e, rfl, _⟩; rfl
theorem ok_stretches (T : Txt K mg A P w) : FnOk P w K mg base CX0 3 A.a_stretches A.d_stretches ["tariff", "called", "start", "begin", "till"] (spD K (R_stretches A)) :=
  ok_D T.F_stretches sc_stretches (len_stretches A) (fun cdv Ar outer s H E hr =>
    ds_consL (ds_set 5 sc_stretches.nd (d_lstC (d_nil)))
    (ds_cons (ds_set 6 sc_stretches.nd (d_var 3))
    (ds_consL (ds_while PassesOwn.never (d_tcmp op_lt s_lt (d_var 6) (d_var 4))
      (ds_consL (ds_set 7 sc_stretches.nd (d_meth T.c_Tariff T.m_Tariff_band_at (ok_Tariff_band_at T) (hr.mono (by decide)) T.b_Tariff_band_at (d_var 0) (d_cons (d_var 1) (d_cons (d_op op_add s_add (d_var 2) (d_var 6)) (d_nil)))))
      (ds_cons (ds_if (d_tcmp op_isN s_isN (d_var 7) (d_non))
        (ds_one (ds_ret (d_non)))
        (ds_nil))
      (ds_cons (ds_set 8 sc_stretches.nd (d_callB (call_min2 rfl) s_min2 (by rfl) T.z_min (by decide +kernel) (d_cons (d_var 4) (d_cons (d_op op_sub s_sub (d_op op_add s_add (d_var 6) (d_kint T.k_HOUR)) (d_op op_mod s_mod (d_op op_add s_add (d_var 2) (d_var 6)) (d_kint T.k_HOUR))) (d_nil)))))
      (ds_cons (ds_if ((d_and (d_tru (d_var 5)) (d_and1 (d_tcmp op_eq s_eq (d_fld T.c_Band T.n_Band_label (d_ix ix_seq s_ix (d_ix ix_seq s_ix (d_var 5) (d_un un_neg s_neg (d_int))) (d_int))) (d_fld T.c_Band T.n_Band_label (d_var 7))))).pt)
        (ds_one (ds_setL (d_var 5) (d_un un_neg s_neg (d_int)) (d_tup (d_cons (d_var 7) (d_cons (d_ix ix_seq s_ix (d_ix ix_seq s_ix (d_var 5) (d_un un_neg s_neg (d_int))) (d_int)) (d_cons (d_var 8) (d_nil)))))))
        (ds_one (ds_expr (d_bmL PySem.F.plainAttrs_list PySem.F.slot_list_append PySem.F.type_list_append mt_append s_append (d_var 5) (d_cons (d_tup (d_cons (d_var 7) (d_cons (d_var 6) (d_cons (d_var 8) (d_nil))))) (d_nil))))))
      (ds_one (ds_set 6 sc_stretches.nd (d_var 8))))))))
    (ds_one (ds_retF (d_var 5)))))) (fun ds C Pk h => by
    obtain ⟨t, cal, st, b, e, rfl, hl, q⟩ := h
    refine seq_hide fun E' hE => ?_
    walk_at "dd"
    intro p hp
    subst hE
    dsimp only [List.set_cons_succ, List.set_cons_zero]
    refine seq_hide fun E' hE => ?_
    walk_at "dd"
    subst hE
    dsimp only [List.set_cons_succ, List.set_cons_zero]
    refine seq_hide fun E' hE => ?_
    refine while_hide fun b' hb => ?_
    refine ⟨fun m ρ' C' => ∃ (n : Nat) (x : Int) (L : List Pc) (o1 o2 : Option D), m = n ∧ b ≤ x ∧ (e - x).toNat ≤ n ∧ (L.length : Int) ≤ x - b ∧ stF t.bs cal st e n x L = stretchF t.bs cal st b e ∧ ρ' = [some (tfD A t), some (.str cal), some (.int st), some (.int b), some (.int e), some (.ptr p), some (.int x), o1, o2] ∧ C' = cput C p (.lst (L.map (pcD A))), ⟨_, (e - b).toNat, b, [], none, none, rfl, Int.le_refl _, Nat.le_refl _, by simp, rfl, rfl, rfl⟩, ?_⟩
    rintro m ρ' C' ⟨n, x, L, o1, o2, rfl, hbx, hn, hL, hF, rfl, rfl⟩
    walk_at "dd"
    by_cases h1 : x < e
    · obtain ⟨n', rfl⟩ : ∃ n', m = n' + 1 := ⟨m - 1, by omega⟩
      rw [stF_go h1] at hF
      rw [if_pos h1]
      subst hb
      refine seq_hide fun E2 hE2 => ?_
      walk_at "dd"
      refine ⟨?_, ?_⟩
      · simp only [tfD]
        walk_at "dd"
      refine ⟨t, cal, st + x, rfl, ?_⟩
      subst hE2
      dsimp only [List.set_cons_succ, List.set_cons_zero]
      cases hB : bestF cal (st + x) t.bs with
      | none =>
        rw [hB] at hF
        dsimp only at hF
        rw [← hF] at q
        have e0 : optB A none = .non := rfl
        subst hE
        walk_at "dd"
        exact ⟨C, Sub.new hp, q⟩
      | some y =>
        rw [hB] at hF
        dsimp only at hF
        have e0 : optB A (some y) = bdD A y := rfl
        rw [e0]
        have hbx2 : x < min e (x + 3600 - (st + x) % 3600) := by
          have := mod_hi (st + x) (m := 3600) (by decide)
          omega
        have hpl := putP_len y x (min e (x + 3600 - (st + x) % 3600)) L
        generalize hz : min e (x + 3600 - (st + x) % 3600) = z at hF hbx2 hpl
        have fin : ∀ (L' : List Pc) u1 u2, L' = putP y x z L → (∃ m', m' < n' + 1 ∧ ∃ (n : Nat) (x : Int) (L : List Pc) (o1 o2 : Option D), m' = n ∧ b ≤ x ∧ (e - x).toNat ≤ n ∧ (L.length : Int) ≤ x - b ∧ stF t.bs cal st e n x L = stretchF t.bs cal st b e ∧ ([some (tfD A t), some (.str cal), some (.int st), some (.int b), some (.int e), some (.ptr p), some (.int z), u1, u2] : DEnv) = [some (tfD A t), some (.str cal), some (.int st), some (.int b), some (.int e), some (.ptr p), some (.int x), o1, o2] ∧ cput C p (.lst (L'.map (pcD A))) = cput C p (.lst (L.map (pcD A)))) := fun L' u1 u2 hL' =>
          ⟨n', by omega, n', z, L', u1, u2, rfl, by omega, by omega, by rw [hL']; omega, by rw [hL']; exact hF, rfl, rfl⟩
        rcases List.eq_nil_or_concat L with rfl | ⟨M, w, rfl⟩
        · simp only [bdD, bdF]
          walk_at "dd"
          exact ⟨by decide, by decide, fin [(y, x, z)] _ _ rfl⟩
        · have e3 : pcD A w = .tup [.ins A.C_Band [("label", .str w.1.lab), ("prefix", .str w.1.pre), ("from_hour", .int w.1.fh), ("to_hour", .int w.1.th), ("price", .int w.1.pr)], .int w.2.1, .int w.2.2] := rfl
          have e4 : ∀ d, (List.map (pcD A) M ++ [d]).isEmpty = false := fun d => by cases List.map (pcD A) M <;> rfl
          have e5 : ∀ d, ixN (List.map (pcD A) M ++ [d]).length (-1) = some (List.map (pcD A) M).length := fun d => by
            rw [List.length_append]
            exact ixN_last _
          have e6 : ∀ d d', (List.map (pcD A) M ++ [d]).set M.length d' = List.map (pcD A) M ++ [d'] := fun d d' => by
            have h := set_last (List.map (pcD A) M) d d'
            rw [List.length_map] at h
            exact h
          rw [List.concat_eq_append] at fin hL hpl
          rw [putP_snoc] at fin
          have ll : (List.map (pcD A) M ++ [pcD A w]).length < 100000 := by
            have : (List.map (pcD A) M ++ [pcD A w]).length = (M ++ [w]).length := by simp
            rw [this]; omega
          rw [e3] at ll
          simp only [bdD, bdF, List.concat_eq_append, List.map_append, List.map_cons, List.map_nil]
          clear hF hB e0 hpl
          by_cases g : w.1.lab = y.lab
          · rw [if_pos g] at fin
            have fin2 := fin (M ++ [(y, w.2.1, z)]) (some (bdD A y)) (some (.int z)) rfl
            rw [List.map_append, List.map_cons, List.map_nil] at fin2
            clear fin
            simp only [bdD, bdF, pcD] at fin2
            walk_at "dd"
            decide
          · rw [if_neg g] at fin
            have fin2 := fin (M ++ [w] ++ [(y, x, z)]) (some (bdD A y)) (some (.int z)) rfl
            rw [List.map_append, List.map_append, List.map_cons, List.map_nil, List.map_cons, List.map_nil, e3] at fin2
            clear fin
            simp only [bdD, bdF, pcD] at fin2
            walk_at "dd"
            decide
    · rw [stF_done h1] at hF
      rw [← hF] at q
      subst hE
      rw [if_neg h1]
      walk_at "dd"
      exact ⟨C, Sub.new hp, hp, C, Sub.refl _, q⟩)

def R_price_lines (A : Ad) : DSp := fun ds C P => ∃ t cal st b e, ds = [tfD A t, .str cal, .int st, .int b, .int e] ∧ b ≤ e ∧ e - b ≤ 5000 ∧ P (optL lnD (plF t cal st b e)) C
theorem len_price_lines (A : Ad) : ∀ ds C P, R_price_lines A ds C P → ds.length = 5 := by rintro _ _ _ ⟨t, cal, st, b, e, rfl, _⟩; rfl
theorem ok_price_lines (T : Txt K mg A P w) : FnOk P w K mg base CX0 4 A.a_price_lines A.d_price_lines ["tariff", "called", "start", "begin", "till"] (spD K (R_price_lines A)) :=
  ok_D T.F_price_lines sc_price_lines (len_price_lines A) (fun cdv Ar outer s H E hr =>
    ds_consL (ds_set 5 sc_price_lines.nd (d_call (ok_stretches T) (hr.mono (by decide)) T.g_stretches T.F_stretches.kp T.b_stretches (d_cons (d_var 0) (d_cons (d_var 1) (d_cons (d_var 2) (d_cons (d_var 3) (d_cons (d_var 4) (d_nil))))))))
    (ds_cons (ds_if (d_tcmp op_isN s_isN (d_var 5) (d_non))
      (ds_one (ds_ret (d_non)))
      (ds_nil))
    (ds_consL (ds_set 6 sc_price_lines.nd (d_lstC (d_cons (d_tup (d_cons (d_str) (d_cons (d_var 3) (d_cons (d_var 3) (d_cons (d_fld T.c_Tariff T.n_Tariff_setup_price (d_var 0)) (d_nil)))))) (d_nil))))
    (ds_consL (ds_for PassesOwn.never rfl (di_list (d_var 5)) (dg_tup rfl (dgs_cons (dg_name 7 sc_price_lines.nd) (dgs_cons (dg_name 8 sc_price_lines.nd) (dgs_cons (dg_name 9 sc_price_lines.nd) (dgs_nil)))))
      (ds_cons (ds_set 10 sc_price_lines.nd (d_op op_fdivW s_divW (d_op op_sub s_sub (d_op op_add s_add (d_op op_sub s_sub (d_var 9) (d_var 8)) (d_kint T.k_MINUTE)) (d_int)) (d_kint T.k_MINUTE)))
      (ds_one (ds_expr (d_bmL PySem.F.plainAttrs_list PySem.F.slot_list_append PySem.F.type_list_append mt_append s_append (d_var 6) (d_cons (d_tup (d_cons (d_fld T.c_Band T.n_Band_label (d_var 7)) (d_cons (d_var 8) (d_cons (d_var 9) (d_cons (d_op op_mul s_mul (d_fld T.c_Band T.n_Band_price (d_var 7)) (d_var 10)) (d_nil)))))) (d_nil)))))))
    (ds_one (ds_retF (d_var 6))))))) (fun ds C Pk h => by
    obtain ⟨t, cal, st, b, e, rfl, hbe, hl, q⟩ := h
    refine seq_hide fun E' hE => ?_
    walk_at "dd"
    refine ⟨t, cal, st, b, e, rfl, hl, ?_⟩
    subst hE
    dsimp only [List.set_cons_succ, List.set_cons_zero]
    unfold plF at q
    cases hS : stretchF t.bs cal st b e with
    | none =>
      rw [hS] at q
      have e1 : optL (pcD A) none = .non := rfl
      rw [e1]
      walk_at "dd"
      exact ⟨_, Sub.refl _, q⟩
    | some L =>
      rw [hS] at q
      have hln := stretch_len hS hbe hl
      have e1 : optL (pcD A) (some L) = .lst (L.map (pcD A)) := rfl
      rw [e1]
      refine seq_hide fun E' hE => ?_
      walk_at "dd"
      subst hE
      dsimp only [List.set_cons_succ, List.set_cons_zero]
      simp only [tfD]
      refine seq_hide fun E' hE => ?_
      walk_at "dd"
      intro p hp
      subst hE
      dsimp only [List.set_cons_succ, List.set_cons_zero]
      refine seq_hide fun E' hE => ?_
      walk_at "dd"
      refine for_map (enc := pcD A) (L := L) (fun k ρ' C' => (∃ o1 o2 o3 o4, ρ' = [some (tfD A t), some (.str cal), some (.int st), some (.int b), some (.int e), some (.lst (L.map (pcD A))), some (.ptr p), o1, o2, o3, o4]) ∧ C' = cput C p (.lst (((⟨"setup", b, b, t.su⟩ : Ln) :: (L.take k).map lnP).map lnD))) ⟨⟨_, _, _, _, rfl⟩, rfl⟩ ?_ ?_
      · rintro k w ρ' C' hk ⟨⟨o1, o2, o3, o4, rfl⟩, rfl⟩
        have e3 : pcD A w = .tup [.ins A.C_Band [("label", .str w.1.lab), ("prefix", .str w.1.pre), ("from_hour", .int w.1.fh), ("to_hour", .int w.1.th), ("price", .int w.1.pr)], .int w.2.1, .int w.2.2] := rfl
        have hw := w.1.ok
        have lk : (List.map lnD ((⟨"setup", b, b, t.su⟩ : Ln) :: (L.take k).map lnP)).length < 100000 := by
          rw [List.length_map, List.length_cons, List.length_map, List.length_take]
          omega
        rw [take_snoc hk]
        clear hk
        walk_at "dd"
        refine ⟨by decide, cmul_l (by omega) (by omega), by simpa using lk, ⟨_, _, _, _, rfl⟩, ?_⟩
        rw [List.map_append, List.map_append]
        rfl
      · rintro ρ' C' ⟨⟨o1, o2, o3, o4, rfl⟩, rfl⟩
        rw [List.take_length]
        subst hE
        walk_at "dd"
        exact ⟨C, Sub.new hp, hp, C, Sub.refl _, q⟩)

def R_ChargeRun_lines_of (A : Ad) : DSp := fun ds C P => ∃ p s n f c ts t a p0 p1 p2, ds = [.ptr p, scD A s, .str n, .int f] ∧ C p = some (.ins A.C_ChargeRun [("contracts", c), ("tariffs", .dK (tsK A ts)), ("allowances", a), ("used", p0), ("charges", p1), ("left_out", p2)]) ∧
  lkA ts n = some t ∧ 0 ≤ f ∧ P (optL lnD (linesF t s f)) C
theorem len_ChargeRun_lines_of (A : Ad) : ∀ ds C P, R_ChargeRun_lines_of A ds C P → ds.length = 4 := by rintro _ _ _ ⟨p, s, n, f, c, ts, t, a, p0, p1, p2, rfl, _⟩; rfl
theorem ok_ChargeRun_lines_of (T : Txt K mg A P w) : FnOk P w K mg base CX0 5 A.a_ChargeRun_lines_of A.d_ChargeRun_lines_of ["self", "section", "name", "free"] (spD K (R_ChargeRun_lines_of A)) :=
  ok_D T.F_ChargeRun_lines_of sc_ChargeRun_lines_of (len_ChargeRun_lines_of A) (fun cdv Ar outer s H E hr =>
    ds_cons (ds_set 4 sc_ChargeRun_lines_of.nd (d_lst (d_nil)))
    (ds_consL (ds_if (d_tcmp op_lt s_lt (d_var 3) (d_fld T.c_Section T.n_Section_seconds (d_var 1)))
      (ds_cons (ds_set 5 sc_ChargeRun_lines_of.nd (d_dget hr (d_fld T.c_ChargeRun T.n_ChargeRun_tariffs (d_var 0)) (d_var 2)))
      (ds_consL (ds_set 4 sc_ChargeRun_lines_of.nd (d_call (ok_price_lines T) (hr.mono (by decide)) T.g_price_lines T.F_price_lines.kp T.b_price_lines (d_cons (d_var 5) (d_cons (d_fld T.c_Section T.n_Section_called (d_var 1)) (d_cons (d_fld T.c_Section T.n_Section_start (d_var 1)) (d_cons (d_var 3) (d_cons (d_fld T.c_Section T.n_Section_seconds (d_var 1)) (d_nil))))))))
      (ds_one (ds_if (d_tcmp op_isN s_isN (d_var 4) (d_non))
        (ds_one (ds_ret (d_non)))
        (ds_nil)))))
      (ds_nil))
    (ds_cons (ds_if (d_tcmp op_gt s_gt (d_var 3) (d_int))
      (ds_one (ds_set 4 sc_ChargeRun_lines_of.nd (d_op op_catS s_cat (d_lst (d_cons (d_tup (d_cons (d_str) (d_cons (d_int) (d_cons (d_var 3) (d_cons (d_int) (d_nil)))))) (d_nil))) (d_var 4))))
      (ds_nil))
    (ds_one (ds_ret (d_var 4)))))) (fun ds C Pk h => by
    obtain ⟨p, s, n, f, c, ts, t, a, p0, p1, p2, rfl, hp, ht, h0, q⟩ := h
    have hs := s.ok
    have hv : vaD (tsK A ts) (Sum.inr n) = some (tfD A t) := by
      have := va_tab (fun x : Str => (Sum.inr x : L2.Key)) inr_inj (tfD A) n ts
      rw [ht] at this
      exact this
    clear ht
    walk_at "dd"
    refine seq_hide fun E' hE => ?_
    have fin : ∀ (L : List Ln) o, (L.length ≤ 10) → Pk (optL lnD (some (if f > 0 then (⟨"free", 0, f, 0⟩ : Ln) :: L else L))) C → E'.nx [some (.ptr p), some (scD A s), some (.str n), some (.int f), some (.lst (L.map lnD)), o] C := fun L o hl q => by
      subst hE
      dsimp only [List.set_cons_succ, List.set_cons_zero]
      by_cases g : 0 < f
      · rw [if_pos g] at q
        have e : optL lnD (some ((⟨"free", 0, f, 0⟩ : Ln) :: L)) = .lst (.tup [.str "free", .int 0, .int f, .int 0] :: L.map lnD) := rfl
        rw [e] at q
        walk_at "dd"
        refine ⟨by omega, _, Sub.refl _, q⟩
      · rw [if_neg g] at q
        have e : optL lnD (some L) = .lst (L.map lnD) := rfl
        rw [e] at q
        walk_at "dd"
        exact ⟨_, Sub.refl _, q⟩
    unfold linesF at q
    simp only [scD] at fin ⊢
    by_cases g : f < s.sec
    · rw [if_pos g] at q
      walk_at "dd"
      refine seq_hide fun E2 hE2 => ?_
      walk_at "dd"
      refine ⟨t, s.cal, s.st, f, s.sec, rfl, by omega, by omega, ?_⟩
      subst hE2
      cases hP : plF t s.cal s.st f s.sec with
      | none =>
        rw [hP] at q
        have e : optL lnD none = .non := rfl
        clear fin
        subst hE
        walk_at "dd"
        exact ⟨_, Sub.refl _, q⟩
      | some L =>
        rw [hP] at q
        have hln := plF_len hP (by omega) (by omega)
        have e : optL lnD (some L) = .lst (L.map lnD) := rfl
        have fin2 := fin L (some (tfD A t)) (by omega) q
        clear hE fin
        rw [e]
        walk_at "dd"
    · rw [if_neg g] at q
      have fin2 := fin [] none (by decide) q
      clear hE fin
      walk_at "dd"
      exact fin2)

def R_ChargeRun_free_left (A : Ad) : DSp := fun ds C P => ∃ p acc m c t al u pu p1 p2, ds = [.ptr p, .str acc, .int m] ∧ C p = some (.ins A.C_ChargeRun [("contracts", c), ("tariffs", t), ("allowances", .dK (alK al)), ("used", .ptr pu), ("charges", p1), ("left_out", p2)]) ∧
  C pu = some (.dT (usK u)) ∧ P (.int (alF al acc - getU u (acc, m))) C
theorem len_ChargeRun_free_left (A : Ad) : ∀ ds C P, R_ChargeRun_free_left A ds C P → ds.length = 3 := by rintro _ _ _ ⟨p, acc, m, c, t, al, u, pu, p1, p2, rfl, _⟩; rfl
theorem ok_ChargeRun_free_left (T : Txt K mg A P w) : FnOk P w K mg base CX0 1 A.a_ChargeRun_free_left A.d_ChargeRun_free_left ["self", "account", "month"] (spD K (R_ChargeRun_free_left A)) :=
  ok_D T.F_ChargeRun_free_left sc_ChargeRun_free_left (len_ChargeRun_free_left A) (fun cdv Ar outer s H E hr =>
    ds_one (ds_ret (d_op op_sub s_sub (dd_get2 hr (d_fld T.c_ChargeRun T.n_ChargeRun_allowances (d_var 0)) (d_var 1) (d_int)) (dd_get2 hr (d_fld T.c_ChargeRun T.n_ChargeRun_used (d_var 0)) (d_tup (d_cons (d_var 1) (d_cons (d_var 2) (d_nil)))) (d_int))))) (fun ds C Pk h => by
    obtain ⟨p, acc, m, c, t, al, u, pu, p1, p2, rfl, hp, hu, q⟩ := h
    have hg : (vaD (usK u) [Sum.inr acc, Sum.inl m]).getD (.int 0) = .int (getU u (acc, m)) := us_get u (acc, m)
    have hv : vaD (alK al) (Sum.inr acc) = (lkA al acc).map D.int := va_tab (fun x : Str => (Sum.inr x : L2.Key)) inr_inj D.int acc al
    have ha : (vaD (alK al) (Sum.inr acc)).getD (.int 0) = .int (alF al acc) := by
      rw [hv]; unfold alF; cases lkA al acc <;> rfl
    clear hv
    walk_at "dd"
    exact ⟨_, Sub.refl _, q⟩)

def R_Charge_init (A : Ad) : DSp := fun ds C P => ∃ p a b c d, ds = [.ptr p, a, b, c, d] ∧ C p = some (.ins A.C_Charge []) ∧ P .non (cput C p (.ins A.C_Charge [("key", a), ("account", b), ("till", c), ("mills", d)]))
theorem len_Charge_init (A : Ad) : ∀ ds C P, R_Charge_init A ds C P → ds.length = 5 := by rintro _ _ _ ⟨p, a, b, c, d, rfl, _⟩; rfl
theorem ok_Charge_init (T : Txt K mg A P w) : FnOk P w K mg base CX0 1 A.a_Charge_init A.d_Charge_init ["self", "key", "account", "till", "mills"] (spD K (R_Charge_init A)) :=
  ok_D T.F_Charge_init sc_Charge_init (len_Charge_init A) (fun cdv Ar outer s H E hr =>
    ds_cons (ds_fld T.c_Charge T.n_Charge_key (d_var 0) (d_var 1))
    (ds_cons (ds_fld T.c_Charge T.n_Charge_account (d_var 0) (d_var 2))
    (ds_cons (ds_fld T.c_Charge T.n_Charge_till (d_var 0) (d_var 3))
    (ds_one (ds_fld T.c_Charge T.n_Charge_mills (d_var 0) (d_var 4)))))) (fun ds C Pk h => by
    obtain ⟨p, a, b, c, d, rfl, hp, q⟩ := h
    walk_at "dd"
    exact ⟨by decide, by decide, by decide, by decide, _, Sub.refl _, q⟩)

/-- a run of charging: where it stands -/
structure RunAt (A : Ad) (C : Cells) (p pc ph pu p1 p2 : Addr) (hi : Hist) (ts : Tab) (al : Alw) (rs : Rs) : Prop where
  run : C p = some (.ins A.C_ChargeRun [("contracts", .ptr pc), ("tariffs", .dK (tsK A ts)), ("allowances", .dK (alK al)), ("used", .ptr pu), ("charges", .ptr p1), ("left_out", .ptr p2)])
  con : C pc = some (.ins A.C_Contracts [("histories", .ptr ph)])
  his : C ph = some (.dK (hiK hi))
  use : C pu = some (.dT (usK rs.u))
  chg : C p1 = some (.lst (rs.ch.map (cgD A)))
  lft : C p2 = some (.lst (rs.lf.map lfD))
  ne : p1 ≠ p2
theorem RunAt.nes {A : Ad} {C : Cells} {p pc ph pu p1 p2 : Addr} {hi : Hist} {ts : Tab} {al : Alw} {rs : Rs} (h : RunAt A C p pc ph pu p1 p2 hi ts al rs) : p ≠ pu ∧ p ≠ p1 ∧ p ≠ p2 ∧ pc ≠ pu ∧ pc ≠ p1 ∧ pc ≠ p2 ∧ ph ≠ pu ∧ ph ≠ p1 ∧ ph ≠ p2 ∧ pu ≠ p1 ∧ pu ≠ p2 := by
  obtain ⟨h0, h1, h2, h3, h4, h5, _⟩ := h
  refine ⟨?_, ?_, ?_, ?_, ?_, ?_, ?_, ?_, ?_, ?_, ?_⟩ <;> intro e <;> subst e <;> simp_all
theorem RunAt.left {A : Ad} {C : Cells} {p pc ph pu p1 p2 : Addr} {hi : Hist} {ts : Tab} {al : Alw} {rs : Rs} (h : RunAt A C p pc ph pu p1 p2 hi ts al rs) (r : Int × Str) :
    RunAt A (cput C p2 (.lst (rs.lf.map lfD ++ [lfD r]))) p pc ph pu p1 p2 hi ts al { rs with lf := rs.lf ++ [r] } := by
  obtain ⟨n1, n2, n3, n4, n5, n6, n7, n8, n9, n10, n11⟩ := h.nes
  refine ⟨(cput_ne n3).trans h.run, (cput_ne n6).trans h.con, (cput_ne n9).trans h.his, (cput_ne n11).trans h.use, (cput_ne h.ne).trans h.chg, ?_, h.ne⟩
  rw [cput_same, List.map_append]; rfl
theorem RunAt.used {A : Ad} {C : Cells} {p pc ph pu p1 p2 : Addr} {hi : Hist} {ts : Tab} {al : Alw} {rs : Rs} (h : RunAt A C p pc ph pu p1 p2 hi ts al rs) (u : Us) :
    RunAt A (cput C pu (.dT (usK u))) p pc ph pu p1 p2 hi ts al { rs with u := u } := by
  obtain ⟨n1, n2, n3, n4, n5, n6, n7, n8, n9, n10, n11⟩ := h.nes
  exact ⟨(cput_ne n1).trans h.run, (cput_ne n4).trans h.con, (cput_ne n7).trans h.his, cput_same, (cput_ne n10.symm).trans h.chg, (cput_ne n11.symm).trans h.lft, h.ne⟩
theorem RunAt.more {A : Ad} {C : Cells} {p pc ph pu p1 p2 : Addr} {hi : Hist} {ts : Tab} {al : Alw} {rs : Rs} (h : RunAt A C p pc ph pu p1 p2 hi ts al rs) (c : Cg) :
    RunAt A (cput C p1 (.lst (rs.ch.map (cgD A) ++ [cgD A c]))) p pc ph pu p1 p2 hi ts al { rs with ch := rs.ch ++ [c] } := by
  obtain ⟨n1, n2, n3, n4, n5, n6, n7, n8, n9, n10, n11⟩ := h.nes
  refine ⟨(cput_ne n2).trans h.run, (cput_ne n5).trans h.con, (cput_ne n8).trans h.his, (cput_ne n10).trans h.use, ?_, (cput_ne h.ne.symm).trans h.lft, h.ne⟩
  rw [cput_same, List.map_append]; rfl
def R_ChargeRun_take (A : Ad) : DSp := fun ds C P => ∃ p pc ph pu p1 p2 hi ts al rs s l, ds = [.ptr p, scD A s] ∧ RunAt A C p pc ph pu p1 p2 hi ts al rs ∧ UOk al rs.u ∧ rs.u.length ≤ 1000 ∧ rs.ch.length ≤ 5000 ∧ rs.lf.length ≤ 1000 ∧ s.pay = some l ∧
  ∀ C', RunAt A C' p pc ph pu p1 p2 hi ts al (takeF hi ts al s rs) → (∀ x c, C x = some c → x ≠ pu → x ≠ p1 → x ≠ p2 → C' x = some c) → P .non C'
theorem len_ChargeRun_take (A : Ad) : ∀ ds C P, R_ChargeRun_take A ds C P → ds.length = 2 := by rintro _ _ _ ⟨p, pc, ph, pu, p1, p2, hi, ts, al, rs, s, l, rfl, _⟩; rfl
theorem ok_ChargeRun_take (T : Txt K mg A P w) : FnOk P w K mg base CX0 6 A.a_ChargeRun_take A.d_ChargeRun_take ["self", "section"] (spD K (R_ChargeRun_take A)) :=
  ok_D T.F_ChargeRun_take sc_ChargeRun_take (len_ChargeRun_take A) (fun cdv Ar outer s H E hr =>
    ds_consL (ds_set 2 sc_ChargeRun_take.nd (d_meth T.c_Contracts T.m_Contracts_in_force (ok_Contracts_in_force T) (hr.mono (by decide)) T.b_Contracts_in_force (d_fld T.c_ChargeRun T.n_ChargeRun_contracts (d_var 0)) (d_cons (d_fld T.c_Section T.n_Section_payer (d_var 1)) (d_cons (d_fld T.c_Section T.n_Section_opened (d_var 1)) (d_nil)))))
    (ds_consL (ds_set 3 sc_ChargeRun_take.nd (d_meth T.c_ChargeRun T.m_ChargeRun_reason_against (ok_ChargeRun_reason_against T) (hr.mono (by decide)) T.b_ChargeRun_reason_against (d_var 0) (d_cons (d_var 1) (d_cons (d_var 2) (d_nil)))))
    (ds_cons (ds_if (d_tcmp op_notN s_notN (d_var 3) (d_non))
      (ds_cons (ds_expr (d_bmL PySem.F.plainAttrs_list PySem.F.slot_list_append PySem.F.type_list_append mt_append s_append (d_fld T.c_ChargeRun T.n_ChargeRun_left_out (d_var 0)) (d_cons (d_tup (d_cons (d_fld T.c_Section T.n_Section_owner (d_var 1)) (d_cons (d_var 3) (d_nil)))) (d_nil))))
      (ds_one (ds_retN)))
      (ds_nil))
    (ds_cons (ds_asg (d_var 2) (dg_tup rfl (dgs_cons (dg_name 4 sc_ChargeRun_take.nd) (dgs_cons (dg_name 5 sc_ChargeRun_take.nd) (dgs_nil)))))
    (ds_cons (ds_set 6 sc_ChargeRun_take.nd (d_op op_fdivW s_divW (d_fld T.c_Section T.n_Section_opened (d_var 1)) (d_kint T.k_MONTH)))
    (ds_consL (ds_set 7 sc_ChargeRun_take.nd (d_callB (call_min2 rfl) s_min2 (by rfl) T.z_min (by decide +kernel) (d_cons (d_fld T.c_Section T.n_Section_seconds (d_var 1)) (d_cons (d_meth T.c_ChargeRun T.m_ChargeRun_free_left (ok_ChargeRun_free_left T) (hr.mono (by decide)) T.b_ChargeRun_free_left (d_var 0) (d_cons (d_var 4) (d_cons (d_var 6) (d_nil)))) (d_nil)))))
    (ds_consL (ds_set 8 sc_ChargeRun_take.nd (d_meth T.c_ChargeRun T.m_ChargeRun_lines_of (ok_ChargeRun_lines_of T) (hr.mono (by decide)) T.b_ChargeRun_lines_of (d_var 0) (d_cons (d_var 1) (d_cons (d_var 5) (d_cons (d_var 7) (d_nil))))))
    (ds_cons (ds_if (d_tcmp op_isN s_isN (d_var 8) (d_non))
      (ds_cons (ds_expr (d_bmL PySem.F.plainAttrs_list PySem.F.slot_list_append PySem.F.type_list_append mt_append s_append (d_fld T.c_ChargeRun T.n_ChargeRun_left_out (d_var 0)) (d_cons (d_tup (d_cons (d_fld T.c_Section T.n_Section_owner (d_var 1)) (d_cons (d_str) (d_nil)))) (d_nil))))
      (ds_one (ds_retN)))
      (ds_nil))
    (ds_cons (ds_setD hr (d_fld T.c_ChargeRun T.n_ChargeRun_used (d_var 0)) (d_tup (d_cons (d_var 4) (d_cons (d_var 6) (d_nil)))) (d_op op_add s_add (dd_get2 hr (d_fld T.c_ChargeRun T.n_ChargeRun_used (d_var 0)) (d_tup (d_cons (d_var 4) (d_cons (d_var 6) (d_nil)))) (d_int)) (d_var 7)))
    (ds_one (ds_for PassesOwn.never rfl (di_list (d_var 8)) (dg_tup rfl (dgs_cons (dg_name 9 sc_ChargeRun_take.nd) (dgs_cons (dg_name 10 sc_ChargeRun_take.nd) (dgs_cons (dg_name 11 sc_ChargeRun_take.nd) (dgs_cons (dg_name 12 sc_ChargeRun_take.nd) (dgs_nil))))))
      (ds_one (ds_expr (d_bmL PySem.F.plainAttrs_list PySem.F.slot_list_append PySem.F.type_list_append mt_append s_append (d_fld T.c_ChargeRun T.n_ChargeRun_charges (d_var 0)) (d_cons (d_makeF T.m_Charge_init (ok_Charge_init T) (hr.mono (by decide)) T.g_Charge T.b_Charge_init (d_cons (d_tup (d_cons (d_fld T.c_Section T.n_Section_owner (d_var 1)) (d_cons (d_var 10) (d_cons (d_var 9) (d_nil))))) (d_cons (d_var 4) (d_cons (d_var 11) (d_cons (d_var 12) (d_nil)))))) (d_nil)))))))))))))))) (fun ds C Pk h => by
    obtain ⟨p, pc, ph, pu, p1, p2, hi, ts, al, rs, s, l, rfl, hR, hu, hlu, hlc, hll, hpay, q⟩ := h
    obtain ⟨n1, n2, n3, n4, n5, n6, n7, n8, n9, n10⟩ := hR.nes
    have r0 := hR.run
    have r1 := hR.con
    have r2 := hR.his
    have r3 := hR.use
    have r4 := hR.chg
    have r5 := hR.lft
    have hp1 : Hid (optS s.pay = .str l) := by show optS s.pay = .str l; rw [hpay]; rfl
    have eT : takeF hi ts al s rs = takeC ts al (inForceF hi l s.op) s rs := by unfold takeF; rw [hpay]
    rw [eT] at q
    clear eT hpay
    have ll : (rs.lf.map lfD).length < 100000 := by rw [List.length_map]; omega
    have hleft : ∀ r : Int × Str, takeC ts al (inForceF hi l s.op) s rs = { rs with lf := rs.lf ++ [r] } → Pk .non (cput C p2 (.lst (rs.lf.map lfD ++ [lfD r]))) := fun r e => by
      rw [e] at q
      exact q _ (hR.left r) fun x c hx _ _ h3 => (cput_ne h3).trans hx
    refine seq_hide fun E' hE => ?_
    simp only [scD]
    walk_at "dd"
    refine ⟨pc, l, s.op, ph, hi, by rw [show optS s.pay = .str l from hp1], r1, r2, ?_⟩
    generalize ho : inForceF hi l s.op = o at hleft q
    subst hE
    dsimp only [List.set_cons_succ, List.set_cons_zero]
    refine seq_hide fun E' hE => ?_
    walk_at "dd"
    refine ⟨p, _, o, _, ts, _, _, _, _, rfl, r0, ?_⟩
    subst hE
    dsimp only [List.set_cons_succ, List.set_cons_zero]
    cases o with
    | none =>
      have e1 : optS (reasonF ts none) = .str "no contract" := rfl
      have hq := hleft (s.k, "no contract") rfl
      simp only [lfD] at hq
      clear hleft q
      rw [e1]
      walk_at "dd"
      exact ⟨by simpa using ll, _, Sub.refl _, hq⟩
    | some o =>
      obtain ⟨a, n⟩ := o
      have e0 : conD (some (a, n)) = .tup [.str a, .str n] := rfl
      cases hn : lkA ts n with
      | none =>
        have e1 : optS (reasonF ts (some (a, n))) = .str "no tariff" := by unfold reasonF; dsimp only; rw [hn]; rfl
        have hq := hleft (s.k, "no tariff") (by unfold takeC; dsimp only; rw [hn])
        simp only [lfD] at hq
        clear hleft q
        rw [e1]
        walk_at "dd"
        exact ⟨by simpa using ll, _, Sub.refl _, hq⟩
      | some t =>
        have e1 : optS (reasonF ts (some (a, n))) = .non := by unfold reasonF; dsimp only; rw [hn]; rfl
        have e2 : takeC ts al (some (a, n)) s rs = takeT t a (min s.sec (alF al a - getU rs.u (a, s.op / 2592000))) s rs := by unfold takeC; dsimp only; rw [hn]
        rw [e2] at q hleft
        rw [e1, e0]
        have hs := s.ok
        have huu := hu (a, s.op / 2592000)
        dsimp only at huu
        walk_at "dd"
        refine ⟨by decide, ?_⟩
        refine seq_hide fun E' hE => ?_
        walk_at "dd"
        refine ⟨p, a, s.op / 2592000, _, _, al, rs.u, pu, _, _, rfl, r0, r3, ?_⟩
        dsimp only
        generalize hfv : min s.sec (alF al a - getU rs.u (a, s.op / 2592000)) = f at q hleft
        have hf0 : 0 ≤ f := by omega
        clear hfv
        subst hE
        dsimp only [List.set_cons_succ, List.set_cons_zero]
        refine seq_hide fun E' hE => ?_
        walk_at "dd"
        refine ⟨p, s, n, f, _, ts, t, _, _, _, _, rfl, r0, hn, hf0, ?_⟩
        subst hE
        dsimp only [List.set_cons_succ, List.set_cons_zero]
        unfold takeT at q hleft
        cases hL : linesF t s f with
        | none =>
          rw [hL] at q hleft
          have hq := hleft (s.k, "no band") rfl
          simp only [lfD] at hq
          have e3 : optL lnD none = .non := rfl
          clear hleft q
          rw [e3]
          walk_at "dd"
          exact ⟨by simpa using ll, _, Sub.refl _, hq⟩
        | some L =>
          have hll5 := linesF_len hL hf0
          rw [hL] at q
          dsimp only at q
          have e3 : optL lnD (some L) = .lst (L.map lnD) := rfl
          have hg : (vaD (usK rs.u) [Sum.inr a, Sum.inl (s.op / 2592000)]).getD (.int 0) = .int (getU rs.u (a, s.op / 2592000)) := us_get rs.u (a, s.op / 2592000)
          have hpu : puD (usK rs.u) [Sum.inr a, Sum.inl (s.op / 2592000)] (.int (getU rs.u (a, s.op / 2592000) + f)) = usK (puA rs.u (a, s.op / 2592000) (getU rs.u (a, s.op / 2592000) + f)) := us_put rs.u (a, s.op / 2592000) _
          have lu : (usK rs.u).length < 100000 := by unfold usK; rw [List.length_map]; omega
          have hR1 := hR.used (puA rs.u (a, s.op / 2592000) (getU rs.u (a, s.op / 2592000) + f))
          clear hleft hL hn e1 e2 huu hs hu
          rw [e3]
          walk_at "dd"
          generalize puA rs.u (a, s.op / 2592000) (getU rs.u (a, s.op / 2592000) + f) = u' at hR1 q
          have hK : ∀ x c, C x = some c → x ≠ pu → cput C pu (.dT (usK u')) x = some c := fun x c hx h => (cput_ne h).trans hx
          clear hpu hg lu r3 r4 r5 ll
          generalize cput C pu (.dT (usK u')) = C1 at hR1 hK
          refine for_map (enc := lnD) (L := L) (fun k ρ' C' => RunAt A C' p pc ph pu p1 p2 hi ts al ⟨u', rs.ch ++ (L.take k).map (mkCg s.k a), rs.lf⟩ ∧ (∀ x c, C x = some c → x ≠ pu → x ≠ p1 → C' x = some c) ∧ ∃ o1 o2 o3 o4, ρ' = [some (.ptr p), some (scD A s), some (.tup [.str a, .str n]), some .non, some (.str a), some (.str n), some (.int (s.op / 2592000)), some (.int f), some (.lst (L.map lnD)), o1, o2, o3, o4]) ⟨?_, fun x c hx h _ => hK x c hx h, _, _, _, _, rfl⟩ ?_ ?_
          · rw [List.take_zero, List.map_nil, List.append_nil]; exact hR1
          · rintro k w ρ' C' hk ⟨hR2, hK2, o1, o2, o3, o4, rfl⟩
            have lk : (L.take k).length ≤ 5 := by rw [List.length_take]; omega
            rw [take_snoc hk]
            clear hk
            generalize hM : (L.take k).map (mkCg s.k a) = M at hR2
            have lM : M.length ≤ 5 := by rw [← hM, List.length_map]; exact lk
            have s0 := hR2.run
            have s4 := hR2.chg
            have hm := hR2.more (mkCg s.k a w)
            simp only [scD, lnD]
            clear r0 r1 r2
            walk_at "dd"
            intro p' hp'
            refine ⟨p', _, _, _, _, rfl, cput_same, rfl, ?_⟩
            rw [cput_cput, cput_same]
            refine ⟨C', Sub.new hp', hp', ?_⟩
            have s4' : C' p1 = some (.lst ((rs.ch ++ M).map (cgD A))) := s4
            rw [s4']
            refine ⟨by rw [List.length_map, List.length_append]; omega, ?_, fun x c hx h1 h2 => (cput_ne h2).trans (hK2 x c hx h1 h2), _, _, _, _, rfl⟩
            have e9 : rs.ch ++ List.map (mkCg s.k a) (List.take k L ++ [w]) = rs.ch ++ M ++ [mkCg s.k a w] := by
              rw [List.map_append, hM, List.append_assoc]; rfl
            rw [e9]
            exact hm
          · rintro ρ' C' ⟨hR2, hK2, o1, o2, o3, o4, rfl⟩
            rw [List.take_length] at hR2
            exact ⟨_, Sub.refl _, q C' hR2 fun x c hx h1 h2 _ => hK2 x c hx h1 h2⟩)

def R_charge_sections (A : Ad) : DSp := fun ds C P => ∃ ss pc ph hi ts al, ds = [.lst (ss.map (scD A)), .ptr pc, .dK (tsK A ts), .dK (alK al)] ∧ ss.length ≤ 200 ∧ NnA al ∧ C pc = some (.ins A.C_Contracts [("histories", .ptr ph)]) ∧ C ph = some (.dK (hiK hi)) ∧
  ∀ C' p1 p2, Sub C C' → C p1 = none → C p2 = none → p1 ≠ p2 → C' p1 = some (.lst ((runF hi ts al ss).ch.map (cgD A))) → C' p2 = some (.lst ((runF hi ts al ss).lf.map lfD)) → P (.tup [.ptr p1, .ptr p2]) C'
theorem len_charge_sections (A : Ad) : ∀ ds C P, R_charge_sections A ds C P → ds.length = 4 := by rintro _ _ _ ⟨ss, pc, ph, hi, ts, al, rfl, _⟩; rfl
theorem ok_charge_sections (T : Txt K mg A P w) : FnOk P w K mg base CX0 7 A.a_charge_sections A.d_charge_sections ["sections", "contracts", "tariffs", "allowances"] (spD K (R_charge_sections A)) :=
  ok_D T.F_charge_sections sc_charge_sections (len_charge_sections A) (fun cdv Ar outer s H E hr =>
    ds_consL (ds_set 4 sc_charge_sections.nd (d_make T.m_ChargeRun_init (ok_ChargeRun_init T) (hr.mono (by decide)) T.g_ChargeRun T.b_ChargeRun_init (d_cons (d_var 1) (d_cons (d_var 2) (d_cons (d_var 3) (d_nil))))))
    (ds_consL (ds_for PassesOwn.never rfl (di_list (d_sortK (ok_section_place T) (hr.mono (by decide)) T.b_section_place T.g_section_place (by rfl) T.z_sorted (by decide +kernel) (d_var 0))) (dg_name 5 sc_charge_sections.nd)
      (ds_one (ds_if (d_not (d_tval (d_meth0 T.c_Section T.m_Section_is_free (ok_Section_is_free T) (hr.mono (by decide)) T.b_Section_is_free (d_var 5))))
        (ds_one (ds_expr (d_meth T.c_ChargeRun T.m_ChargeRun_take (ok_ChargeRun_take T) (hr.mono (by decide)) T.b_ChargeRun_take (d_var 4) (d_cons (d_var 5) (d_nil)))))
        (ds_nil))))
    (ds_one (ds_ret (d_tup (d_cons (d_fld T.c_ChargeRun T.n_ChargeRun_charges (d_var 4)) (d_cons (d_fld T.c_ChargeRun T.n_ChargeRun_left_out (d_var 4)) (d_nil)))))))) (fun ds C Pk h => by
    obtain ⟨ss, pc, ph, hi, ts, al, rfl, hl, hal, hc, hh, q⟩ := h
    refine seq_hide fun E' hE => ?_
    walk_at "dd"
    intro p hp
    refine ⟨p, _, _, _, rfl, cput_same, fun C1 pu p1 p2 c0 c1 c2 c3 n1 n2 n3 n12 hk => ⟨rfl, ?_⟩⟩
    subst hE
    dsimp only [List.set_cons_succ, List.set_cons_zero]
    refine seq_hide fun E' hE => ?_
    have sub1 : Sub C C1 := fun x c hx => by
      have := cell_ne hx hp
      exact hk x c ((cput_ne this).trans hx) this
    walk_at "dd"
    refine ⟨keyD', ?_, fun d hd => ?_, ?_⟩
    · rw [List.map_map]
      exact sorts_keyS ss
    · obtain ⟨s, _, rfl⟩ := List.mem_map.mp hd
      exact ⟨s, rfl, rfl, Sub.refl _⟩
    rw [sort_sc]
    refine for_map (enc := scD A) (L := ss.mergeSort leS) (fun k ρ' C' => RunAt A C' p pc ph pu p1 p2 hi ts al (((ss.mergeSort leS).take k).foldl (stepF hi ts al) ⟨[], [], []⟩) ∧ Sub C C' ∧ ∃ o, ρ' = [some (.lst (ss.map (scD A))), some (.ptr pc), some (.dK (tsK A ts)), some (.dK (alK al)), some (.ptr p), o]) ⟨⟨c0, sub1 _ _ hc, sub1 _ _ hh, c1, c2, c3, n12⟩, sub1, _, rfl⟩ ?_ ?_
    · rintro k s ρ' C' hk ⟨hR, hS, o, rfl⟩
      have e1 : ((ss.mergeSort leS).take (k + 1)).foldl (stepF hi ts al) ⟨[], [], []⟩ = stepF hi ts al (((ss.mergeSort leS).take k).foldl (stepF hi ts al) ⟨[], [], []⟩) s := by
        rw [take_snoc hk, List.foldl_append]; rfl
      have hok := runF_ok (hi := hi) (ts := ts) hal ((ss.mergeSort leS).take k)
      rw [e1]
      have hlk : ((ss.mergeSort leS).take k).length ≤ 200 := by rw [List.length_take, List.length_mergeSort]; omega
      generalize ((ss.mergeSort leS).take k).foldl (stepF hi ts al) ⟨[], [], []⟩ = rs at hR hok
      clear hk e1
      have hlu := hok.lu
      have hlc := hok.lc
      have hll := hok.ll
      walk_at "dd"
      refine ⟨⟨rfl, rfl⟩, s, rfl, ?_⟩
      dsimp only
      cases hf : freeS s with
      | true =>
        have e2 : stepF hi ts al rs s = rs := by unfold stepF; rw [hf, if_pos rfl]
        rw [e2, if_neg (by decide)]
        exact ⟨hR, hS, _, rfl⟩
      | false =>
        have e2 : stepF hi ts al rs s = takeF hi ts al s rs := by unfold stepF; rw [hf, if_neg Bool.false_ne_true]
        obtain ⟨l, hpay⟩ : ∃ l, s.pay = some l := by
          unfold freeS at hf
          cases h : s.pay with
          | none => rw [h] at hf; cases hf
          | some l => exact ⟨l, rfl⟩
        rw [e2, if_pos (by decide), hR.run]
        refine ⟨⟨rfl, rfl⟩, p, pc, ph, pu, p1, p2, hi, ts, al, rs, s, l, rfl, hR, hok.u, by omega, by omega, by omega, hpay, fun C2 hR2 hk2 => ⟨hR2, fun x c hx => ?_, _, rfl⟩⟩
        have hxp := cell_ne hx hp
        have hx1 : cput C p (.ins A.C_ChargeRun []) x = some c := (cput_ne hxp).trans hx
        exact hk2 x c (hS x c hx) (cell_ne hx1 n1) (cell_ne hx1 n2) (cell_ne hx1 n3)
    · rintro ρ' C' ⟨hR, hS, o, rfl⟩
      rw [List.take_of_length_le (by simp only [List.length_mergeSort, Nat.le_refl])] at hR
      have r0 := hR.run
      have q2 := q C' p1 p2 hS (by
        rw [cput_ne (fun z => by rw [z] at n2; rw [cput_same] at n2; cases n2)] at n2; exact n2) (by
        rw [cput_ne (fun z => by rw [z] at n3; rw [cput_same] at n3; cases n3)] at n3; exact n3) n12 hR.chg hR.lft
      subst hE
      walk_at "dd"
      exact ⟨_, Sub.refl _, q2⟩)

def R_Contracts_init (A : Ad) : DSp := fun ds C P => ∃ p, ds = [.ptr p] ∧ C p = some (.ins A.C_Contracts []) ∧ ∀ C' ph, C ph = none → C' p = some (.ins A.C_Contracts [("histories", .ptr ph)]) → C' ph = some (.dK (hiK [])) → (∀ x c, C x = some c → x ≠ p → C' x = some c) → P .non C'
theorem len_Contracts_init (A : Ad) : ∀ ds C P, R_Contracts_init A ds C P → ds.length = 1 := by rintro _ _ _ ⟨p, rfl, _⟩; rfl
theorem ok_Contracts_init (T : Txt K mg A P w) : FnOk P w K mg base CX0 1 A.a_Contracts_init A.d_Contracts_init ["self"] (spD K (R_Contracts_init A)) :=
  ok_D T.F_Contracts_init sc_Contracts_init (len_Contracts_init A) (fun cdv Ar outer s H E hr =>
    ds_one (ds_fld T.c_Contracts T.n_Contracts_histories (d_var 0) (d_newK))) (fun ds C Pk h => by
    obtain ⟨p, rfl, hp, q⟩ := h
    walk_at "dd"
    intro p1 h1
    have n1 : p ≠ p1 := cell_ne hp h1
    rw [cput_ne n1, hp]
    refine ⟨rfl, by simp, _, Sub.refl _, q _ p1 h1 cput_same ?_ fun x c hx hxp => ?_⟩
    · rw [cput_ne n1.symm, cput_same]; rfl
    · rw [cput_ne hxp, cput_ne (cell_ne hx h1)]; exact hx)

def R_Contracts_set_history (A : Ad) : DSp := fun ds C P => ∃ p ph l rs hi, ds = [.ptr p, .str l, .lst (rs.map rhD)] ∧ C p = some (.ins A.C_Contracts [("histories", .ptr ph)]) ∧ C ph = some (.dK (hiK hi)) ∧ hi.length ≤ 1000 ∧ rs ≠ [] ∧ rs.length ≤ 1000 ∧
  (∀ i (a b : Rh), rs[i]? = some a → rs[i + 1]? = some b → a.since < b.since) ∧ P .non (cput C ph (.dK (hiK (puA hi l rs))))
theorem len_Contracts_set_history (A : Ad) : ∀ ds C P, R_Contracts_set_history A ds C P → ds.length = 3 := by rintro _ _ _ ⟨p, ph, l, rs, hi, rfl, _⟩; rfl
theorem ok_Contracts_set_history (T : Txt K mg A P w) : FnOk P w K mg base CX0 1 A.a_Contracts_set_history A.d_Contracts_set_history ["self", "line", "rows"] (spD K (R_Contracts_set_history A)) :=
  ok_D T.F_Contracts_set_history sc_Contracts_set_history (len_Contracts_set_history A) (fun cdv Ar outer s H E hr =>
    ds_consL (ds_for PassesOwn.never rfl (di_rng2 (by rfl) T.z_range (d_cons (d_int) (d_cons (d_callB call_len s_len (by rfl) T.z_len (by decide +kernel) (d_cons (d_var 2) (d_nil))) (d_nil)))) (dg_name 3 sc_Contracts_set_history.nd)
      (ds_one (ds_if (d_tcmp op_le s_le (d_ix ix_seq s_ix (d_ix ix_seq s_ix (d_var 2) (d_var 3)) (d_int)) (d_ix ix_seq s_ix (d_ix ix_seq s_ix (d_var 2) (d_op op_sub s_sub (d_var 3) (d_int))) (d_int)))
        (ds_one (ds_dead))
        (ds_nil))))
    (ds_one (ds_if (d_tru (d_var 2))
      (ds_one (ds_setD hr (d_fld T.c_Contracts T.n_Contracts_histories (d_var 0)) (d_var 1) (d_callTy call_tuple_of s_tupleOf (by rfl) T.z_tuple (by decide +kernel) (d_cons (d_var 2) (d_nil)))))
      (ds_one (ds_if (d_tdin hr (d_var 1) (d_fld T.c_Contracts T.n_Contracts_histories (d_var 0)))
        (ds_one (ds_delD (d_fld T.c_Contracts T.n_Contracts_histories (d_var 0)) (d_var 1)))
        (ds_nil)))))) (fun ds C Pk h => by
    obtain ⟨p, ph, l, rs, hi, rfl, hp, hh, hl, hne, hrl, hs, q⟩ := h
    refine seq_hide fun E' hE => ?_
    walk_at "dd"
    refine ⟨⟨by decide, by decide, by omega, by omega⟩, for_rng (fun k ρ' C' => C' = C ∧ ∃ o, ρ' = [some (.ptr p), some (.str l), some (.lst (rs.map rhD)), o]) ⟨rfl, _, rfl⟩ ?_ ?_⟩
    · rintro k ρ' C' hk ⟨rfl, o, rfl⟩
      obtain ⟨a, ha⟩ : ∃ a, rs[k]? = some a := ⟨_, List.getElem?_eq_getElem (by omega)⟩
      obtain ⟨b, hb⟩ : ∃ b, rs[k + 1]? = some b := ⟨_, List.getElem?_eq_getElem (by omega)⟩
      have hab := hs k a b ha hb
      have i1 : atI (rs.map rhD) (1 + (k : Int)) = some (.tup [.int b.since, optS b.acc, .str b.nm]) := by
        rw [show (1 : Int) + (k : Int) = ((k + 1 : Nat) : Int) by omega, atI_nat', List.getElem?_map, hb]; rfl
      have i2 : atI (rs.map rhD) (1 + (k : Int) - 1) = some (.tup [.int a.since, optS a.acc, .str a.nm]) := by
        rw [show (1 : Int) + (k : Int) - 1 = (k : Int) by omega, atI_nat', List.getElem?_map, ha]; rfl
      have g : ¬ b.since ≤ a.since := by omega
      clear ha hb hs hab
      walk_at "dd"
      exact ⟨_, rfl⟩
    · rintro ρ' C' ⟨rfl, o, rfl⟩
      have he : (rs.map rhD).isEmpty = false := by
        cases rs with
        | nil => exact absurd rfl hne
        | cons r rs => rfl
      have hpu : puD (hiK hi) (Sum.inr l) (.tup (rs.map rhD)) = hiK (puA hi l rs) := pu_tab (fun x : Str => (Sum.inr x : L2.Key)) inr_inj (fun rs : List Rh => D.tup (rs.map rhD)) hi l rs
      have hlh : (hiK hi).length < 100000 := by unfold hiK; rw [List.length_map]; omega
      subst hE
      walk_at "dd"
      exact ⟨_, Sub.refl _, q⟩)

def R_contracts_for (A : Ad) : DSp := fun ds C P => ∃ ps n, ds = [payD ps, .str n] ∧ ps.length ≤ 100 ∧ ∀ C' p ph, Sub C C' → C p = none → C' p = some (.ins A.C_Contracts [("histories", .ptr ph)]) → C' ph = some (.dK (hiK (histF "advised" n ps))) → P (.ptr p) C'
theorem len_contracts_for (A : Ad) : ∀ ds C P, R_contracts_for A ds C P → ds.length = 2 := by rintro _ _ _ ⟨ps, n, rfl, _⟩; rfl
theorem ok_contracts_for (T : Txt K mg A P w) : FnOk P w K mg base CX0 3 A.a_contracts_for A.d_contracts_for ["payers", "name"] (spD K (R_contracts_for A)) :=
  ok_D T.F_contracts_for sc_contracts_for (len_contracts_for A) (fun cdv Ar outer s H E hr =>
    ds_consL (ds_set 2 sc_contracts_for.nd (d_make0 T.m_Contracts_init (ok_Contracts_init T) (hr.mono (by decide)) T.g_Contracts T.b_Contracts_init))
    (ds_consL (ds_for PassesOwn.never rfl (di_list (d_var 0)) (dg_name 3 sc_contracts_for.nd)
      (ds_one (ds_expr (d_meth T.c_Contracts T.m_Contracts_set_history (ok_Contracts_set_history T) (hr.mono (by decide)) T.b_Contracts_set_history (d_var 2) (d_cons (d_var 3) (d_cons (d_lst (d_cons (d_tup (d_cons (d_int) (d_cons (d_kstr T.k_NOBODY) (d_cons (d_var 1) (d_nil))))) (d_nil))) (d_nil)))))))
    (ds_one (ds_ret (d_var 2))))) (fun ds C Pk h => by
    obtain ⟨ps, n, rfl, hl, q⟩ := h
    simp only [payD]
    refine seq_hide fun E' hE => ?_
    walk_at "dd"
    intro p hp
    refine ⟨p, rfl, cput_same, fun C1 ph n1 c0 c1 hk => ⟨rfl, ?_⟩⟩
    subst hE
    dsimp only [List.set_cons_succ, List.set_cons_zero]
    have sub1 : Sub C C1 := fun x c hx => by
      have := cell_ne hx hp
      exact hk x c ((cput_ne this).trans hx) this
    have hph : p ≠ ph := cell_ne (C := cput C p _) cput_same n1
    rw [cput_ne hph.symm] at n1
    refine seq_hide fun E' hE => ?_
    walk_at "dd"
    refine for_map (enc := D.str) (L := ps) (fun k ρ' C' => C' p = some (.ins A.C_Contracts [("histories", .ptr ph)]) ∧ C' ph = some (.dK (hiK (histF "advised" n (ps.take k)))) ∧ (histF "advised" n (ps.take k)).length ≤ k ∧ Sub C C' ∧ ∃ o, ρ' = [some (.lst (ps.map D.str)), some (.str n), some (.ptr p), o]) ⟨c0, c1, Nat.le_refl _, sub1, _, rfl⟩ ?_ ?_
    · rintro k a ρ' C' hk ⟨h0, h1, h2, hS, o, rfl⟩
      have hkl := (List.getElem?_eq_some_iff.mp hk).1
      have e1 : histF "advised" n (ps.take (k + 1)) = puA (histF "advised" n (ps.take k)) a [⟨0, some "advised", n⟩] := by
        rw [take_snoc hk]
        unfold histF
        rw [List.foldl_append]; rfl
      rw [e1]
      clear hk e1
      generalize histF "advised" n (ps.take k) = h at h1 h2
      walk_at "dd"
      refine ⟨p, ph, a, [⟨0, some "advised", n⟩], h, rfl, h0, h1, by omega, by simp, by show 1 ≤ 1000; decide, fun i x y hx hy => ?_, ?_⟩
      · rcases i with _ | i
        · cases hy
        · cases hx
      · have := puA_len h a ([⟨0, some "advised", n⟩] : List Rh)
        exact ⟨(cput_ne hph).trans h0, cput_same, by omega, hS.put n1, _, rfl⟩
    · rintro ρ' C' ⟨h0, h1, h2, hS, o, rfl⟩
      rw [List.take_length] at h1
      subst hE
      walk_at "dd"
      exact ⟨_, Sub.refl _, q C' p ph hS hp h0 h1⟩)

def R_cost_with (A : Ad) : DSp := fun ds C P => ∃ ss ps n ts f, ds = [.lst (ss.map (scD A)), payD ps, .str n, .dK (tsK A ts), .int f] ∧ ss.length ≤ 200 ∧ ps.length ≤ 100 ∧ 0 ≤ f ∧ ∀ C', Sub C C' → P (optIntD (costF ss ps n ts "advised" f)) C'
theorem len_cost_with (A : Ad) : ∀ ds C P, R_cost_with A ds C P → ds.length = 5 := by rintro _ _ _ ⟨ss, ps, n, ts, f, rfl, _⟩; rfl
theorem ok_cost_with (T : Txt K mg A P w) : FnOk P w K mg base CX0 8 A.a_cost_with A.d_cost_with ["sections", "payers", "name", "tariffs", "free"] (spD K (R_cost_with A)) :=
  ok_D T.F_cost_with sc_cost_with (len_cost_with A) (fun cdv Ar outer s H E hr =>
    ds_consL (ds_set 5 sc_cost_with.nd (d_call (ok_paid_sections T) (hr.mono (by decide)) T.g_paid_sections T.F_paid_sections.kp T.b_paid_sections (d_cons (d_var 0) (d_cons (d_var 1) (d_nil)))))
    (ds_consL (ds_asg (d_call (ok_charge_sections T) (hr.mono (by decide)) T.g_charge_sections T.F_charge_sections.kp T.b_charge_sections (d_cons (d_var 5) (d_cons (d_call (ok_contracts_for T) (hr.mono (by decide)) T.g_contracts_for T.F_contracts_for.kp T.b_contracts_for (d_cons (d_var 1) (d_cons (d_var 2) (d_nil)))) (d_cons (d_var 3) (d_cons (d_dispF (dps_cons (d_kstr T.k_NOBODY) (d_var 4) (dps_nil))) (d_nil)))))) (dg_tup rfl (dgs_cons (dg_name 6 sc_cost_with.nd) (dgs_cons (dg_name 7 sc_cost_with.nd) (dgs_nil)))))
    (ds_cons (ds_if (d_tcmp (op_neEmp hr.units) s_emp (d_var 7) (d_lst (d_nil)))
      (ds_one (ds_ret (d_non)))
      (ds_nil))
    (ds_one (ds_ret (d_callB (cr_sum rfl) s_sum (by rfl) T.z_sum (by decide +kernel) (d_cons (d_lc rfl sc_cost_with.nd (di_list (d_var 6)) (blkOk_by (own := [("charge", 8)]) (N := ["sections", "payers", "name", "tariffs", "free", "asked", "charges", "left", "charge"]) (sc := defScope s_cost_with) (by decide +kernel)) (by decide) (fun _ _ _ _ _ => dg_name 8 sc_cost_with.nd) (fun _ _ _ _ _ => dts_nil) (fun _ _ _ _ _ => d_fld T.c_Charge T.n_Charge_mills (d_var 8))) (d_nil)))))))) (fun ds C Pk h => by
    obtain ⟨ss, ps, n, ts, f, rfl, hl, hp, hf, q⟩ := h
    refine seq_hide fun E' hE => ?_
    walk_at "dd"
    refine ⟨ss, ps, rfl, hl, hp, ?_⟩
    subst hE
    dsimp only [List.set_cons_succ, List.set_cons_zero]
    refine seq_hide fun E' hE => ?_
    have hal : (askF ss ps).length ≤ 200 := by
      unfold askF
      exact Nat.le_trans (List.length_filter_le _ _) hl
    walk_at "dd"
    refine ⟨ps, n, rfl, hp, fun C1 p ph hS n1 c0 c1 => ?_⟩
    intro pd hpd
    refine ⟨C1, Sub.new hpd, hpd, askF ss ps, p, ph, histF "advised" n ps, ts, [("advised", f)], rfl, hal, nnA_one hf, c0, c1, fun C2 p1 p2 hS2 m1 m2 m12 d1 d2 => ?_⟩
    have q2 := q C2 (hS.trans hS2)
    have hE0 := hE
    subst hE
    unfold costF at q2
    dsimp only at q2
    have hlc := (runF_ok (hi := histF "advised" n ps) (ts := ts) (nnA_one (a := "advised") hf) ((askF ss ps).mergeSort leS)).lc
    rw [List.length_mergeSort] at hlc
    change (runF (histF "advised" n ps) ts [("advised", f)] (askF ss ps)).ch.length ≤ _ at hlc
    generalize runF (histF "advised" n ps) ts [("advised", f)] (askF ss ps) = r at d1 d2 q2 hlc
    walk_at "dd"
    cases hlf : r.lf with
    | nil =>
      rw [hlf, if_pos rfl] at q2
      rw [if_neg (by decide)]
      refine lc_map (enc := cgD A) (L := r.ch) (fun c => some (.int c.mi)) (fun C3 s3 => s3 _ _ d1) (by omega) (fun j c C3 Q hj hs3 hQ => ?_) ?_
      · clear hj
        simp only [cgD]
        walk_at "dd"
      · rw [mills_map A]
        exact ⟨_, ints_lst, _, Sub.refl _, q2⟩
    | cons x L =>
      rw [hlf, if_neg (fun z => nomatch z)] at q2
      rw [if_pos (by rfl)]
      exact ⟨_, Sub.refl _, q2⟩)

def R_month_cost (A : Ad) : DSp := fun ds C P => ∃ ss ps m n ts f, ds = [.lst (ss.map (scD A)), payD ps, .int m, .str n, .dK (tsK A ts), .int f] ∧ ss.length ≤ 200 ∧ ps.length ≤ 100 ∧ 0 ≤ f ∧ ∀ C', Sub C C' → P (optIntD (mcF ss ps ts "advised" f (m, n))) C'
theorem len_month_cost (A : Ad) : ∀ ds C P, R_month_cost A ds C P → ds.length = 6 := by rintro _ _ _ ⟨ss, ps, m, n, ts, f, rfl, _⟩; rfl
theorem ok_month_cost (T : Txt K mg A P w) : FnOk P w K mg base CX0 9 A.a_month_cost A.d_month_cost ["sections", "payers", "month", "name", "tariffs", "free"] (spD K (R_month_cost A)) :=
  ok_D T.F_month_cost sc_month_cost (len_month_cost A) (fun cdv Ar outer s H E hr =>
    ds_one (ds_ret (d_call (ok_cost_with T) (hr.mono (by decide)) T.g_cost_with T.F_cost_with.kp T.b_cost_with (d_cons (d_lc rfl sc_month_cost.nd (di_list (d_var 0)) (blkOk_by (own := [("section", 6)]) (N := ["sections", "payers", "month", "name", "tariffs", "free", "section"]) (sc := defScope s_month_cost) (by decide +kernel)) (by decide) (fun _ _ _ _ _ => dg_name 6 sc_month_cost.nd) (fun _ _ _ _ _ => dts_one (d_tcmp op_eq s_eq (d_call (ok_month_of T) (hr.mono (by decide)) T.g_month_of T.F_month_of.kp T.b_month_of (d_cons (d_var 6) (d_nil))) (d_var 2))) (fun _ _ _ _ _ => d_var 6)) (d_cons (d_var 1) (d_cons (d_var 3) (d_cons (d_var 4) (d_cons (d_var 5) (d_nil))))))))) (fun ds C Pk h => by
    obtain ⟨ss, ps, m, n, ts, f, rfl, hl, hp, hf, q⟩ := h
    walk_at "dd"
    refine lc_map (enc := scD A) (L := ss) (fun s => if decide (mo s = m) = true then some (scD A s) else none) (fun _ _ => trivial) (by omega) (fun j s C' Q hj hs hQ => ?_) ?_
    · clear hj
      walk_at "dd"
      refine ⟨s, rfl, ?_⟩
      dsimp only
      by_cases g : mo s = m
      · rw [if_pos (decide_eq_true g)] at hQ
        walk_at "dd"
      · rw [if_neg (fun z => g (of_decide_eq_true z))] at hQ
        walk_at "dd"
    · rw [filt_some]
      refine ⟨ss.filter fun s => decide (mo s = m), ps, n, ts, f, rfl, Nat.le_trans (List.length_filter_le _ _) hl, hp, hf, fun C' hS => ?_⟩
      exact ⟨_, Sub.refl _, q C' hS⟩)

def R_cost_table (A : Ad) : DSp := fun ds C P => ∃ ss ps ts f, ds = [.lst (ss.map (scD A)), payD ps, .dK (tsK A ts), .int f] ∧ ss.length ≤ 200 ∧ ps.length ≤ 100 ∧ 0 ≤ f ∧ ts.length ≤ 10 ∧ Nms (ts.map fun p => p.1) ∧ ∀ C', Sub C C' → P (.dT (ctK (putAll (mcF ss ps ts "advised" f) (prs (monF (askF ss ps)) (ts.map fun p => p.1))))) C'
theorem len_cost_table (A : Ad) : ∀ ds C P, R_cost_table A ds C P → ds.length = 4 := by rintro _ _ _ ⟨ss, ps, ts, f, rfl, _⟩; rfl
theorem ok_cost_table (T : Txt K mg A P w) : FnOk P w K mg base CX0 10 A.a_cost_table A.d_cost_table ["sections", "payers", "tariffs", "free"] (spD K (R_cost_table A)) :=
  ok_D T.F_cost_table sc_cost_table (len_cost_table A) (fun cdv Ar outer s H E hr =>
    ds_consL (ds_set 4 sc_cost_table.nd (d_newT))
    (ds_consL (ds_for PassesOwn.never rfl (di_list (d_call (ok_months_of T) (hr.mono (by decide)) T.g_months_of T.F_months_of.kp T.b_months_of (d_cons (d_call (ok_paid_sections T) (hr.mono (by decide)) T.g_paid_sections T.F_paid_sections.kp T.b_paid_sections (d_cons (d_var 0) (d_cons (d_var 1) (d_nil)))) (d_nil)))) (dg_name 5 sc_cost_table.nd)
      (ds_one (ds_for PassesOwn.never rfl (di_list (d_callB (cr_sortedDic rfl hr.units) s_sortDic (by rfl) T.z_sorted (by decide +kernel) (d_cons (d_var 2) (d_nil)))) (dg_name 6 sc_cost_table.nd)
        (ds_one (ds_setD hr (d_var 4) (d_tup (d_cons (d_var 5) (d_cons (d_var 6) (d_nil)))) (d_call (ok_month_cost T) (hr.mono (by decide)) T.g_month_cost T.F_month_cost.kp T.b_month_cost (d_cons (d_var 0) (d_cons (d_var 1) (d_cons (d_var 5) (d_cons (d_var 6) (d_cons (d_var 2) (d_cons (d_var 3) (d_nil)))))))))))))
    (ds_one (ds_retF (d_var 4))))) (fun ds C Pk h => by
    obtain ⟨ss, ps, ts, f, rfl, hl, hp0, hf, hts, hns, q⟩ := h
    refine seq_hide fun E' hE => ?_
    walk_at "dd"
    intro p hp
    subst hE
    dsimp only [List.set_cons_succ, List.set_cons_zero]
    refine seq_hide fun E' hE => ?_
    have hal : (askF ss ps).length ≤ 200 := by
      unfold askF
      exact Nat.le_trans (List.length_filter_le _ _) hl
    walk_at "dd"
    refine ⟨ss, ps, rfl, hl, hp0, askF ss ps, rfl, hal, fun C1 hS1 => ?_⟩
    have hN : (ts.map fun p => p.1).length ≤ 10 := by rw [List.length_map]; exact hts
    have hM := monF_len (askF ss ps)
    generalize monF (askF ss ps) = M at q hM
    have hk0 : (tsK A ts).map (fun p => keyD p.1) = (ts.map fun p => p.1).map D.str := by
      unfold tsK
      rw [List.map_map, List.map_map]
      rfl
    generalize hNN : (ts.map fun p => p.1) = N at q hN hns hk0
    generalize hg : mcF ss ps ts "advised" f = g at q
    walk_at "dd"
    refine for_map (enc := D.int) (L := M) (fun k ρ' C' => C' p = some (.dT (ctK (putAll g (prs (M.take k) N)))) ∧ Sub C C' ∧ ∃ o1 o2, ρ' = [some (.lst (ss.map (scD A))), some (payD ps), some (.dK (tsK A ts)), some (.int f), some (.ptr p), o1, o2]) ⟨hS1 _ _ cput_same, fun x c hx => hS1 _ _ (Sub.new hp x c hx), _, _, rfl⟩ ?_ ?_
    · rintro k m ρ' C' hk ⟨hc, hS, o1, o2, rfl⟩
      have lk : (M.take k).length ≤ 5 := by rw [List.length_take]; omega
      rw [take_snoc hk, prs_snoc]
      clear hk
      generalize M.take k = M' at hc lk
      walk_at "dd"
      refine ⟨hns.ok, ?_⟩
      rw [hns.st]
      refine for_map (enc := D.str) (L := N) (fun j ρ' C' => C' p = some (.dT (ctK (putAll g (prs M' N ++ (N.take j).map fun n => (m, n))))) ∧ Sub C C' ∧ ∃ o2, ρ' = [some (.lst (ss.map (scD A))), some (payD ps), some (.dK (tsK A ts)), some (.int f), some (.ptr p), some (.int m), o2]) ⟨by rw [List.take_zero, List.map_nil, List.append_nil]; exact hc, hS, _, rfl⟩ ?_ ?_
      · rintro j n ρ' C' hj ⟨hc, hS, o2, rfl⟩
        have lj : (N.take j).length ≤ 10 := by rw [List.length_take]; omega
        rw [take_snoc hj, List.map_append, List.map_cons, List.map_nil, ← List.append_assoc, putAll_snoc]
        have hlen := putAll_len g (prs M' N ++ (N.take j).map fun n => (m, n))
        rw [List.length_append, prs_len, List.length_map] at hlen
        have hmul : M'.length * N.length ≤ 5 * 10 := Nat.mul_le_mul lk hN
        clear hj
        generalize putAll g (prs M' N ++ (N.take j).map fun n => (m, n)) = T at hc hlen
        walk_at "dd"
        refine ⟨ss, ps, m, n, ts, f, rfl, hl, hp0, hf, fun C2 hS2 => ?_⟩
        rw [hg]
        dsimp only
        rw [hS2 _ _ hc]
        dsimp only
        refine ⟨by unfold ctK; rw [List.length_map]; omega, ?_, (hS.trans hS2).put hp, _, rfl⟩
        exact congrArg (fun t => some (Cell.dT t)) (ct_put T (m, n) (g (m, n)))
      · rintro ρ' C' ⟨hc, hS, o2, rfl⟩
        rw [List.take_length] at hc
        exact ⟨hc, hS, _, _, rfl⟩
    · rintro ρ' C' ⟨hc, hS, o1, o2, rfl⟩
      rw [List.take_length] at hc
      subst hE
      walk_at "dd"
      exact ⟨C, hS, hp, C, Sub.refl _, q C (Sub.refl _)⟩)

def R_is_better (A : Ad) : DSp := fun ds C P => ∃ x o, ds = [x, o] ∧ ((o = .non ∧ P (.bl true) C) ∨ (∃ ys, o = .tup ys ∧ dLtD x o C P))
theorem len_is_better (A : Ad) : ∀ ds C P, R_is_better A ds C P → ds.length = 2 := by rintro _ _ _ ⟨x, o, rfl, _⟩; rfl
theorem ok_is_better (T : Txt K mg A P w) : FnOk P w K mg base CX0 1 A.a_is_better A.d_is_better ["one", "other"] (spD K (R_is_better A)) :=
  ok_D T.F_is_better sc_is_better (len_is_better A) (fun cdv Ar outer s H E hr =>
    ds_one (ds_ret (d_orV (d_cmp op_isN s_isN (d_var 1) (d_non)) (d_one (d_cmp (op_ltG hr.units) s_rd (d_var 0) (d_var 1)))))) (fun ds C Pk h => by
    obtain ⟨x, o, rfl, ⟨rfl, q⟩ | ⟨ys, rfl, ⟨n, h1, h2, h3, h4, h5, q⟩⟩⟩ := h
    · walk_at "dd"
      exact ⟨_, Sub.refl _, q⟩
    · walk_at "dd"
      exact ⟨n, h1, h2, h3, h4, h5, _, Sub.refl _, q⟩)

def R_step_cost (A : Ad) : DSp := fun ds C P => ∃ (T : Ct) (m : Int) (n : Str) (b : Option Str) (fee : Int) (v : Option Int), ds = [.dT (ctK T), .int m, .str n, optS b, .int fee] ∧ lkA T (m, n) = some v ∧ P (optIntD (extS v n b fee)) C
theorem len_step_cost (A : Ad) : ∀ ds C P, R_step_cost A ds C P → ds.length = 5 := by rintro _ _ _ ⟨T, m, n, b, fee, v, rfl, _⟩; rfl
theorem ok_step_cost (T : Txt K mg A P w) : FnOk P w K mg base CX0 1 A.a_step_cost A.d_step_cost ["table", "month", "name", "before", "fee"] (spD K (R_step_cost A)) :=
  ok_D T.F_step_cost sc_step_cost (len_step_cost A) (fun cdv Ar outer s H E hr =>
    ds_cons (ds_set 5 sc_step_cost.nd (d_dget hr (d_var 0) (d_tup (d_cons (d_var 1) (d_cons (d_var 2) (d_nil))))))
    (ds_cons (ds_if (d_tcmp op_isN s_isN (d_var 5) (d_non))
      (ds_one (ds_ret (d_non)))
      (ds_nil))
    (ds_cons (ds_if ((d_and (d_tcmp op_notN s_notN (d_var 3) (d_non)) (d_and1 (d_tcmp op_ne s_ne (d_var 3) (d_var 2)))).pt)
      (ds_one (ds_ret (d_op op_add s_add (d_var 5) (d_var 4))))
      (ds_nil))
    (ds_one (ds_ret (d_var 5)))))) (fun ds C Pk h => by
    obtain ⟨T, m, n, b, fee, v, rfl, hv, q⟩ := h
    have hva := ct_va T (m, n)
    rw [hv, Option.map_some] at hva
    dsimp only at hva
    clear hv
    cases v with
    | none =>
      have e0 : optIntD none = .non := rfl
      have q : Pk .non C := q
      walk_at "dd"
      exact ⟨_, Sub.refl _, q⟩
    | some c =>
      have e0 : optIntD (some c) = .int c := rfl
      cases b with
      | none =>
        have q : Pk (.int c) C := q
        have o0 : optS none = .non := rfl
        walk_at "dd"
        exact ⟨_, Sub.refl _, q⟩
      | some b =>
        have q2 : Pk (.int (if b = n then c else c + fee)) C := q
        clear q
        by_cases g : b = n
        · rw [if_pos g] at q2
          subst g
          have o0 : optS (some b) = .str b := rfl
          walk_at "dd"
          exact ⟨_, Sub.refl _, q2⟩
        · rw [if_neg g] at q2
          have o0 : optS (some b) = .str b := rfl
          walk_at "dd"
          exact ⟨_, Sub.refl _, q2⟩)

def R_ways_behind (A : Ad) : DSp := fun ds C P => ∃ p T t N m g fee j, ds = [.ptr p, .dT (ctK T), .int m, .lst (N.map nD), .int fee] ∧ C p = some (.dO A.pw (wtK t)) ∧ TOk t ∧ LOk j t ∧ j ≤ 50 ∧ t.length ≤ 3 ∧ NOk N ∧ (∀ n ∈ N, lkA T (m, nmT n) = some (g (m, n))) ∧ (t.map fun p => p.1).Nodup ∧ ∀ p' C', Sub C C' → C p' = none → C' p' = some (.dO A.pw (wtK (behF g fee m t N))) → TOk (behF g fee m t N) → LOk (j + 1) (behF g fee m t N) → P (.ptr p') C'
theorem len_ways_behind (A : Ad) : ∀ ds C P, R_ways_behind A ds C P → ds.length = 5 := by rintro _ _ _ ⟨p, T, t, N, m, g, fee, j, rfl, _⟩; rfl
theorem ok_ways_behind (T : Txt K mg A P w) : FnOk P w K mg base CX0 2 A.a_ways_behind A.d_ways_behind ["ways", "table", "month", "names", "fee"] (spD K (R_ways_behind A)) :=
  ok_D T.F_ways_behind sc_ways_behind (len_ways_behind A) (fun cdv Ar outer s H E hr =>
    ds_consL (ds_set 5 sc_ways_behind.nd (d_newO (q := A.pw)))
    (ds_consL (ds_for PassesOwn.never rfl (di_list (d_var 3)) (dg_name 6 sc_ways_behind.nd)
      (ds_one (ds_lock (pVar 0) (ds_for PassesOwn.never rfl (di_keysN (d_var 0)) (dg_name 7 sc_ways_behind.nd)
        (ds_consL (ds_set 8 sc_ways_behind.nd (d_call (ok_step_cost T) (hr.mono (by decide)) T.g_step_cost T.F_step_cost.kp T.b_step_cost (d_cons (d_var 1) (d_cons (d_var 2) (d_cons (d_var 6) (d_cons (d_var 7) (d_cons (d_var 4) (d_nil))))))))
        (ds_one (ds_if (d_tcmp op_notN s_notN (d_var 8) (d_non))
          (ds_cons (ds_set 9 sc_ways_behind.nd (d_tup (d_cons (d_op op_add s_add (d_ix ix_seq s_ix (d_ix (ix_N hr.units T.hq) s_rd (d_var 0) (d_var 7)) (d_int)) (d_var 8)) (d_cons (d_op op_catA s_catT (d_ix ix_seq s_ix (d_ix (ix_N hr.units T.hq) s_rd (d_var 0) (d_var 7)) (d_int)) (d_tup (d_cons (d_var 6) (d_nil)))) (d_nil)))))
          (ds_one (ds_if (d_tval (d_call (ok_is_better T) (hr.mono (by decide)) T.g_is_better T.F_is_better.kp T.b_is_better (d_cons (d_var 9) (d_cons (d_nget1 hr.units T.hq (d_var 5) (d_var 6)) (d_nil)))))
            (ds_one (ds_setN hr.units T.hq (d_var 5) (d_var 6) (d_var 9)))
            (ds_nil))))
          (ds_nil))))))))
    (ds_one (ds_ret (d_var 5))))) (fun ds C Pk h => by
    obtain ⟨p, T, t, N, m, g, fee, j, rfl, hc, ht, hlj, hj, htl, hN, hT, hnd, q⟩ := h
    have hnn : ((wtK t).all fun p => noNumK p.1) = true := by
      unfold wtK
      rw [List.all_map, List.all_eq_true]
      intro x _
      obtain ⟨k, v⟩ := x
      cases k <;> rfl
    have hks := wt_keys t
    refine seq_hide fun E' hE => ?_
    walk_at "dd"
    intro pf hpf
    have nf : p ≠ pf := cell_ne hc hpf
    subst hE
    dsimp only
    refine seq_hide fun E' hE => ?_
    walk_at "dd"
    refine for_map (L := N) (enc := nD) (fun i ρ' C' => (∃ o6 o7 o8 o9, ρ' = [some (.ptr p), some (.dT (ctK T)), some (.int m), some (.lst (N.map nD)), some (.int fee), some (.ptr pf), o6, o7, o8, o9]) ∧ C' = cput C pf (.dO A.pw (wtK ((N.take i).foldl (nmF g fee m t) []))) ∧ TOk ((N.take i).foldl (nmF g fee m t) []) ∧ LOk (j + 1) ((N.take i).foldl (nmF g fee m t) [])) ⟨⟨_, _, _, _, rfl⟩, rfl, (fun x hx => by cases hx), fun x hx => by cases hx⟩ ?_ ?_
    · rintro i n ρ' C' hi ⟨⟨o6, o7, o8, o9, rfl⟩, rfl, hf1, hf2⟩
      have hnN := List.mem_of_getElem? hi
      have hn3 := hN.lt n hnN
      have hlf := beh_len g fee m t (N.take i) []
      have hlt := List.length_take_le' i N
      have hNl := hN.ln
      rw [take_snoc hi, List.foldl_append]
      show _
      revert hf1 hf2 hlf
      generalize (N.take i).foldl (nmF g fee m t) [] = f0
      intro hf1 hf2 hlf
      have hcp : ∀ c, cput C pf c p = some (.dO A.pw (wtK t)) := fun c => (cput_ne nf).trans hc
      have hlk : ∀ q ∈ t, lkA t q.1 = some q.2 := fun q hq => lkA_mem hnd (by cases q; exact hq)
      walk_at "dd"
      intro od xs
      try rw [hks]
      have hX : ∀ c, cput (cput C pf c) p (.lO A.pw (wtK t) od xs) pf = some c := fun c => (cput_ne nf.symm).trans cput_same
      have hY : ∀ c c2, cput (cput (cput C pf c) p (.lO A.pw (wtK t) od xs)) pf c2 = cput (cput C pf c2) p (.lO A.pw (wtK t) od xs) := fun c c2 => by
        funext b
        unfold cput
        by_cases g1 : b = pf
        · subst g1; rw [if_pos rfl, if_neg nf.symm, if_pos rfl]
        · by_cases g2 : b = p
          · subst g2; rw [if_neg g1, if_pos rfl, if_pos rfl]
          · rw [if_neg g1, if_neg g2, if_neg g1, if_neg g2, if_neg g1]
      refine ⟨hnn, ?_⟩
      refine for_mapS (L := t.map fun p => p.1) (enc := okD) (st := fun C' => C' p = some (.lO A.pw (wtK t) od xs)) (fun l ρ' C' => (∃ o7 o8 o9, ρ' = [some (.ptr p), some (.dT (ctK T)), some (.int m), some (.lst (N.map nD)), some (.int fee), some (.ptr pf), some (nD n), o7, o8, o9]) ∧ C' = cput (cput C pf (.dO A.pw (wtK (((t.map fun p => p.1).take l).foldl (stpB g fee m t n) f0)))) p (.lO A.pw (wtK t) od xs) ∧ TOk (((t.map fun p => p.1).take l).foldl (stpB g fee m t n) f0) ∧ LOk (j + 1) (((t.map fun p => p.1).take l).foldl (stpB g fee m t n) f0)) ⟨⟨_, _, _, rfl⟩, rfl, hf1, hf2⟩ (fun k ρ' C' h => by rw [h.2.1]; exact cput_same) ?_ ?_
      · rintro l b ρ' C' hb ⟨⟨o7, o8, o9, rfl⟩, rfl, hg1, hg2⟩
        have hsl := nm_step_len (g := g) (fee := fee) (m := m) (t := t) (n := n) ((t.map fun p => p.1).take l) f0
        rw [take_snoc hb, List.foldl_append]
        rw [List.foldl_cons, List.foldl_nil]
        revert hg1 hg2 hsl
        generalize ((t.map fun p => p.1).take l).foldl (stpB g fee m t n) f0 = f1
        intro hg1 hg2 hsl
        have hl1 : f1.length ≤ 5 := by
          rw [List.length_nil] at hlf
          split at hsl <;> omega
        obtain ⟨⟨b', v⟩, hbt, rfl⟩ := List.mem_map.mp (List.mem_of_getElem? hb)
        have hlv := hlk _ hbt
        have hvo := ht _ hbt
        have hvl := hlj _ hbt
        dsimp only at hlv hvo hvl
        have hbo := hvo.1
        have hkb : keyB false (okD b') = some (okN b') := by cases b' <;> rfl
        have hva := wt_va t (fun q hq => (ht q hq).1) hbo
        rw [hlv, Option.map_some] at hva
        unfold wyD at hva
        have hkn : keyB false (nD n) = some (.text (nmT n)) := rfl
        have hno : KOk (some n) := fun i hi => by cases hi; exact hn3
        have hvf := wt_va f1 (fun q hq => (hg1 q hq).1) hno
        rw [show okN (some n) = .text (nmT n) from rfl] at hvf
        have hcl : cput (cput C pf (.dO A.pw (wtK f1))) p (.lO A.pw (wtK t) od xs) p = some (.lO A.pw (wtK t) od xs) := cput_same
        have hlen := wt_len f1
        have hTn := hT n hnN
        refine seq_hide fun E3 hE3 => ?_
        walk_at "dd"
        refine ⟨T, m, nmT n, b'.map nmT, fee, g (m, n), by cases b' <;> rfl, hTn, ?_⟩
        rw [ext_eq g fee m n b' hn3 hbo]
        have e0 : optIntD none = .non := rfl
        have e1 : ∀ z, optIntD (some z) = .int z := fun _ => rfl
        subst hE3
        dsimp only
        cases hx : extP g fee m n b' with
        | none =>
          have es : stpB g fee m t n f1 b' = f1 := by unfold stpB; rw [hlv, hx]
          rw [es]
          clear hx es hlv hva hvf hlk hks
          walk_at "dd"
          exact ⟨_, _, _, rfl⟩
        | some x =>
          have es : stpB g fee m t n f1 b' = if betF (v.1 + x, v.2 ++ [n]) (lkA f1 (some n)) = true then puA f1 (some n) (v.1 + x, v.2 ++ [n]) else f1 := by unfold stpB; rw [hlv, hx]
          rw [es]
          have hpu := wt_pu f1 (fun q hq => (hg1 q hq).1) hno (v.1 + x, v.2 ++ [n])
          have hok3 : ∀ z ∈ v.2 ++ [n], z < 3 := fun z hz => by
            rcases List.mem_append.mp hz with hz | hz
            · exact hvo.2 z hz
            · simp only [List.mem_cons, List.not_mem_nil, or_false] at hz
              rw [hz]; exact hn3
          have ht3 := tok_pu hg1 hno (v := (v.1 + x, v.2 ++ [n])) hok3
          have hl3 := lok_pu hg2 (k := some n) (v := (v.1 + x, v.2 ++ [n])) (by rw [List.length_append, hvl]; rfl)
          have hw : wyD (v.1 + x, v.2 ++ [n]) = .tup [.int (v.1 + x), .tup (v.2.map nD ++ [nD n])] := by unfold wyD; rw [List.map_append]; rfl
          have hpu2 : puD (wtK f1) (.text (nmT n)) (wyD (v.1 + x, v.2 ++ [n])) = wtK (puA f1 (some n) (v.1 + x, v.2 ++ [n])) := hpu
          clear hpu
          clear hx es hlv hlk hks hsl hlf hE q hlt hlj
          cases ho : lkA f1 (some n) with
          | none =>
            rw [ho, Option.map_none] at hvf
            have hbt : betF (v.1 + x, v.2 ++ [n]) none = true := rfl
            rw [if_pos hbt]
            clear ho hbt
            walk_at "dd"
            rw [← hw]
            refine ⟨by omega, _, _, rfl, .inl ⟨rfl, ?_⟩⟩
            dsimp only
            rw [if_pos rfl, hX]
            dsimp only
            refine ⟨rfl, by omega, ⟨_, _, _, rfl⟩, ?_⟩
            rw [hY, hpu2]
          | some z =>
            have hzo := hg1 _ (lkA_some_mem ho)
            dsimp only at hzo
            rw [ho, Option.map_some] at hvf
            have hbt : betF (v.1 + x, v.2 ++ [n]) (some z) = ltW (v.1 + x, v.2 ++ [n]) z := rfl
            rw [hbt]
            clear ho hbt
            walk_at "dd"
            rw [← hw]
            refine ⟨by omega, _, _, rfl, .inr ⟨_, rfl, ltD_wy hok3 hzo.2 ?_⟩⟩
            cases hlt : ltW (v.1 + x, v.2 ++ [n]) z with
            | true =>
              dsimp only
              rw [if_pos rfl, hX]
              dsimp only
              refine ⟨rfl, by omega, ⟨_, _, _, rfl⟩, ?_, ?_, ?_⟩
              · rw [hY, hpu2, if_pos rfl]
              · rw [if_pos rfl]; exact ht3
              · rw [if_pos rfl]; exact hl3
            | false =>
              dsimp only
              rw [if_neg (by decide)]
              exact ⟨⟨_, _, _, rfl⟩, rfl, hg1, hg2⟩
      · rintro ρ' C' ⟨⟨o7, o8, o9, rfl⟩, rfl, hg1, hg2⟩
        refine ⟨cput_same, ?_⟩
        rw [cput_cput, cput_self (hcp _)]
        rw [List.take_length] at hg1 hg2 ⊢
        exact ⟨⟨_, _, _, _, rfl⟩, rfl, hg1, hg2⟩
    · rintro ρ' C' ⟨⟨o6, o7, o8, o9, rfl⟩, rfl, hf1, hf2⟩
      rw [List.take_length] at hf1 hf2 ⊢
      subst hE
      have q2 := q pf _ (Sub.new hpf) hpf cput_same hf1 hf2
      walk_at "dd"
      exact ⟨_, Sub.refl _, q2⟩)

def R_best_way (A : Ad) : DSpX := fun ds C P PX => ∃ ss ps ts f fee N, ds = [.lst (ss.map (scD A)), payD ps, .dK (tsK A ts), .int f, .int fee] ∧ ss.length ≤ 200 ∧ ps.length ≤ 100 ∧ 0 ≤ f ∧ NOk N ∧ ts.map (fun p => p.1) = N.map nmT ∧ ∀ C', Sub C C' → (bstW (gT ss ps ts f) fee (monF (askF ss ps)) N = none → PX (.ref A.C_NoTariff) [] C') ∧ (∀ x, bstW (gT ss ps ts f) fee (monF (askF ss ps)) N = some x → P (wyD x) C')
theorem len_best_way (A : Ad) : ∀ ds C P PX, R_best_way A ds C P PX → ds.length = 5 := by rintro _ _ _ _ ⟨ss, ps, ts, f, fee, N, rfl, _⟩; rfl
theorem ok_best_way (T : Txt K mg A P w) : FnOk P w K mg base (L2.CX P w) 11 A.a_best_way A.d_best_way ["sections", "payers", "tariffs", "free", "fee"] (spX K (R_best_way A)) :=
  ok_DX T.F_best_way sc_best_way (len_best_way A) (fun cdv Ar outer s H E hr tk =>
    ds_consL (ds_set 5 sc_best_way.nd (d_call (ok_cost_table T) (hr.mono (by decide)) T.g_cost_table T.F_cost_table.kp T.b_cost_table (d_cons (d_var 0) (d_cons (d_var 1) (d_cons (d_var 2) (d_cons (d_var 3) (d_nil)))))))
    (ds_consL (ds_set 6 sc_best_way.nd (d_callB (cr_sortedDic rfl hr.units) s_sortDic (by rfl) T.z_sorted (by decide +kernel) (d_cons (d_var 2) (d_nil))))
    (ds_cons (ds_set 7 sc_best_way.nd (d_oneO (q := A.pw) T.hq (d_non) (d_tup (d_cons (d_int) (d_cons (d_tup (d_nil)) (d_nil))))))
    (ds_consL (ds_for (passes_of rfl) rfl (di_list (d_call (ok_months_of T) (hr.mono (by decide)) T.g_months_of T.F_months_of.kp T.b_months_of (d_cons (d_call (ok_paid_sections T) (hr.mono (by decide)) T.g_paid_sections T.F_paid_sections.kp T.b_paid_sections (d_cons (d_var 0) (d_cons (d_var 1) (d_nil)))) (d_nil)))) (dg_name 8 sc_best_way.nd)
      (ds_one (ds_set 7 sc_best_way.nd (d_call (ok_ways_behind T) (hr.mono (by decide)) T.g_ways_behind T.F_ways_behind.kp T.b_ways_behind (d_cons (d_var 7) (d_cons (d_var 5) (d_cons (d_var 8) (d_cons (d_var 6) (d_cons (d_var 4) (d_nil))))))))))
    (ds_cons (ds_set 9 sc_best_way.nd (d_non))
    (ds_consL (ds_lock (pVar 7) (ds_for (passes_of rfl) rfl (di_keysN (d_var 7)) (dg_name 10 sc_best_way.nd)
      (ds_one (ds_if (d_tval (d_call (ok_is_better T) (hr.mono (by decide)) T.g_is_better T.F_is_better.kp T.b_is_better (d_cons (d_ix (ix_N hr.units T.hq) s_rd (d_var 7) (d_var 10)) (d_cons (d_var 9) (d_nil)))))
        (ds_one (ds_set 9 sc_best_way.nd (d_ix (ix_N hr.units T.hq) s_rd (d_var 7) (d_var 10))))
        (ds_nil)))))
    (ds_cons (ds_if (d_tcmp op_isN s_isN (d_var 9) (d_non))
      (ds_one (ds_raise0 rfl tk T.x_NoTariff T.g_NoTariff (by exact rfl)))
      (ds_nil))
    (ds_one (ds_ret (d_var 9)))))))))) (fun ds C Pk PX h => by
    obtain ⟨ss, ps, ts, f, fee, N, rfl, hl, hp0, hf, hN, hts, q⟩ := h
    have hk0 : (tsK A ts).map (fun p => keyD p.1) = (N.map nmT).map D.str := by
      unfold tsK
      rw [← hts, List.map_map, List.map_map]
      rfl
    have lts : ts.length ≤ 10 := by
      have := congrArg List.length hts
      rw [List.length_map, List.length_map] at this
      have := hN.ln
      omega
    refine seq_hide fun E' hE => ?_
    walk_at "dd"
    refine ⟨ss, ps, ts, f, rfl, hl, hp0, hf, lts, by rw [hts]; exact hN.ns, fun C1 hS1 => ?_⟩
    have hT := put_tb ss ps ts f (monF (askF ss ps)) N hts
    have hM := monF_len (askF ss ps)
    have hal : (askF ss ps).length ≤ 200 := by
      unfold askF
      exact Nat.le_trans (List.length_filter_le _ _) hl
    revert hT
    generalize putAll _ _ = Tb
    intro hT
    subst hE
    dsimp only
    have hso := hN.ns.ok
    have hst := hN.ns.st
    have hmm : (N.map nmT).map D.str = N.map nD := by rw [List.map_map]; rfl
    rw [hmm] at hso hst hk0
    clear hmm
    refine seq_hide fun E' hE => ?_
    walk_at "dd"
    clear hso hst hk0
    subst hE
    dsimp only
    walk_at "dd"
    intro pw hpw
    have hs2 := hS1.trans (Sub.new hpw (c := .dO A.pw (wtK [(none, (0, []))])))
    refine seq_hide fun E' hE => ?_
    walk_at "dd"
    refine ⟨ss, ps, rfl, hl, hp0, askF ss ps, rfl, hal, fun C2 hS2 => ?_⟩
    have hc0 : C2 pw = some (.dO A.pw (wtK [(none, (0, []))])) := hS2 _ _ cput_same
    have hs3 := hs2.trans hS2
    clear hS1 hpw hs2 hS2
    revert hT hM
    generalize hMM : monF (askF ss ps) = M at q
    intro hM hT
    refine for_map (L := M) (enc := D.int) (fun i ρ' C' => ∃ p t, Sub C C' ∧ C' p = some (.dO A.pw (wtK t)) ∧ TOk t ∧ LOk i t ∧ t.length ≤ 3 ∧ WS (gT ss ps ts f) fee M N i t ∧ ∃ o8 o9 o10, ρ' = [some (.lst (ss.map (scD A))), some (payD ps), some (.dK (tsK A ts)), some (.int f), some (.int fee), some (.dT (ctK Tb)), some (.lst (N.map nD)), some (.ptr p), o8, o9, o10]) ⟨pw, _, hs3, hc0, (fun x hx => by
      simp only [List.mem_cons, List.not_mem_nil, or_false] at hx
      subst hx
      exact ⟨(fun i hi => by cases hi), (fun x hx => by cases hx)⟩), (fun x hx => by
      simp only [List.mem_cons, List.not_mem_nil, or_false] at hx
      subst hx
      rfl), by decide, ws_zero _ _ _ _, _, _, _, rfl⟩ ?_ ?_
    · rintro i m ρ' C' hi ⟨p, t, hs, hc, h1, h2, h3, h4, o8, o9, o10, rfl⟩
      have hil := (List.getElem?_eq_some_iff.mp hi).1
      have hmm := List.mem_of_getElem? hi
      have hg : M.getD i 0 = m := by rw [List.getD_eq_getElem?_getD, hi]; rfl
      have h5 := ws_succ hN.nd h4
      rw [hg] at h5
      walk_at "dd"
      refine ⟨p, Tb, t, N, m, gT ss ps ts f, fee, i, rfl, hc, h1, h2, by omega, h3, hN, hT m hmm, h4.nd, fun p' C2 hS2 _ hc2 g1 g2 => ?_⟩
      have hbl := beh_len (gT ss ps ts f) fee m t N []
      have := hN.ln
      exact ⟨p', _, hs.trans hS2, hc2, g1, g2, by rw [List.length_nil] at hbl; show (N.foldl _ []).length ≤ 3; omega, h5, _, _, _, rfl⟩
    · rintro ρ' C' ⟨p, t, hs, hc, h1, h2, h3, h4, o8, o9, o10, rfl⟩
      have hbe := bst_eq h4
      obtain ⟨q1, q2⟩ := q C' hs
      unfold bstW at q1 q2
      rw [← hbe] at q1 q2
      have hnn : ((wtK t).all fun p => noNumK p.1) = true := by
        unfold wtK
        rw [List.all_map, List.all_eq_true]
        intro x _
        obtain ⟨k, v⟩ := x
        cases k <;> rfl
      have hks := wt_keys t
      clear hbe q
      subst hE
      dsimp only
      refine seq_hide fun E' hE => ?_
      walk_at "dd"
      subst hE
      dsimp only
      refine seq_hide fun E' hE => ?_
      walk_at "dd"
      intro od xs
      refine ⟨hnn, ?_⟩
      have hlk : ∀ q ∈ t, lkA t q.1 = some q.2 := fun q hq => lkA_mem h4.nd (by cases q; exact hq)
      clear hnn hks
      refine for_mapS (L := t.map fun p => p.1) (enc := okD) (st := fun C' => C' p = some (.lO A.pw (wtK t) od xs)) (fun l ρ' C2 => (∃ o10, ρ' = [some (.lst (ss.map (scD A))), some (payD ps), some (.dK (tsK A ts)), some (.int f), some (.int fee), some (.dT (ctK Tb)), some (.lst (N.map nD)), some (.ptr p), o8, some (opWD (((t.map fun p => p.2).take l).foldl optW none)), o10]) ∧ C2 = cput C' p (.lO A.pw (wtK t) od xs)) ⟨⟨_, rfl⟩, rfl⟩ (fun k ρ' C' h => by rw [h.2]; exact cput_same) ?_ ?_
      · rintro l b ρ' C2 hb ⟨⟨o10, rfl⟩, rfl⟩
        rw [List.getElem?_map] at hb
        obtain ⟨⟨b', v⟩, hbt, rfl⟩ := Option.map_eq_some_iff.mp hb
        have hbm := List.mem_of_getElem? hbt
        have hlv := hlk _ hbm
        have hvo := h1 _ hbm
        dsimp only at hlv hvo
        have hkb : keyB false (okD b') = some (okN b') := by cases b' <;> rfl
        have hva := wt_va t (fun q hq => (h1 q hq).1) hvo.1
        rw [hlv, Option.map_some] at hva
        have hsn : (t.map fun p => p.2).take (l + 1) = (t.map fun p => p.2).take l ++ [v] := take_snoc (by rw [List.getElem?_map, hbt]; rfl)
        have hmn := min_fold ((t.map fun p => p.2).take l)
        rw [hsn, List.foldl_append, List.foldl_cons, List.foldl_nil]
        have hz3 : ∀ z, ((t.map fun p => p.2).take l).foldl optW none = some z → ∀ x ∈ z.2, x < 3 := fun z hz => by
          have := List.mem_of_mem_take (hmn.mem z hz).1
          obtain ⟨q, hq, e⟩ := List.mem_map.mp this
          rw [← e]; exact (h1 q hq).2
        revert hz3
        generalize ((t.map fun p => p.2).take l).foldl optW none = o
        intro hz3
        have hcs : cput C' p (.lO A.pw (wtK t) od xs) p = some (.lO A.pw (wtK t) od xs) := cput_same
        clear hb hbt hlv hlk hsn hmn q1 q2 hE hT hM hc hs
        walk_at "dd"
        cases o with
        | none =>
          refine ⟨_, _, rfl, .inl ⟨rfl, ?_⟩⟩
          dsimp only
          rw [if_pos rfl, hcs]
          dsimp only
          refine ⟨rfl, ?_⟩
          rw [hva]
          exact ⟨⟨_, rfl⟩, rfl⟩
        | some z =>
          refine ⟨_, _, rfl, .inr ⟨_, rfl, ltD_wy hvo.2 (hz3 z rfl) ?_⟩⟩
          have ho : optW (some z) v = if ltW v z = true then some v else some z := rfl
          rw [ho]
          cases ltW v z with
          | true =>
            dsimp only
            rw [if_pos rfl, if_pos rfl, hcs]
            dsimp only
            refine ⟨rfl, ?_⟩
            rw [hva]
            exact ⟨⟨_, rfl⟩, rfl⟩
          | false =>
            dsimp only
            rw [if_neg (by decide), if_neg (by decide)]
            exact ⟨⟨_, rfl⟩, rfl⟩
      · rintro ρ' C2 ⟨⟨o10, rfl⟩, rfl⟩
        refine ⟨cput_same, ?_⟩
        rw [cput_cput, cput_self hc]
        rw [List.length_map, ← List.length_map (f := fun p : Option Nat × Wy => p.2) (as := t), List.take_length]
        subst hE
        dsimp only
        generalize (t.map fun p => p.2).foldl optW none = o at q1 q2
        cases o with
        | none =>
          have q3 := q1 rfl
          have e0 : opWD none = .non := rfl
          clear q1 q2
          walk_at "dd"
          exact ⟨_, Sub.refl _, q3⟩
        | some y =>
          have q3 : Pk (wyD y) C' := q2 y rfl
          have e0 : opWD (some y) = wyD y := rfl
          clear q1 q2
          walk_at "dd"
          exact ⟨_, Sub.refl _, q3⟩)

def R_law_asks (A : Ad) : DSp := fun ds C P => ∃ ss ps ts f fee N, ds = [.lst (ss.map (scD A)), payD ps, .dK (tsK A ts), .int f, .int fee] ∧ ss.length ≤ 200 ∧ ps.length ≤ 100 ∧ 0 ≤ f ∧ NOk N ∧ ts.map (fun p => p.1) = N.map nmT ∧ ∀ C', Sub C C' → P (opWD (bstW (gT ss ps ts f) fee (monF (askF ss ps)) N)) C'
theorem len_law_asks (A : Ad) : ∀ ds C P, R_law_asks A ds C P → ds.length = 5 := by rintro _ _ _ ⟨ss, ps, ts, f, fee, N, rfl, _⟩; rfl
theorem ok_law_asks (T : Txt K mg A P w) : FnOk P w K mg base CX0 12 A.a_law_asks A.d_law_asks ["sections", "payers", "tariffs", "free", "fee"] (spD K (R_law_asks A)) :=
  ok_D T.F_law_asks sc_law_asks (len_law_asks A) (fun cdv Ar outer s H E hr =>
    ds_one (ds_try rfl rfl T.x_NoTariff T.g_NoTariff takes0 (fun Wt pn xe tkt pot =>
      ds_one (ds_ret (d_callX tkt (ok_best_way T) (hr.mono (by decide)) T.g_best_way T.F_best_way.kp T.b_best_way (d_cons (d_var 0) (d_cons (d_var 1) (d_cons (d_var 2) (d_cons (d_var 3) (d_cons (d_var 4) (d_nil))))))))) (fun a oe cls d pn hz hf =>
      ds_one (ds_ret (d_non))))) (fun ds C Pk h => by
    obtain ⟨ss, ps, ts, f, fee, N, rfl, hl, hp0, hf, hN, hts, q⟩ := h
    walk_at "dd"
    refine ⟨ss, ps, ts, f, fee, N, rfl, hl, hp0, hf, hN, hts, fun C1 hS1 => ⟨fun hb => ?_, fun x hb => ?_⟩⟩
    · have q2 := q C1 hS1
      rw [hb] at q2
      exact ⟨true, T.e_NoTariff_NoTariff, fun _ => ⟨_, Sub.refl _, q2⟩, fun z => nomatch z⟩
    · have q2 := q C1 hS1
      rw [hb] at q2
      exact ⟨_, Sub.refl _, q2⟩)

def R_law_ways (A : Ad) : DSp := fun ds C P => ∃ (N : List Nat) (k : Nat), ds = [.lst (N.map nD), .int (k : Int)] ∧ N.length ≤ 3 ∧ k ≤ 5 ∧ P (.lst ((allW N k).map fun w => .tup (w.map nD))) C
theorem len_law_ways (A : Ad) : ∀ ds C P, R_law_ways A ds C P → ds.length = 2 := by rintro _ _ _ ⟨N, k, rfl, _⟩; rfl
theorem ok_law_ways (T : Txt K mg A P w) : FnOk P w K mg base CX0 1 A.a_law_ways A.d_law_ways ["names", "count"] (spD K (R_law_ways A)) :=
  ok_D T.F_law_ways sc_law_ways (len_law_ways A) (fun cdv Ar outer s H E hr =>
    ds_cons (ds_set 2 sc_law_ways.nd (d_lst (d_cons (d_tup (d_nil)) (d_nil))))
    (ds_consL (ds_for PassesOwn.never rfl (di_rng1 (by rfl) T.z_range (d_cons (d_var 1) (d_nil))) (dg_name 3 sc_law_ways.nd)
      (ds_cons (ds_set 4 sc_law_ways.nd (d_lst (d_nil)))
      (ds_consL (ds_for PassesOwn.never rfl (di_list (d_var 2)) (dg_name 5 sc_law_ways.nd)
        (ds_one (ds_set 4 sc_law_ways.nd (d_op op_catS s_cat (d_var 4) (d_lc rfl sc_law_ways.nd (di_list (d_var 0)) (blkOk_by (own := [("name", 6)]) (N := ["names", "count", "ways", "spare", "longer", "way", "name"]) (sc := defScope s_law_ways) (by decide +kernel)) (by decide) (fun _ _ _ _ _ => dg_name 6 sc_law_ways.nd) (fun _ _ _ _ _ => dts_nil) (fun _ _ _ _ _ => d_op op_catA s_catT (d_var 5) (d_tup (d_cons (d_var 6) (d_nil)))))))))
      (ds_one (ds_set 2 sc_law_ways.nd (d_var 4))))))
    (ds_one (ds_ret (d_var 2))))) (fun ds C Pk h => by
    obtain ⟨N, k, rfl, hN, hk, q⟩ := h
    refine seq_hide fun E' hE => ?_
    walk_at "dd"
    subst hE
    dsimp only
    refine seq_hide fun E' hE => ?_
    walk_at "dd"
    refine ⟨by omega, for_rng (fun j ρ' C' => (∃ o3 o4 o5 o6, ρ' = [some (.lst (N.map nD)), some (.int (k : Int)), some (.lst ((allW N j).map fun w => .tup (w.map nD))), o3, o4, o5, o6]) ∧ C' = C) ⟨⟨_, _, _, _, rfl⟩, rfl⟩ ?_ ?_⟩
    · rintro j ρ' C' hj ⟨⟨o3, o4, o5, o6, rfl⟩, rfl⟩
      have hj : j < k := by simpa using hj
      have ha := all_many N hN j
      have ha2 : 3 ^ j ≤ 3 ^ 5 := Nat.pow_le_pow_right (by decide) (by omega)
      rw [show (3 : Nat) ^ 5 = 243 by decide] at ha2
      show _
      refine seq_hide fun E2 hE2 => ?_
      walk_at "dd"
      subst hE2
      dsimp only
      refine seq_hide fun E2 hE2 => ?_
      walk_at "dd"
      refine for_map (L := allW N j) (enc := fun w => D.tup (w.map nD)) (fun i ρ' C2 => (∃ o5 o6, ρ' = [some (.lst (N.map nD)), some (.int (k : Int)), some (.lst ((allW N j).map fun w => .tup (w.map nD))), some (.int (j : Int)), some (.lst ((((allW N j).take i).flatMap fun w => N.map fun n => w ++ [n]).map fun w => .tup (w.map nD))), o5, o6]) ∧ C2 = C') ⟨⟨_, _, rfl⟩, rfl⟩ ?_ ?_
      · rintro i w ρ' C2 hi ⟨⟨o5, o6, rfl⟩, rfl⟩
        have hil := (List.getElem?_eq_some_iff.mp hi).1
        have hfl : ∀ L : List (List Nat), (L.flatMap fun w => N.map fun n => w ++ [n]).length = L.length * N.length := fun L => by
          induction L with
          | nil => simp
          | cons x r ih => rw [List.flatMap_cons, List.length_append, ih, List.length_map, List.length_cons, Nat.succ_mul]; omega
        have hwl := all_len (List.mem_of_getElem? hi)
        have hf2 := hfl ((allW N j).take i)
        have hlk := List.length_take_le' i (allW N j)
        have hf3 : ((allW N j).take i).length * N.length ≤ 243 * 3 := Nat.mul_le_mul (by omega) hN
        rw [take_snoc hi, List.flatMap_append, List.map_append]
        revert hf2
        generalize ((allW N j).take i).flatMap (fun w => N.map fun n => w ++ [n]) = R
        intro hf2
        walk_at "dd"
        refine lc_el (enc := nD) (fun n => .tup (w.map nD ++ [nD n])) (by omega) (fun n C' Q hQ => ?_) ?_
        · walk_at "dd"
          omega
        · have he : ([w].flatMap fun w => N.map fun n => w ++ [n]).map (fun w => D.tup (w.map nD)) = N.map fun n => D.tup (w.map nD ++ [nD n]) := by
            rw [List.flatMap_cons, List.flatMap_nil, List.append_nil, List.map_map]
            refine List.map_congr_left fun n _ => ?_
            simp
          rw [he]
          exact ⟨by rw [List.length_map, List.length_map]; omega, ⟨_, _, rfl⟩, rfl⟩
      · rintro ρ' C2 ⟨⟨o5, o6, rfl⟩, rfl⟩
        rw [List.take_length]
        subst hE2
        dsimp only
        walk_at "dd"
        exact ⟨_, _, _, _, rfl⟩
    · rintro ρ' C' ⟨⟨o3, o4, o5, o6, rfl⟩, rfl⟩
      rw [Int.toNat_natCast]
      subst hE
      walk_at "dd"
      exact ⟨_, Sub.refl _, q⟩)

def R_law_price (A : Ad) : DSp := fun ds C P => ∃ (w : List Nat) (M : List Int) (T : Ct) (fee : Int) (g : Int × Nat → Option Int) (N : List Nat), ds = [.tup (w.map nD), .lst (M.map D.int), .dT (ctK T), .int fee] ∧ w.length = M.length ∧ M.length ≤ 5 ∧ (∀ x ∈ w, x ∈ N) ∧ NOk N ∧ TbOk T g M N ∧ P (optIntD (prK g fee M w M.length)) C
theorem len_law_price (A : Ad) : ∀ ds C P, R_law_price A ds C P → ds.length = 4 := by rintro _ _ _ ⟨w, M, T, fee, g, N, rfl, _⟩; rfl
theorem ok_law_price (T : Txt K mg A P w) : FnOk P w K mg base CX0 1 A.a_law_price A.d_law_price ["way", "months", "table", "fee"] (spD K (R_law_price A)) :=
  ok_D T.F_law_price sc_law_price (len_law_price A) (fun cdv Ar outer s H E hr =>
    ds_cons (ds_set 4 sc_law_price.nd (d_int))
    (ds_consL (ds_for PassesOwn.never rfl (di_rng1 (by rfl) T.z_range (d_cons (d_callB call_len s_len (by rfl) T.z_len (by decide +kernel) (d_cons (d_var 0) (d_nil))) (d_nil))) (dg_name 5 sc_law_price.nd)
      (ds_cons (ds_set 6 sc_law_price.nd (d_dget hr (d_var 2) (d_tup (d_cons (d_ix ix_seq s_ix (d_var 1) (d_var 5)) (d_cons (d_ix ix_seq s_ix (d_var 0) (d_var 5)) (d_nil))))))
      (ds_cons (ds_if (d_tcmp op_isN s_isN (d_var 6) (d_non))
        (ds_one (ds_ret (d_non)))
        (ds_nil))
      (ds_cons (ds_set 4 sc_law_price.nd (d_op op_add s_add (d_var 4) (d_var 6)))
      (ds_one (ds_if ((d_and (d_tcmp op_gt s_gt (d_var 5) (d_int)) (d_and1 (d_tcmp op_ne s_ne (d_ix ix_seq s_ix (d_var 0) (d_var 5)) (d_ix ix_seq s_ix (d_var 0) (d_op op_sub s_sub (d_var 5) (d_int)))))).pt)
        (ds_one (ds_set 4 sc_law_price.nd (d_op op_add s_add (d_var 4) (d_var 3))))
        (ds_nil)))))))
    (ds_one (ds_ret (d_var 4))))) (fun ds C Pk h => by
    obtain ⟨w, M, T, fee, g, N, rfl, hw, hM, hwn, hN, hT, q⟩ := h
    refine seq_hide fun E' hE => ?_
    walk_at "dd"
    subst hE
    dsimp only
    refine seq_hide fun E' hE => ?_
    walk_at "dd"
    refine ⟨by omega, for_rng (fun j ρ' C' => ∃ t, prK g fee M w j = some t ∧ C' = C ∧ ∃ o5 o6, ρ' = [some (.tup (w.map nD)), some (.lst (M.map D.int)), some (.dT (ctK T)), some (.int fee), some (.int t), o5, o6]) ⟨0, rfl, rfl, _, _, rfl⟩ ?_ ?_⟩
    · rintro j ρ' C' hj ⟨t, ht, rfl, o5, o6, rfl⟩
      have hj : j < M.length := by simpa using hj
      have hm1 : M[j]? = some M[j] := List.getElem?_eq_getElem hj
      have hw1 : w[j]? = some w[j] := List.getElem?_eq_getElem (by omega)
      have hmm := List.mem_of_getElem? hm1
      have hwm := hwn _ (List.mem_of_getElem? hw1)
      have hpk : prK g fee M w (j + 1) = (extP g fee M[j] w[j] (if j = 0 then none else some (w.getD (j - 1) 0))).map fun c => t + c := by
        show (prK g fee M w j).bind _ = _
        rw [ht, List.getD_eq_getElem?_getD, List.getD_eq_getElem?_getD, hm1, hw1]; rfl
      revert hm1 hw1 hmm hwm hpk
      generalize M[j] = m
      generalize w[j] = x
      intro hm1 hw1 hmm hwm hpk
      have hva := ct_va T (m, nmT x)
      rw [hT m hmm x hwm, Option.map_some] at hva
      dsimp only at hva
      have hxd : nD x = .str (nmT x) := rfl
      have hx3 := hN.lt x hwm
      cases hg : g (m, x) with
      | none =>
        rw [hg] at hva
        have hn : prK g fee M w M.length = none := prK_none (j := j + 1) (by rw [hpk]; unfold extP; rw [hg]; rfl) (by omega)
        rw [hn] at q
        have e0 : optIntD none = .non := rfl
        have q : Pk .non C' := q
        clear hpk hn hg hT ht
        subst hE
        walk_at "dd"
        exact ⟨_, Sub.refl _, q⟩
      | some c =>
        rw [hg] at hva
        have e1 : optIntD (some c) = .int c := rfl
        rw [hpk]
        unfold extP
        rw [hg]
        clear hg hpk hT ht hE q
        by_cases z : j = 0
        · rw [if_pos z]
          have hp : ¬ (0 : Int) < (j : Int) := by omega
          clear z
          dsimp only [Option.map_some]
          walk_at "dd"
          exact ⟨_, rfl, _, _, rfl⟩
        · rw [if_neg z]
          have hp : (0 : Int) < (j : Int) := by omega
          have hw2 : w[j - 1]? = some w[j - 1] := List.getElem?_eq_getElem (by omega)
          have hgd : w.getD (j - 1) 0 = w[j - 1] := by rw [List.getD_eq_getElem?_getD, hw2]; rfl
          have hy3 := hN.lt _ (hwn _ (List.mem_of_getElem? hw2))
          rw [hgd]
          revert hw2 hy3
          generalize w[j - 1] = y
          intro hw2 hy3
          have hat : atI (w.map nD) ((j : Int) - 1) = some (nD y) := by rw [show (j : Int) - 1 = ((j - 1 : Nat) : Int) by omega, atI_nat', List.getElem?_map, hw2]; rfl
          have hyd : nD y = .str (nmT y) := rfl
          clear z hgd
          by_cases e : y = x
          · subst e
            dsimp only [Option.map_some]
            rw [if_pos rfl]
            walk_at "dd"
            exact ⟨_, rfl, _, _, rfl⟩
          · have hne : ¬ nmT x = nmT y := fun h => e (nmT_inj y x hy3 hx3 h.symm)
            dsimp only [Option.map_some]
            rw [if_neg e, ← Int.add_assoc]
            walk_at "dd"
            exact ⟨_, rfl, _, _, rfl⟩
    · rintro ρ' C' ⟨t, ht, rfl, o5, o6, rfl⟩
      rw [Int.toNat_natCast] at ht
      rw [ht] at q
      subst hE
      walk_at "dd"
      exact ⟨_, Sub.refl _, q⟩)

def R_law_best (A : Ad) : DSp := fun ds C P => ∃ (N : List Nat) (M : List Int) (T : Ct) (fee : Int) (g : Int × Nat → Option Int), ds = [.lst (N.map nD), .lst (M.map D.int), .dT (ctK T), .int fee] ∧ M.length ≤ 5 ∧ NOk N ∧ TbOk T g M N ∧ P (opWD (bstW g fee M N)) C
theorem len_law_best (A : Ad) : ∀ ds C P, R_law_best A ds C P → ds.length = 4 := by rintro _ _ _ ⟨N, M, T, fee, g, rfl, _⟩; rfl
theorem ok_law_best (T : Txt K mg A P w) : FnOk P w K mg base CX0 2 A.a_law_best A.d_law_best ["names", "months", "table", "fee"] (spD K (R_law_best A)) :=
  ok_D T.F_law_best sc_law_best (len_law_best A) (fun cdv Ar outer s H E hr =>
    ds_consL (ds_set 4 sc_law_best.nd (d_lstC (d_nil)))
    (ds_consL (ds_for PassesOwn.never rfl (di_list (d_call (ok_law_ways T) (hr.mono (by decide)) T.g_law_ways T.F_law_ways.kp T.b_law_ways (d_cons (d_var 0) (d_cons (d_callB call_len s_len (by rfl) T.z_len (by decide +kernel) (d_cons (d_var 1) (d_nil))) (d_nil))))) (dg_name 5 sc_law_best.nd)
      (ds_consL (ds_set 6 sc_law_best.nd (d_call (ok_law_price T) (hr.mono (by decide)) T.g_law_price T.F_law_price.kp T.b_law_price (d_cons (d_var 5) (d_cons (d_var 1) (d_cons (d_var 2) (d_cons (d_var 3) (d_nil)))))))
      (ds_one (ds_if (d_tcmp op_notN s_notN (d_var 6) (d_non))
        (ds_one (ds_expr (d_bmL PySem.F.plainAttrs_list PySem.F.slot_list_append PySem.F.type_list_append mt_append s_append (d_var 4) (d_cons (d_tup (d_cons (d_var 6) (d_cons (d_var 5) (d_nil)))) (d_nil)))))
        (ds_nil)))))
    (ds_cons (ds_if (d_tcmp (op_eqEmp hr.units) s_emp (d_var 4) (d_lst (d_nil)))
      (ds_one (ds_ret (d_non)))
      (ds_nil))
    (ds_one (ds_ret (d_ix ix_seq s_ix (d_callB (cr_sortedD hr.units) s_sortD (by rfl) T.z_sorted (by decide +kernel) (d_cons (d_var 4) (d_nil))) (d_int))))))) (fun ds C Pk h => by
    obtain ⟨N, M, T, fee, g, rfl, hM, hN, hT, q⟩ := h
    refine seq_hide fun E' hE => ?_
    walk_at "dd"
    intro pr hpr
    subst hE
    dsimp only
    refine seq_hide fun E' hE => ?_
    walk_at "dd"
    refine ⟨N, M.length, rfl, hN.ln, hM, ?_⟩
    refine for_map (L := allW N M.length) (enc := fun w => D.tup (w.map nD)) (fun i ρ' C2 => (∃ o5 o6, ρ' = [some (.lst (N.map nD)), some (.lst (M.map D.int)), some (.dT (ctK T)), some (.int fee), some (.ptr pr), o5, o6]) ∧ C2 = cput C pr (.lst ((((allW N M.length).take i).filterMap fun w => (prK g fee M w M.length).map fun c => (c, w)).map wyD))) ⟨⟨_, _, rfl⟩, rfl⟩ ?_ ?_
    · rintro i w ρ' C2 hi ⟨⟨o5, o6, rfl⟩, rfl⟩
      have hm := List.mem_of_getElem? hi
      have hil := (List.getElem?_eq_some_iff.mp hi).1
      have ha := all_many N hN.ln M.length
      have ha2 : 3 ^ M.length ≤ 3 ^ 5 := Nat.pow_le_pow_right (by decide) hM
      rw [show (3 : Nat) ^ 5 = 243 by decide] at ha2
      have hfl : (((allW N M.length).take i).filterMap fun w => (prK g fee M w M.length).map fun c => (c, w)).length ≤ 243 := Nat.le_trans (List.length_filterMap_le _ _) (by rw [List.length_take]; omega)
      rw [take_snoc hi, List.filterMap_append]
      revert hfl
      generalize ((allW N M.length).take i).filterMap (fun w => (prK g fee M w M.length).map fun c => (c, w)) = R
      intro hfl
      have e0 : optIntD none = .non := rfl
      have e1 : ∀ z, optIntD (some z) = .int z := fun _ => rfl
      rw [List.filterMap_cons]
      cases hp : prK g fee M w M.length with
      | none =>
        dsimp only [Option.map_none]
        rw [List.filterMap_nil, List.append_nil]
        refine seq_hide fun E2 hE2 => ?_
        walk_at "dd"
        refine ⟨w, M, T, fee, g, N, rfl, all_len hm, hM, all_nm hm, hN, hT, ?_⟩
        rw [hp]
        subst hE2
        clear hp
        walk_at "dd"
        exact ⟨_, _, rfl⟩
      | some c =>
        dsimp only [Option.map_some]
        rw [List.filterMap_nil, List.map_append]
        have hw : [((c, w) : Wy)].map wyD = [.tup [.int c, .tup (w.map nD)]] := rfl
        rw [hw]
        refine seq_hide fun E2 hE2 => ?_
        walk_at "dd"
        refine ⟨w, M, T, fee, g, N, rfl, all_len hm, hM, all_nm hm, hN, hT, ?_⟩
        rw [hp]
        subst hE2
        clear hp
        walk_at "dd"
        exact ⟨by omega, _, _, rfl⟩
    · rintro ρ' C2 ⟨⟨o5, o6, rfl⟩, rfl⟩
      rw [List.take_length]
      have hR : (allW N M.length).filterMap (fun w => (prK g fee M w M.length).map fun c => (c, w)) = rowsF g fee M N M.length := rfl
      rw [hR]
      unfold bstW at q
      have hlt : ∀ v ∈ rowsF g fee M N M.length, ∀ x ∈ v.2, x < 3 := fun v hv x hx => by
        unfold rowsF at hv
        obtain ⟨w, hw, e⟩ := List.mem_filterMap.mp hv
        obtain ⟨c, _, rfl⟩ := Option.map_eq_some_iff.mp e
        exact hN.lt x (all_nm hw x hx)
      obtain ⟨hs1, hs2⟩ := sort_wy hlt
      revert q hs1 hs2
      generalize rowsF g fee M N M.length = R
      intro q hs1 hs2
      subst hE
      cases R with
      | nil =>
        have q : Pk .non C := by
          have e : (([] : List Wy).mergeSort leW).head? = none := by rw [List.mergeSort_nil]; rfl
          rw [e] at q; exact q
        clear hs1 hs2
        walk_at "dd"
        exact ⟨C, Sub.new hpr, q⟩
      | cons x r =>
        cases hms : (x :: r).mergeSort leW with
        | nil =>
          have := (List.mergeSort_perm (x :: r) leW).length_eq
          rw [hms] at this
          cases this
        | cons y r2 =>
          rw [hms] at q hs2
          have q : Pk (wyD y) C := q
          clear hms
          dsimp only
          walk_at "dd"
          unfold dSortD
          simp only [itsOf_ptr, seqOf_ptr, cput_same]
          have hs2' : (wyD x :: r.map wyD).mergeSort leD = wyD y :: r2.map wyD := hs2
          refine ⟨hs1, by first | rfl | trivial, ?_⟩
          rw [hs2']
          walk_at "dd"
          exact ⟨C, Sub.new hpr, q⟩)

def R_law (A : Ad) : DSp := fun ds C P => ∃ ns : List Int, ds = [.lst (ns.map D.int)] ∧ ns.length ≤ 63 ∧ ∀ C', P (.bl true) C'
theorem len_law (A : Ad) : ∀ ds C P, R_law A ds C P → ds.length = 1 := by rintro _ _ _ ⟨ns, rfl, _⟩; rfl
theorem law_go (A : Ad) : ∀ (ns : List Int) (P : DK), ns.length ≤ 63 → (∀ C', P (.bl true) C') → R_law A [.lst (ns.map D.int)] (fun _ => none) P := fun ns P hl k => ⟨ns, rfl, hl, k⟩

theorem ok_law (T : Txt K mg A P w) : FnOk P w K mg base CX0 13 A.a_law A.d_law ["script"] (spD K (R_law A)) :=
  ok_D T.F_law sc_law (len_law A) (fun cdv Ar outer s H E hr =>
    ds_consL (ds_set 1 sc_law.nd (d_call (ok_law_sections T) (hr.mono (by decide)) T.g_law_sections T.F_law_sections.kp T.b_law_sections (d_cons (d_var 0) (d_cons (d_callB (call_min2 rfl) s_min2 (by rfl) T.z_min (by decide +kernel) (d_cons (d_int) (d_cons (d_op op_add s_add (d_int) (d_callB call_len s_len (by rfl) T.z_len (by decide +kernel) (d_cons (d_var 0) (d_nil)))) (d_nil)))) (d_nil)))))
    (ds_consL (ds_for PassesOwn.never rfl (di_rng1 (by rfl) T.z_range (d_cons (d_callB (call_min2 rfl) s_min2 (by rfl) T.z_min (by decide +kernel) (d_cons (d_int) (d_cons (d_op op_add s_add (d_int) (d_callB call_len s_len (by rfl) T.z_len (by decide +kernel) (d_cons (d_var 0) (d_nil)))) (d_nil)))) (d_nil))) (dg_name 2 sc_law.nd)
      (ds_consL (ds_set 3 sc_law.nd (d_call (ok_law_state T) (hr.mono (by decide)) T.g_law_state T.F_law_state.kp T.b_law_state (d_cons (d_call (ok_law_cell T) (hr.mono (by decide)) T.g_law_cell T.F_law_cell.kp T.b_law_cell (d_cons (d_var 0) (d_cons (d_var 2) (d_nil)))) (d_cons (d_op op_add s_add (d_int) (d_var 2)) (d_nil)))))
      (ds_consL (ds_set 4 sc_law.nd (d_call (ok_law_tariffs T) (hr.mono (by decide)) T.g_law_tariffs T.F_law_tariffs.kp T.b_law_tariffs (d_cons (d_var 3) (d_nil))))
      (ds_cons (ds_set 5 sc_law.nd (d_lst (d_cons (d_str) (d_cons (d_str) (d_cons (d_str) (d_nil))))))
      (ds_consL (ds_if (d_tcmp op_eq s_eq (d_call (ok_law_digit T) (hr.mono (by decide)) T.g_law_digit T.F_law_digit.kp T.b_law_digit (d_cons (d_var 3) (d_cons (d_int) (d_nil)))) (d_int))
        (ds_cons (ds_set 4 sc_law.nd (d_dispF (dps_cons (d_str) (d_dget hr (d_var 4) (d_str)) (dps_cons (d_str) (d_dget hr (d_var 4) (d_str)) (dps_nil)))))
        (ds_one (ds_set 5 sc_law.nd (d_lst (d_cons (d_str) (d_cons (d_str) (d_nil)))))))
        (ds_nil))
      (ds_consL (ds_set 6 sc_law.nd (d_sl (d_lst (d_cons (d_str) (d_cons (d_str) (d_cons (d_str) (d_nil))))) (do_none) (do_some (d_op op_add s_add (d_int) (d_call (ok_law_digit T) (hr.mono (by decide)) T.g_law_digit T.F_law_digit.kp T.b_law_digit (d_cons (d_var 3) (d_cons (d_int) (d_nil))))))))
      (ds_consL (ds_set 7 sc_law.nd (d_ix ix_seq s_ix (d_tup (d_cons (d_int) (d_cons (d_int) (d_cons (d_int) (d_nil))))) (d_call (ok_law_digit T) (hr.mono (by decide)) T.g_law_digit T.F_law_digit.kp T.b_law_digit (d_cons (d_var 3) (d_cons (d_int) (d_nil))))))
      (ds_consL (ds_set 8 sc_law.nd (d_ix ix_seq s_ix (d_tup (d_cons (d_int) (d_cons (d_int) (d_cons (d_int) (d_cons (d_int) (d_nil)))))) (d_call (ok_law_digit T) (hr.mono (by decide)) T.g_law_digit T.F_law_digit.kp T.b_law_digit (d_cons (d_var 3) (d_cons (d_int) (d_nil))))))
      (ds_consL (ds_set 9 sc_law.nd (d_call (ok_cost_table T) (hr.mono (by decide)) T.g_cost_table T.F_cost_table.kp T.b_cost_table (d_cons (d_var 1) (d_cons (d_var 6) (d_cons (d_var 4) (d_cons (d_var 7) (d_nil)))))))
      (ds_consL (ds_set 10 sc_law.nd (d_call (ok_months_of T) (hr.mono (by decide)) T.g_months_of T.F_months_of.kp T.b_months_of (d_cons (d_call (ok_paid_sections T) (hr.mono (by decide)) T.g_paid_sections T.F_paid_sections.kp T.b_paid_sections (d_cons (d_var 1) (d_cons (d_var 6) (d_nil)))) (d_nil))))
      (ds_consL (ds_if (d_tcmp (op_neD hr.units) s_neD (d_call (ok_law_asks T) (hr.mono (by decide)) T.g_law_asks T.F_law_asks.kp T.b_law_asks (d_cons (d_var 1) (d_cons (d_var 6) (d_cons (d_var 4) (d_cons (d_var 7) (d_cons (d_var 8) (d_nil))))))) (d_call (ok_law_best T) (hr.mono (by decide)) T.g_law_best T.F_law_best.kp T.b_law_best (d_cons (d_var 5) (d_cons (d_var 10) (d_cons (d_var 9) (d_cons (d_var 8) (d_nil)))))))
        (ds_one (ds_ret (d_bl)))
        (ds_nil))
      (ds_consL (ds_for PassesOwn.never rfl (di_list (d_var 10)) (dg_name 11 sc_law.nd)
        (ds_one (ds_for PassesOwn.never rfl (di_list (d_var 5)) (dg_name 12 sc_law.nd)
          (ds_cons (ds_set 13 sc_law.nd (d_dget hr (d_var 9) (d_tup (d_cons (d_var 11) (d_cons (d_var 12) (d_nil))))))
          (ds_consL (ds_if ((d_or (d_tcmp op_ne s_ne (d_call (ok_step_cost T) (hr.mono (by decide)) T.g_step_cost T.F_step_cost.kp T.b_step_cost (d_cons (d_var 9) (d_cons (d_var 11) (d_cons (d_var 12) (d_cons (d_non) (d_cons (d_var 8) (d_nil))))))) (d_var 13)) (d_or1 (d_tcmp op_ne s_ne (d_call (ok_step_cost T) (hr.mono (by decide)) T.g_step_cost T.F_step_cost.kp T.b_step_cost (d_cons (d_var 9) (d_cons (d_var 11) (d_cons (d_var 12) (d_cons (d_var 12) (d_cons (d_var 8) (d_nil))))))) (d_var 13)))).pt)
            (ds_one (ds_ret (d_bl)))
            (ds_nil))
          (ds_one (ds_if ((d_and (d_tcmp op_notN s_notN (d_var 13) (d_non)) (d_and1 (d_tcmp op_ne s_ne (d_call (ok_step_cost T) (hr.mono (by decide)) T.g_step_cost T.F_step_cost.kp T.b_step_cost (d_cons (d_var 9) (d_cons (d_var 11) (d_cons (d_var 12) (d_cons (d_str) (d_cons (d_var 8) (d_nil))))))) (d_op op_add s_add (d_var 13) (d_var 8))))).pt)
            (ds_one (ds_ret (d_bl)))
            (ds_nil))))))))
      (ds_one (ds_if (d_tcmp (op_neEmp hr.units) s_emp (d_var 10) (d_lst (d_nil)))
        (ds_consL (ds_set 14 sc_law.nd (d_call (ok_ways_behind T) (hr.mono (by decide)) T.g_ways_behind T.F_ways_behind.kp T.b_ways_behind (d_cons (d_oneO (q := A.pw) T.hq (d_non) (d_tup (d_cons (d_int) (d_cons (d_tup (d_nil)) (d_nil))))) (d_cons (d_var 9) (d_cons (d_ix ix_seq s_ix (d_var 10) (d_int)) (d_cons (d_var 5) (d_cons (d_var 8) (d_nil))))))))
        (ds_one (ds_for PassesOwn.never rfl (di_list (d_var 5)) (dg_name 12 sc_law.nd)
          (ds_one (ds_if (d_tcmp op_ne s_ne (d_cmp (op_inN hr.units T.hq) s_rd (d_var 12) (d_var 14)) (d_cmp op_notN s_notN (d_dget hr (d_var 9) (d_tup (d_cons (d_ix ix_seq s_ix (d_var 10) (d_int)) (d_cons (d_var 12) (d_nil))))) (d_non)))
            (ds_one (ds_ret (d_bl)))
            (ds_nil))))))
        (ds_nil)))))))))))))))
    (ds_one (ds_ret (d_andV (d_call (ok_is_better T) (hr.mono (by decide)) T.g_is_better T.F_is_better.kp T.b_is_better (d_cons (d_tup (d_cons (d_int) (d_cons (d_tup (d_cons (d_str) (d_nil))) (d_nil)))) (d_cons (d_non) (d_nil)))) (d_andV (d_call (ok_is_better T) (hr.mono (by decide)) T.g_is_better T.F_is_better.kp T.b_is_better (d_cons (d_tup (d_cons (d_int) (d_cons (d_tup (d_cons (d_str) (d_nil))) (d_nil)))) (d_cons (d_tup (d_cons (d_int) (d_cons (d_tup (d_cons (d_str) (d_nil))) (d_nil)))) (d_nil)))) (d_one (d_notV (d_call (ok_is_better T) (hr.mono (by decide)) T.g_is_better T.F_is_better.kp T.b_is_better (d_cons (d_tup (d_cons (d_int) (d_cons (d_tup (d_nil)) (d_nil)))) (d_cons (d_tup (d_cons (d_int) (d_cons (d_tup (d_cons (d_str) (d_nil))) (d_nil)))) (d_nil)))))))))))) (fun ds C Pk h => by
    obtain ⟨ns, rfl, hl, q⟩ := h
    refine seq_hide fun E' hE => ?_
    walk_at "dd"
    rw [show min (24 : Int) (8 + (ns.length : Int)) = ((min 24 (8 + ns.length) : Nat) : Int) by omega]
    refine ⟨ns, min 24 (8 + ns.length), rfl, hl, by omega, fun ss C0 hss hS0 => ?_⟩
    have lss : ss.length ≤ 200 := by
      have := congrArg List.length hss
      rw [List.length_map, List.length_map, List.length_range] at this
      omega
    subst hE
    dsimp only [List.set_cons_succ, List.set_cons_zero]
    refine seq_hide fun E' hE => ?_
    walk_at "dd"
    clear hss hS0
    rw [show min (6 : Int) (2 + (ns.length : Int)) = ((min 6 (2 + ns.length) : Nat) : Int) by omega]
    refine ⟨by omega, for_rng (fun k ρ' C' => ∃ o2 o3 o4 o5 o6 o7 o8 o9 o10 o11 o12 o13 o14, ρ' = [some (.lst (ns.map D.int)), some (.lst (ss.map (scD A))), o2, o3, o4, o5, o6, o7, o8, o9, o10, o11, o12, o13, o14]) ⟨_, _, _, _, _, _, _, _, _, _, _, _, _, rfl⟩ ?_ ?_⟩
    · rintro k ρ' C1 hk ⟨o2, o3, o4, o5, o6, o7, o8, o9, o10, o11, o12, o13, o14, rfl⟩
      rw [Int.zero_add]
      refine seq_hide fun E2 hE2 => ?_
      walk_at "dd"
      refine ⟨ns, k, rfl, hl, by omega, fun v => ?_⟩
      walk_at "dd"
      refine ⟨v, 60 + k, rfl, by omega, by omega, fun ps s hs0 hps => ?_⟩
      subst hE2
      dsimp only [List.set_cons_succ, List.set_cons_zero]
      refine seq_hide fun E2 hE2 => ?_
      walk_at "dd"
      refine ⟨ps, s, rfl, cput_same, hs0, fun ts0 s1 C2 hts0 hs1 hS2 => ?_⟩
      rw [cput_cput] at hS2
      have hc2 := hS2 _ _ cput_same
      subst hE2
      dsimp only [List.set_cons_succ, List.set_cons_zero]
      clear hS2 hps
      walk_at "dd"
      refine seq_hide fun E2 hE2 => ?_
      have fin : ∀ (ts : Tab) (N : List Nat) C' s', NOk N → ts.map (fun p => p.1) = N.map nmT → 0 ≤ s' → C' ps = some (.lst [.int s']) → E2.nx [some (.lst (ns.map D.int)), some (.lst (ss.map (scD A))), some (.int (k : Int)), some (.ptr ps), some (.dK (tsK A ts)), some (.lst (N.map nD)), o6, o7, o8, o9, o10, o11, o12, o13, o14] C' := by
        intro ts N C3 s3 hN hts hs3 hc3
        subst hE2
        dsimp only
        refine seq_hide fun E2 hE2 => ?_
        walk_at "dd"
        refine ⟨ps, s3, 3, rfl, hc3, hs3, by decide, by decide, fun d1 s4 a1 b1 c1 => ?_⟩
        obtain ⟨pays, hpays, lpays⟩ : ∃ pays : List Str, cutD [D.str (Str.ofString "41"), D.str (Str.ofString "42"), D.str (Str.ofString "51")] none (some (1 + d1)) = pays.map D.str ∧ pays.length ≤ 100 := by
          have : d1 = 0 ∨ d1 = 1 ∨ d1 = 2 := by omega
          rcases this with rfl | rfl | rfl
          · exact ⟨["41"], rfl, by decide⟩
          · exact ⟨["41", "42"], rfl, by decide⟩
          · exact ⟨["41", "42", "51"], rfl, by decide⟩
        walk_at "dd"
        subst hE2
        dsimp only
        clear hpays a1 b1
        have hc4 : cput C3 ps (.lst [.int s4]) ps = some (.lst [.int s4]) := cput_same
        generalize cput C3 ps (.lst [.int s4]) = C4 at hc4 ⊢
        refine seq_hide fun E2 hE2 => ?_
        walk_at "dd"
        refine ⟨ps, s4, 3, rfl, hc4, c1, by decide, by decide, fun d2 s5 a2 b2 c2 => ?_⟩
        obtain ⟨f, hff, hf⟩ : ∃ f : Int, atI (α := D) [.int 0, .int 60, .int 4000] d2 = some (.int f) ∧ 0 ≤ f := by
          have : d2 = 0 ∨ d2 = 1 ∨ d2 = 2 := by omega
          rcases this with rfl | rfl | rfl <;> exact ⟨_, rfl, by decide⟩
        walk_at "dd"
        subst hE2
        dsimp only
        clear hff a2 b2
        have hc5 : cput C4 ps (.lst [.int s5]) ps = some (.lst [.int s5]) := cput_same
        generalize cput C4 ps (.lst [.int s5]) = C5 at hc5 ⊢
        refine seq_hide fun E2 hE2 => ?_
        walk_at "dd"
        refine ⟨ps, s5, 4, rfl, hc5, c2, by decide, by decide, fun d3 s6 a3 b3 c3 => ?_⟩
        obtain ⟨fee, hfee⟩ : ∃ f : Int, atI (α := D) [.int 0, .int 1, .int 50, .int 100000] d3 = some (.int f) := by
          have : d3 = 0 ∨ d3 = 1 ∨ d3 = 2 ∨ d3 = 3 := by omega
          rcases this with rfl | rfl | rfl | rfl <;> exact ⟨_, rfl⟩
        walk_at "dd"
        subst hE2
        dsimp only
        clear hfee a3 b3 c3 hc4 hc5 hc3 hs3 c1 c2
        generalize cput C5 ps (.lst [.int s6]) = C6
        have lts : ts.length ≤ 10 := by
          have := congrArg List.length hts
          rw [List.length_map, List.length_map] at this
          have := hN.ln
          omega
        have hal : (askF ss pays).length ≤ 200 := by
          unfold askF
          exact Nat.le_trans (List.length_filter_le _ _) lss
        have hT := put_tb ss pays ts f (monF (askF ss pays)) N hts
        have hM := monF_len (askF ss pays)
        refine seq_hide fun E2 hE2 => ?_
        walk_at "dd"
        refine ⟨ss, pays, ts, f, rfl, lss, lpays, hf, lts, by rw [hts]; exact hN.ns, fun C7 hS7 => ?_⟩
        revert hT
        generalize putAll _ _ = Tb
        intro hT
        clear hS7
        subst hE2
        dsimp only
        refine seq_hide fun E2 hE2 => ?_
        walk_at "dd"
        refine ⟨ss, pays, rfl, lss, lpays, askF ss pays, rfl, hal, fun C8 hS8 => ?_⟩
        subst hE2
        dsimp only
        refine seq_hide fun E2 hE2 => ?_
        walk_at "dd"
        refine ⟨ss, pays, ts, f, fee, N, rfl, lss, lpays, hf, hN, hts, fun C9 hS9 => ?_⟩
        have hd := dat_bst (g := gT ss pays ts f) (fee := fee) (M := monF (askF ss pays)) hN
        refine ⟨N, monF (askF ss pays), Tb, fee, gT ss pays ts f, rfl, hM, hN, hT, ?_⟩
        have hdr : ∀ C, D.res C (opWD (bstW (gT ss pays ts f) fee (monF (askF ss pays)) N)) = opWD (bstW (gT ss pays ts f) fee (monF (askF ss pays)) N) := fun C => by
          cases bstW (gT ss pays ts f) fee (monF (askF ss pays)) N <;> rfl
        refine ⟨2, by decide, by rw [hdr]; exact hd, by rw [hdr]; exact hd, ?_⟩
        rw [if_neg (by rw [hdr, eqb_self hd]; decide)]
        clear hdr hd hS8 hS9
        revert hM hT
        generalize monF (askF ss pays) = M
        generalize gT ss pays ts f = g
        intro hM hT
        clear hts lts hal hf lpays
        subst hE2
        dsimp only
        refine seq_hide fun E2 hE2 => ?_
        walk_at "dd"
        have e0 : optIntD none = .non := rfl
        have e1 : ∀ z, optIntD (some z) = .int z := fun _ => rfl
        refine for_map (L := M) (enc := D.int) (fun i ρ' C' => ∃ o11 o12 o13, ρ' = [some (.lst (ns.map D.int)), some (.lst (ss.map (scD A))), some (.int (k : Int)), some (.ptr ps), some (.dK (tsK A ts)), some (.lst (N.map nD)), some (.lst (pays.map D.str)), some (.int f), some (.int fee), some (.dT (ctK Tb)), some (.lst (M.map D.int)), o11, o12, o13, o14]) ⟨_, _, _, rfl⟩ ?_ ?_
        · rintro i m ρ' C' hi ⟨o11, o12, o13, rfl⟩
          have hm := List.mem_of_getElem? hi
          walk_at "dd"
          refine for_map (L := N) (enc := nD) (fun j ρ' C' => ∃ o12 o13, ρ' = [some (.lst (ns.map D.int)), some (.lst (ss.map (scD A))), some (.int (k : Int)), some (.ptr ps), some (.dK (tsK A ts)), some (.lst (N.map nD)), some (.lst (pays.map D.str)), some (.int f), some (.int fee), some (.dT (ctK Tb)), some (.lst (M.map D.int)), some (.int m), o12, o13, o14]) ⟨_, _, rfl⟩ ?_ ?_
          · rintro j n ρ' C2 hj ⟨o12, o13, rfl⟩
            have hn := List.mem_of_getElem? hj
            have hTn := hT m hm n hn
            have hn3 := hN.lt n hn
            have hva := ct_va Tb (m, nmT n)
            rw [hTn, Option.map_some] at hva
            dsimp only at hva
            have hkn : nD n = .str (nmT n) := rfl
            have hoth : ¬ (Str.ofString "other" = nmT n) := by
              have : ∀ i : Fin 3, ¬ (Str.ofString "other" = nmT i) := by decide +kernel
              exact this ⟨n, hn3⟩
            clear hT hE hj hi
            cases hg : g (m, n) with
            | none =>
              rw [hg] at hva hTn
              clear hg
              walk_at "dd"
              refine seq_hide fun E3 hE3 => ?_
              walk_at "dd"
              refine ⟨Tb, m, nmT n, none, fee, none, rfl, hTn, ?_⟩
              rw [show optIntD (extS none (nmT n) none fee) = .non from rfl]
              walk_at "dd"
              refine ⟨Tb, m, nmT n, some (nmT n), fee, none, rfl, hTn, ?_⟩
              rw [show optIntD (extS none (nmT n) (some (nmT n)) fee) = .non from rfl]
              subst hE3
              walk_at "dd"
              exact ⟨_, _, rfl⟩
            | some c =>
              rw [hg] at hva hTn
              clear hg
              walk_at "dd"
              refine seq_hide fun E3 hE3 => ?_
              walk_at "dd"
              refine ⟨Tb, m, nmT n, none, fee, some c, rfl, hTn, ?_⟩
              rw [show optIntD (extS (some c) (nmT n) none fee) = .int c from rfl]
              walk_at "dd"
              refine ⟨Tb, m, nmT n, some (nmT n), fee, some c, rfl, hTn, ?_⟩
              rw [show optIntD (extS (some c) (nmT n) (some (nmT n)) fee) = .int c by simp [extS, optIntD]]
              subst hE3
              walk_at "dd"
              refine ⟨Tb, m, nmT n, some (Str.ofString "other"), fee, some c, rfl, hTn, ?_⟩
              rw [show optIntD (extS (some c) (nmT n) (some (Str.ofString "other")) fee) = .int (c + fee) by simp [extS, optIntD, hoth]]
              walk_at "dd"
              exact ⟨_, _, rfl⟩
          · rintro ρ' C2 ⟨o12, o13, rfl⟩
            exact ⟨_, _, _, rfl⟩
        · rintro ρ' C' ⟨o11, o12, o13, rfl⟩
          subst hE2
          dsimp only
          cases M with
          | nil =>
            walk_at "dd"
            exact ⟨_, _, _, _, _, _, _, _, _, _, _, _, _, rfl⟩
          | cons m M =>
            walk_at "dd"
            refine seq_hide fun E2 hE2 => ?_
            walk_at "dd"
            intro p hp
            refine ⟨p, Tb, [(none, (0, []))], N, m, g, fee, 0, rfl, cput_same, (fun x hx => ?_), (fun x hx => ?_), by decide, by decide, hN, hT m List.mem_cons_self, by decide, fun p' C2 hS2 _ hc2 g1 g2 => ?_⟩
            · simp only [List.mem_cons, List.not_mem_nil, or_false] at hx
              subst hx
              exact ⟨(fun i hi => by cases hi), (fun x hx => by cases hx)⟩
            · simp only [List.mem_cons, List.not_mem_nil, or_false] at hx
              subst hx
              rfl
            subst hE2
            dsimp only
            walk_at "dd"
            refine for_map (L := N) (enc := nD) (fun j ρ' C' => C' = C2 ∧ ∃ o12, ρ' = [some (.lst (ns.map D.int)), some (.lst (ss.map (scD A))), some (.int (k : Int)), some (.ptr ps), some (.dK (tsK A ts)), some (.lst (N.map nD)), some (.lst (pays.map D.str)), some (.int f), some (.int fee), some (.dT (ctK Tb)), some (.lst ((m :: M).map D.int)), o11, o12, o13, some (.ptr p')]) ⟨rfl, _, rfl⟩ ?_ ?_
            · rintro j n ρ' C3 hj ⟨rfl, o12, rfl⟩
              have hn := List.mem_of_getElem? hj
              have hTn := hT m List.mem_cons_self n hn
              have hva := ct_va Tb (m, nmT n)
              rw [hTn, Option.map_some] at hva
              dsimp only at hva
              have hkn : nD n = .str (nmT n) := rfl
              have hno : KOk (some n) := fun i hi => by cases hi; exact hN.lt n hn
              have hvf := wt_va _ (fun q hq => (g1 q hq).1) hno
              rw [show okN (some n) = .text (nmT n) from rfl] at hvf
              have hbi := beh_in g fee m hN.nd hn
              have hvs : (vaD (wtK (behF g fee m [(none, (0, []))] N)) (.text (nmT n))).isSome = (g (m, n)).isSome := by
                rw [hvf, ← hbi]
                cases lkA (behF g fee m [(none, (0, []))] N) (some n) <;> rfl
              clear hvf hbi hTn hT hE hj q g1 g2 hS2
              cases hg : g (m, n) with
              | none =>
                rw [hg] at hva hvs
                clear hg
                have hvs : (vaD (wtK (behF g fee m [(none, (0, []))] N)) (.text (nmT n))).isSome = false := hvs
                walk_at "dd"
                exact ⟨_, rfl⟩
              | some c =>
                rw [hg] at hva hvs
                clear hg
                have hvs : (vaD (wtK (behF g fee m [(none, (0, []))] N)) (.text (nmT n))).isSome = true := hvs
                walk_at "dd"
                exact ⟨_, rfl⟩
            · rintro ρ' C3 ⟨rfl, o12, rfl⟩
              exact ⟨_, _, _, _, _, _, _, _, _, _, _, _, _, rfl⟩
      walk_at "dd"
      refine ⟨ps, s1, 3, rfl, hc2, hs1, by decide, by decide, fun d0 s3 a0 b0 c0 => ?_⟩
      have hc3 : cput C2 ps (.lst [.int s3]) ps = some (.lst [.int s3]) := cput_same
      generalize cput C2 ps (.lst [.int s3]) = C3 at hc3 ⊢
      by_cases z : d0 = 0
      · subst z
        obtain ⟨t1, t2, t3, rfl⟩ : ∃ t1 t2 t3, ts0 = [(Str.ofString "big", t1), (Str.ofString "day", t2), (Str.ofString "std", t3)] := by
          match ts0, hts0 with
          | [(n1, t1), (n2, t2), (n3, t3)], h =>
            simp only [nmsT, List.map_cons, List.map_nil, List.cons.injEq, and_true] at h
            obtain ⟨rfl, rfl, rfl⟩ := h
            exact ⟨t1, t2, t3, rfl⟩
        have v1 : vaD (tsK A [(Str.ofString "big", t1), (Str.ofString "day", t2), (Str.ofString "std", t3)]) (Sum.inr (Str.ofString "big")) = some (tfD A t1) := rfl
        have v2 : vaD (tsK A [(Str.ofString "big", t1), (Str.ofString "day", t2), (Str.ofString "std", t3)]) (Sum.inr (Str.ofString "std")) = some (tfD A t3) := rfl
        have v3 : puD (puD ([] : List (L2.Key × D)) (Sum.inr (Str.ofString "big")) (tfD A t1)) (Sum.inr (Str.ofString "std")) (tfD A t3) = tsK A [(Str.ofString "big", t1), (Str.ofString "std", t3)] := rfl
        have f2 := fin [(Str.ofString "big", t1), (Str.ofString "std", t3)] [0, 2] C3 s3 nok2 rfl c0 hc3
        clear fin hts0
        walk_at "dd"
        intro p hp
        exact ⟨C3, Sub.new hp, hp, f2⟩
      · have f2 := fin ts0 [0, 1, 2] C3 s3 nok3 hts0 c0 hc3
        clear fin
        walk_at "dd"
        exact f2
    · rintro ρ' C1 ⟨o2, o3, o4, o5, o6, o7, o8, o9, o10, o11, o12, o13, o14, rfl⟩
      subst hE
      walk_at "dd"
      have c1 := dat_con 1 ["a"] (by decide +kernel)
      have c2 := dat_con 1 ["b"] (by decide +kernel)
      have c3 := dat_con 2 [] (by decide +kernel)
      have c4 := dat_con 1 ["z"] (by decide +kernel)
      refine ⟨_, _, rfl, .inl ⟨rfl, ?_⟩⟩
      dsimp only
      rw [if_pos rfl]
      refine ⟨_, _, rfl, .inr ⟨_, rfl, lt_con 1 1 _ _ c1 c2 (by decide +kernel) true (by decide +kernel) ?_⟩⟩
      dsimp only
      rw [if_pos rfl]
      refine ⟨_, _, rfl, .inr ⟨_, rfl, lt_con 2 1 _ _ c3 c4 (by decide +kernel) false (by decide +kernel) ?_⟩⟩
      exact ⟨_, Sub.refl _, q _⟩)

end
/-! ### what the top has written, the head -/
theorem all_mk {l : PySem.W.OpenLaw} {w : World} {K : PySem.W.Frag} {h : Heap} {mg : Str → Option Value} {fa : Addr} (X : K.In h) (G : h.Ns mainGlobals mg) (hfa : mg "law" = some (.ref fa))
    {C_Band : Addr}
    {C_Tariff : Addr}
    {C_Charge : Addr}
    {C_ChargeRun : Addr}
    {C_NoTariff : Addr}
    {C_Contracts : Addr}
    {C_Section : Addr}
    {t_DAY : Tok}
    {t_HOUR : Tok}
    {t_MINUTE : Tok}
    {t_MONTH : Tok}
    {t_MONTH_SECONDS : Tok}
    {t_NOBODY : Tok}
    {f_law_state : Addr} {od_law_state an_law_state : Option Addr} {sl_law_state : Array (Option Value)} {oc_law_state kV_law_state dc_law_state pm_law_state cd_law_state ct_law_state : Value}
    {f_law_cell : Addr} {od_law_cell an_law_cell : Option Addr} {sl_law_cell : Array (Option Value)} {oc_law_cell kV_law_cell dc_law_cell pm_law_cell cd_law_cell ct_law_cell : Value}
    {f_law_digit : Addr} {od_law_digit an_law_digit : Option Addr} {sl_law_digit : Array (Option Value)} {oc_law_digit kV_law_digit dc_law_digit pm_law_digit cd_law_digit ct_law_digit : Value}
    {f_Section_init : Addr} {od_Section_init an_Section_init : Option Addr} {sl_Section_init : Array (Option Value)} {oc_Section_init kV_Section_init dc_Section_init pm_Section_init cd_Section_init ct_Section_init : Value}
    {f_law_sections : Addr} {od_law_sections an_law_sections : Option Addr} {sl_law_sections : Array (Option Value)} {oc_law_sections kV_law_sections dc_law_sections pm_law_sections cd_law_sections ct_law_sections : Value}
    {f_Tariff_init : Addr} {od_Tariff_init an_Tariff_init : Option Addr} {sl_Tariff_init : Array (Option Value)} {oc_Tariff_init kV_Tariff_init dc_Tariff_init pm_Tariff_init cd_Tariff_init ct_Tariff_init : Value}
    {f_Band_init : Addr} {od_Band_init an_Band_init : Option Addr} {sl_Band_init : Array (Option Value)} {oc_Band_init kV_Band_init dc_Band_init pm_Band_init cd_Band_init ct_Band_init : Value}
    {f_law_tariffs : Addr} {od_law_tariffs an_law_tariffs : Option Addr} {sl_law_tariffs : Array (Option Value)} {oc_law_tariffs kV_law_tariffs dc_law_tariffs pm_law_tariffs cd_law_tariffs ct_law_tariffs : Value}
    {f_month_of : Addr} {od_month_of an_month_of : Option Addr} {sl_month_of : Array (Option Value)} {oc_month_of kV_month_of dc_month_of pm_month_of cd_month_of ct_month_of : Value}
    {f_months_of : Addr} {od_months_of an_months_of : Option Addr} {sl_months_of : Array (Option Value)} {oc_months_of kV_months_of dc_months_of pm_months_of cd_months_of ct_months_of : Value}
    {f_Section_is_free : Addr} {od_Section_is_free an_Section_is_free : Option Addr} {sl_Section_is_free : Array (Option Value)} {oc_Section_is_free kV_Section_is_free dc_Section_is_free pm_Section_is_free cd_Section_is_free ct_Section_is_free : Value}
    {f_paid_sections : Addr} {od_paid_sections an_paid_sections : Option Addr} {sl_paid_sections : Array (Option Value)} {oc_paid_sections kV_paid_sections dc_paid_sections pm_paid_sections cd_paid_sections ct_paid_sections : Value}
    {f_ChargeRun_init : Addr} {od_ChargeRun_init an_ChargeRun_init : Option Addr} {sl_ChargeRun_init : Array (Option Value)} {oc_ChargeRun_init kV_ChargeRun_init dc_ChargeRun_init pm_ChargeRun_init cd_ChargeRun_init ct_ChargeRun_init : Value}
    {f_section_place : Addr} {od_section_place an_section_place : Option Addr} {sl_section_place : Array (Option Value)} {oc_section_place kV_section_place dc_section_place pm_section_place cd_section_place ct_section_place : Value}
    {f_Contracts_in_force : Addr} {od_Contracts_in_force an_Contracts_in_force : Option Addr} {sl_Contracts_in_force : Array (Option Value)} {oc_Contracts_in_force kV_Contracts_in_force dc_Contracts_in_force pm_Contracts_in_force cd_Contracts_in_force ct_Contracts_in_force : Value}
    {f_ChargeRun_reason_against : Addr} {od_ChargeRun_reason_against an_ChargeRun_reason_against : Option Addr} {sl_ChargeRun_reason_against : Array (Option Value)} {oc_ChargeRun_reason_against kV_ChargeRun_reason_against dc_ChargeRun_reason_against pm_ChargeRun_reason_against cd_ChargeRun_reason_against ct_ChargeRun_reason_against : Value}
    {f_Band_holds : Addr} {od_Band_holds an_Band_holds : Option Addr} {sl_Band_holds : Array (Option Value)} {oc_Band_holds kV_Band_holds dc_Band_holds pm_Band_holds cd_Band_holds ct_Band_holds : Value}
    {f_Tariff_band_at : Addr} {od_Tariff_band_at an_Tariff_band_at : Option Addr} {sl_Tariff_band_at : Array (Option Value)} {oc_Tariff_band_at kV_Tariff_band_at dc_Tariff_band_at pm_Tariff_band_at cd_Tariff_band_at ct_Tariff_band_at : Value}
    {f_stretches : Addr} {od_stretches an_stretches : Option Addr} {sl_stretches : Array (Option Value)} {oc_stretches kV_stretches dc_stretches pm_stretches cd_stretches ct_stretches : Value}
    {f_price_lines : Addr} {od_price_lines an_price_lines : Option Addr} {sl_price_lines : Array (Option Value)} {oc_price_lines kV_price_lines dc_price_lines pm_price_lines cd_price_lines ct_price_lines : Value}
    {f_ChargeRun_lines_of : Addr} {od_ChargeRun_lines_of an_ChargeRun_lines_of : Option Addr} {sl_ChargeRun_lines_of : Array (Option Value)} {oc_ChargeRun_lines_of kV_ChargeRun_lines_of dc_ChargeRun_lines_of pm_ChargeRun_lines_of cd_ChargeRun_lines_of ct_ChargeRun_lines_of : Value}
    {f_ChargeRun_free_left : Addr} {od_ChargeRun_free_left an_ChargeRun_free_left : Option Addr} {sl_ChargeRun_free_left : Array (Option Value)} {oc_ChargeRun_free_left kV_ChargeRun_free_left dc_ChargeRun_free_left pm_ChargeRun_free_left cd_ChargeRun_free_left ct_ChargeRun_free_left : Value}
    {f_Charge_init : Addr} {od_Charge_init an_Charge_init : Option Addr} {sl_Charge_init : Array (Option Value)} {oc_Charge_init kV_Charge_init dc_Charge_init pm_Charge_init cd_Charge_init ct_Charge_init : Value}
    {f_ChargeRun_take : Addr} {od_ChargeRun_take an_ChargeRun_take : Option Addr} {sl_ChargeRun_take : Array (Option Value)} {oc_ChargeRun_take kV_ChargeRun_take dc_ChargeRun_take pm_ChargeRun_take cd_ChargeRun_take ct_ChargeRun_take : Value}
    {f_charge_sections : Addr} {od_charge_sections an_charge_sections : Option Addr} {sl_charge_sections : Array (Option Value)} {oc_charge_sections kV_charge_sections dc_charge_sections pm_charge_sections cd_charge_sections ct_charge_sections : Value}
    {f_Contracts_init : Addr} {od_Contracts_init an_Contracts_init : Option Addr} {sl_Contracts_init : Array (Option Value)} {oc_Contracts_init kV_Contracts_init dc_Contracts_init pm_Contracts_init cd_Contracts_init ct_Contracts_init : Value}
    {f_Contracts_set_history : Addr} {od_Contracts_set_history an_Contracts_set_history : Option Addr} {sl_Contracts_set_history : Array (Option Value)} {oc_Contracts_set_history kV_Contracts_set_history dc_Contracts_set_history pm_Contracts_set_history cd_Contracts_set_history ct_Contracts_set_history : Value}
    {f_contracts_for : Addr} {od_contracts_for an_contracts_for : Option Addr} {sl_contracts_for : Array (Option Value)} {oc_contracts_for kV_contracts_for dc_contracts_for pm_contracts_for cd_contracts_for ct_contracts_for : Value}
    {f_cost_with : Addr} {od_cost_with an_cost_with : Option Addr} {sl_cost_with : Array (Option Value)} {oc_cost_with kV_cost_with dc_cost_with pm_cost_with cd_cost_with ct_cost_with : Value}
    {f_month_cost : Addr} {od_month_cost an_month_cost : Option Addr} {sl_month_cost : Array (Option Value)} {oc_month_cost kV_month_cost dc_month_cost pm_month_cost cd_month_cost ct_month_cost : Value}
    {f_cost_table : Addr} {od_cost_table an_cost_table : Option Addr} {sl_cost_table : Array (Option Value)} {oc_cost_table kV_cost_table dc_cost_table pm_cost_table cd_cost_table ct_cost_table : Value}
    {f_is_better : Addr} {od_is_better an_is_better : Option Addr} {sl_is_better : Array (Option Value)} {oc_is_better kV_is_better dc_is_better pm_is_better cd_is_better ct_is_better : Value}
    {f_step_cost : Addr} {od_step_cost an_step_cost : Option Addr} {sl_step_cost : Array (Option Value)} {oc_step_cost kV_step_cost dc_step_cost pm_step_cost cd_step_cost ct_step_cost : Value}
    {f_ways_behind : Addr} {od_ways_behind an_ways_behind : Option Addr} {sl_ways_behind : Array (Option Value)} {oc_ways_behind kV_ways_behind dc_ways_behind pm_ways_behind cd_ways_behind ct_ways_behind : Value}
    {f_best_way : Addr} {od_best_way an_best_way : Option Addr} {sl_best_way : Array (Option Value)} {oc_best_way kV_best_way dc_best_way pm_best_way cd_best_way ct_best_way : Value}
    {f_law_asks : Addr} {od_law_asks an_law_asks : Option Addr} {sl_law_asks : Array (Option Value)} {oc_law_asks kV_law_asks dc_law_asks pm_law_asks cd_law_asks ct_law_asks : Value}
    {f_law_ways : Addr} {od_law_ways an_law_ways : Option Addr} {sl_law_ways : Array (Option Value)} {oc_law_ways kV_law_ways dc_law_ways pm_law_ways cd_law_ways ct_law_ways : Value}
    {f_law_price : Addr} {od_law_price an_law_price : Option Addr} {sl_law_price : Array (Option Value)} {oc_law_price kV_law_price dc_law_price pm_law_price cd_law_price ct_law_price : Value}
    {f_law_best : Addr} {od_law_best an_law_best : Option Addr} {sl_law_best : Array (Option Value)} {oc_law_best kV_law_best dc_law_best pm_law_best cd_law_best ct_law_best : Value}
    {f_law : Addr} {od_law an_law : Option Addr} {sl_law : Array (Option Value)} {oc_law kV_law dc_law pm_law cd_law ct_law : Value}
    (aC_Band : PySem.W.nsIn K mainGlobals "Band" = some (some (.ref C_Band)))
    (pg_Band : PySem.W.plainGet K C_Band Str.empty = true)
    (hd_Band : PySem.W.hasDictIn K C_Band = true)
    (po_Band : PySem.W.plainOver K C_Band = true)
    (sa_Band : PySem.W.findIn K (.ref C_Band) "__setattr__" = some (some (.builtin "object.__setattr__")))
    (mk_Band : PySem.W.makesIn K C_Band = true)
    (kc_Band : PySem.W.keepIn K (.ref C_Band) = true)
    (aC_Tariff : PySem.W.nsIn K mainGlobals "Tariff" = some (some (.ref C_Tariff)))
    (pg_Tariff : PySem.W.plainGet K C_Tariff Str.empty = true)
    (hd_Tariff : PySem.W.hasDictIn K C_Tariff = true)
    (po_Tariff : PySem.W.plainOver K C_Tariff = true)
    (sa_Tariff : PySem.W.findIn K (.ref C_Tariff) "__setattr__" = some (some (.builtin "object.__setattr__")))
    (mk_Tariff : PySem.W.makesIn K C_Tariff = true)
    (kc_Tariff : PySem.W.keepIn K (.ref C_Tariff) = true)
    (aC_Charge : PySem.W.nsIn K mainGlobals "Charge" = some (some (.ref C_Charge)))
    (pg_Charge : PySem.W.plainGet K C_Charge Str.empty = true)
    (hd_Charge : PySem.W.hasDictIn K C_Charge = true)
    (po_Charge : PySem.W.plainOver K C_Charge = true)
    (sa_Charge : PySem.W.findIn K (.ref C_Charge) "__setattr__" = some (some (.builtin "object.__setattr__")))
    (mk_Charge : PySem.W.makesIn K C_Charge = true)
    (kc_Charge : PySem.W.keepIn K (.ref C_Charge) = true)
    (aC_ChargeRun : PySem.W.nsIn K mainGlobals "ChargeRun" = some (some (.ref C_ChargeRun)))
    (pg_ChargeRun : PySem.W.plainGet K C_ChargeRun Str.empty = true)
    (hd_ChargeRun : PySem.W.hasDictIn K C_ChargeRun = true)
    (po_ChargeRun : PySem.W.plainOver K C_ChargeRun = true)
    (sa_ChargeRun : PySem.W.findIn K (.ref C_ChargeRun) "__setattr__" = some (some (.builtin "object.__setattr__")))
    (mk_ChargeRun : PySem.W.makesIn K C_ChargeRun = true)
    (kc_ChargeRun : PySem.W.keepIn K (.ref C_ChargeRun) = true)
    (aC_NoTariff : PySem.W.nsIn K mainGlobals "NoTariff" = some (some (.ref C_NoTariff)))
    (xi_NoTariff : PySem.W.excIn K C_NoTariff [.type "ValueError", .type "Exception", .type "BaseException", .type "object"] "ValueError.__new__" = true)
    (xb_NoTariff : PySem.W.subIn K (.ref C_NoTariff) (.type "BaseException") = some true)
    (xt_NoTariff : PySem.W.typeIn K (.ref C_NoTariff) = some (.type "type"))
    (xk_NoTariff : PySem.W.keepIn K (.ref C_NoTariff) = true)
    (xc_NoTariff : PySem.W.isClsIn K C_NoTariff = true)
    (aC_Contracts : PySem.W.nsIn K mainGlobals "Contracts" = some (some (.ref C_Contracts)))
    (pg_Contracts : PySem.W.plainGet K C_Contracts Str.empty = true)
    (hd_Contracts : PySem.W.hasDictIn K C_Contracts = true)
    (po_Contracts : PySem.W.plainOver K C_Contracts = true)
    (sa_Contracts : PySem.W.findIn K (.ref C_Contracts) "__setattr__" = some (some (.builtin "object.__setattr__")))
    (mk_Contracts : PySem.W.makesIn K C_Contracts = true)
    (kc_Contracts : PySem.W.keepIn K (.ref C_Contracts) = true)
    (aC_Section : PySem.W.nsIn K mainGlobals "Section" = some (some (.ref C_Section)))
    (pg_Section : PySem.W.plainGet K C_Section Str.empty = true)
    (hd_Section : PySem.W.hasDictIn K C_Section = true)
    (po_Section : PySem.W.plainOver K C_Section = true)
    (sa_Section : PySem.W.findIn K (.ref C_Section) "__setattr__" = some (some (.builtin "object.__setattr__")))
    (mk_Section : PySem.W.makesIn K C_Section = true)
    (kc_Section : PySem.W.keepIn K (.ref C_Section) = true)
    (xs_NoTariff_NoTariff : PySem.W.subIn K (.ref C_NoTariff) (.ref C_NoTariff) = some true)
    (na_Band_from_hour : PySem.W.findIn K (.ref C_Band) (Str.ofString "from_hour") = some none)
    (na_Band_label : PySem.W.findIn K (.ref C_Band) (Str.ofString "label") = some none)
    (na_Band_prefix : PySem.W.findIn K (.ref C_Band) (Str.ofString "prefix") = some none)
    (na_Band_price : PySem.W.findIn K (.ref C_Band) (Str.ofString "price") = some none)
    (na_Band_to_hour : PySem.W.findIn K (.ref C_Band) (Str.ofString "to_hour") = some none)
    (na_Charge_account : PySem.W.findIn K (.ref C_Charge) (Str.ofString "account") = some none)
    (na_Charge_key : PySem.W.findIn K (.ref C_Charge) (Str.ofString "key") = some none)
    (na_Charge_mills : PySem.W.findIn K (.ref C_Charge) (Str.ofString "mills") = some none)
    (na_Charge_till : PySem.W.findIn K (.ref C_Charge) (Str.ofString "till") = some none)
    (na_ChargeRun_allowances : PySem.W.findIn K (.ref C_ChargeRun) (Str.ofString "allowances") = some none)
    (na_ChargeRun_charges : PySem.W.findIn K (.ref C_ChargeRun) (Str.ofString "charges") = some none)
    (na_ChargeRun_contracts : PySem.W.findIn K (.ref C_ChargeRun) (Str.ofString "contracts") = some none)
    (na_ChargeRun_left_out : PySem.W.findIn K (.ref C_ChargeRun) (Str.ofString "left_out") = some none)
    (na_ChargeRun_tariffs : PySem.W.findIn K (.ref C_ChargeRun) (Str.ofString "tariffs") = some none)
    (na_ChargeRun_used : PySem.W.findIn K (.ref C_ChargeRun) (Str.ofString "used") = some none)
    (na_Contracts_histories : PySem.W.findIn K (.ref C_Contracts) (Str.ofString "histories") = some none)
    (na_Section_called : PySem.W.findIn K (.ref C_Section) (Str.ofString "called") = some none)
    (na_Section_opened : PySem.W.findIn K (.ref C_Section) (Str.ofString "opened") = some none)
    (na_Section_owner : PySem.W.findIn K (.ref C_Section) (Str.ofString "owner") = some none)
    (na_Section_payer : PySem.W.findIn K (.ref C_Section) (Str.ofString "payer") = some none)
    (na_Section_seconds : PySem.W.findIn K (.ref C_Section) (Str.ofString "seconds") = some none)
    (na_Section_start : PySem.W.findIn K (.ref C_Section) (Str.ofString "start") = some none)
    (na_Tariff_bands : PySem.W.findIn K (.ref C_Tariff) (Str.ofString "bands") = some none)
    (na_Tariff_setup_price : PySem.W.findIn K (.ref C_Tariff) (Str.ofString "setup_price") = some none)
    (z_int : PySem.W.nsIn K mainGlobals "int" = some none)
    (z_len : PySem.W.nsIn K mainGlobals "len" = some none)
    (z_min : PySem.W.nsIn K mainGlobals "min" = some none)
    (z_range : PySem.W.nsIn K mainGlobals "range" = some none)
    (z_sorted : PySem.W.nsIn K mainGlobals "sorted" = some none)
    (z_sum : PySem.W.nsIn K mainGlobals "sum" = some none)
    (z_tuple : PySem.W.nsIn K mainGlobals "tuple" = some none)
    (kk_DAY : PySem.W.nsIn K mainGlobals "DAY" = some (some (.int 86400 t_DAY)))
    (kk_HOUR : PySem.W.nsIn K mainGlobals "HOUR" = some (some (.int 3600 t_HOUR)))
    (kk_MINUTE : PySem.W.nsIn K mainGlobals "MINUTE" = some (some (.int 60 t_MINUTE)))
    (kk_MONTH : PySem.W.nsIn K mainGlobals "MONTH" = some (some (.int 2592000 t_MONTH)))
    (kk_MONTH_SECONDS : PySem.W.nsIn K mainGlobals "MONTH_SECONDS" = some (some (.int 2592000 t_MONTH_SECONDS)))
    (kk_NOBODY : PySem.W.nsIn K mainGlobals "NOBODY" = some (some (.str (Str.ofString "advised") t_NOBODY)))
    (a_law_state : PySem.W.nsIn K mainGlobals "_law_state" = some (some (.ref f_law_state)))
    (l_law_state : K.lookup f_law_state = some ⟨oc_law_state, od_law_state, .func (PySem.W.fnOf "_law_state" "_law_state" (defArgs s_law_state) (defBody s_law_state) (defScope s_law_state) .none kV_law_state dc_law_state pm_law_state an_law_state cd_law_state ct_law_state), sl_law_state⟩)
    (c_law_state : PySem.W.codeIn K cd_law_state "_law_state" = true)
    (k_law_state : PySem.W.keepIn K (.ref f_law_state) = true)
    (a_law_cell : PySem.W.nsIn K mainGlobals "_law_cell" = some (some (.ref f_law_cell)))
    (l_law_cell : K.lookup f_law_cell = some ⟨oc_law_cell, od_law_cell, .func (PySem.W.fnOf "_law_cell" "_law_cell" (defArgs s_law_cell) (defBody s_law_cell) (defScope s_law_cell) .none kV_law_cell dc_law_cell pm_law_cell an_law_cell cd_law_cell ct_law_cell), sl_law_cell⟩)
    (c_law_cell : PySem.W.codeIn K cd_law_cell "_law_cell" = true)
    (k_law_cell : PySem.W.keepIn K (.ref f_law_cell) = true)
    (a_law_digit : PySem.W.nsIn K mainGlobals "_law_digit" = some (some (.ref f_law_digit)))
    (l_law_digit : K.lookup f_law_digit = some ⟨oc_law_digit, od_law_digit, .func (PySem.W.fnOf "_law_digit" "_law_digit" (defArgs s_law_digit) (defBody s_law_digit) (defScope s_law_digit) .none kV_law_digit dc_law_digit pm_law_digit an_law_digit cd_law_digit ct_law_digit), sl_law_digit⟩)
    (c_law_digit : PySem.W.codeIn K cd_law_digit "_law_digit" = true)
    (k_law_digit : PySem.W.keepIn K (.ref f_law_digit) = true)
    (a_Section_init : PySem.W.findIn K (.ref C_Section) "__init__" = some (some (.ref f_Section_init)))
    (i_Section_init : PySem.W.isFn K (.ref f_Section_init) = true)
    (l_Section_init : K.lookup f_Section_init = some ⟨oc_Section_init, od_Section_init, .func (PySem.W.fnOf "__init__" "Section.__init__" (defArgs s_Section_init) (defBody s_Section_init) (defScope s_Section_init) .none kV_Section_init dc_Section_init pm_Section_init an_Section_init cd_Section_init ct_Section_init), sl_Section_init⟩)
    (c_Section_init : PySem.W.codeIn K cd_Section_init "Section.__init__" = true)
    (k_Section_init : PySem.W.keepIn K (.ref f_Section_init) = true)
    (a_law_sections : PySem.W.nsIn K mainGlobals "_law_sections" = some (some (.ref f_law_sections)))
    (l_law_sections : K.lookup f_law_sections = some ⟨oc_law_sections, od_law_sections, .func (PySem.W.fnOf "_law_sections" "_law_sections" (defArgs s_law_sections) (defBody s_law_sections) (defScope s_law_sections) .none kV_law_sections dc_law_sections pm_law_sections an_law_sections cd_law_sections ct_law_sections), sl_law_sections⟩)
    (c_law_sections : PySem.W.codeIn K cd_law_sections "_law_sections" = true)
    (k_law_sections : PySem.W.keepIn K (.ref f_law_sections) = true)
    (a_Tariff_init : PySem.W.findIn K (.ref C_Tariff) "__init__" = some (some (.ref f_Tariff_init)))
    (i_Tariff_init : PySem.W.isFn K (.ref f_Tariff_init) = true)
    (l_Tariff_init : K.lookup f_Tariff_init = some ⟨oc_Tariff_init, od_Tariff_init, .func (PySem.W.fnOf "__init__" "Tariff.__init__" (defArgs s_Tariff_init) (defBody s_Tariff_init) (defScope s_Tariff_init) .none kV_Tariff_init dc_Tariff_init pm_Tariff_init an_Tariff_init cd_Tariff_init ct_Tariff_init), sl_Tariff_init⟩)
    (c_Tariff_init : PySem.W.codeIn K cd_Tariff_init "Tariff.__init__" = true)
    (k_Tariff_init : PySem.W.keepIn K (.ref f_Tariff_init) = true)
    (a_Band_init : PySem.W.findIn K (.ref C_Band) "__init__" = some (some (.ref f_Band_init)))
    (i_Band_init : PySem.W.isFn K (.ref f_Band_init) = true)
    (l_Band_init : K.lookup f_Band_init = some ⟨oc_Band_init, od_Band_init, .func (PySem.W.fnOf "__init__" "Band.__init__" (defArgs s_Band_init) (defBody s_Band_init) (defScope s_Band_init) .none kV_Band_init dc_Band_init pm_Band_init an_Band_init cd_Band_init ct_Band_init), sl_Band_init⟩)
    (c_Band_init : PySem.W.codeIn K cd_Band_init "Band.__init__" = true)
    (k_Band_init : PySem.W.keepIn K (.ref f_Band_init) = true)
    (a_law_tariffs : PySem.W.nsIn K mainGlobals "_law_tariffs" = some (some (.ref f_law_tariffs)))
    (l_law_tariffs : K.lookup f_law_tariffs = some ⟨oc_law_tariffs, od_law_tariffs, .func (PySem.W.fnOf "_law_tariffs" "_law_tariffs" (defArgs s_law_tariffs) (defBody s_law_tariffs) (defScope s_law_tariffs) .none kV_law_tariffs dc_law_tariffs pm_law_tariffs an_law_tariffs cd_law_tariffs ct_law_tariffs), sl_law_tariffs⟩)
    (c_law_tariffs : PySem.W.codeIn K cd_law_tariffs "_law_tariffs" = true)
    (k_law_tariffs : PySem.W.keepIn K (.ref f_law_tariffs) = true)
    (a_month_of : PySem.W.nsIn K mainGlobals "month_of" = some (some (.ref f_month_of)))
    (l_month_of : K.lookup f_month_of = some ⟨oc_month_of, od_month_of, .func (PySem.W.fnOf "month_of" "month_of" (defArgs s_month_of) (defBody s_month_of) (defScope s_month_of) .none kV_month_of dc_month_of pm_month_of an_month_of cd_month_of ct_month_of), sl_month_of⟩)
    (c_month_of : PySem.W.codeIn K cd_month_of "month_of" = true)
    (k_month_of : PySem.W.keepIn K (.ref f_month_of) = true)
    (a_months_of : PySem.W.nsIn K mainGlobals "months_of" = some (some (.ref f_months_of)))
    (l_months_of : K.lookup f_months_of = some ⟨oc_months_of, od_months_of, .func (PySem.W.fnOf "months_of" "months_of" (defArgs s_months_of) (defBody s_months_of) (defScope s_months_of) .none kV_months_of dc_months_of pm_months_of an_months_of cd_months_of ct_months_of), sl_months_of⟩)
    (c_months_of : PySem.W.codeIn K cd_months_of "months_of" = true)
    (k_months_of : PySem.W.keepIn K (.ref f_months_of) = true)
    (a_Section_is_free : PySem.W.findIn K (.ref C_Section) "is_free" = some (some (.ref f_Section_is_free)))
    (i_Section_is_free : PySem.W.isFn K (.ref f_Section_is_free) = true)
    (l_Section_is_free : K.lookup f_Section_is_free = some ⟨oc_Section_is_free, od_Section_is_free, .func (PySem.W.fnOf "is_free" "Section.is_free" (defArgs s_Section_is_free) (defBody s_Section_is_free) (defScope s_Section_is_free) .none kV_Section_is_free dc_Section_is_free pm_Section_is_free an_Section_is_free cd_Section_is_free ct_Section_is_free), sl_Section_is_free⟩)
    (c_Section_is_free : PySem.W.codeIn K cd_Section_is_free "Section.is_free" = true)
    (k_Section_is_free : PySem.W.keepIn K (.ref f_Section_is_free) = true)
    (a_paid_sections : PySem.W.nsIn K mainGlobals "paid_sections" = some (some (.ref f_paid_sections)))
    (l_paid_sections : K.lookup f_paid_sections = some ⟨oc_paid_sections, od_paid_sections, .func (PySem.W.fnOf "paid_sections" "paid_sections" (defArgs s_paid_sections) (defBody s_paid_sections) (defScope s_paid_sections) .none kV_paid_sections dc_paid_sections pm_paid_sections an_paid_sections cd_paid_sections ct_paid_sections), sl_paid_sections⟩)
    (c_paid_sections : PySem.W.codeIn K cd_paid_sections "paid_sections" = true)
    (k_paid_sections : PySem.W.keepIn K (.ref f_paid_sections) = true)
    (a_ChargeRun_init : PySem.W.findIn K (.ref C_ChargeRun) "__init__" = some (some (.ref f_ChargeRun_init)))
    (i_ChargeRun_init : PySem.W.isFn K (.ref f_ChargeRun_init) = true)
    (l_ChargeRun_init : K.lookup f_ChargeRun_init = some ⟨oc_ChargeRun_init, od_ChargeRun_init, .func (PySem.W.fnOf "__init__" "ChargeRun.__init__" (defArgs s_ChargeRun_init) (defBody s_ChargeRun_init) (defScope s_ChargeRun_init) .none kV_ChargeRun_init dc_ChargeRun_init pm_ChargeRun_init an_ChargeRun_init cd_ChargeRun_init ct_ChargeRun_init), sl_ChargeRun_init⟩)
    (c_ChargeRun_init : PySem.W.codeIn K cd_ChargeRun_init "ChargeRun.__init__" = true)
    (k_ChargeRun_init : PySem.W.keepIn K (.ref f_ChargeRun_init) = true)
    (a_section_place : PySem.W.nsIn K mainGlobals "section_place" = some (some (.ref f_section_place)))
    (l_section_place : K.lookup f_section_place = some ⟨oc_section_place, od_section_place, .func (PySem.W.fnOf "section_place" "section_place" (defArgs s_section_place) (defBody s_section_place) (defScope s_section_place) .none kV_section_place dc_section_place pm_section_place an_section_place cd_section_place ct_section_place), sl_section_place⟩)
    (c_section_place : PySem.W.codeIn K cd_section_place "section_place" = true)
    (k_section_place : PySem.W.keepIn K (.ref f_section_place) = true)
    (a_Contracts_in_force : PySem.W.findIn K (.ref C_Contracts) "in_force" = some (some (.ref f_Contracts_in_force)))
    (i_Contracts_in_force : PySem.W.isFn K (.ref f_Contracts_in_force) = true)
    (l_Contracts_in_force : K.lookup f_Contracts_in_force = some ⟨oc_Contracts_in_force, od_Contracts_in_force, .func (PySem.W.fnOf "in_force" "Contracts.in_force" (defArgs s_Contracts_in_force) (defBody s_Contracts_in_force) (defScope s_Contracts_in_force) .none kV_Contracts_in_force dc_Contracts_in_force pm_Contracts_in_force an_Contracts_in_force cd_Contracts_in_force ct_Contracts_in_force), sl_Contracts_in_force⟩)
    (c_Contracts_in_force : PySem.W.codeIn K cd_Contracts_in_force "Contracts.in_force" = true)
    (k_Contracts_in_force : PySem.W.keepIn K (.ref f_Contracts_in_force) = true)
    (a_ChargeRun_reason_against : PySem.W.findIn K (.ref C_ChargeRun) "reason_against" = some (some (.ref f_ChargeRun_reason_against)))
    (i_ChargeRun_reason_against : PySem.W.isFn K (.ref f_ChargeRun_reason_against) = true)
    (l_ChargeRun_reason_against : K.lookup f_ChargeRun_reason_against = some ⟨oc_ChargeRun_reason_against, od_ChargeRun_reason_against, .func (PySem.W.fnOf "reason_against" "ChargeRun.reason_against" (defArgs s_ChargeRun_reason_against) (defBody s_ChargeRun_reason_against) (defScope s_ChargeRun_reason_against) .none kV_ChargeRun_reason_against dc_ChargeRun_reason_against pm_ChargeRun_reason_against an_ChargeRun_reason_against cd_ChargeRun_reason_against ct_ChargeRun_reason_against), sl_ChargeRun_reason_against⟩)
    (c_ChargeRun_reason_against : PySem.W.codeIn K cd_ChargeRun_reason_against "ChargeRun.reason_against" = true)
    (k_ChargeRun_reason_against : PySem.W.keepIn K (.ref f_ChargeRun_reason_against) = true)
    (a_Band_holds : PySem.W.findIn K (.ref C_Band) "holds" = some (some (.ref f_Band_holds)))
    (i_Band_holds : PySem.W.isFn K (.ref f_Band_holds) = true)
    (l_Band_holds : K.lookup f_Band_holds = some ⟨oc_Band_holds, od_Band_holds, .func (PySem.W.fnOf "holds" "Band.holds" (defArgs s_Band_holds) (defBody s_Band_holds) (defScope s_Band_holds) .none kV_Band_holds dc_Band_holds pm_Band_holds an_Band_holds cd_Band_holds ct_Band_holds), sl_Band_holds⟩)
    (c_Band_holds : PySem.W.codeIn K cd_Band_holds "Band.holds" = true)
    (k_Band_holds : PySem.W.keepIn K (.ref f_Band_holds) = true)
    (a_Tariff_band_at : PySem.W.findIn K (.ref C_Tariff) "band_at" = some (some (.ref f_Tariff_band_at)))
    (i_Tariff_band_at : PySem.W.isFn K (.ref f_Tariff_band_at) = true)
    (l_Tariff_band_at : K.lookup f_Tariff_band_at = some ⟨oc_Tariff_band_at, od_Tariff_band_at, .func (PySem.W.fnOf "band_at" "Tariff.band_at" (defArgs s_Tariff_band_at) (defBody s_Tariff_band_at) (defScope s_Tariff_band_at) .none kV_Tariff_band_at dc_Tariff_band_at pm_Tariff_band_at an_Tariff_band_at cd_Tariff_band_at ct_Tariff_band_at), sl_Tariff_band_at⟩)
    (c_Tariff_band_at : PySem.W.codeIn K cd_Tariff_band_at "Tariff.band_at" = true)
    (k_Tariff_band_at : PySem.W.keepIn K (.ref f_Tariff_band_at) = true)
    (a_stretches : PySem.W.nsIn K mainGlobals "stretches" = some (some (.ref f_stretches)))
    (l_stretches : K.lookup f_stretches = some ⟨oc_stretches, od_stretches, .func (PySem.W.fnOf "stretches" "stretches" (defArgs s_stretches) (defBody s_stretches) (defScope s_stretches) .none kV_stretches dc_stretches pm_stretches an_stretches cd_stretches ct_stretches), sl_stretches⟩)
    (c_stretches : PySem.W.codeIn K cd_stretches "stretches" = true)
    (k_stretches : PySem.W.keepIn K (.ref f_stretches) = true)
    (a_price_lines : PySem.W.nsIn K mainGlobals "price_lines" = some (some (.ref f_price_lines)))
    (l_price_lines : K.lookup f_price_lines = some ⟨oc_price_lines, od_price_lines, .func (PySem.W.fnOf "price_lines" "price_lines" (defArgs s_price_lines) (defBody s_price_lines) (defScope s_price_lines) .none kV_price_lines dc_price_lines pm_price_lines an_price_lines cd_price_lines ct_price_lines), sl_price_lines⟩)
    (c_price_lines : PySem.W.codeIn K cd_price_lines "price_lines" = true)
    (k_price_lines : PySem.W.keepIn K (.ref f_price_lines) = true)
    (a_ChargeRun_lines_of : PySem.W.findIn K (.ref C_ChargeRun) "lines_of" = some (some (.ref f_ChargeRun_lines_of)))
    (i_ChargeRun_lines_of : PySem.W.isFn K (.ref f_ChargeRun_lines_of) = true)
    (l_ChargeRun_lines_of : K.lookup f_ChargeRun_lines_of = some ⟨oc_ChargeRun_lines_of, od_ChargeRun_lines_of, .func (PySem.W.fnOf "lines_of" "ChargeRun.lines_of" (defArgs s_ChargeRun_lines_of) (defBody s_ChargeRun_lines_of) (defScope s_ChargeRun_lines_of) .none kV_ChargeRun_lines_of dc_ChargeRun_lines_of pm_ChargeRun_lines_of an_ChargeRun_lines_of cd_ChargeRun_lines_of ct_ChargeRun_lines_of), sl_ChargeRun_lines_of⟩)
    (c_ChargeRun_lines_of : PySem.W.codeIn K cd_ChargeRun_lines_of "ChargeRun.lines_of" = true)
    (k_ChargeRun_lines_of : PySem.W.keepIn K (.ref f_ChargeRun_lines_of) = true)
    (a_ChargeRun_free_left : PySem.W.findIn K (.ref C_ChargeRun) "free_left" = some (some (.ref f_ChargeRun_free_left)))
    (i_ChargeRun_free_left : PySem.W.isFn K (.ref f_ChargeRun_free_left) = true)
    (l_ChargeRun_free_left : K.lookup f_ChargeRun_free_left = some ⟨oc_ChargeRun_free_left, od_ChargeRun_free_left, .func (PySem.W.fnOf "free_left" "ChargeRun.free_left" (defArgs s_ChargeRun_free_left) (defBody s_ChargeRun_free_left) (defScope s_ChargeRun_free_left) .none kV_ChargeRun_free_left dc_ChargeRun_free_left pm_ChargeRun_free_left an_ChargeRun_free_left cd_ChargeRun_free_left ct_ChargeRun_free_left), sl_ChargeRun_free_left⟩)
    (c_ChargeRun_free_left : PySem.W.codeIn K cd_ChargeRun_free_left "ChargeRun.free_left" = true)
    (k_ChargeRun_free_left : PySem.W.keepIn K (.ref f_ChargeRun_free_left) = true)
    (a_Charge_init : PySem.W.findIn K (.ref C_Charge) "__init__" = some (some (.ref f_Charge_init)))
    (i_Charge_init : PySem.W.isFn K (.ref f_Charge_init) = true)
    (l_Charge_init : K.lookup f_Charge_init = some ⟨oc_Charge_init, od_Charge_init, .func (PySem.W.fnOf "__init__" "Charge.__init__" (defArgs s_Charge_init) (defBody s_Charge_init) (defScope s_Charge_init) .none kV_Charge_init dc_Charge_init pm_Charge_init an_Charge_init cd_Charge_init ct_Charge_init), sl_Charge_init⟩)
    (c_Charge_init : PySem.W.codeIn K cd_Charge_init "Charge.__init__" = true)
    (k_Charge_init : PySem.W.keepIn K (.ref f_Charge_init) = true)
    (a_ChargeRun_take : PySem.W.findIn K (.ref C_ChargeRun) "take" = some (some (.ref f_ChargeRun_take)))
    (i_ChargeRun_take : PySem.W.isFn K (.ref f_ChargeRun_take) = true)
    (l_ChargeRun_take : K.lookup f_ChargeRun_take = some ⟨oc_ChargeRun_take, od_ChargeRun_take, .func (PySem.W.fnOf "take" "ChargeRun.take" (defArgs s_ChargeRun_take) (defBody s_ChargeRun_take) (defScope s_ChargeRun_take) .none kV_ChargeRun_take dc_ChargeRun_take pm_ChargeRun_take an_ChargeRun_take cd_ChargeRun_take ct_ChargeRun_take), sl_ChargeRun_take⟩)
    (c_ChargeRun_take : PySem.W.codeIn K cd_ChargeRun_take "ChargeRun.take" = true)
    (k_ChargeRun_take : PySem.W.keepIn K (.ref f_ChargeRun_take) = true)
    (a_charge_sections : PySem.W.nsIn K mainGlobals "charge_sections" = some (some (.ref f_charge_sections)))
    (l_charge_sections : K.lookup f_charge_sections = some ⟨oc_charge_sections, od_charge_sections, .func (PySem.W.fnOf "charge_sections" "charge_sections" (defArgs s_charge_sections) (defBody s_charge_sections) (defScope s_charge_sections) .none kV_charge_sections dc_charge_sections pm_charge_sections an_charge_sections cd_charge_sections ct_charge_sections), sl_charge_sections⟩)
    (c_charge_sections : PySem.W.codeIn K cd_charge_sections "charge_sections" = true)
    (k_charge_sections : PySem.W.keepIn K (.ref f_charge_sections) = true)
    (a_Contracts_init : PySem.W.findIn K (.ref C_Contracts) "__init__" = some (some (.ref f_Contracts_init)))
    (i_Contracts_init : PySem.W.isFn K (.ref f_Contracts_init) = true)
    (l_Contracts_init : K.lookup f_Contracts_init = some ⟨oc_Contracts_init, od_Contracts_init, .func (PySem.W.fnOf "__init__" "Contracts.__init__" (defArgs s_Contracts_init) (defBody s_Contracts_init) (defScope s_Contracts_init) .none kV_Contracts_init dc_Contracts_init pm_Contracts_init an_Contracts_init cd_Contracts_init ct_Contracts_init), sl_Contracts_init⟩)
    (c_Contracts_init : PySem.W.codeIn K cd_Contracts_init "Contracts.__init__" = true)
    (k_Contracts_init : PySem.W.keepIn K (.ref f_Contracts_init) = true)
    (a_Contracts_set_history : PySem.W.findIn K (.ref C_Contracts) "set_history" = some (some (.ref f_Contracts_set_history)))
    (i_Contracts_set_history : PySem.W.isFn K (.ref f_Contracts_set_history) = true)
    (l_Contracts_set_history : K.lookup f_Contracts_set_history = some ⟨oc_Contracts_set_history, od_Contracts_set_history, .func (PySem.W.fnOf "set_history" "Contracts.set_history" (defArgs s_Contracts_set_history) (defBody s_Contracts_set_history) (defScope s_Contracts_set_history) .none kV_Contracts_set_history dc_Contracts_set_history pm_Contracts_set_history an_Contracts_set_history cd_Contracts_set_history ct_Contracts_set_history), sl_Contracts_set_history⟩)
    (c_Contracts_set_history : PySem.W.codeIn K cd_Contracts_set_history "Contracts.set_history" = true)
    (k_Contracts_set_history : PySem.W.keepIn K (.ref f_Contracts_set_history) = true)
    (a_contracts_for : PySem.W.nsIn K mainGlobals "contracts_for" = some (some (.ref f_contracts_for)))
    (l_contracts_for : K.lookup f_contracts_for = some ⟨oc_contracts_for, od_contracts_for, .func (PySem.W.fnOf "contracts_for" "contracts_for" (defArgs s_contracts_for) (defBody s_contracts_for) (defScope s_contracts_for) .none kV_contracts_for dc_contracts_for pm_contracts_for an_contracts_for cd_contracts_for ct_contracts_for), sl_contracts_for⟩)
    (c_contracts_for : PySem.W.codeIn K cd_contracts_for "contracts_for" = true)
    (k_contracts_for : PySem.W.keepIn K (.ref f_contracts_for) = true)
    (a_cost_with : PySem.W.nsIn K mainGlobals "cost_with" = some (some (.ref f_cost_with)))
    (l_cost_with : K.lookup f_cost_with = some ⟨oc_cost_with, od_cost_with, .func (PySem.W.fnOf "cost_with" "cost_with" (defArgs s_cost_with) (defBody s_cost_with) (defScope s_cost_with) .none kV_cost_with dc_cost_with pm_cost_with an_cost_with cd_cost_with ct_cost_with), sl_cost_with⟩)
    (c_cost_with : PySem.W.codeIn K cd_cost_with "cost_with" = true)
    (k_cost_with : PySem.W.keepIn K (.ref f_cost_with) = true)
    (a_month_cost : PySem.W.nsIn K mainGlobals "month_cost" = some (some (.ref f_month_cost)))
    (l_month_cost : K.lookup f_month_cost = some ⟨oc_month_cost, od_month_cost, .func (PySem.W.fnOf "month_cost" "month_cost" (defArgs s_month_cost) (defBody s_month_cost) (defScope s_month_cost) .none kV_month_cost dc_month_cost pm_month_cost an_month_cost cd_month_cost ct_month_cost), sl_month_cost⟩)
    (c_month_cost : PySem.W.codeIn K cd_month_cost "month_cost" = true)
    (k_month_cost : PySem.W.keepIn K (.ref f_month_cost) = true)
    (a_cost_table : PySem.W.nsIn K mainGlobals "cost_table" = some (some (.ref f_cost_table)))
    (l_cost_table : K.lookup f_cost_table = some ⟨oc_cost_table, od_cost_table, .func (PySem.W.fnOf "cost_table" "cost_table" (defArgs s_cost_table) (defBody s_cost_table) (defScope s_cost_table) .none kV_cost_table dc_cost_table pm_cost_table an_cost_table cd_cost_table ct_cost_table), sl_cost_table⟩)
    (c_cost_table : PySem.W.codeIn K cd_cost_table "cost_table" = true)
    (k_cost_table : PySem.W.keepIn K (.ref f_cost_table) = true)
    (a_is_better : PySem.W.nsIn K mainGlobals "is_better" = some (some (.ref f_is_better)))
    (l_is_better : K.lookup f_is_better = some ⟨oc_is_better, od_is_better, .func (PySem.W.fnOf "is_better" "is_better" (defArgs s_is_better) (defBody s_is_better) (defScope s_is_better) .none kV_is_better dc_is_better pm_is_better an_is_better cd_is_better ct_is_better), sl_is_better⟩)
    (c_is_better : PySem.W.codeIn K cd_is_better "is_better" = true)
    (k_is_better : PySem.W.keepIn K (.ref f_is_better) = true)
    (a_step_cost : PySem.W.nsIn K mainGlobals "step_cost" = some (some (.ref f_step_cost)))
    (l_step_cost : K.lookup f_step_cost = some ⟨oc_step_cost, od_step_cost, .func (PySem.W.fnOf "step_cost" "step_cost" (defArgs s_step_cost) (defBody s_step_cost) (defScope s_step_cost) .none kV_step_cost dc_step_cost pm_step_cost an_step_cost cd_step_cost ct_step_cost), sl_step_cost⟩)
    (c_step_cost : PySem.W.codeIn K cd_step_cost "step_cost" = true)
    (k_step_cost : PySem.W.keepIn K (.ref f_step_cost) = true)
    (a_ways_behind : PySem.W.nsIn K mainGlobals "ways_behind" = some (some (.ref f_ways_behind)))
    (l_ways_behind : K.lookup f_ways_behind = some ⟨oc_ways_behind, od_ways_behind, .func (PySem.W.fnOf "ways_behind" "ways_behind" (defArgs s_ways_behind) (defBody s_ways_behind) (defScope s_ways_behind) .none kV_ways_behind dc_ways_behind pm_ways_behind an_ways_behind cd_ways_behind ct_ways_behind), sl_ways_behind⟩)
    (c_ways_behind : PySem.W.codeIn K cd_ways_behind "ways_behind" = true)
    (k_ways_behind : PySem.W.keepIn K (.ref f_ways_behind) = true)
    (a_best_way : PySem.W.nsIn K mainGlobals "best_way" = some (some (.ref f_best_way)))
    (l_best_way : K.lookup f_best_way = some ⟨oc_best_way, od_best_way, .func (PySem.W.fnOf "best_way" "best_way" (defArgs s_best_way) (defBody s_best_way) (defScope s_best_way) .none kV_best_way dc_best_way pm_best_way an_best_way cd_best_way ct_best_way), sl_best_way⟩)
    (c_best_way : PySem.W.codeIn K cd_best_way "best_way" = true)
    (k_best_way : PySem.W.keepIn K (.ref f_best_way) = true)
    (a_law_asks : PySem.W.nsIn K mainGlobals "_law_asks" = some (some (.ref f_law_asks)))
    (l_law_asks : K.lookup f_law_asks = some ⟨oc_law_asks, od_law_asks, .func (PySem.W.fnOf "_law_asks" "_law_asks" (defArgs s_law_asks) (defBody s_law_asks) (defScope s_law_asks) .none kV_law_asks dc_law_asks pm_law_asks an_law_asks cd_law_asks ct_law_asks), sl_law_asks⟩)
    (c_law_asks : PySem.W.codeIn K cd_law_asks "_law_asks" = true)
    (k_law_asks : PySem.W.keepIn K (.ref f_law_asks) = true)
    (a_law_ways : PySem.W.nsIn K mainGlobals "_law_ways" = some (some (.ref f_law_ways)))
    (l_law_ways : K.lookup f_law_ways = some ⟨oc_law_ways, od_law_ways, .func (PySem.W.fnOf "_law_ways" "_law_ways" (defArgs s_law_ways) (defBody s_law_ways) (defScope s_law_ways) .none kV_law_ways dc_law_ways pm_law_ways an_law_ways cd_law_ways ct_law_ways), sl_law_ways⟩)
    (c_law_ways : PySem.W.codeIn K cd_law_ways "_law_ways" = true)
    (k_law_ways : PySem.W.keepIn K (.ref f_law_ways) = true)
    (a_law_price : PySem.W.nsIn K mainGlobals "_law_price" = some (some (.ref f_law_price)))
    (l_law_price : K.lookup f_law_price = some ⟨oc_law_price, od_law_price, .func (PySem.W.fnOf "_law_price" "_law_price" (defArgs s_law_price) (defBody s_law_price) (defScope s_law_price) .none kV_law_price dc_law_price pm_law_price an_law_price cd_law_price ct_law_price), sl_law_price⟩)
    (c_law_price : PySem.W.codeIn K cd_law_price "_law_price" = true)
    (k_law_price : PySem.W.keepIn K (.ref f_law_price) = true)
    (a_law_best : PySem.W.nsIn K mainGlobals "_law_best" = some (some (.ref f_law_best)))
    (l_law_best : K.lookup f_law_best = some ⟨oc_law_best, od_law_best, .func (PySem.W.fnOf "_law_best" "_law_best" (defArgs s_law_best) (defBody s_law_best) (defScope s_law_best) .none kV_law_best dc_law_best pm_law_best an_law_best cd_law_best ct_law_best), sl_law_best⟩)
    (c_law_best : PySem.W.codeIn K cd_law_best "_law_best" = true)
    (k_law_best : PySem.W.keepIn K (.ref f_law_best) = true)
    (a_law : PySem.W.nsIn K mainGlobals "law" = some (some (.ref f_law)))
    (l_law : K.lookup f_law = some ⟨oc_law, od_law, .func (PySem.W.fnOf "law" "law" (defArgs s_law) (defBody s_law) (defScope s_law) .none kV_law dc_law pm_law an_law cd_law ct_law), sl_law⟩)
    (c_law : PySem.W.codeIn K cd_law "law" = true)
    (k_law : PySem.W.keepIn K (.ref f_law) = true)
    : ∃ (A : Ad) (fd : FuncData), (∀ (s : Shared) (v : Value), BindsTo s fd ⟨[v], []⟩ [("script", v)]) ∧ ∀ base : Heap, K.In base → base.Ns mainGlobals mg → FnOk l.prog w K mg base CX0 13 fa fd ["script"] (spD K (R_law A)) := by
  have e := hfa.symm.trans (PySem.W.mg_of X G a_law)
  cases e
  have F_law_state := fun_mk (st := s_law_state) l_law_state c_law_state k_law_state
  have b_law_state := F_law_state.binds (ps := ["cell", "k"]) fun _ _ _ _ _ _ us hl => match us, hl with | [_, _], _ => rfl
  have F_law_cell := fun_mk (st := s_law_cell) l_law_cell c_law_cell k_law_cell
  have b_law_cell := F_law_cell.binds (ps := ["script", "k"]) fun _ _ _ _ _ _ us hl => match us, hl with | [_, _], _ => rfl
  have F_law_digit := fun_mk (st := s_law_digit) l_law_digit c_law_digit k_law_digit
  have b_law_digit := F_law_digit.binds (ps := ["state", "many"]) fun _ _ _ _ _ _ us hl => match us, hl with | [_, _], _ => rfl
  have F_Section_init := fun_mk (st := s_Section_init) l_Section_init c_Section_init k_Section_init
  have b_Section_init := F_Section_init.binds (ps := ["self", "owner", "payer", "called", "opened", "start", "seconds"]) fun _ _ _ _ _ _ us hl => match us, hl with | [_, _, _, _, _, _, _], _ => rfl
  have F_law_sections := fun_mk (st := s_law_sections) l_law_sections c_law_sections k_law_sections
  have b_law_sections := F_law_sections.binds (ps := ["script", "many"]) fun _ _ _ _ _ _ us hl => match us, hl with | [_, _], _ => rfl
  have F_Tariff_init := fun_mk (st := s_Tariff_init) l_Tariff_init c_Tariff_init k_Tariff_init
  have b_Tariff_init := F_Tariff_init.binds (ps := ["self", "setup_price", "bands"]) fun _ _ _ _ _ _ us hl => match us, hl with | [_, _, _], _ => rfl
  have F_Band_init := fun_mk (st := s_Band_init) l_Band_init c_Band_init k_Band_init
  have b_Band_init := F_Band_init.binds (ps := ["self", "label", "prefix", "from_hour", "to_hour", "price"]) fun _ _ _ _ _ _ us hl => match us, hl with | [_, _, _, _, _, _], _ => rfl
  have F_law_tariffs := fun_mk (st := s_law_tariffs) l_law_tariffs c_law_tariffs k_law_tariffs
  have b_law_tariffs := F_law_tariffs.binds (ps := ["state"]) fun _ _ _ _ _ _ us hl => match us, hl with | [_], _ => rfl
  have F_month_of := fun_mk (st := s_month_of) l_month_of c_month_of k_month_of
  have b_month_of := F_month_of.binds (ps := ["section"]) fun _ _ _ _ _ _ us hl => match us, hl with | [_], _ => rfl
  have F_months_of := fun_mk (st := s_months_of) l_months_of c_months_of k_months_of
  have b_months_of := F_months_of.binds (ps := ["sections"]) fun _ _ _ _ _ _ us hl => match us, hl with | [_], _ => rfl
  have F_Section_is_free := fun_mk (st := s_Section_is_free) l_Section_is_free c_Section_is_free k_Section_is_free
  have b_Section_is_free := F_Section_is_free.binds (ps := ["self"]) fun _ _ _ _ _ _ us hl => match us, hl with | [_], _ => rfl
  have F_paid_sections := fun_mk (st := s_paid_sections) l_paid_sections c_paid_sections k_paid_sections
  have b_paid_sections := F_paid_sections.binds (ps := ["sections", "payers"]) fun _ _ _ _ _ _ us hl => match us, hl with | [_, _], _ => rfl
  have F_ChargeRun_init := fun_mk (st := s_ChargeRun_init) l_ChargeRun_init c_ChargeRun_init k_ChargeRun_init
  have b_ChargeRun_init := F_ChargeRun_init.binds (ps := ["self", "contracts", "tariffs", "allowances"]) fun _ _ _ _ _ _ us hl => match us, hl with | [_, _, _, _], _ => rfl
  have F_section_place := fun_mk (st := s_section_place) l_section_place c_section_place k_section_place
  have b_section_place := F_section_place.binds (ps := ["section"]) fun _ _ _ _ _ _ us hl => match us, hl with | [_], _ => rfl
  have F_Contracts_in_force := fun_mk (st := s_Contracts_in_force) l_Contracts_in_force c_Contracts_in_force k_Contracts_in_force
  have b_Contracts_in_force := F_Contracts_in_force.binds (ps := ["self", "line", "clock"]) fun _ _ _ _ _ _ us hl => match us, hl with | [_, _, _], _ => rfl
  have F_ChargeRun_reason_against := fun_mk (st := s_ChargeRun_reason_against) l_ChargeRun_reason_against c_ChargeRun_reason_against k_ChargeRun_reason_against
  have b_ChargeRun_reason_against := F_ChargeRun_reason_against.binds (ps := ["self", "section", "contract"]) fun _ _ _ _ _ _ us hl => match us, hl with | [_, _, _], _ => rfl
  have F_Band_holds := fun_mk (st := s_Band_holds) l_Band_holds c_Band_holds k_Band_holds
  have b_Band_holds := F_Band_holds.binds (ps := ["self", "called", "clock"]) fun _ _ _ _ _ _ us hl => match us, hl with | [_, _, _], _ => rfl
  have F_Tariff_band_at := fun_mk (st := s_Tariff_band_at) l_Tariff_band_at c_Tariff_band_at k_Tariff_band_at
  have b_Tariff_band_at := F_Tariff_band_at.binds (ps := ["self", "called", "clock"]) fun _ _ _ _ _ _ us hl => match us, hl with | [_, _, _], _ => rfl
  have F_stretches := fun_mk (st := s_stretches) l_stretches c_stretches k_stretches
  have b_stretches := F_stretches.binds (ps := ["tariff", "called", "start", "begin", "till"]) fun _ _ _ _ _ _ us hl => match us, hl with | [_, _, _, _, _], _ => rfl
  have F_price_lines := fun_mk (st := s_price_lines) l_price_lines c_price_lines k_price_lines
  have b_price_lines := F_price_lines.binds (ps := ["tariff", "called", "start", "begin", "till"]) fun _ _ _ _ _ _ us hl => match us, hl with | [_, _, _, _, _], _ => rfl
  have F_ChargeRun_lines_of := fun_mk (st := s_ChargeRun_lines_of) l_ChargeRun_lines_of c_ChargeRun_lines_of k_ChargeRun_lines_of
  have b_ChargeRun_lines_of := F_ChargeRun_lines_of.binds (ps := ["self", "section", "name", "free"]) fun _ _ _ _ _ _ us hl => match us, hl with | [_, _, _, _], _ => rfl
  have F_ChargeRun_free_left := fun_mk (st := s_ChargeRun_free_left) l_ChargeRun_free_left c_ChargeRun_free_left k_ChargeRun_free_left
  have b_ChargeRun_free_left := F_ChargeRun_free_left.binds (ps := ["self", "account", "month"]) fun _ _ _ _ _ _ us hl => match us, hl with | [_, _, _], _ => rfl
  have F_Charge_init := fun_mk (st := s_Charge_init) l_Charge_init c_Charge_init k_Charge_init
  have b_Charge_init := F_Charge_init.binds (ps := ["self", "key", "account", "till", "mills"]) fun _ _ _ _ _ _ us hl => match us, hl with | [_, _, _, _, _], _ => rfl
  have F_ChargeRun_take := fun_mk (st := s_ChargeRun_take) l_ChargeRun_take c_ChargeRun_take k_ChargeRun_take
  have b_ChargeRun_take := F_ChargeRun_take.binds (ps := ["self", "section"]) fun _ _ _ _ _ _ us hl => match us, hl with | [_, _], _ => rfl
  have F_charge_sections := fun_mk (st := s_charge_sections) l_charge_sections c_charge_sections k_charge_sections
  have b_charge_sections := F_charge_sections.binds (ps := ["sections", "contracts", "tariffs", "allowances"]) fun _ _ _ _ _ _ us hl => match us, hl with | [_, _, _, _], _ => rfl
  have F_Contracts_init := fun_mk (st := s_Contracts_init) l_Contracts_init c_Contracts_init k_Contracts_init
  have b_Contracts_init := F_Contracts_init.binds (ps := ["self"]) fun _ _ _ _ _ _ us hl => match us, hl with | [_], _ => rfl
  have F_Contracts_set_history := fun_mk (st := s_Contracts_set_history) l_Contracts_set_history c_Contracts_set_history k_Contracts_set_history
  have b_Contracts_set_history := F_Contracts_set_history.binds (ps := ["self", "line", "rows"]) fun _ _ _ _ _ _ us hl => match us, hl with | [_, _, _], _ => rfl
  have F_contracts_for := fun_mk (st := s_contracts_for) l_contracts_for c_contracts_for k_contracts_for
  have b_contracts_for := F_contracts_for.binds (ps := ["payers", "name"]) fun _ _ _ _ _ _ us hl => match us, hl with | [_, _], _ => rfl
  have F_cost_with := fun_mk (st := s_cost_with) l_cost_with c_cost_with k_cost_with
  have b_cost_with := F_cost_with.binds (ps := ["sections", "payers", "name", "tariffs", "free"]) fun _ _ _ _ _ _ us hl => match us, hl with | [_, _, _, _, _], _ => rfl
  have F_month_cost := fun_mk (st := s_month_cost) l_month_cost c_month_cost k_month_cost
  have b_month_cost := F_month_cost.binds (ps := ["sections", "payers", "month", "name", "tariffs", "free"]) fun _ _ _ _ _ _ us hl => match us, hl with | [_, _, _, _, _, _], _ => rfl
  have F_cost_table := fun_mk (st := s_cost_table) l_cost_table c_cost_table k_cost_table
  have b_cost_table := F_cost_table.binds (ps := ["sections", "payers", "tariffs", "free"]) fun _ _ _ _ _ _ us hl => match us, hl with | [_, _, _, _], _ => rfl
  have F_is_better := fun_mk (st := s_is_better) l_is_better c_is_better k_is_better
  have b_is_better := F_is_better.binds (ps := ["one", "other"]) fun _ _ _ _ _ _ us hl => match us, hl with | [_, _], _ => rfl
  have F_step_cost := fun_mk (st := s_step_cost) l_step_cost c_step_cost k_step_cost
  have b_step_cost := F_step_cost.binds (ps := ["table", "month", "name", "before", "fee"]) fun _ _ _ _ _ _ us hl => match us, hl with | [_, _, _, _, _], _ => rfl
  have F_ways_behind := fun_mk (st := s_ways_behind) l_ways_behind c_ways_behind k_ways_behind
  have b_ways_behind := F_ways_behind.binds (ps := ["ways", "table", "month", "names", "fee"]) fun _ _ _ _ _ _ us hl => match us, hl with | [_, _, _, _, _], _ => rfl
  have F_best_way := fun_mk (st := s_best_way) l_best_way c_best_way k_best_way
  have b_best_way := F_best_way.binds (ps := ["sections", "payers", "tariffs", "free", "fee"]) fun _ _ _ _ _ _ us hl => match us, hl with | [_, _, _, _, _], _ => rfl
  have F_law_asks := fun_mk (st := s_law_asks) l_law_asks c_law_asks k_law_asks
  have b_law_asks := F_law_asks.binds (ps := ["sections", "payers", "tariffs", "free", "fee"]) fun _ _ _ _ _ _ us hl => match us, hl with | [_, _, _, _, _], _ => rfl
  have F_law_ways := fun_mk (st := s_law_ways) l_law_ways c_law_ways k_law_ways
  have b_law_ways := F_law_ways.binds (ps := ["names", "count"]) fun _ _ _ _ _ _ us hl => match us, hl with | [_, _], _ => rfl
  have F_law_price := fun_mk (st := s_law_price) l_law_price c_law_price k_law_price
  have b_law_price := F_law_price.binds (ps := ["way", "months", "table", "fee"]) fun _ _ _ _ _ _ us hl => match us, hl with | [_, _, _, _], _ => rfl
  have F_law_best := fun_mk (st := s_law_best) l_law_best c_law_best k_law_best
  have b_law_best := F_law_best.binds (ps := ["names", "months", "table", "fee"]) fun _ _ _ _ _ _ us hl => match us, hl with | [_, _, _, _], _ => rfl
  have F_law := fun_mk (st := s_law) l_law c_law k_law
  have b_law := F_law.binds (ps := ["script"]) fun _ _ _ _ _ _ us hl => match us, hl with | [_], _ => rfl
  let A : Ad := { a_law_state := f_law_state, d_law_state := PySem.W.fnOf "_law_state" "_law_state" (defArgs s_law_state) (defBody s_law_state) (defScope s_law_state) .none kV_law_state dc_law_state pm_law_state an_law_state cd_law_state ct_law_state, a_law_cell := f_law_cell, d_law_cell := PySem.W.fnOf "_law_cell" "_law_cell" (defArgs s_law_cell) (defBody s_law_cell) (defScope s_law_cell) .none kV_law_cell dc_law_cell pm_law_cell an_law_cell cd_law_cell ct_law_cell, a_law_digit := f_law_digit, d_law_digit := PySem.W.fnOf "_law_digit" "_law_digit" (defArgs s_law_digit) (defBody s_law_digit) (defScope s_law_digit) .none kV_law_digit dc_law_digit pm_law_digit an_law_digit cd_law_digit ct_law_digit, a_Section_init := f_Section_init, d_Section_init := PySem.W.fnOf "__init__" "Section.__init__" (defArgs s_Section_init) (defBody s_Section_init) (defScope s_Section_init) .none kV_Section_init dc_Section_init pm_Section_init an_Section_init cd_Section_init ct_Section_init, a_law_sections := f_law_sections, d_law_sections := PySem.W.fnOf "_law_sections" "_law_sections" (defArgs s_law_sections) (defBody s_law_sections) (defScope s_law_sections) .none kV_law_sections dc_law_sections pm_law_sections an_law_sections cd_law_sections ct_law_sections, a_Tariff_init := f_Tariff_init, d_Tariff_init := PySem.W.fnOf "__init__" "Tariff.__init__" (defArgs s_Tariff_init) (defBody s_Tariff_init) (defScope s_Tariff_init) .none kV_Tariff_init dc_Tariff_init pm_Tariff_init an_Tariff_init cd_Tariff_init ct_Tariff_init, a_Band_init := f_Band_init, d_Band_init := PySem.W.fnOf "__init__" "Band.__init__" (defArgs s_Band_init) (defBody s_Band_init) (defScope s_Band_init) .none kV_Band_init dc_Band_init pm_Band_init an_Band_init cd_Band_init ct_Band_init, a_law_tariffs := f_law_tariffs, d_law_tariffs := PySem.W.fnOf "_law_tariffs" "_law_tariffs" (defArgs s_law_tariffs) (defBody s_law_tariffs) (defScope s_law_tariffs) .none kV_law_tariffs dc_law_tariffs pm_law_tariffs an_law_tariffs cd_law_tariffs ct_law_tariffs, a_month_of := f_month_of, d_month_of := PySem.W.fnOf "month_of" "month_of" (defArgs s_month_of) (defBody s_month_of) (defScope s_month_of) .none kV_month_of dc_month_of pm_month_of an_month_of cd_month_of ct_month_of, a_months_of := f_months_of, d_months_of := PySem.W.fnOf "months_of" "months_of" (defArgs s_months_of) (defBody s_months_of) (defScope s_months_of) .none kV_months_of dc_months_of pm_months_of an_months_of cd_months_of ct_months_of, a_Section_is_free := f_Section_is_free, d_Section_is_free := PySem.W.fnOf "is_free" "Section.is_free" (defArgs s_Section_is_free) (defBody s_Section_is_free) (defScope s_Section_is_free) .none kV_Section_is_free dc_Section_is_free pm_Section_is_free an_Section_is_free cd_Section_is_free ct_Section_is_free, a_paid_sections := f_paid_sections, d_paid_sections := PySem.W.fnOf "paid_sections" "paid_sections" (defArgs s_paid_sections) (defBody s_paid_sections) (defScope s_paid_sections) .none kV_paid_sections dc_paid_sections pm_paid_sections an_paid_sections cd_paid_sections ct_paid_sections, a_ChargeRun_init := f_ChargeRun_init, d_ChargeRun_init := PySem.W.fnOf "__init__" "ChargeRun.__init__" (defArgs s_ChargeRun_init) (defBody s_ChargeRun_init) (defScope s_ChargeRun_init) .none kV_ChargeRun_init dc_ChargeRun_init pm_ChargeRun_init an_ChargeRun_init cd_ChargeRun_init ct_ChargeRun_init, a_section_place := f_section_place, d_section_place := PySem.W.fnOf "section_place" "section_place" (defArgs s_section_place) (defBody s_section_place) (defScope s_section_place) .none kV_section_place dc_section_place pm_section_place an_section_place cd_section_place ct_section_place, a_Contracts_in_force := f_Contracts_in_force, d_Contracts_in_force := PySem.W.fnOf "in_force" "Contracts.in_force" (defArgs s_Contracts_in_force) (defBody s_Contracts_in_force) (defScope s_Contracts_in_force) .none kV_Contracts_in_force dc_Contracts_in_force pm_Contracts_in_force an_Contracts_in_force cd_Contracts_in_force ct_Contracts_in_force, a_ChargeRun_reason_against := f_ChargeRun_reason_against, d_ChargeRun_reason_against := PySem.W.fnOf "reason_against" "ChargeRun.reason_against" (defArgs s_ChargeRun_reason_against) (defBody s_ChargeRun_reason_against) (defScope s_ChargeRun_reason_against) .none kV_ChargeRun_reason_against dc_ChargeRun_reason_against pm_ChargeRun_reason_against an_ChargeRun_reason_against cd_ChargeRun_reason_against ct_ChargeRun_reason_against, a_Band_holds := f_Band_holds, d_Band_holds := PySem.W.fnOf "holds" "Band.holds" (defArgs s_Band_holds) (defBody s_Band_holds) (defScope s_Band_holds) .none kV_Band_holds dc_Band_holds pm_Band_holds an_Band_holds cd_Band_holds ct_Band_holds, a_Tariff_band_at := f_Tariff_band_at, d_Tariff_band_at := PySem.W.fnOf "band_at" "Tariff.band_at" (defArgs s_Tariff_band_at) (defBody s_Tariff_band_at) (defScope s_Tariff_band_at) .none kV_Tariff_band_at dc_Tariff_band_at pm_Tariff_band_at an_Tariff_band_at cd_Tariff_band_at ct_Tariff_band_at, a_stretches := f_stretches, d_stretches := PySem.W.fnOf "stretches" "stretches" (defArgs s_stretches) (defBody s_stretches) (defScope s_stretches) .none kV_stretches dc_stretches pm_stretches an_stretches cd_stretches ct_stretches, a_price_lines := f_price_lines, d_price_lines := PySem.W.fnOf "price_lines" "price_lines" (defArgs s_price_lines) (defBody s_price_lines) (defScope s_price_lines) .none kV_price_lines dc_price_lines pm_price_lines an_price_lines cd_price_lines ct_price_lines, a_ChargeRun_lines_of := f_ChargeRun_lines_of, d_ChargeRun_lines_of := PySem.W.fnOf "lines_of" "ChargeRun.lines_of" (defArgs s_ChargeRun_lines_of) (defBody s_ChargeRun_lines_of) (defScope s_ChargeRun_lines_of) .none kV_ChargeRun_lines_of dc_ChargeRun_lines_of pm_ChargeRun_lines_of an_ChargeRun_lines_of cd_ChargeRun_lines_of ct_ChargeRun_lines_of, a_ChargeRun_free_left := f_ChargeRun_free_left, d_ChargeRun_free_left := PySem.W.fnOf "free_left" "ChargeRun.free_left" (defArgs s_ChargeRun_free_left) (defBody s_ChargeRun_free_left) (defScope s_ChargeRun_free_left) .none kV_ChargeRun_free_left dc_ChargeRun_free_left pm_ChargeRun_free_left an_ChargeRun_free_left cd_ChargeRun_free_left ct_ChargeRun_free_left, a_Charge_init := f_Charge_init, d_Charge_init := PySem.W.fnOf "__init__" "Charge.__init__" (defArgs s_Charge_init) (defBody s_Charge_init) (defScope s_Charge_init) .none kV_Charge_init dc_Charge_init pm_Charge_init an_Charge_init cd_Charge_init ct_Charge_init, a_ChargeRun_take := f_ChargeRun_take, d_ChargeRun_take := PySem.W.fnOf "take" "ChargeRun.take" (defArgs s_ChargeRun_take) (defBody s_ChargeRun_take) (defScope s_ChargeRun_take) .none kV_ChargeRun_take dc_ChargeRun_take pm_ChargeRun_take an_ChargeRun_take cd_ChargeRun_take ct_ChargeRun_take, a_charge_sections := f_charge_sections, d_charge_sections := PySem.W.fnOf "charge_sections" "charge_sections" (defArgs s_charge_sections) (defBody s_charge_sections) (defScope s_charge_sections) .none kV_charge_sections dc_charge_sections pm_charge_sections an_charge_sections cd_charge_sections ct_charge_sections, a_Contracts_init := f_Contracts_init, d_Contracts_init := PySem.W.fnOf "__init__" "Contracts.__init__" (defArgs s_Contracts_init) (defBody s_Contracts_init) (defScope s_Contracts_init) .none kV_Contracts_init dc_Contracts_init pm_Contracts_init an_Contracts_init cd_Contracts_init ct_Contracts_init, a_Contracts_set_history := f_Contracts_set_history, d_Contracts_set_history := PySem.W.fnOf "set_history" "Contracts.set_history" (defArgs s_Contracts_set_history) (defBody s_Contracts_set_history) (defScope s_Contracts_set_history) .none kV_Contracts_set_history dc_Contracts_set_history pm_Contracts_set_history an_Contracts_set_history cd_Contracts_set_history ct_Contracts_set_history, a_contracts_for := f_contracts_for, d_contracts_for := PySem.W.fnOf "contracts_for" "contracts_for" (defArgs s_contracts_for) (defBody s_contracts_for) (defScope s_contracts_for) .none kV_contracts_for dc_contracts_for pm_contracts_for an_contracts_for cd_contracts_for ct_contracts_for, a_cost_with := f_cost_with, d_cost_with := PySem.W.fnOf "cost_with" "cost_with" (defArgs s_cost_with) (defBody s_cost_with) (defScope s_cost_with) .none kV_cost_with dc_cost_with pm_cost_with an_cost_with cd_cost_with ct_cost_with, a_month_cost := f_month_cost, d_month_cost := PySem.W.fnOf "month_cost" "month_cost" (defArgs s_month_cost) (defBody s_month_cost) (defScope s_month_cost) .none kV_month_cost dc_month_cost pm_month_cost an_month_cost cd_month_cost ct_month_cost, a_cost_table := f_cost_table, d_cost_table := PySem.W.fnOf "cost_table" "cost_table" (defArgs s_cost_table) (defBody s_cost_table) (defScope s_cost_table) .none kV_cost_table dc_cost_table pm_cost_table an_cost_table cd_cost_table ct_cost_table, a_is_better := f_is_better, d_is_better := PySem.W.fnOf "is_better" "is_better" (defArgs s_is_better) (defBody s_is_better) (defScope s_is_better) .none kV_is_better dc_is_better pm_is_better an_is_better cd_is_better ct_is_better, a_step_cost := f_step_cost, d_step_cost := PySem.W.fnOf "step_cost" "step_cost" (defArgs s_step_cost) (defBody s_step_cost) (defScope s_step_cost) .none kV_step_cost dc_step_cost pm_step_cost an_step_cost cd_step_cost ct_step_cost, a_ways_behind := f_ways_behind, d_ways_behind := PySem.W.fnOf "ways_behind" "ways_behind" (defArgs s_ways_behind) (defBody s_ways_behind) (defScope s_ways_behind) .none kV_ways_behind dc_ways_behind pm_ways_behind an_ways_behind cd_ways_behind ct_ways_behind, a_best_way := f_best_way, d_best_way := PySem.W.fnOf "best_way" "best_way" (defArgs s_best_way) (defBody s_best_way) (defScope s_best_way) .none kV_best_way dc_best_way pm_best_way an_best_way cd_best_way ct_best_way, a_law_asks := f_law_asks, d_law_asks := PySem.W.fnOf "_law_asks" "_law_asks" (defArgs s_law_asks) (defBody s_law_asks) (defScope s_law_asks) .none kV_law_asks dc_law_asks pm_law_asks an_law_asks cd_law_asks ct_law_asks, a_law_ways := f_law_ways, d_law_ways := PySem.W.fnOf "_law_ways" "_law_ways" (defArgs s_law_ways) (defBody s_law_ways) (defScope s_law_ways) .none kV_law_ways dc_law_ways pm_law_ways an_law_ways cd_law_ways ct_law_ways, a_law_price := f_law_price, d_law_price := PySem.W.fnOf "_law_price" "_law_price" (defArgs s_law_price) (defBody s_law_price) (defScope s_law_price) .none kV_law_price dc_law_price pm_law_price an_law_price cd_law_price ct_law_price, a_law_best := f_law_best, d_law_best := PySem.W.fnOf "_law_best" "_law_best" (defArgs s_law_best) (defBody s_law_best) (defScope s_law_best) .none kV_law_best dc_law_best pm_law_best an_law_best cd_law_best ct_law_best, a_law := fa, d_law := PySem.W.fnOf "law" "law" (defArgs s_law) (defBody s_law) (defScope s_law) .none kV_law dc_law pm_law an_law cd_law ct_law, C_Band := C_Band, C_Tariff := C_Tariff, C_Charge := C_Charge, C_ChargeRun := C_ChargeRun, C_NoTariff := C_NoTariff, C_Contracts := C_Contracts, C_Section := C_Section, pw := ⟨l.prog, w⟩ }
  have T : Txt K mg A l.prog w := { F_law_state := F_law_state, b_law_state := b_law_state, g_law_state := PySem.W.mg_of X G a_law_state, F_law_cell := F_law_cell, b_law_cell := b_law_cell, g_law_cell := PySem.W.mg_of X G a_law_cell, F_law_digit := F_law_digit, b_law_digit := b_law_digit, g_law_digit := PySem.W.mg_of X G a_law_digit, F_Section_init := F_Section_init, b_Section_init := b_Section_init, m_Section_init := ⟨mk_Section, a_Section_init, i_Section_init, kc_Section⟩, F_law_sections := F_law_sections, b_law_sections := b_law_sections, g_law_sections := PySem.W.mg_of X G a_law_sections, F_Tariff_init := F_Tariff_init, b_Tariff_init := b_Tariff_init, m_Tariff_init := ⟨mk_Tariff, a_Tariff_init, i_Tariff_init, kc_Tariff⟩, F_Band_init := F_Band_init, b_Band_init := b_Band_init, m_Band_init := ⟨mk_Band, a_Band_init, i_Band_init, kc_Band⟩, F_law_tariffs := F_law_tariffs, b_law_tariffs := b_law_tariffs, g_law_tariffs := PySem.W.mg_of X G a_law_tariffs, F_month_of := F_month_of, b_month_of := b_month_of, g_month_of := PySem.W.mg_of X G a_month_of, F_months_of := F_months_of, b_months_of := b_months_of, g_months_of := PySem.W.mg_of X G a_months_of, F_Section_is_free := F_Section_is_free, b_Section_is_free := b_Section_is_free, m_Section_is_free := ⟨a_Section_is_free, i_Section_is_free, k_Section_is_free⟩, F_paid_sections := F_paid_sections, b_paid_sections := b_paid_sections, g_paid_sections := PySem.W.mg_of X G a_paid_sections, F_ChargeRun_init := F_ChargeRun_init, b_ChargeRun_init := b_ChargeRun_init, m_ChargeRun_init := ⟨mk_ChargeRun, a_ChargeRun_init, i_ChargeRun_init, kc_ChargeRun⟩, F_section_place := F_section_place, b_section_place := b_section_place, g_section_place := PySem.W.mg_of X G a_section_place, F_Contracts_in_force := F_Contracts_in_force, b_Contracts_in_force := b_Contracts_in_force, m_Contracts_in_force := ⟨a_Contracts_in_force, i_Contracts_in_force, k_Contracts_in_force⟩, F_ChargeRun_reason_against := F_ChargeRun_reason_against, b_ChargeRun_reason_against := b_ChargeRun_reason_against, m_ChargeRun_reason_against := ⟨a_ChargeRun_reason_against, i_ChargeRun_reason_against, k_ChargeRun_reason_against⟩, F_Band_holds := F_Band_holds, b_Band_holds := b_Band_holds, m_Band_holds := ⟨a_Band_holds, i_Band_holds, k_Band_holds⟩, F_Tariff_band_at := F_Tariff_band_at, b_Tariff_band_at := b_Tariff_band_at, m_Tariff_band_at := ⟨a_Tariff_band_at, i_Tariff_band_at, k_Tariff_band_at⟩, F_stretches := F_stretches, b_stretches := b_stretches, g_stretches := PySem.W.mg_of X G a_stretches, F_price_lines := F_price_lines, b_price_lines := b_price_lines, g_price_lines := PySem.W.mg_of X G a_price_lines, F_ChargeRun_lines_of := F_ChargeRun_lines_of, b_ChargeRun_lines_of := b_ChargeRun_lines_of, m_ChargeRun_lines_of := ⟨a_ChargeRun_lines_of, i_ChargeRun_lines_of, k_ChargeRun_lines_of⟩, F_ChargeRun_free_left := F_ChargeRun_free_left, b_ChargeRun_free_left := b_ChargeRun_free_left, m_ChargeRun_free_left := ⟨a_ChargeRun_free_left, i_ChargeRun_free_left, k_ChargeRun_free_left⟩, F_Charge_init := F_Charge_init, b_Charge_init := b_Charge_init, m_Charge_init := ⟨mk_Charge, a_Charge_init, i_Charge_init, kc_Charge⟩, F_ChargeRun_take := F_ChargeRun_take, b_ChargeRun_take := b_ChargeRun_take, m_ChargeRun_take := ⟨a_ChargeRun_take, i_ChargeRun_take, k_ChargeRun_take⟩, F_charge_sections := F_charge_sections, b_charge_sections := b_charge_sections, g_charge_sections := PySem.W.mg_of X G a_charge_sections, F_Contracts_init := F_Contracts_init, b_Contracts_init := b_Contracts_init, m_Contracts_init := ⟨mk_Contracts, a_Contracts_init, i_Contracts_init, kc_Contracts⟩, F_Contracts_set_history := F_Contracts_set_history, b_Contracts_set_history := b_Contracts_set_history, m_Contracts_set_history := ⟨a_Contracts_set_history, i_Contracts_set_history, k_Contracts_set_history⟩, F_contracts_for := F_contracts_for, b_contracts_for := b_contracts_for, g_contracts_for := PySem.W.mg_of X G a_contracts_for, F_cost_with := F_cost_with, b_cost_with := b_cost_with, g_cost_with := PySem.W.mg_of X G a_cost_with, F_month_cost := F_month_cost, b_month_cost := b_month_cost, g_month_cost := PySem.W.mg_of X G a_month_cost, F_cost_table := F_cost_table, b_cost_table := b_cost_table, g_cost_table := PySem.W.mg_of X G a_cost_table, F_is_better := F_is_better, b_is_better := b_is_better, g_is_better := PySem.W.mg_of X G a_is_better, F_step_cost := F_step_cost, b_step_cost := b_step_cost, g_step_cost := PySem.W.mg_of X G a_step_cost, F_ways_behind := F_ways_behind, b_ways_behind := b_ways_behind, g_ways_behind := PySem.W.mg_of X G a_ways_behind, F_best_way := F_best_way, b_best_way := b_best_way, g_best_way := PySem.W.mg_of X G a_best_way, F_law_asks := F_law_asks, b_law_asks := b_law_asks, g_law_asks := PySem.W.mg_of X G a_law_asks, F_law_ways := F_law_ways, b_law_ways := b_law_ways, g_law_ways := PySem.W.mg_of X G a_law_ways, F_law_price := F_law_price, b_law_price := b_law_price, g_law_price := PySem.W.mg_of X G a_law_price, F_law_best := F_law_best, b_law_best := b_law_best, g_law_best := PySem.W.mg_of X G a_law_best, F_law := F_law, b_law := b_law, g_law := PySem.W.mg_of X G a_law, g_Band := PySem.W.mg_of X G aC_Band, c_Band := ⟨pg_Band, hd_Band, po_Band, sa_Band⟩, g_Tariff := PySem.W.mg_of X G aC_Tariff, c_Tariff := ⟨pg_Tariff, hd_Tariff, po_Tariff, sa_Tariff⟩, g_Charge := PySem.W.mg_of X G aC_Charge, c_Charge := ⟨pg_Charge, hd_Charge, po_Charge, sa_Charge⟩, g_ChargeRun := PySem.W.mg_of X G aC_ChargeRun, c_ChargeRun := ⟨pg_ChargeRun, hd_ChargeRun, po_ChargeRun, sa_ChargeRun⟩, g_NoTariff := PySem.W.mg_of X G aC_NoTariff, x_NoTariff := ⟨xi_NoTariff, xb_NoTariff, xt_NoTariff, xk_NoTariff⟩, g_Contracts := PySem.W.mg_of X G aC_Contracts, c_Contracts := ⟨pg_Contracts, hd_Contracts, po_Contracts, sa_Contracts⟩, g_Section := PySem.W.mg_of X G aC_Section, c_Section := ⟨pg_Section, hd_Section, po_Section, sa_Section⟩, e_NoTariff_NoTariff := exm_is xb_NoTariff xc_NoTariff xt_NoTariff xs_NoTariff_NoTariff, n_Band_from_hour := na_Band_from_hour, n_Band_label := na_Band_label, n_Band_prefix := na_Band_prefix, n_Band_price := na_Band_price, n_Band_to_hour := na_Band_to_hour, n_Charge_account := na_Charge_account, n_Charge_key := na_Charge_key, n_Charge_mills := na_Charge_mills, n_Charge_till := na_Charge_till, n_ChargeRun_allowances := na_ChargeRun_allowances, n_ChargeRun_charges := na_ChargeRun_charges, n_ChargeRun_contracts := na_ChargeRun_contracts, n_ChargeRun_left_out := na_ChargeRun_left_out, n_ChargeRun_tariffs := na_ChargeRun_tariffs, n_ChargeRun_used := na_ChargeRun_used, n_Contracts_histories := na_Contracts_histories, n_Section_called := na_Section_called, n_Section_opened := na_Section_opened, n_Section_owner := na_Section_owner, n_Section_payer := na_Section_payer, n_Section_seconds := na_Section_seconds, n_Section_start := na_Section_start, n_Tariff_bands := na_Tariff_bands, n_Tariff_setup_price := na_Tariff_setup_price, z_int := PySem.W.mg_none_of X G z_int, z_len := PySem.W.mg_none_of X G z_len, z_min := PySem.W.mg_none_of X G z_min, z_range := PySem.W.mg_none_of X G z_range, z_sorted := PySem.W.mg_none_of X G z_sorted, z_sum := PySem.W.mg_none_of X G z_sum, z_tuple := PySem.W.mg_none_of X G z_tuple, k_DAY := ⟨_, PySem.W.mg_of X G kk_DAY⟩, k_HOUR := ⟨_, PySem.W.mg_of X G kk_HOUR⟩, k_MINUTE := ⟨_, PySem.W.mg_of X G kk_MINUTE⟩, k_MONTH := ⟨_, PySem.W.mg_of X G kk_MONTH⟩, k_MONTH_SECONDS := ⟨_, PySem.W.mg_of X G kk_MONTH_SECONDS⟩, k_NOBODY := ⟨_, PySem.W.mg_of X G kk_NOBODY⟩, hq := rfl }
  exact ⟨A, A.d_law, fun s v => .of_eq rfl, fun base _ _ => ok_law T⟩
theorem walk {l : PySem.W.OpenLaw} {q : Program} {loose : List Str} {XP : (Str → Option Value) → Heap → Prop} {YP : World → Heap → Prop} {d : DefRec} {K : Params → PySem.W.Frag} (hn : l.most = some 63) (hdf : d.params.defaults = [])
    (hY : ∀ (w : World) (h : Heap), YP w h → (K w.params).In h)
    (F : ∀ (w : World) (mg : Str → Option Value) (fa : Addr) (h : Heap), (K w.params).In h → h.Ns mainGlobals mg → mg d.name = some (.ref fa) →
      ∃ (A : Ad) (fd : FuncData), (∀ (s : Shared) (u : Value), BindsTo s fd ⟨[u], []⟩ [("script", u)]) ∧ ∀ base : Heap, (K w.params).In base → base.Ns mainGlobals mg → FnOk l.prog w (K w.params) mg base CX0 13 fa fd ["script"] (spD (K w.params) (R_law A))) :
    PySem.W.WalkO q loose XP YP l.row.toRowW d [] (fun f vs => PySem.call f vs) :=
  L2.walk_of (n := 63) (k := 13) (x := "script") (CX := fun _ => CX0) (sp := fun w => spLawD (K w.params)) hn (by decide) hdf ⟨rfl, by decide, by decide⟩ hY (fun w mg fa h KX G hm => by
    obtain ⟨A, fd, b, G⟩ := F w mg fa h KX G hm
    exact ⟨fd, b, fun base h1 h2 => (G base h1 h2).imp (spLaw_imp (R_law A) (law_go A))⟩) (fun _ _ a ns hl _ hS => ⟨a, ns, rfl, hS, hl, fun _ => rfl⟩) fun _ _ _ _ _ z => z
end Law

open PySem PySem.W PyProof.Rows in
set_option maxRecDepth 100000 in
set_option maxHeartbeats 0 in
theorem PySem.Challenge.cw_copperhouse_k25_cheapest_ways_holds : PySem.Challenge.rw_copperhouse_k25_cheapest_ways.Holds := by
  w_on; o_law; k_head; (case hw => w_witness2)
  k_fill
  refine Law.walk (l := PySem.Challenge.rw_copperhouse_k25_cheapest_ways) rfl rfl (fun w h Y => PySem.W.kIn_of Y) ?F
  case F =>
    intro w mg fa h KX G hmg
    refine' Law.all_mk KX G hmg ?aC_Band ?pg_Band ?hd_Band ?po_Band ?sa_Band ?mk_Band ?kc_Band ?aC_Tariff ?pg_Tariff ?hd_Tariff ?po_Tariff ?sa_Tariff ?mk_Tariff ?kc_Tariff ?aC_Charge ?pg_Charge ?hd_Charge ?po_Charge ?sa_Charge ?mk_Charge ?kc_Charge ?aC_ChargeRun ?pg_ChargeRun ?hd_ChargeRun ?po_ChargeRun ?sa_ChargeRun ?mk_ChargeRun ?kc_ChargeRun ?aC_NoTariff ?xi_NoTariff ?xb_NoTariff ?xt_NoTariff ?xk_NoTariff ?xc_NoTariff ?aC_Contracts ?pg_Contracts ?hd_Contracts ?po_Contracts ?sa_Contracts ?mk_Contracts ?kc_Contracts ?aC_Section ?pg_Section ?hd_Section ?po_Section ?sa_Section ?mk_Section ?kc_Section ?xs_NoTariff_NoTariff ?na_Band_from_hour ?na_Band_label ?na_Band_prefix ?na_Band_price ?na_Band_to_hour ?na_Charge_account ?na_Charge_key ?na_Charge_mills ?na_Charge_till ?na_ChargeRun_allowances ?na_ChargeRun_charges ?na_ChargeRun_contracts ?na_ChargeRun_left_out ?na_ChargeRun_tariffs ?na_ChargeRun_used ?na_Contracts_histories ?na_Section_called ?na_Section_opened ?na_Section_owner ?na_Section_payer ?na_Section_seconds ?na_Section_start ?na_Tariff_bands ?na_Tariff_setup_price ?z_int ?z_len ?z_min ?z_range ?z_sorted ?z_sum ?z_tuple ?kk_DAY ?kk_HOUR ?kk_MINUTE ?kk_MONTH ?kk_MONTH_SECONDS ?kk_NOBODY ?a_law_state ?l_law_state ?c_law_state ?k_law_state ?a_law_cell ?l_law_cell ?c_law_cell ?k_law_cell ?a_law_digit ?l_law_digit ?c_law_digit ?k_law_digit ?a_Section_init ?i_Section_init ?l_Section_init ?c_Section_init ?k_Section_init ?a_law_sections ?l_law_sections ?c_law_sections ?k_law_sections ?a_Tariff_init ?i_Tariff_init ?l_Tariff_init ?c_Tariff_init ?k_Tariff_init ?a_Band_init ?i_Band_init ?l_Band_init ?c_Band_init ?k_Band_init ?a_law_tariffs ?l_law_tariffs ?c_law_tariffs ?k_law_tariffs ?a_month_of ?l_month_of ?c_month_of ?k_month_of ?a_months_of ?l_months_of ?c_months_of ?k_months_of ?a_Section_is_free ?i_Section_is_free ?l_Section_is_free ?c_Section_is_free ?k_Section_is_free ?a_paid_sections ?l_paid_sections ?c_paid_sections ?k_paid_sections ?a_ChargeRun_init ?i_ChargeRun_init ?l_ChargeRun_init ?c_ChargeRun_init ?k_ChargeRun_init ?a_section_place ?l_section_place ?c_section_place ?k_section_place ?a_Contracts_in_force ?i_Contracts_in_force ?l_Contracts_in_force ?c_Contracts_in_force ?k_Contracts_in_force ?a_ChargeRun_reason_against ?i_ChargeRun_reason_against ?l_ChargeRun_reason_against ?c_ChargeRun_reason_against ?k_ChargeRun_reason_against ?a_Band_holds ?i_Band_holds ?l_Band_holds ?c_Band_holds ?k_Band_holds ?a_Tariff_band_at ?i_Tariff_band_at ?l_Tariff_band_at ?c_Tariff_band_at ?k_Tariff_band_at ?a_stretches ?l_stretches ?c_stretches ?k_stretches ?a_price_lines ?l_price_lines ?c_price_lines ?k_price_lines ?a_ChargeRun_lines_of ?i_ChargeRun_lines_of ?l_ChargeRun_lines_of ?c_ChargeRun_lines_of ?k_ChargeRun_lines_of ?a_ChargeRun_free_left ?i_ChargeRun_free_left ?l_ChargeRun_free_left ?c_ChargeRun_free_left ?k_ChargeRun_free_left ?a_Charge_init ?i_Charge_init ?l_Charge_init ?c_Charge_init ?k_Charge_init ?a_ChargeRun_take ?i_ChargeRun_take ?l_ChargeRun_take ?c_ChargeRun_take ?k_ChargeRun_take ?a_charge_sections ?l_charge_sections ?c_charge_sections ?k_charge_sections ?a_Contracts_init ?i_Contracts_init ?l_Contracts_init ?c_Contracts_init ?k_Contracts_init ?a_Contracts_set_history ?i_Contracts_set_history ?l_Contracts_set_history ?c_Contracts_set_history ?k_Contracts_set_history ?a_contracts_for ?l_contracts_for ?c_contracts_for ?k_contracts_for ?a_cost_with ?l_cost_with ?c_cost_with ?k_cost_with ?a_month_cost ?l_month_cost ?c_month_cost ?k_month_cost ?a_cost_table ?l_cost_table ?c_cost_table ?k_cost_table ?a_is_better ?l_is_better ?c_is_better ?k_is_better ?a_step_cost ?l_step_cost ?c_step_cost ?k_step_cost ?a_ways_behind ?l_ways_behind ?c_ways_behind ?k_ways_behind ?a_best_way ?l_best_way ?c_best_way ?k_best_way ?a_law_asks ?l_law_asks ?c_law_asks ?k_law_asks ?a_law_ways ?l_law_ways ?c_law_ways ?k_law_ways ?a_law_price ?l_law_price ?c_law_price ?k_law_price ?a_law_best ?l_law_best ?c_law_best ?k_law_best ?a_law ?l_law ?c_law ?k_law
    (case aC_Band => k_is)
    (case pg_Band => k_is)
    (case hd_Band => k_is)
    (case po_Band => k_is)
    (case sa_Band => k_is)
    (case mk_Band => k_is)
    (case kc_Band => k_is)
    (case aC_Tariff => k_is)
    (case pg_Tariff => k_is)
    (case hd_Tariff => k_is)
    (case po_Tariff => k_is)
    (case sa_Tariff => k_is)
    (case mk_Tariff => k_is)
    (case kc_Tariff => k_is)
    (case aC_Charge => k_is)
    (case pg_Charge => k_is)
    (case hd_Charge => k_is)
    (case po_Charge => k_is)
    (case sa_Charge => k_is)
    (case mk_Charge => k_is)
    (case kc_Charge => k_is)
    (case aC_ChargeRun => k_is)
    (case pg_ChargeRun => k_is)
    (case hd_ChargeRun => k_is)
    (case po_ChargeRun => k_is)
    (case sa_ChargeRun => k_is)
    (case mk_ChargeRun => k_is)
    (case kc_ChargeRun => k_is)
    (case aC_NoTariff => k_is)
    (case xi_NoTariff => k_exc)
    (case xb_NoTariff => k_is)
    (case xt_NoTariff => k_is)
    (case xk_NoTariff => k_is)
    (case xc_NoTariff => k_is)
    (case aC_Contracts => k_is)
    (case pg_Contracts => k_is)
    (case hd_Contracts => k_is)
    (case po_Contracts => k_is)
    (case sa_Contracts => k_is)
    (case mk_Contracts => k_is)
    (case kc_Contracts => k_is)
    (case aC_Section => k_is)
    (case pg_Section => k_is)
    (case hd_Section => k_is)
    (case po_Section => k_is)
    (case sa_Section => k_is)
    (case mk_Section => k_is)
    (case kc_Section => k_is)
    (case xs_NoTariff_NoTariff => k_is)
    (case na_Band_from_hour => k_is)
    (case na_Band_label => k_is)
    (case na_Band_prefix => k_is)
    (case na_Band_price => k_is)
    (case na_Band_to_hour => k_is)
    (case na_Charge_account => k_is)
    (case na_Charge_key => k_is)
    (case na_Charge_mills => k_is)
    (case na_Charge_till => k_is)
    (case na_ChargeRun_allowances => k_is)
    (case na_ChargeRun_charges => k_is)
    (case na_ChargeRun_contracts => k_is)
    (case na_ChargeRun_left_out => k_is)
    (case na_ChargeRun_tariffs => k_is)
    (case na_ChargeRun_used => k_is)
    (case na_Contracts_histories => k_is)
    (case na_Section_called => k_is)
    (case na_Section_opened => k_is)
    (case na_Section_owner => k_is)
    (case na_Section_payer => k_is)
    (case na_Section_seconds => k_is)
    (case na_Section_start => k_is)
    (case na_Tariff_bands => k_is)
    (case na_Tariff_setup_price => k_is)
    (case z_int => k_is)
    (case z_len => k_is)
    (case z_min => k_is)
    (case z_range => k_is)
    (case z_sorted => k_is)
    (case z_sum => k_is)
    (case z_tuple => k_is)
    (case kk_DAY => k_is)
    (case kk_HOUR => k_is)
    (case kk_MINUTE => k_is)
    (case kk_MONTH => k_is)
    (case kk_MONTH_SECONDS => k_is)
    (case kk_NOBODY => k_is)
    (case a_law_state => k_is)
    (case l_law_state => k_is)
    (case c_law_state => k_is)
    (case k_law_state => k_is)
    (case a_law_cell => k_is)
    (case l_law_cell => k_is)
    (case c_law_cell => k_is)
    (case k_law_cell => k_is)
    (case a_law_digit => k_is)
    (case l_law_digit => k_is)
    (case c_law_digit => k_is)
    (case k_law_digit => k_is)
    (case a_Section_init => k_is)
    (case i_Section_init => k_is)
    (case l_Section_init => k_is)
    (case c_Section_init => k_is)
    (case k_Section_init => k_is)
    (case a_law_sections => k_is)
    (case l_law_sections => k_is)
    (case c_law_sections => k_is)
    (case k_law_sections => k_is)
    (case a_Tariff_init => k_is)
    (case i_Tariff_init => k_is)
    (case l_Tariff_init => k_is)
    (case c_Tariff_init => k_is)
    (case k_Tariff_init => k_is)
    (case a_Band_init => k_is)
    (case i_Band_init => k_is)
    (case l_Band_init => k_is)
    (case c_Band_init => k_is)
    (case k_Band_init => k_is)
    (case a_law_tariffs => k_is)
    (case l_law_tariffs => k_is)
    (case c_law_tariffs => k_is)
    (case k_law_tariffs => k_is)
    (case a_month_of => k_is)
    (case l_month_of => k_is)
    (case c_month_of => k_is)
    (case k_month_of => k_is)
    (case a_months_of => k_is)
    (case l_months_of => k_is)
    (case c_months_of => k_is)
    (case k_months_of => k_is)
    (case a_Section_is_free => k_is)
    (case i_Section_is_free => k_is)
    (case l_Section_is_free => k_is)
    (case c_Section_is_free => k_is)
    (case k_Section_is_free => k_is)
    (case a_paid_sections => k_is)
    (case l_paid_sections => k_is)
    (case c_paid_sections => k_is)
    (case k_paid_sections => k_is)
    (case a_ChargeRun_init => k_is)
    (case i_ChargeRun_init => k_is)
    (case l_ChargeRun_init => k_is)
    (case c_ChargeRun_init => k_is)
    (case k_ChargeRun_init => k_is)
    (case a_section_place => k_is)
    (case l_section_place => k_is)
    (case c_section_place => k_is)
    (case k_section_place => k_is)
    (case a_Contracts_in_force => k_is)
    (case i_Contracts_in_force => k_is)
    (case l_Contracts_in_force => k_is)
    (case c_Contracts_in_force => k_is)
    (case k_Contracts_in_force => k_is)
    (case a_ChargeRun_reason_against => k_is)
    (case i_ChargeRun_reason_against => k_is)
    (case l_ChargeRun_reason_against => k_is)
    (case c_ChargeRun_reason_against => k_is)
    (case k_ChargeRun_reason_against => k_is)
    (case a_Band_holds => k_is)
    (case i_Band_holds => k_is)
    (case l_Band_holds => k_is)
    (case c_Band_holds => k_is)
    (case k_Band_holds => k_is)
    (case a_Tariff_band_at => k_is)
    (case i_Tariff_band_at => k_is)
    (case l_Tariff_band_at => k_is)
    (case c_Tariff_band_at => k_is)
    (case k_Tariff_band_at => k_is)
    (case a_stretches => k_is)
    (case l_stretches => k_is)
    (case c_stretches => k_is)
    (case k_stretches => k_is)
    (case a_price_lines => k_is)
    (case l_price_lines => k_is)
    (case c_price_lines => k_is)
    (case k_price_lines => k_is)
    (case a_ChargeRun_lines_of => k_is)
    (case i_ChargeRun_lines_of => k_is)
    (case l_ChargeRun_lines_of => k_is)
    (case c_ChargeRun_lines_of => k_is)
    (case k_ChargeRun_lines_of => k_is)
    (case a_ChargeRun_free_left => k_is)
    (case i_ChargeRun_free_left => k_is)
    (case l_ChargeRun_free_left => k_is)
    (case c_ChargeRun_free_left => k_is)
    (case k_ChargeRun_free_left => k_is)
    (case a_Charge_init => k_is)
    (case i_Charge_init => k_is)
    (case l_Charge_init => k_is)
    (case c_Charge_init => k_is)
    (case k_Charge_init => k_is)
    (case a_ChargeRun_take => k_is)
    (case i_ChargeRun_take => k_is)
    (case l_ChargeRun_take => k_is)
    (case c_ChargeRun_take => k_is)
    (case k_ChargeRun_take => k_is)
    (case a_charge_sections => k_is)
    (case l_charge_sections => k_is)
    (case c_charge_sections => k_is)
    (case k_charge_sections => k_is)
    (case a_Contracts_init => k_is)
    (case i_Contracts_init => k_is)
    (case l_Contracts_init => k_is)
    (case c_Contracts_init => k_is)
    (case k_Contracts_init => k_is)
    (case a_Contracts_set_history => k_is)
    (case i_Contracts_set_history => k_is)
    (case l_Contracts_set_history => k_is)
    (case c_Contracts_set_history => k_is)
    (case k_Contracts_set_history => k_is)
    (case a_contracts_for => k_is)
    (case l_contracts_for => k_is)
    (case c_contracts_for => k_is)
    (case k_contracts_for => k_is)
    (case a_cost_with => k_is)
    (case l_cost_with => k_is)
    (case c_cost_with => k_is)
    (case k_cost_with => k_is)
    (case a_month_cost => k_is)
    (case l_month_cost => k_is)
    (case c_month_cost => k_is)
    (case k_month_cost => k_is)
    (case a_cost_table => k_is)
    (case l_cost_table => k_is)
    (case c_cost_table => k_is)
    (case k_cost_table => k_is)
    (case a_is_better => k_is)
    (case l_is_better => k_is)
    (case c_is_better => k_is)
    (case k_is_better => k_is)
    (case a_step_cost => k_is)
    (case l_step_cost => k_is)
    (case c_step_cost => k_is)
    (case k_step_cost => k_is)
    (case a_ways_behind => k_is)
    (case l_ways_behind => k_is)
    (case c_ways_behind => k_is)
    (case k_ways_behind => k_is)
    (case a_best_way => k_is)
    (case l_best_way => k_is)
    (case c_best_way => k_is)
    (case k_best_way => k_is)
    (case a_law_asks => k_is)
    (case l_law_asks => k_is)
    (case c_law_asks => k_is)
    (case k_law_asks => k_is)
    (case a_law_ways => k_is)
    (case l_law_ways => k_is)
    (case c_law_ways => k_is)
    (case k_law_ways => k_is)
    (case a_law_price => k_is)
    (case l_law_price => k_is)
    (case c_law_price => k_is)
    (case k_law_price => k_is)
    (case a_law_best => k_is)
    (case l_law_best => k_is)
    (case c_law_best => k_is)
    (case k_law_best => k_is)
    (case a_law => k_is)
    (case l_law => k_is)
    (case c_law => k_is)
    (case k_law => k_is)
