import PyProof.Rows.All
import Wide.All
import OpenK.AllK
import Wide.FinOn
import HandS.ForMost
import HandS.Exc
import HandS.TryOnly
import HandS.ExcOwn
import HandS.WordsExc
import HandS.CallSlots
import HandS.Wide
import KE.KDictCopyH
import KE.KeyNested
import HandS.SortInts
import PyProof.Rows.SeqMore
import KE.SortData
import HandS.TupAny
import HandS.Flt
import HandS.More
import HandS.Conv
import HandS.TupLen
import KE.KEqDict
import HandS.DeepEq
import KE.DataMinMax
import HandS.SortKw
import KE.SortKeyHeap
import PyProof.DictMoreH
import KE.KDictDisplayH
import HandS.Strs
import KE.KDictKeyed
import KE.KDictSum
import KE.LtData
import PyProof.DictDisplay
import PySem.Challenge.RW_copperhouse_k29_differences_of_charges

set_option Elab.async false
set_option linter.all false
set_option maxRecDepth 100000
set_option maxHeartbeats 4000000
/-! A layer of plain data over the hand layer: values as trees (D), what may still change as cells, readings that speak of these alone. -/
namespace DD
open PySem L2

/-! ### data -/
inductive D where
  | non | bl (b : Bool) | int (i : Int) | str (x : Str)
  | tup (xs : List D) | lst (xs : List D) | ins (C : Addr) (fs : List (String × D)) | ptr (a : Addr) | ktup (xs : List D)
  | dK (kvs : List (L2.Key × D)) | dT (kvs : List (List L2.Key × D))
instance : Inhabited D := ⟨.non⟩
/-- the program and the world that the hash of a text leans on -/
structure Pgw where
  p : Program
  w : World
mutual
/-- a nested key as data -/
def nkD : NestedKey → D
  | .none => .non
  | .num i => .int i
  | .text x => .str x
  | .tup ks => .tup (nkDs ks)
def nkDs : List NestedKey → List D
  | [] => []
  | k :: ks => nkD k :: nkDs ks
end
inductive Cell where
  | lst (xs : List D) | ins (C : Addr) (fs : List (String × D)) | dK (kvs : List (L2.Key × D)) | dT (kvs : List (List L2.Key × D))
  | lK (kvs : List (L2.Key × D)) (od : Obj) (vs : List (L2.Key × V)) | lT (kvs : List (List L2.Key × D)) (od : Obj) (vs : List (List L2.Key × V))
  | dN (q : Pgw) (kvs : List (NestedKey × D)) | lN (q : Pgw) (kvs : List (NestedKey × D)) (od : Obj) (xs : List (NestedKey × Addr × V))
  | dO (q : Pgw) (kvs : List (NestedKey × D)) | lO (q : Pgw) (kvs : List (NestedKey × D)) (od : Obj) (xs : List (Leaf × V))
abbrev Cells := Addr → Option Cell
abbrev DEnv := List (Option D)
def cput (C : Cells) (a : Addr) (c : Cell) : Cells := fun b => if b = a then some c else C b
theorem cput_same {C : Cells} {a : Addr} {c : Cell} : cput C a c a = some c := by unfold cput; rw [if_pos rfl]
theorem cput_ne {C : Cells} {a b : Addr} {c : Cell} (h : b ≠ a) : cput C a c b = C b := by unfold cput; rw [if_neg h]
theorem cput_cput {C : Cells} {a : Addr} {c d : Cell} : cput (cput C a c) a d = cput C a d := by
  funext b; unfold cput; split <;> rfl
/-- nothing more is claimed -/
def Sub (C C' : Cells) : Prop := ∀ a c, C a = some c → C' a = some c
theorem Sub.refl (C : Cells) : Sub C C := fun _ _ h => h
theorem Sub.trans {A B C : Cells} (h : Sub A B) (g : Sub B C) : Sub A C := fun a c e => g a c (h a c e)
theorem Sub.new {C : Cells} {a : Addr} {c : Cell} (h : C a = none) : Sub C (cput C a c) := fun b d e => by
  by_cases q : b = a
  · rw [q, h] at e; cases e
  · rw [cput_ne q]; exact e
theorem Sub.put {C C' : Cells} {a : Addr} {c : Cell} (s : Sub C C') (h : C a = none) : Sub C (cput C' a c) := fun b d e => by
  by_cases q : b = a
  · rw [q, h] at e; cases e
  · rw [cput_ne q]; exact s b d e
theorem cell_ne {C : Cells} {a b : Addr} {c : Cell} (h : C a = some c) (g : C b = none) : a ≠ b := fun e => by
  rw [e, g] at h; cases h
theorem cell_ne' {C : Cells} {a b : Addr} {c : Cell} (h : C a = some c) (g : C b = none) : b ≠ a := fun e => cell_ne h g e.symm

/-! ### heaps: what is known stays -/
/-- what may be locked for a while -/
def lockable : HO → Bool
  | .dK _ => true
  | .dT _ => true
  | _ => false
def Ex (H H' : Hp) : Prop := ∀ a o, H a = some o → H' a = some o ∨ (lockable o = true ∧ ∃ od, H' a = some (.frz od o))
theorem Ex.refl (H : Hp) : Ex H H := fun _ _ h => .inl h
theorem Ex.trans {H H1 H2 : Hp} (a : Ex H H1) (b : Ex H1 H2) : Ex H H2 := fun x o h => by
  rcases a x o h with h1 | ⟨l, od, h1⟩
  · exact b x o h1
  · rcases b x _ h1 with h2 | ⟨l2, _⟩
    · exact .inr ⟨l, od, h2⟩
    · cases l2
theorem Ex.nd {H H' : Hp} (e : Ex H H') {a : Addr} {o : HO} (h : H a = some o) (n : lockable o = false) : H' a = some o := by
  rcases e a o h with h1 | ⟨l, _⟩
  · exact h1
  · rw [n] at l; cases l
theorem Ex.some {H H' : Hp} (e : Ex H H') {a : Addr} {o : HO} (h : H a = some o) : ∃ u, H' a = some u := by
  rcases e a o h with h1 | ⟨_, od, h1⟩
  · exact ⟨_, h1⟩
  · exact ⟨_, h1⟩
theorem Ex.new {H : Hp} {p : Addr} {o : HO} (h : H p = none) : Ex H (upd H p o) := fun a u e => by
  rw [upd_ne (ne_of_none e h)]
  exact .inl e
theorem Ex.mut {H H' : Hp} {p : Addr} {o : HO} (e : Ex H H') (h : H p = none) : Ex H (upd H' p o) := fun a u ha => by
  rw [upd_ne (ne_of_none ha h)]
  exact e a u ha
theorem Ex.free {H H' : Hp} {p : Addr} (e : Ex H H') (h : H' p = none) : H p = none := by
  cases h1 : H p with
  | none => rfl
  | some o =>
    obtain ⟨u, h2⟩ := e.some h1
    rw [h2] at h
    cases h
theorem ex_rd {H H' : Hp} {a : Addr} {u : HO} (e : Ex H H') (h : Rd H a u) : Rd H' a u := by
  rcases h with h | ⟨o, h⟩
  · rcases e a _ h with h1 | ⟨_, od, h1⟩
    · exact Or.inl h1
    · exact Or.inr ⟨od, h1⟩
  · exact Or.inr ⟨o, e.nd h rfl⟩
theorem ex_l {K : PySem.W.Frag} {H H' : Hp} {a : Addr} {xs : List V} (e : Ex H H') (h : SqL K H a xs) : SqL K H' a xs := by
  rcases h with h | h
  · exact Or.inl (ex_rd e h)
  · exact Or.inr h
theorem ex_t {K : PySem.W.Frag} {H H' : Hp} {a : Addr} {xs : List V} (e : Ex H H') (h : SqT K H a xs) : SqT K H' a xs := by
  rcases h with h | h
  · exact Or.inl (ex_rd e h)
  · exact Or.inr h

/-! ### what a value stands for -/
mutual
inductive Rep (K : PySem.W.Frag) (F : Hp) : V → D → Prop
  | non : Rep K F .non .non
  | bl (b : Bool) : Rep K F (.bl b) (.bl b)
  | int (i : Int) : Rep K F (.int i) (.int i)
  | str (x : Str) : Rep K F (.str x) (.str x)
  | tup {a : Addr} {xs : List V} {ds : List D} : F a = some (.tup xs) → RepL K F xs ds → Rep K F (.ref a) (.tup ds)
  | ktup {a : Addr} {xs : List V} {ds : List D} : SqT K F a xs → RepL K F xs ds → Rep K F (.ref a) (.ktup ds)
  | lst {a : Addr} {xs : List V} {ds : List D} : SqL K F a xs → RepL K F xs ds → Rep K F (.ref a) (.lst ds)
  | ins {a C dx : Addr} {gs : List (Str × V)} {fs : List (String × D)} : F a = some (.ins C dx gs) → RepF K F gs fs → Rep K F (.ref a) (.ins C fs)
  | ptr (a : Addr) : Rep K F (.ref a) (.ptr a)
  | dK {a : Addr} {od : Obj} {vs : List (L2.Key × V)} {kvs : List (L2.Key × D)} : F a = some (.frz od (.dK vs)) → RepK K F vs kvs → Rep K F (.ref a) (.dK kvs)
  | dT {a : Addr} {od : Obj} {vs : List (List L2.Key × V)} {kvs : List (List L2.Key × D)} : F a = some (.frz od (.dT vs)) → RepT K F vs kvs → Rep K F (.ref a) (.dT kvs)
inductive RepL (K : PySem.W.Frag) (F : Hp) : List V → List D → Prop
  | nil : RepL K F [] []
  | cons {v : V} {vs : List V} {d : D} {ds : List D} : Rep K F v d → RepL K F vs ds → RepL K F (v :: vs) (d :: ds)
inductive RepF (K : PySem.W.Frag) (F : Hp) : List (Str × V) → List (String × D) → Prop
  | nil : RepF K F [] []
  | cons {f : String} {v : V} {vs : List (Str × V)} {d : D} {ds : List (String × D)} : Rep K F v d → RepF K F vs ds → RepF K F ((Str.ofString f, v) :: vs) ((f, d) :: ds)
inductive RepK (K : PySem.W.Frag) (F : Hp) : List (L2.Key × V) → List (L2.Key × D) → Prop
  | nil : RepK K F [] []
  | cons {k : L2.Key} {v : V} {vs : List (L2.Key × V)} {d : D} {ds : List (L2.Key × D)} : Rep K F v d → RepK K F vs ds → RepK K F ((k, v) :: vs) ((k, d) :: ds)
inductive RepT (K : PySem.W.Frag) (F : Hp) : List (List L2.Key × V) → List (List L2.Key × D) → Prop
  | nil : RepT K F [] []
  | cons {k : List L2.Key} {v : V} {vs : List (List L2.Key × V)} {d : D} {ds : List (List L2.Key × D)} : Rep K F v d → RepT K F vs ds → RepT K F ((k, v) :: vs) ((k, d) :: ds)
end
mutual
theorem Rep.mono {K : PySem.W.Frag} {F F' : Hp} (e : Ex F F') : ∀ {v : V} {d : D}, Rep K F v d → Rep K F' v d
  | _, _, .non => .non
  | _, _, .bl b => .bl b
  | _, _, .int i => .int i
  | _, _, .str x => .str x
  | _, _, .tup h r => .tup (e.nd h rfl) (RepL.mono e r)
  | _, _, .ktup h r => .ktup (ex_t e h) (RepL.mono e r)
  | _, _, .lst h r => .lst (ex_l e h) (RepL.mono e r)
  | _, _, .ins h r => .ins (e.nd h rfl) (RepF.mono e r)
  | _, _, .ptr a => .ptr a
  | _, _, .dK h r => .dK (e.nd h rfl) (RepK.mono e r)
  | _, _, .dT h r => .dT (e.nd h rfl) (RepT.mono e r)
theorem RepL.mono {K : PySem.W.Frag} {F F' : Hp} (e : Ex F F') : ∀ {v : List V} {d : List D}, RepL K F v d → RepL K F' v d
  | _, _, .nil => .nil
  | _, _, .cons h r => .cons (Rep.mono e h) (RepL.mono e r)
theorem RepF.mono {K : PySem.W.Frag} {F F' : Hp} (e : Ex F F') : ∀ {v : List (Str × V)} {d : List (String × D)}, RepF K F v d → RepF K F' v d
  | _, _, .nil => .nil
  | _, _, .cons h r => .cons (Rep.mono e h) (RepF.mono e r)
theorem RepK.mono {K : PySem.W.Frag} {F F' : Hp} (e : Ex F F') : ∀ {v : List (L2.Key × V)} {d : List (L2.Key × D)}, RepK K F v d → RepK K F' v d
  | _, _, .nil => .nil
  | _, _, .cons h r => .cons (Rep.mono e h) (RepK.mono e r)
theorem RepT.mono {K : PySem.W.Frag} {F F' : Hp} (e : Ex F F') : ∀ {v : List (List L2.Key × V)} {d : List (List L2.Key × D)}, RepT K F v d → RepT K F' v d
  | _, _, .nil => .nil
  | _, _, .cons h r => .cons (Rep.mono e h) (RepT.mono e r)
end
section
variable {K : PySem.W.Frag} {F : Hp}
theorem RepL.length : ∀ {xs : List V} {ds : List D}, RepL K F xs ds → xs.length = ds.length
  | _, _, .nil => rfl
  | _, _, .cons _ r => congrArg (· + 1) r.length
theorem RepL.get : ∀ {xs : List V} {ds : List D} {i : Nat} {d : D}, RepL K F xs ds → ds[i]? = some d → ∃ v, xs[i]? = some v ∧ Rep K F v d
  | _, _, _, _, .nil, e => by simp at e
  | _, _, 0, _, .cons h _, e => by simp at e; subst e; exact ⟨_, rfl, h⟩
  | _, _, i + 1, _, .cons _ r, e => by
    obtain ⟨v, h1, h2⟩ := RepL.get (i := i) r (by simpa using e)
    exact ⟨v, by simpa using h1, h2⟩
theorem RepL.getV : ∀ {xs : List V} {ds : List D} {i : Nat} {v : V}, RepL K F xs ds → xs[i]? = some v → ∃ d, ds[i]? = some d ∧ Rep K F v d
  | _, _, _, _, .nil, e => by simp at e
  | _, _, 0, _, .cons h _, e => by simp at e; subst e; exact ⟨_, rfl, h⟩
  | _, _, i + 1, _, .cons _ r, e => by
    obtain ⟨d, h1, h2⟩ := RepL.getV (i := i) r (by simpa using e)
    exact ⟨d, by simpa using h1, h2⟩
theorem RepL.append : ∀ {xs ys : List V} {ds es : List D}, RepL K F xs ds → RepL K F ys es → RepL K F (xs ++ ys) (ds ++ es)
  | _, _, _, _, .nil, s => s
  | _, _, _, _, .cons h r, s => .cons h (RepL.append r s)
theorem RepL.set {v : V} {d : D} (h : Rep K F v d) : ∀ {xs : List V} {ds : List D} (i : Nat), RepL K F xs ds → RepL K F (xs.set i v) (ds.set i d)
  | _, _, _, .nil => .nil
  | _, _, 0, .cons _ r => .cons h r
  | _, _, i + 1, .cons q r => .cons q (RepL.set h i r)
theorem RepL.drop : ∀ {xs : List V} {ds : List D} (n : Nat), RepL K F xs ds → RepL K F (xs.drop n) (ds.drop n)
  | _, _, 0, r => r
  | _, _, _ + 1, .nil => .nil
  | _, _, n + 1, .cons _ r => RepL.drop n r
theorem RepL.take : ∀ {xs : List V} {ds : List D} (n : Nat), RepL K F xs ds → RepL K F (xs.take n) (ds.take n)
  | _, _, 0, _ => .nil
  | _, _, _ + 1, .nil => .nil
  | _, _, n + 1, .cons h r => .cons h (RepL.take n r)
theorem RepL.dropLast {xs : List V} {ds : List D} (h : RepL K F xs ds) : RepL K F xs.dropLast ds.dropLast := by
  rw [List.dropLast_eq_take, List.dropLast_eq_take, h.length]
  exact h.take _
theorem RepL.reverse : ∀ {xs : List V} {ds : List D}, RepL K F xs ds → RepL K F xs.reverse ds.reverse
  | _, _, .nil => .nil
  | _, _, .cons h r => by
    rw [List.reverse_cons, List.reverse_cons]
    exact r.reverse.append (.cons h .nil)
theorem RepL.ints : ∀ ns : List Int, RepL K F (ns.map V.int) (ns.map D.int)
  | [] => .nil
  | n :: r => .cons (.int n) (RepL.ints r)
theorem RepL.of_ints : ∀ {ns : List Int} {xs : List V}, RepL K F xs (ns.map D.int) → xs = ns.map V.int
  | [], _, .nil => rfl
  | n :: r, _, .cons h t => by
    cases h
    rw [RepL.of_ints t] <;> rfl
theorem RepL.of_strs : ∀ {ns : List Str} {xs : List V}, RepL K F xs (ns.map D.str) → xs = ns.map V.str
  | [], _, .nil => rfl
  | n :: r, _, .cons h t => by
    cases h
    rw [RepL.of_strs t] <;> rfl
theorem RepL.rep {v : V} {d : D} (h : Rep K F v d) : ∀ n, RepL K F (List.replicate n v) (List.replicate n d)
  | 0 => .nil
  | n + 1 => .cons h (RepL.rep h n)
end
theorem ofString_inj {a b : String} (h : Str.ofString a = Str.ofString b) : a = b := by
  rw [Str.ofString_eq_toList, Str.ofString_eq_toList] at h
  have h2 : a.toList.map Char.toNat = b.toList.map Char.toNat := by
    have := congrArg Str.cps h
    simpa using congrArg Array.toList this
  have inj : ∀ l m : List Char, l.map Char.toNat = m.map Char.toNat → l = m := by
    intro l
    induction l with
    | nil => intro m e; cases m with
      | nil => rfl
      | cons _ _ => simp at e
    | cons c r ih => intro m e; cases m with
      | nil => simp at e
      | cons d s =>
        simp only [List.map_cons, List.cons.injEq] at e
        have q : c = d := by
          have := e.1
          exact Char.ext (UInt32.toNat_inj.mp this)
        rw [q, ih s e.2]
  have h3 := inj _ _ h2
  have := congrArg String.ofList h3
  simpa using this
theorem ofString_eq_iff {a b : String} : (Str.ofString a = Str.ofString b) = (a = b) := propext ⟨ofString_inj, fun h => by rw [h]⟩
section
variable {K : PySem.W.Frag} {F : Hp}
theorem RepF.length : ∀ {xs : List (Str × V)} {ds : List (String × D)}, RepF K F xs ds → xs.length = ds.length
  | _, _, .nil => rfl
  | _, _, .cons _ r => congrArg (· + 1) r.length
theorem RepF.lookup {f : String} : ∀ {xs : List (Str × V)} {ds : List (String × D)} {d : D}, RepF K F xs ds → ds.lookup f = some d → ∃ v, xs.lookup (Str.ofString f) = some v ∧ Rep K F v d
  | _, _, _, .nil, e => by simp at e
  | _, _, d, .cons (f := g) h r, e => by
    by_cases q : f = g
    · subst q
      simp only [List.lookup, beq_self_eq_true] at e ⊢
      cases e
      exact ⟨_, rfl, h⟩
    · have b1 : (f == g) = false := beq_eq_false_iff_ne.mpr q
      have b2 : (Str.ofString f == Str.ofString g) = false := beq_eq_false_iff_ne.mpr fun e => q (ofString_inj e)
      simp only [List.lookup, b1, b2] at e ⊢
      exact RepF.lookup r e
theorem RepF.lookup_none {f : String} : ∀ {xs : List (Str × V)} {ds : List (String × D)}, RepF K F xs ds → ds.lookup f = none → xs.lookup (Str.ofString f) = none
  | _, _, .nil, _ => rfl
  | _, _, .cons (f := g) h r, e => by
    by_cases q : f = g
    · subst q
      simp only [List.lookup, beq_self_eq_true] at e
      cases e
    · have b1 : (f == g) = false := beq_eq_false_iff_ne.mpr q
      have b2 : (Str.ofString f == Str.ofString g) = false := beq_eq_false_iff_ne.mpr fun e => q (ofString_inj e)
      simp only [List.lookup, b1, b2] at e ⊢
      exact RepF.lookup_none r e
end
/-- an attribute stored -/
def dput (f : String) (v : D) : List (String × D) → List (String × D)
  | [] => [(f, v)]
  | (g, x) :: r => if g = f then (g, v) :: r else (g, x) :: dput f v r
theorem RepF.put {K : PySem.W.Frag} {F : Hp} {f : String} {v : V} {d : D} (h : Rep K F v d) : ∀ {xs : List (Str × V)} {ds : List (String × D)}, RepF K F xs ds → RepF K F (putF (Str.ofString f) v xs) (dput f d ds)
  | _, _, .nil => .cons h .nil
  | _, _, .cons (f := g) q r => by
    by_cases e : g = f
    · subst e
      simp only [putF, dput, if_true]
      exact .cons h r
    · have e2 : ¬ Str.ofString g = Str.ofString f := fun z => e (ofString_inj z)
      simp only [putF, dput, if_neg e, if_neg e2]
      exact .cons q (RepF.put h r)

/-! ### the state: frozen heap F, cells C, heap H; slots -/
/-- a dict whose keys are nested tuples: the keys, where their tuples stand, the values -/
def ndEnt (w : World) (y : NestedKey × Addr × Value) : DictEntry := ⟨y.1.hash w, .ref y.2.1, y.2.2⟩
def NdAt (w : World) (a : Addr) (xs : List (NestedKey × Addr × V)) (h : Heap) : Prop := xs.length ≤ sizeLine ∧ (a == sysModules) = false ∧ ∃ ys : List (NestedKey × Addr × Value),
  Paired (fun (x : NestedKey × Addr × V) (y : NestedKey × Addr × Value) => x.1 = y.1 ∧ x.2.1 = y.2.1 ∧ RelV x.2.2 y.2.2) xs ys ∧
  ∃ o es ep, h.get? a = some o ∧ o.ExactDict ∧ o.data = .dict es ep ∧ es.toList = ys.map (ndEnt w) ∧ (ys.map (·.1)).Nodup
def ndO (w : World) (a : Addr) (xs : List (NestedKey × Addr × V)) : HO := .ext (NdAt w a xs)
/-- a dict whose keys are numbers, texts and None -/
def LdAt (q : Pgw) (a : Addr) (xs : List (Leaf × V)) (h : Heap) : Prop := xs.length ≤ sizeLine ∧ (a == sysModules) = false ∧ ∃ vs : List (Leaf × Value), KV xs vs ∧ h.DictOf (leafKind q.p q.w) a vs
def ldO (q : Pgw) (a : Addr) (xs : List (Leaf × V)) : HO := .ext (LdAt q a xs)
abbrev NdR (K : PySem.W.Frag) (F : Hp) : List (NestedKey × Addr × V) → List (NestedKey × D) → Prop := Paired fun x p => x.1 = p.1 ∧ p.1.depth ≤ 8 ∧ Rep K F (.ref x.2.1) (nkD p.1) ∧ Rep K F x.2.2 p.2
abbrev LdR (K : PySem.W.Frag) (F : Hp) : List (Leaf × V) → List (NestedKey × D) → Prop := Paired fun x p => x.1.key = p.1 ∧ Rep K F x.2 p.2
theorem NdR.mono {K : PySem.W.Frag} {F F' : Hp} (e : Ex F F') {xs : List (NestedKey × Addr × V)} {t : List (NestedKey × D)} (r : NdR K F xs t) : NdR K F' xs t := Paired.mapP r fun _ _ z => ⟨z.1, z.2.1, z.2.2.1.mono e, z.2.2.2.mono e⟩
theorem LdR.mono {K : PySem.W.Frag} {F F' : Hp} (e : Ex F F') {xs : List (Leaf × V)} {t : List (NestedKey × D)} (r : LdR K F xs t) : LdR K F' xs t := Paired.mapP r fun _ _ z => ⟨z.1, z.2.mono e⟩
def RepC (K : PySem.W.Frag) (F H : Hp) (a : Addr) : Cell → Prop
  | .lst ds => ∃ xs, H a = some (.lst xs) ∧ RepL K F xs ds
  | .ins C fs => ∃ dx gs, H a = some (.ins C dx gs) ∧ RepF K F gs fs
  | .dK kvs => ∃ vs, H a = some (.dK vs) ∧ RepK K F vs kvs
  | .dT kvs => ∃ vs, H a = some (.dT vs) ∧ RepT K F vs kvs
  | .lK kvs od vs => H a = some (.frz od (.dK vs)) ∧ RepK K F vs kvs
  | .lT kvs od vs => H a = some (.frz od (.dT vs)) ∧ RepT K F vs kvs
  | .dN q t => ∃ xs, H a = some (ndO q.w a xs) ∧ NdR K F xs t
  | .lN q t od xs => H a = some (.frz od (ndO q.w a xs)) ∧ NdR K F xs t
  | .dO q t => ∃ xs, H a = some (ldO q a xs) ∧ LdR K F xs t
  | .lO q t od xs => H a = some (.frz od (ldO q a xs)) ∧ LdR K F xs t
structure Hs (K : PySem.W.Frag) (F : Hp) (C : Cells) (H : Hp) : Prop where
  ex : Ex F H
  cell : ∀ a c, C a = some c → F a = none ∧ RepC K F H a c
def EnvR (K : PySem.W.Frag) (F : Hp) (σ : L2.St) (ρ : DEnv) : Prop := σ.length = ρ.length ∧ ∀ (i : Nat) (d : D), ρ[i]? = some (some d) → ∃ v, σ[i]? = some (some v) ∧ Rep K F v d
section
variable {K : PySem.W.Frag} {F F' H H' : Hp} {C C' : Cells} {σ : L2.St} {ρ : DEnv} {a : Addr} {c : Cell}
theorem RepC.ex (e : Ex F F') {H : Hp} : ∀ {c : Cell}, RepC K F H a c → RepC K F' H a c
  | .lst _, ⟨xs, h, r⟩ => ⟨xs, h, r.mono e⟩
  | .ins _ _, ⟨dx, gs, h, r⟩ => ⟨dx, gs, h, r.mono e⟩
  | .dK _, ⟨vs, h, r⟩ => ⟨vs, h, r.mono e⟩
  | .dT _, ⟨vs, h, r⟩ => ⟨vs, h, r.mono e⟩
  | .lK _ _ _, ⟨h, r⟩ => ⟨h, r.mono e⟩
  | .lT _ _ _, ⟨h, r⟩ => ⟨h, r.mono e⟩
  | .dN _ _, ⟨xs, h, r⟩ => ⟨xs, h, NdR.mono e r⟩
  | .lN _ _ _ _, ⟨h, r⟩ => ⟨h, NdR.mono e r⟩
  | .dO _ _, ⟨xs, h, r⟩ => ⟨xs, h, LdR.mono e r⟩
  | .lO _ _ _ _, ⟨h, r⟩ => ⟨h, LdR.mono e r⟩
theorem RepC.at (h : H' a = H a) : ∀ {c : Cell}, RepC K F H a c → RepC K F H' a c
  | .lst _, ⟨xs, q, r⟩ => ⟨xs, h.trans q, r⟩
  | .ins _ _, ⟨dx, gs, q, r⟩ => ⟨dx, gs, h.trans q, r⟩
  | .dK _, ⟨vs, q, r⟩ => ⟨vs, h.trans q, r⟩
  | .dT _, ⟨vs, q, r⟩ => ⟨vs, h.trans q, r⟩
  | .lK _ _ _, ⟨q, r⟩ => ⟨h.trans q, r⟩
  | .lT _ _ _, ⟨q, r⟩ => ⟨h.trans q, r⟩
  | .dN _ _, ⟨xs, q, r⟩ => ⟨xs, h.trans q, r⟩
  | .lN _ _ _ _, ⟨q, r⟩ => ⟨h.trans q, r⟩
  | .dO _ _, ⟨xs, q, r⟩ => ⟨xs, h.trans q, r⟩
  | .lO _ _ _ _, ⟨q, r⟩ => ⟨h.trans q, r⟩
theorem RepC.some : ∀ {c : Cell}, RepC K F H a c → ∃ o, H a = Option.some o
  | .lst _, ⟨_, h, _⟩ => ⟨_, h⟩
  | .ins _ _, ⟨_, _, h, _⟩ => ⟨_, h⟩
  | .dK _, ⟨_, h, _⟩ => ⟨_, h⟩
  | .dT _, ⟨_, h, _⟩ => ⟨_, h⟩
  | .lK _ _ _, ⟨h, _⟩ => ⟨_, h⟩
  | .lT _ _ _, ⟨h, _⟩ => ⟨_, h⟩
  | .dN _ _, ⟨_, h, _⟩ => ⟨_, h⟩
  | .lN _ _ _ _, ⟨h, _⟩ => ⟨_, h⟩
  | .dO _ _, ⟨_, h, _⟩ => ⟨_, h⟩
  | .lO _ _ _ _, ⟨h, _⟩ => ⟨_, h⟩
theorem Hs.sub (h : Hs K F C H) (s : Sub C' C) : Hs K F C' H := ⟨h.ex, fun a c e => h.cell a c (s a c e)⟩
theorem Hs.fresh (h : Hs K F C H) {p : Addr} (hp : H p = none) : F p = none ∧ C p = none := by
  refine ⟨h.ex.free hp, ?_⟩
  cases e : C p with
  | none => rfl
  | some c =>
    obtain ⟨_, r⟩ := h.cell p c e
    obtain ⟨o, q⟩ := r.some
    rw [hp] at q; cases q
/-- a new frozen object -/
theorem Hs.lay (h : Hs K F C H) {p : Addr} {o : HO} (hp : H p = none) : Ex F (upd F p o) ∧ Hs K (upd F p o) C (upd H p o) := by
  obtain ⟨f0, c0⟩ := h.fresh hp
  refine ⟨Ex.new f0, fun a u e => ?_, fun a c e => ?_⟩
  · by_cases q : a = p
    · subst q; rw [upd_same] at e ⊢; exact .inl e
    · rw [upd_ne q] at e ⊢; exact h.ex a u e
  · have q : a ≠ p := cell_ne e c0
    obtain ⟨f1, r⟩ := h.cell a c e
    exact ⟨by rw [upd_ne q]; exact f1, (r.ex (Ex.new f0)).at (upd_ne q)⟩
/-- a new cell, or a cell that changes -/
theorem Hs.put (h : Hs K F C H) {p : Addr} {o : HO} {c : Cell} (hp : F p = none) (hc : RepC K F (upd H p o) p c) : Hs K F (cput C p c) (upd H p o) := by
  refine ⟨h.ex.mut hp, fun a d e => ?_⟩
  by_cases q : a = p
  · subst q
    rw [cput_same] at e; cases e
    exact ⟨hp, hc⟩
  · rw [cput_ne q] at e
    obtain ⟨f1, r⟩ := h.cell a d e
    exact ⟨f1, r.at (upd_ne q)⟩
/-- a cell that is not to change any more -/
theorem Hs.freeze (h : Hs K F C H) {p : Addr} {c : Cell} (e : C p = some c) (hs : Sub C' C) (hn : C' p = none) : ∃ o, H p = some o ∧ Ex F (upd F p o) ∧ Hs K (upd F p o) C' H ∧ upd F p o p = some o ∧ RepC K F H p c := by
  obtain ⟨f0, r⟩ := h.cell p c e
  obtain ⟨o, ho⟩ := r.some
  refine ⟨o, ho, Ex.new f0, ⟨fun a u q => ?_, fun a d q => ?_⟩, upd_same, r⟩
  · by_cases z : a = p
    · subst z; rw [upd_same] at q; cases q; exact .inl ho
    · rw [upd_ne z] at q; exact h.ex a u q
  · have z : a ≠ p := cell_ne q hn
    obtain ⟨f1, r1⟩ := h.cell a d (hs a d q)
    exact ⟨by rw [upd_ne z]; exact f1, r1.ex (Ex.new f0)⟩
theorem EnvR.mono (e : Ex F F') (h : EnvR K F σ ρ) : EnvR K F' σ ρ := ⟨h.1, fun i d q => by
  obtain ⟨v, h1, h2⟩ := h.2 i d q
  exact ⟨v, h1, h2.mono e⟩⟩
theorem EnvR.set {v : V} {d : D} {i : Nat} (h : EnvR K F σ ρ) (r : Rep K F v d) : EnvR K F (σ.set i (some v)) (ρ.set i (some d)) := by
  refine ⟨by rw [List.length_set, List.length_set]; exact h.1, fun j u q => ?_⟩
  by_cases e : i = j
  · subst e
    have hl : i < ρ.length := by
      rcases Nat.lt_or_ge i ρ.length with z | z
      · exact z
      · rw [List.getElem?_eq_none (by rw [List.length_set]; exact z)] at q; cases q
    rw [List.getElem?_set_self hl] at q
    cases q
    exact ⟨v, by rw [List.getElem?_set_self (by rw [h.1]; exact hl)], r⟩
  · rw [List.getElem?_set_ne e] at q
    obtain ⟨w, h1, h2⟩ := h.2 j u q
    exact ⟨w, by rw [List.getElem?_set_ne e]; exact h1, h2⟩
/-- slots may be forgotten -/
def Fgt (ρ ρ' : DEnv) : Prop := ρ.length = ρ'.length ∧ ∀ (i : Nat) (d : D), ρ'[i]? = some (some d) → ρ[i]? = some (some d)
theorem EnvR.fgt {ρ' : DEnv} (h : EnvR K F σ ρ) (f : Fgt ρ ρ') : EnvR K F σ ρ' := ⟨h.1.trans f.1, fun i d q => h.2 i d (f.2 i d q)⟩
end
end DD

set_option Elab.async false
set_option linter.all false
set_option maxRecDepth 100000
set_option maxHeartbeats 4000000
/-! Readings over data: expressions, tests, arguments. -/
namespace DD
open PySem L2 PyProof.Rows

abbrev DK := D → Cells → Prop
abbrev DX := Value → List (String × D) → DEnv → Cells → Prop
abbrev DE := DEnv → Cells → DK → DX → Prop
abbrev DA := DEnv → Cells → (List D → Cells → Prop) → DX → Prop
abbrev DT := DEnv → Cells → (Bool → Cells → Prop) → DX → Prop
structure DEnds where
  nx : DEnv → Cells → Prop
  rt : DK
  bk : DEnv → Cells → Prop
  ct : DEnv → Cells → Prop
  ex : DX
abbrev DS := DEnds → DEnv → Cells → Prop
abbrev DR2 := D → D → Cells → DK → Prop
abbrev DR1 := D → Cells → DK → Prop
abbrev DRA := List D → Cells → DK → Prop

/-- an exception's own fields -/
def XRep (K : PySem.W.Frag) (F H : Hp) (d : Option Addr) (fs : List (String × D)) : Prop := fs = [] ∨ ∃ dd gs, d = some dd ∧ H dd = some (.xd gs) ∧ RepF K F gs fs
def ExR (K : PySem.W.Frag) (F : Hp) (W : WX) (PX : DX) : Prop :=
  ∀ cls d fs σ F' H ρ C, Ex F F' → Hs K F' C H → EnvR K F' σ ρ → XRep K F' H d fs → PX cls fs ρ C → W cls d σ H
theorem ExR.mono {K : PySem.W.Frag} {F F' : Hp} {W : WX} {PX : DX} (e : Ex F F') (h : ExR K F W PX) : ExR K F' W PX :=
  fun cls d fs σ F1 H ρ C e1 => h cls d fs σ F1 H ρ C (e.trans e1)
/-- what is wanted of a value, of arguments, of a truth -/
def Kont (K : PySem.W.Frag) (F : Hp) (P : DK) (Q : VK) : Prop := ∀ v F' H' d C', Ex F F' → Hs K F' C' H' → Rep K F' v d → P d C' → Q v H'
def KontA (K : PySem.W.Frag) (F : Hp) (P : List D → Cells → Prop) (Q : List V → Hp → Prop) : Prop := ∀ vs F' H' ds C', Ex F F' → Hs K F' C' H' → RepL K F' vs ds → P ds C' → Q vs H'
def KontT (K : PySem.W.Frag) (F : Hp) (P : Bool → Cells → Prop) (Q : Bool → Hp → Prop) : Prop := ∀ b F' H' C', Ex F F' → Hs K F' C' H' → P b C' → Q b H'
theorem Kont.mono {K : PySem.W.Frag} {F F' : Hp} {P : DK} {Q : VK} (e : Ex F F') (h : Kont K F P Q) : Kont K F' P Q := fun v F1 H1 d C1 e1 => h v F1 H1 d C1 (e.trans e1)
theorem KontA.mono {K : PySem.W.Frag} {F F' : Hp} {P : List D → Cells → Prop} {Q : List V → Hp → Prop} (e : Ex F F') (h : KontA K F P Q) : KontA K F' P Q := fun v F1 H1 d C1 e1 => h v F1 H1 d C1 (e.trans e1)
theorem KontT.mono {K : PySem.W.Frag} {F F' : Hp} {P : Bool → Cells → Prop} {Q : Bool → Hp → Prop} (e : Ex F F') (h : KontT K F P Q) : KontT K F' P Q := fun v F1 H1 C1 e1 => h v F1 H1 C1 (e.trans e1)

def tE (K : PySem.W.Frag) (W : WX) (w : DE) : TE := fun σ H Q => ∃ F C ρ P PX, Hs K F C H ∧ EnvR K F σ ρ ∧ ExR K F W PX ∧ w ρ C P PX ∧ Kont K F P Q
def tA (K : PySem.W.Frag) (W : WX) (w : DA) : TA := fun σ H Q => ∃ F C ρ P PX, Hs K F C H ∧ EnvR K F σ ρ ∧ ExR K F W PX ∧ w ρ C P PX ∧ KontA K F P Q
def tT (K : PySem.W.Frag) (W : WX) (w : DT) : TT := fun σ H Q => ∃ F C ρ P PX, Hs K F C H ∧ EnvR K F σ ρ ∧ ExR K F W PX ∧ w ρ C P PX ∧ KontT K F P Q

/-! ### weaker readings -/
section
variable {X : Cx}
theorem PE.imp {e : Expr} {t t' : TE} (h : PE X e t) (i : ∀ σ H Q, t' σ H Q → t σ H Q) : PE X e t' := ⟨fun pins s σ H Q I w => h.run pins s σ H Q I (i σ H Q w)⟩
theorem PT.imp {e : Expr} {t t' : TT} (h : PT X e t) (i : ∀ σ H Q, t' σ H Q → t σ H Q) : PT X e t' := ⟨fun pins s σ H Q I w => h.run pins s σ H Q I (i σ H Q w)⟩
theorem PW.imp {e : Expr} {t t' : TT} (h : PW X e t) (i : ∀ σ H Q, t' σ H Q → t σ H Q) : PW X e t' := ⟨fun wh pins s σ H Q I w => h.run wh pins s σ H Q I (i σ H Q w)⟩
theorem PA.imp {e : List Expr} {t t' : TA} (h : PA X e t) (i : ∀ σ H Q, t' σ H Q → t σ H Q) : PA X e t' := ⟨fun pos pins s σ H Q I w => h.run pos pins s σ H Q I (i σ H Q w)⟩
theorem PS.imp {e : Stmt} {t t' : TS} (h : PS X e t) (i : ∀ D σ H, t' D σ H → t D σ H) : PS X e t' := ⟨fun pins s σ H D I w => h.run pins s σ H D I (i D σ H w)⟩
theorem PSs.imp {e : List Stmt} {t t' : TS} (h : PSs X e t) (i : ∀ D σ H, t' D σ H → t D σ H) : PSs X e t' := ⟨fun pins s σ H D I w => h.run pins s σ H D I (i D σ H w)⟩
end

/-! ### names, constants, arguments -/
def wVar (i : Nat) (ρ : DEnv) (C : Cells) (P : DK) (_ : DX) : Prop := match (ρ[i]? : Option (Option D)) with | some (some d) => P d C | _ => False
def wC (d : D) (_ : DEnv) (C : Cells) (P : DK) (_ : DX) : Prop := P d C
def wNil (_ : DEnv) (C : Cells) (P : List D → Cells → Prop) (_ : DX) : Prop := P [] C
def wCons (a : DE) (r : DA) (ρ : DEnv) (C : Cells) (P : List D → Cells → Prop) (PX : DX) : Prop := a ρ C (fun d C1 => r ρ C1 (fun ds C2 => P (d :: ds) C2) PX) PX
section
variable {X : Cx} {W : WX} {K : PySem.W.Frag}
theorem i_var {i : Nat} {σ : L2.St} {H : Hp} {Q : VK} (h : tE K W (wVar i) σ H Q) : tVar i σ H Q := by
  obtain ⟨F, C, ρ, P, PX, hs, en, xr, w, k⟩ := h
  unfold wVar at w
  split at w
  · rename_i d q
    obtain ⟨v, h1, r⟩ := en.2 i d q
    exact ⟨v, h1, k v F H d C (Ex.refl F) hs r w⟩
  · exact w.elim
theorem d_var (i : Nat) {x : Str} {pos : Pos} (hN : X.N[i]? = some x := by rfl) (hv : Vis X.env.scope x := by first | exact Or.inl rfl | exact Or.inr (Or.inl rfl) | exact Or.inr (Or.inr rfl)) (hd : (x == ("__debug__" : Str)) = false := by decide)
    (hcd : (x == ("__classdict__" : Str)) = false := by decide) : PE X (.Name x pos) (tE X.K W (wVar i)) := PE.imp (pe_var hN hv hd hcd) fun _ _ _ => i_var
theorem i_c {v : V} {d : D} (r : ∀ F, Rep K F v d) {σ : L2.St} {H : Hp} {Q : VK} (h : tE K W (wC d) σ H Q) : tC v σ H Q := by
  obtain ⟨F, C, ρ, P, PX, hs, en, xr, w, k⟩ := h
  exact k v F H d C (Ex.refl F) hs (r F) w
theorem d_int {i j pos} : PE X (.Constant (.int i) j pos) (tE X.K W (wC (.int i))) := PE.imp pe_int fun _ _ _ => i_c fun _ => .int i
theorem d_bl {b j pos} : PE X (.Constant (.bool b) j pos) (tE X.K W (wC (.bl b))) := PE.imp pe_bl fun _ _ _ => i_c fun _ => .bl b
theorem d_non {j pos} : PE X (.Constant .none j pos) (tE X.K W (wC .non)) := PE.imp pe_non fun _ _ _ => i_c fun _ => .non
theorem d_str {x j pos} : PE X (.Constant (.str x) j pos) (tE X.K W (wC (.str x))) := PE.imp pe_str fun _ _ _ => i_c fun _ => .str x
/-- a module's name -/
theorem d_glob {x : Str} {v : V} {d : D} {u : Value} {pos : Pos} (hg : Gl X x) (hm : X.mg x = some u) (r : RelV v u) (hr : ∀ F, Rep X.K F v d) (hd : (x == ("__debug__" : Str)) = false := by decide) : PE X (.Name x pos) (tE X.K W (wC d)) :=
  PE.imp (pe_glob hg hm r hd) fun _ _ _ => i_c hr
theorem d_nil : PA X [] (tA X.K W wNil) := PA.imp pa_nil fun σ H Q ⟨F, C, ρ, P, PX, hs, en, xr, w, k⟩ => k [] F H [] C (Ex.refl F) hs .nil w
theorem i_cons {wa : DE} {wr : DA} {σ : L2.St} {H : Hp} {Q : List V → Hp → Prop} (h : tA K W (wCons wa wr) σ H Q) : tCons (tE K W wa) (tA K W wr) σ H Q := by
  obtain ⟨F, C, ρ, P, PX, hs, en, xr, w, k⟩ := h
  exact ⟨F, C, ρ, _, PX, hs, en, xr, w, fun v F1 H1 d C1 e1 h1 rd q => ⟨F1, C1, ρ, _, PX, h1, en.mono e1, xr.mono e1, q, fun vs F2 H2 ds C2 e2 h2 rl q2 => k (v :: vs) F2 H2 (d :: ds) C2 (e1.trans e2) h2 (.cons (rd.mono e2) rl) q2⟩⟩
theorem d_cons {e : Expr} {es : List Expr} {wa : DE} {wr : DA} (ha : PE X e (tE X.K W wa)) (hr : PA X es (tA X.K W wr)) (hs : starEach (e :: es) X.env = (false, eval e X.env) :: starEach es X.env := by rfl) : PA X (e :: es) (tA X.K W (wCons wa wr)) :=
  PA.imp (pa_cons ha hr hs) fun _ _ _ => i_cons
end

/-! ### operators -/
/-- an operation on two values, its reading on data -/
def SimR (K : PySem.W.Frag) (r : R2) (rd : DR2) : Prop := ∀ F C H x y dx dy P Q, Hs K F C H → Rep K F x dx → Rep K F y dy → rd dx dy C P → Kont K F P Q → r x y H Q
def Sim1 (K : PySem.W.Frag) (r : V → Hp → VK → Prop) (rd : DR1) : Prop := ∀ F C H x dx P Q, Hs K F C H → Rep K F x dx → rd dx C P → Kont K F P Q → r x H Q
def SimA (K : PySem.W.Frag) (r : List V → Hp → VK → Prop) (rd : DRA) : Prop := ∀ F C H xs ds P Q, Hs K F C H → RepL K F xs ds → rd ds C P → Kont K F P Q → r xs H Q
def wOp (r : DR2) (a b : DE) (ρ : DEnv) (C : Cells) (P : DK) (PX : DX) : Prop := a ρ C (fun x C1 => b ρ C1 (fun y C2 => r x y C2 P) PX) PX
def wUn (r : DR1) (a : DE) (ρ : DEnv) (C : Cells) (P : DK) (PX : DX) : Prop := a ρ C (fun x C1 => r x C1 P) PX
def wCB (r : DRA) (a : DA) (ρ : DEnv) (C : Cells) (P : DK) (PX : DX) : Prop := a ρ C (fun xs C1 => r xs C1 P) PX
section
variable {X : Cx} {W : WX} {K : PySem.W.Frag} {a b : Expr} {wa wb : DE} {pos : Pos}
theorem i_op {r : R2} {rd : DR2} (hr : SimR K r rd) {σ : L2.St} {H : Hp} {Q : VK} (h : tE K W (wOp rd wa wb) σ H Q) : tOp r (tE K W wa) (tE K W wb) σ H Q := by
  obtain ⟨F, C, ρ, P, PX, hs, en, xr, w, k⟩ := h
  exact ⟨F, C, ρ, _, PX, hs, en, xr, w, fun v F1 H1 d C1 e1 h1 rd1 q => ⟨F1, C1, ρ, _, PX, h1, en.mono e1, xr.mono e1, q, fun u F2 H2 du C2 e2 h2 ru q2 => hr F2 C2 H2 v u d du P Q h2 (rd1.mono e2) ru q2 (k.mono (e1.trans e2))⟩⟩
theorem i_un {r : V → Hp → VK → Prop} {rd : DR1} (hr : Sim1 K r rd) {σ : L2.St} {H : Hp} {Q : VK} (h : tE K W (wUn rd wa) σ H Q) : tUn r (tE K W wa) σ H Q := by
  obtain ⟨F, C, ρ, P, PX, hs, en, xr, w, k⟩ := h
  exact ⟨F, C, ρ, _, PX, hs, en, xr, w, fun v F1 H1 d C1 e1 h1 rd1 q => hr F1 C1 H1 v d P Q h1 rd1 q (k.mono e1)⟩
theorem i_cb {r : List V → Hp → VK → Prop} {rd : DRA} {wr : DA} (hr : SimA K r rd) {σ : L2.St} {H : Hp} {Q : VK} (h : tE K W (wCB rd wr) σ H Q) : tCB r (tA K W wr) σ H Q := by
  obtain ⟨F, C, ρ, P, PX, hs, en, xr, w, k⟩ := h
  exact ⟨F, C, ρ, _, PX, hs, en, xr, w, fun v F1 H1 d C1 e1 h1 rd1 q => hr F1 C1 H1 v d P Q h1 rd1 q (k.mono e1)⟩
/-- e1 op e2 -/
theorem d_op {op : Operator} {r : R2} {rd : DR2} (ho : OpR X (binaryOp op) r) (hr : SimR X.K r rd) (ha : PE X a (tE X.K W wa)) (hb : PE X b (tE X.K W wb)) : PE X (.BinOp a op b pos) (tE X.K W (wOp rd wa wb)) :=
  PE.imp (pe_op ho ha hb) fun _ _ _ => i_op hr
theorem d_un {op : UnaryOp} {r : V → Hp → VK → Prop} {rd : DR1} (ho : UnR X (unaryOp op) r) (hr : Sim1 X.K r rd) (ha : PE X a (tE X.K W wa)) : PE X (.UnaryOp op a pos) (tE X.K W (wUn rd wa)) :=
  PE.imp (pe_un ho ha) fun _ _ _ => i_un hr
/-- e1 < e2 and the like, as a value -/
theorem d_cmp {op : CmpOp} {r : R2} {rd : DR2} (ho : OpR X (compareOp op) r) (hr : SimR X.K r rd) (ha : PE X a (tE X.K W wa)) (hb : PE X b (tE X.K W wb)) (hm : behindInMarks op b = false := by first | exact nobehind _ (by decide) (by decide) | rfl) :
    PE X (.Compare a [op] [b] pos) (tE X.K W (wOp rd wa wb)) := PE.imp (pe_cmpR ho ha hb hm) fun _ _ _ => i_op hr
/-- a subscript -/
theorem d_ix {r : R2} {rd : DR2} (ho : IxR X r) (hr : SimR X.K r rd) (ha : PE X a (tE X.K W wa)) (hb : PE X b (tE X.K W wb)) (hs : PlainIx b := by exact fun _ _ => rfl) : PE X (.Subscript a b pos) (tE X.K W (wOp rd wa wb)) :=
  PE.imp (pe_ix ho ha hb hs) fun _ _ _ => i_op hr
/-- a built-in function by its name -/
theorem d_callB {r : List V → Hp → VK → Prop} {rd : DRA} {id : String} {x : Str} {p : Pos} {e : Expr} {es : List Expr} {wr : DA} (hc : CallR X (.builtin id) r) (hr : SimA X.K r rd) (hg : Gl X x) (hm : X.mg x = none) (hv : bootBuiltins x = some (.builtin id)) (ha : PA X (e :: es) (tA X.K W wr)) (hn : x ≠ "__name__" := by decide) (hdb : (x == ("__debug__" : Str)) = false := by decide)
    (he : starEach (e :: es) X.env = (false, eval e X.env) :: starEach es X.env := by rfl) (hpl : (backTo pos (starEach es X.env)).any (·.1) = false := by rfl) : PE X (.Call (.Name x p) (e :: es) [] pos) (tE X.K W (wCB rd wr)) :=
  PE.imp (pe_callB hc hg hm hv ha hn hdb he hpl) fun _ _ _ => i_cb hr
theorem d_callTy {r : List V → Hp → VK → Prop} {rd : DRA} {T : String} {x : Str} {p : Pos} {e : Expr} {es : List Expr} {wr : DA} (hc : CallR X (.type T) r) (hr : SimA X.K r rd) (hg : Gl X x) (hm : X.mg x = none) (hv : bootBuiltins x = some (.type T)) (ha : PA X (e :: es) (tA X.K W wr)) (hn : x ≠ "__name__" := by decide) (hdb : (x == ("__debug__" : Str)) = false := by decide)
    (he : starEach (e :: es) X.env = (false, eval e X.env) :: starEach es X.env := by rfl) (hpl : (backTo pos (starEach es X.env)).any (·.1) = false := by rfl) : PE X (.Call (.Name x p) (e :: es) [] pos) (tE X.K W (wCB rd wr)) :=
  PE.imp (pe_callTy hc hg hm hv ha hn hdb he hpl) fun _ _ _ => i_cb hr
end

/-! ### whole numbers -/
def dI (c : Int → Int → Prop) (g : Int → Int → D) (x : D) (y : D) (C : Cells) (P : DK) : Prop := match x, y with | .int i, .int j => c i j ∧ P (g i j) C | _, _ => False
def dI0 (g : Int → Int → D) (x : D) (y : D) (C : Cells) (P : DK) : Prop := match x, y with | .int i, .int j => P (g i j) C | _, _ => False
def dU (g : Int → D) (x : D) (C : Cells) (P : DK) : Prop := match x with | .int i => P (g i) C | _ => False
section
variable {K : PySem.W.Frag}
theorem simI {c : Int → Int → Prop} {g : Int → Int → V} {gd : Int → Int → D} (h : ∀ i j F, Rep K F (g i j) (gd i j)) : SimR K (rI c g) (dI c gd) := fun F C H x y dx dy P Q hs rx ry w k => by
  cases rx <;> cases ry <;> first | exact w.elim | exact ⟨_, _, rfl, rfl, w.1, k _ F H _ C (Ex.refl F) hs (h _ _ F) w.2⟩
theorem simI0 {g : Int → Int → V} {gd : Int → Int → D} (h : ∀ i j F, Rep K F (g i j) (gd i j)) : SimR K (rI0 g) (dI0 gd) := fun F C H x y dx dy P Q hs rx ry w k => by
  cases rx <;> cases ry <;> first | exact w.elim | exact ⟨_, _, rfl, rfl, k _ F H _ C (Ex.refl F) hs (h _ _ F) w⟩
theorem simU {g : Int → V} {gd : Int → D} (h : ∀ i F, Rep K F (g i) (gd i)) : Sim1 K (rU g) (dU gd) := fun F C H x dx P Q hs rx w k => by
  cases rx <;> first | exact w.elim | exact ⟨_, rfl, k _ F H _ C (Ex.refl F) hs (h _ F) w⟩
abbrev dAdd : DR2 := dI0 fun i j => .int (i + j)
abbrev dSub : DR2 := dI0 fun i j => .int (i - j)
abbrev dMul : DR2 := dI CMul fun i j => .int (i * j)
abbrev dDiv : DR2 := dI CDiv fun i j => .int (i / j)
abbrev dMod : DR2 := dI (fun _ j => 0 < j) fun i j => .int (i % j)
abbrev dLt : DR2 := dI0 fun i j => .bl (decide (i < j))
abbrev dLe : DR2 := dI0 fun i j => .bl (decide (i ≤ j))
abbrev dGt : DR2 := dI0 fun i j => .bl (decide (j < i))
abbrev dGe : DR2 := dI0 fun i j => .bl (decide (j ≤ i))
theorem s_add : SimR K (rI0 fun i j => .int (i + j)) dAdd := simI0 fun _ _ _ => .int _
theorem s_sub : SimR K (rI0 fun i j => .int (i - j)) dSub := simI0 fun _ _ _ => .int _
theorem s_mul : SimR K (rI CMul fun i j => .int (i * j)) dMul := simI fun _ _ _ => .int _
theorem s_div : SimR K (rI CDiv fun i j => .int (i / j)) dDiv := simI fun _ _ _ => .int _
theorem s_mod : SimR K (rI (fun _ j => 0 < j) fun i j => .int (i % j)) dMod := simI fun _ _ _ => .int _
theorem s_lt : SimR K (rI0 fun i j => .bl (decide (i < j))) dLt := simI0 fun _ _ _ => .bl _
theorem s_le : SimR K (rI0 fun i j => .bl (decide (i ≤ j))) dLe := simI0 fun _ _ _ => .bl _
theorem s_gt : SimR K (rI0 fun i j => .bl (decide (j < i))) dGt := simI0 fun _ _ _ => .bl _
theorem s_ge : SimR K (rI0 fun i j => .bl (decide (j ≤ i))) dGe := simI0 fun _ _ _ => .bl _
abbrev dNeg : DR1 := dU fun i => .int (-i)
theorem s_neg : Sim1 K (rU fun i => .int (-i)) dNeg := simU fun _ _ => .int _
end

/-! ### == of scalars, is None -/
def dEqv (neg : Bool) (x : D) (y : D) (C : Cells) (P : DK) : Prop := match x, y with
  | .int i, .int j => P (.bl (neg ^^ decide (i = j))) C
  | .str i, .str j => P (.bl (neg ^^ decide (i = j))) C
  | .bl i, .bl j => P (.bl (neg ^^ decide (i = j))) C
  | .non, .non => P (.bl (neg ^^ true)) C
  | .non, .int _ => P (.bl (neg ^^ false)) C
  | .int _, .non => P (.bl (neg ^^ false)) C
  | .non, .str _ => P (.bl (neg ^^ false)) C
  | .str _, .non => P (.bl (neg ^^ false)) C
  | .non, .bl _ => P (.bl (neg ^^ false)) C
  | .bl _, .non => P (.bl (neg ^^ false)) C
  | .int _, .str _ => P (.bl (neg ^^ false)) C
  | .str _, .int _ => P (.bl (neg ^^ false)) C
  | _, _ => False
abbrev dEq := dEqv false
abbrev dNe := dEqv true
def dIsN (neg : Bool) (x : D) (y : D) (C : Cells) (P : DK) : Prop := match y with
  | .non => match x with
    | .non => P (.bl (neg ^^ true)) C
    | _ => P (.bl (neg ^^ false)) C
  | _ => False
section
variable {K : PySem.W.Frag}
theorem s_eq : SimR K rEq dEq := fun F C H x y dx dy P Q hs rx ry w k => by
  cases rx <;> cases ry <;> first
    | exact w.elim
    | (refine ⟨rfl, ?_⟩
       have z := k _ F H _ C (Ex.refl F) hs (.bl _) w
       simp only [reduceCtorEq, V.int.injEq, V.str.injEq, V.bl.injEq, decide_true, decide_false, Bool.false_xor] at z ⊢
       exact z)
theorem s_ne : SimR K rNe dNe := fun F C H x y dx dy P Q hs rx ry w k => by
  cases rx <;> cases ry <;> first
    | exact w.elim
    | (refine ⟨rfl, ?_⟩
       have z := k _ F H _ C (Ex.refl F) hs (.bl _) w
       simp only [reduceCtorEq, V.int.injEq, V.str.injEq, V.bl.injEq, decide_true, decide_false, Bool.true_xor] at z ⊢
       exact z)
theorem s_isN : SimR K (fun x y H Q => y = .non ∧ Q (.bl (decide (x = .non))) H) (dIsN false) := fun F C H x y dx dy P Q hs rx ry w k => by
  cases ry <;> first
    | exact w.elim
    | (refine ⟨rfl, ?_⟩
       cases rx <;>
       (have z := k _ F H _ C (Ex.refl F) hs (.bl _) w
        simp only [reduceCtorEq, decide_true, decide_false, Bool.false_xor] at z ⊢
        exact z))
theorem s_notN : SimR K (fun x y H Q => y = .non ∧ Q (.bl (!decide (x = .non))) H) (dIsN true) := fun F C H x y dx dy P Q hs rx ry w k => by
  cases ry <;> first
    | exact w.elim
    | (refine ⟨rfl, ?_⟩
       cases rx <;>
       (have z := k _ F H _ C (Ex.refl F) hs (.bl _) w
        simp only [reduceCtorEq, decide_true, decide_false, Bool.true_xor] at z ⊢
        exact z))
end

/-! ### tests -/
def wTest (e : DE) (ρ : DEnv) (C : Cells) (P : Bool → Cells → Prop) (PX : DX) : Prop := e ρ C (fun x C1 => match x with | .bl k => P k C1 | _ => False) PX
def wAnd (t u : DT) (ρ : DEnv) (C : Cells) (P : Bool → Cells → Prop) (PX : DX) : Prop := t ρ C (fun b C1 => if b = true then u ρ C1 P PX else P false C1) PX
def wOr (t u : DT) (ρ : DEnv) (C : Cells) (P : Bool → Cells → Prop) (PX : DX) : Prop := t ρ C (fun b C1 => if b = true then P true C1 else u ρ C1 P PX) PX
def wNot (t : DT) (ρ : DEnv) (C : Cells) (P : Bool → Cells → Prop) (PX : DX) : Prop := t ρ C (fun b C1 => P (!b) C1) PX
def wIf (t : DT) (a b : DE) (ρ : DEnv) (C : Cells) (P : DK) (PX : DX) : Prop := t ρ C (fun k C1 => if k = true then a ρ C1 P PX else b ρ C1 P PX) PX
section
variable {X : Cx} {W : WX} {K : PySem.W.Frag} {a b : Expr} {wa wb : DE} {pos : Pos} {t u : DT} {rest : List Expr}
theorem i_test {σ : L2.St} {H : Hp} {Q : Bool → Hp → Prop} (h : tT K W (wTest wa) σ H Q) : tE K W wa σ H fun x H' => ∃ k, x = .bl k ∧ Q k H' := by
  obtain ⟨F, C, ρ, P, PX, hs, en, xr, w, k⟩ := h
  refine ⟨F, C, ρ, _, PX, hs, en, xr, w, fun v F1 H1 d C1 e1 h1 r q => ?_⟩
  cases r <;> first | exact q.elim | exact ⟨_, rfl, k _ F1 H1 C1 e1 h1 q⟩
/-- a comparison as a test -/
theorem d_tcmp {op : CmpOp} {r : R2} {rd : DR2} (ho : OpR X (compareOp op) r) (hr : SimR X.K r rd) (ha : PE X a (tE X.K W wa)) (hb : PE X b (tE X.K W wb)) (hm : behindInMarks op b = false := by first | exact nobehind _ (by decide) (by decide) | rfl) :
    PT X (.Compare a [op] [b] pos) (tT X.K W (wTest (wOp rd wa wb))) := PT.imp (pt_cmpR ho ha hb hm) fun σ H Q h => by
  have z := i_test h
  obtain ⟨F, C, ρ, P, PX, hs, en, xr, w, k⟩ := z
  exact i_op hr ⟨F, C, ρ, P, PX, hs, en, xr, w, k⟩
/-- an expression that gives True or False, as a test -/
theorem d_tval {e : Expr} (h : PE X e (tE X.K W wa)) (he : ∀ whole, isTrue e X.env whole = (do let v ← whole; standAt e.pos; holding [v] (truthy v)) := by intro _; rfl) : PT X e (tT X.K W (wTest wa)) :=
  PT.imp (pt_val h he) fun _ _ _ => i_test
theorem i_and {σ : L2.St} {H : Hp} {Q : Bool → Hp → Prop} (h : tT K W (wAnd t u) σ H Q) : tAnd (tT K W t) (tT K W u) σ H Q := by
  obtain ⟨F, C, ρ, P, PX, hs, en, xr, w, k⟩ := h
  refine ⟨F, C, ρ, _, PX, hs, en, xr, w, fun b F1 H1 C1 e1 h1 q => ?_⟩
  cases b with
  | true =>
    rw [if_pos rfl] at q
    rw [if_pos rfl]
    exact ⟨F1, C1, ρ, P, PX, h1, en.mono e1, xr.mono e1, q, k.mono e1⟩
  | false =>
    rw [if_neg Bool.false_ne_true] at q
    rw [if_neg Bool.false_ne_true]
    exact k _ F1 H1 C1 e1 h1 q
theorem i_or {σ : L2.St} {H : Hp} {Q : Bool → Hp → Prop} (h : tT K W (wOr t u) σ H Q) : tOr (tT K W t) (tT K W u) σ H Q := by
  obtain ⟨F, C, ρ, P, PX, hs, en, xr, w, k⟩ := h
  refine ⟨F, C, ρ, _, PX, hs, en, xr, w, fun b F1 H1 C1 e1 h1 q => ?_⟩
  cases b with
  | false =>
    rw [if_neg Bool.false_ne_true] at q
    rw [if_neg Bool.false_ne_true]
    exact ⟨F1, C1, ρ, P, PX, h1, en.mono e1, xr.mono e1, q, k.mono e1⟩
  | true =>
    rw [if_pos rfl] at q
    rw [if_pos rfl]
    exact k _ F1 H1 C1 e1 h1 q
theorem d_and1 (ha : PT X a (tT X.K W t)) : PW X (.BoolOp .And [a] pos) (tT X.K W t) := pw_and1 ha
theorem d_or1 (ha : PT X a (tT X.K W t)) : PW X (.BoolOp .Or [a] pos) (tT X.K W t) := pw_or1 ha
theorem d_and (ha : PT X a (tT X.K W t)) (hb : PW X (.BoolOp .And (b :: rest) pos) (tT X.K W u)) : PW X (.BoolOp .And (a :: b :: rest) pos) (tT X.K W (wAnd t u)) := PW.imp (pw_and ha hb) fun _ _ _ => i_and
theorem d_or (ha : PT X a (tT X.K W t)) (hb : PW X (.BoolOp .Or (b :: rest) pos) (tT X.K W u)) : PW X (.BoolOp .Or (a :: b :: rest) pos) (tT X.K W (wOr t u)) := PW.imp (pw_or ha hb) fun _ _ _ => i_or
theorem d_not (ha : PT X a (tT X.K W t)) : PT X (.UnaryOp .Not a pos) (tT X.K W (wNot t)) := PT.imp (pt_not ha) fun σ H Q ⟨F, C, ρ, P, PX, hs, en, xr, w, k⟩ =>
  ⟨F, C, ρ, _, PX, hs, en, xr, w, fun b F1 H1 C1 e1 h1 q => k _ F1 H1 C1 e1 h1 q⟩
theorem d_ifE {c : Expr} (hc : PT X c (tT X.K W t)) (ha : PE X a (tE X.K W wa)) (hb : PE X b (tE X.K W wb)) : PE X (.IfExp c a b pos) (tE X.K W (wIf t wa wb)) := PE.imp (pe_ifExp hc ha hb) fun σ H Q ⟨F, C, ρ, P, PX, hs, en, xr, w, k⟩ =>
  ⟨F, C, ρ, _, PX, hs, en, xr, w, fun b F1 H1 C1 e1 h1 q => by
    cases b with
    | true =>
      rw [if_pos rfl] at q
      rw [if_pos rfl]
      exact ⟨F1, C1, ρ, P, PX, h1, en.mono e1, xr.mono e1, q, k.mono e1⟩
    | false =>
      rw [if_neg Bool.false_ne_true] at q
      rw [if_neg Bool.false_ne_true]
      exact ⟨F1, C1, ρ, P, PX, h1, en.mono e1, xr.mono e1, q, k.mono e1⟩⟩
/-- and, or, not as values of True and False -/
def wAndV (a b : DE) (ρ : DEnv) (C : Cells) (P : DK) (PX : DX) : Prop := a ρ C (fun x C1 => match x with | .bl k => if k = true then b ρ C1 P PX else P (.bl false) C1 | _ => False) PX
def wOrV (a b : DE) (ρ : DEnv) (C : Cells) (P : DK) (PX : DX) : Prop := a ρ C (fun x C1 => match x with | .bl k => if k = true then P (.bl true) C1 else b ρ C1 P PX | _ => False) PX
def wNotV (a : DE) (ρ : DEnv) (C : Cells) (P : DK) (PX : DX) : Prop := a ρ C (fun x C1 => match x with | .bl k => P (.bl (!k)) C1 | _ => False) PX
theorem d_one {op} (h : PE X a (tE X.K W wa)) : PE X (.BoolOp op [a] pos) (tE X.K W wa) := pe_one h
theorem d_andV (ha : PE X a (tE X.K W wa)) (hb : PE X (.BoolOp .And (b :: rest) pos) (tE X.K W wb)) : PE X (.BoolOp .And (a :: b :: rest) pos) (tE X.K W (wAndV wa wb)) := PE.imp (pe_and ha hb) fun σ H Q ⟨F, C, ρ, P, PX, hs, en, xr, w, k⟩ =>
  ⟨F, C, ρ, _, PX, hs, en, xr, w, fun v F1 H1 d C1 e1 h1 r q => by
    cases r <;> first | exact q.elim | skip
    rename_i b
    refine ⟨b, rfl, ?_⟩
    cases b with
    | true => exact ⟨F1, C1, ρ, P, PX, h1, en.mono e1, xr.mono e1, q, k.mono e1⟩
    | false => exact k _ F1 H1 _ C1 e1 h1 (.bl _) q⟩
theorem d_orV (ha : PE X a (tE X.K W wa)) (hb : PE X (.BoolOp .Or (b :: rest) pos) (tE X.K W wb)) : PE X (.BoolOp .Or (a :: b :: rest) pos) (tE X.K W (wOrV wa wb)) := PE.imp (pe_or ha hb) fun σ H Q ⟨F, C, ρ, P, PX, hs, en, xr, w, k⟩ =>
  ⟨F, C, ρ, _, PX, hs, en, xr, w, fun v F1 H1 d C1 e1 h1 r q => by
    cases r <;> first | exact q.elim | skip
    rename_i b
    refine ⟨b, rfl, ?_⟩
    cases b with
    | false => exact ⟨F1, C1, ρ, P, PX, h1, en.mono e1, xr.mono e1, q, k.mono e1⟩
    | true => exact k _ F1 H1 _ C1 e1 h1 (.bl _) q⟩
theorem d_notV (ha : PE X a (tE X.K W wa)) : PE X (.UnaryOp .Not a pos) (tE X.K W (wNotV wa)) := PE.imp (pe_not ha) fun σ H Q ⟨F, C, ρ, P, PX, hs, en, xr, w, k⟩ =>
  ⟨F, C, ρ, _, PX, hs, en, xr, w, fun v F1 H1 d C1 e1 h1 r q => by
    cases r <;> first | exact q.elim | skip
    exact ⟨_, rfl, k _ F1 H1 _ C1 e1 h1 (.bl _) q⟩⟩
end
/-- a < b < c -/
def wChain (r r' : DR2) (a b c : DE) (ρ : DEnv) (C : Cells) (P : DK) (PX : DX) : Prop := a ρ C (fun x C1 => b ρ C1 (fun y C2 => r x y C2 fun z C3 => match z with
  | .bl k => if k = true then c ρ C3 (fun u C4 => r' y u C4 P) PX else P (.bl false) C3
  | _ => False) PX) PX

/-! ### displays -/
def wTup (a : DA) (ρ : DEnv) (C : Cells) (P : DK) (PX : DX) : Prop := a ρ C (fun ds C1 => ds.length ≤ 100000 ∧ P (.tup ds) C1) PX
def wLst (a : DA) (ρ : DEnv) (C : Cells) (P : DK) (PX : DX) : Prop := a ρ C (fun ds C1 => ds.length ≤ 100000 ∧ P (.lst ds) C1) PX
/-- a list that is still to change -/
def wLstC (a : DA) (ρ : DEnv) (C : Cells) (P : DK) (PX : DX) : Prop := a ρ C (fun ds C1 => ds.length ≤ 100000 ∧ ∀ p, C1 p = none → P (.ptr p) (cput C1 p (.lst ds))) PX
theorem sz_of {n : Nat} (h : n ≤ 100000) : n ≤ sizeLine := Nat.le_trans h (by decide)
theorem sz_lt {n : Nat} (h : n < 100000) : n < sizeLine := Nat.lt_of_lt_of_le h (by decide)
section
variable {X : Cx} {W : WX} {K : PySem.W.Frag} {es : List Expr} {wr : DA} {pos : Pos}
theorem Hs.newL {F : Hp} {C : Cells} {H : Hp} {xs : List V} {ds : List D} (h : Hs K F C H) (r : RepL K F xs ds) {p : Addr} (hp : H p = none) : Ex F (upd F p (.lst xs)) ∧ Hs K (upd F p (.lst xs)) C (upd H p (.lst xs)) ∧ Rep K (upd F p (.lst xs)) (.ref p) (.lst ds) := by
  obtain ⟨e, h2⟩ := h.lay (o := .lst xs) hp
  exact ⟨e, h2, .lst (.of upd_same) (r.mono e)⟩
theorem Hs.newT {F : Hp} {C : Cells} {H : Hp} {xs : List V} {ds : List D} (h : Hs K F C H) (r : RepL K F xs ds) {p : Addr} (hp : H p = none) : Ex F (upd F p (.tup xs)) ∧ Hs K (upd F p (.tup xs)) C (upd H p (.tup xs)) ∧ Rep K (upd F p (.tup xs)) (.ref p) (.tup ds) := by
  obtain ⟨e, h2⟩ := h.lay (o := .tup xs) hp
  exact ⟨e, h2, .tup upd_same (r.mono e)⟩
theorem Hs.newC {F : Hp} {C : Cells} {H : Hp} {xs : List V} {ds : List D} (h : Hs K F C H) (r : RepL K F xs ds) {p : Addr} (hp : H p = none) : C p = none ∧ Hs K F (cput C p (.lst ds)) (upd H p (.lst xs)) :=
  ⟨(h.fresh hp).2, h.put (h.fresh hp).1 ⟨xs, upd_same, r⟩⟩
theorem d_tup {x1} (h : PA X es (tA X.K W wr)) : PE X (.Tuple es x1 pos) (tE X.K W (wTup wr)) := PE.imp (pe_tup h) fun σ H Q ⟨F, C, ρ, P, PX, hs, en, xr, w, k⟩ =>
  ⟨F, C, ρ, _, PX, hs, en, xr, w, fun vs F1 H1 ds C1 e1 h1 r q => ⟨by rw [r.length]; exact sz_of q.1, fun p hp => by
    obtain ⟨e2, h2, r2⟩ := h1.newT r hp
    exact k _ _ _ _ C1 (e1.trans e2) h2 r2 q.2⟩⟩
theorem d_lst (h : PA X es (tA X.K W wr)) : PE X (.List es pos) (tE X.K W (wLst wr)) := PE.imp (pe_lst h) fun σ H Q ⟨F, C, ρ, P, PX, hs, en, xr, w, k⟩ =>
  ⟨F, C, ρ, _, PX, hs, en, xr, w, fun vs F1 H1 ds C1 e1 h1 r q => ⟨by rw [r.length]; exact sz_of q.1, fun p hp => by
    obtain ⟨e2, h2, r2⟩ := h1.newL r hp
    exact k _ _ _ _ C1 (e1.trans e2) h2 r2 q.2⟩⟩
theorem d_lstC (h : PA X es (tA X.K W wr)) : PE X (.List es pos) (tE X.K W (wLstC wr)) := PE.imp (pe_lst h) fun σ H Q ⟨F, C, ρ, P, PX, hs, en, xr, w, k⟩ =>
  ⟨F, C, ρ, _, PX, hs, en, xr, w, fun vs F1 H1 ds C1 e1 h1 r q => ⟨by rw [r.length]; exact sz_of q.1, fun p hp => by
    obtain ⟨c0, h2⟩ := h1.newC r hp
    exact k _ _ _ _ _ e1 h2 (.ptr p) (q.2 p c0)⟩⟩
theorem d_chain {op op' : CmpOp} {r r' : R2} {rd rd' : DR2} {a b c : Expr} {wa wb wc : DE} (ho : OpR X (compareOp op) r) (hr : SimR X.K r rd) (ho' : OpR X (compareOp op') r') (hr' : SimR X.K r' rd')
    (h : PE X (.Compare a [op, op'] [b, c] pos) (tChain r r' (tE X.K W wa) (tE X.K W wb) (tE X.K W wc))) : PE X (.Compare a [op, op'] [b, c] pos) (tE X.K W (wChain rd rd' wa wb wc)) := PE.imp h fun σ H Q ⟨F, C, ρ, P, PX, hs, en, xr, w, k⟩ =>
  ⟨F, C, ρ, _, PX, hs, en, xr, w, fun v F1 H1 d C1 e1 h1 rd1 q => ⟨F1, C1, ρ, _, PX, h1, en.mono e1, xr.mono e1, q, fun u F2 H2 du C2 e2 h2 ru q2 => hr F2 C2 H2 v u d du _ _ h2 (rd1.mono e2) ru q2 fun z F3 H3 dz C3 e3 h3 rz q3 => by
    cases rz <;> first | exact q3.elim | skip
    rename_i b
    refine ⟨b, rfl, ?_⟩
    cases b with
    | true => exact ⟨F3, C3, ρ, _, PX, h3, en.mono ((e1.trans e2).trans e3), xr.mono ((e1.trans e2).trans e3), q3, fun u4 F4 H4 d4 C4 e4 h4 r4 q4 => hr' F4 C4 H4 u u4 du d4 P Q h4 (ru.mono (e3.trans e4)) r4 q4 (k.mono (((e1.trans e2).trans e3).trans e4))⟩
    | false => exact k _ F3 H3 _ C3 ((e1.trans e2).trans e3) h3 (.bl _) q3⟩⟩
end
end DD

set_option Elab.async false
set_option linter.all false
set_option maxRecDepth 100000
set_option maxHeartbeats 4000000
/-! Readings over data: statements, targets, loops. -/
namespace DD
open PySem L2 PyProof.Rows

section
variable {X : Cx} {W : WX} {K : PySem.W.Frag}
theorem i_chain {r r' : R2} {rd rd' : DR2} {wa wb wc : DE} (hr : SimR K r rd) (hr' : SimR K r' rd') {σ : L2.St} {H : Hp} {Q : VK} (h : tE K W (wChain rd rd' wa wb wc) σ H Q) : tChain r r' (tE K W wa) (tE K W wb) (tE K W wc) σ H Q := by
  obtain ⟨F, C, ρ, P, PX, hs, en, xr, w, k⟩ := h
  exact ⟨F, C, ρ, _, PX, hs, en, xr, w, fun v F1 H1 d C1 e1 h1 rd1 q => ⟨F1, C1, ρ, _, PX, h1, en.mono e1, xr.mono e1, q, fun u F2 H2 du C2 e2 h2 ru q2 => hr F2 C2 H2 v u d du _ _ h2 (rd1.mono e2) ru q2 fun z F3 H3 dz C3 e3 h3 rz q3 => by
    cases rz <;> first | exact q3.elim | skip
    rename_i b
    refine ⟨b, rfl, ?_⟩
    cases b with
    | true => exact ⟨F3, C3, ρ, _, PX, h3, en.mono ((e1.trans e2).trans e3), xr.mono ((e1.trans e2).trans e3), q3, fun u4 F4 H4 d4 C4 e4 h4 r4 q4 => hr' F4 C4 H4 u u4 du d4 P Q h4 (ru.mono (e3.trans e4)) r4 q4 (k.mono (((e1.trans e2).trans e3).trans e4))⟩
    | false => exact k _ F3 H3 _ C3 ((e1.trans e2).trans e3) h3 (.bl _) q3⟩⟩
theorem d_chainE {op op' : CmpOp} {r r' : R2} {rd rd' : DR2} {a b c : Expr} {wa wb wc : DE} {pos : Pos} (ho : OpR X (compareOp op) r) (hr : SimR X.K r rd) (ho' : OpR X (compareOp op') r') (hr' : SimR X.K r' rd') (ha : PE X a (tE X.K W wa)) (hb : PE X b (tE X.K W wb)) (hc : PE X c (tE X.K W wc))
    (hm : lastMarks [op, op'] [b, c] = false := by with_unfolding_all rfl) : PE X (.Compare a [op, op'] [b, c] pos) (tE X.K W (wChain rd rd' wa wb wc)) := PE.imp (pe_chain ho ho' ha hb hc hm) fun _ _ _ => i_chain hr hr'
theorem d_chainT {op op' : CmpOp} {r r' : R2} {rd rd' : DR2} {a b c : Expr} {wa wb wc : DE} {pos : Pos} (ho : OpR X (compareOp op) r) (hr : SimR X.K r rd) (ho' : OpR X (compareOp op') r') (hr' : SimR X.K r' rd') (ha : PE X a (tE X.K W wa)) (hb : PE X b (tE X.K W wb)) (hc : PE X c (tE X.K W wc))
    (hm : lastMarks [op, op'] [b, c] = false := by with_unfolding_all rfl) : PT X (.Compare a [op, op'] [b, c] pos) (tT X.K W (wTest (wChain rd rd' wa wb wc))) := PT.imp (pt_chain ho ho' ha hb hc hm) fun σ H Q h => by
  obtain ⟨F, C, ρ, P, PX, hs, en, xr, w, k⟩ := i_test h
  exact i_chain hr hr' ⟨F, C, ρ, P, PX, hs, en, xr, w, k⟩
end

/-! ### statements -/
def KontS (K : PySem.W.Frag) (F : Hp) (P : DEnv → Cells → Prop) (Q : L2.St → Hp → Prop) : Prop := ∀ σ F' H ρ C, Ex F F' → Hs K F' C H → EnvR K F' σ ρ → P ρ C → Q σ H
theorem KontS.mono {K : PySem.W.Frag} {F F' : Hp} {P : DEnv → Cells → Prop} {Q : L2.St → Hp → Prop} (e : Ex F F') (h : KontS K F P Q) : KontS K F' P Q := fun σ F1 H ρ C e1 => h σ F1 H ρ C (e.trans e1)
structure EndsR (K : PySem.W.Frag) (F : Hp) (DE : DEnds) (D : Ends) : Prop where
  nx : KontS K F DE.nx D.nx
  rt : Kont K F DE.rt D.rt
  bk : KontS K F DE.bk D.bk
  ct : KontS K F DE.ct D.ct
theorem EndsR.mono {K : PySem.W.Frag} {F F' : Hp} {DE : DEnds} {D : Ends} (e : Ex F F') (h : EndsR K F DE D) : EndsR K F' DE D := ⟨h.nx.mono e, h.rt.mono e, h.bk.mono e, h.ct.mono e⟩
def tS (K : PySem.W.Frag) (W : WX) (w : DS) : TS := fun D σ H => ∃ F C ρ DE, Hs K F C H ∧ EnvR K F σ ρ ∧ ExR K F W DE.ex ∧ w DE ρ C ∧ EndsR K F DE D

def wNext (E : DEnds) (ρ : DEnv) (C : Cells) : Prop := E.nx ρ C
def wSeq (a b : DS) (E : DEnds) (ρ : DEnv) (C : Cells) : Prop := a { E with nx := fun ρ' C' => b E ρ' C' } ρ C
/-- the same, a place to stop at -/
def wSeqL (a b : DS) (E : DEnds) (ρ : DEnv) (C : Cells) : Prop := a { E with nx := fun ρ' C' => b E ρ' C' } ρ C
def wBreak (E : DEnds) (ρ : DEnv) (C : Cells) : Prop := E.bk ρ C
def wCont (E : DEnds) (ρ : DEnv) (C : Cells) : Prop := E.ct ρ C
def wDrop (e : DE) (E : DEnds) (ρ : DEnv) (C : Cells) : Prop := e ρ C (fun _ C1 => E.nx ρ C1) E.ex
def wRet (e : DE) (E : DEnds) (ρ : DEnv) (C : Cells) : Prop := e ρ C E.rt E.ex
def wRetN (E : DEnds) (_ : DEnv) (C : Cells) : Prop := E.rt .non C
def wIfS (t : DT) (a b : DS) (E : DEnds) (ρ : DEnv) (C : Cells) : Prop := t ρ C (fun k C1 => if k = true then a E ρ C1 else b E ρ C1) E.ex
/-- a list that was built, handed back: it does not change any more -/
def wRetF (e : DE) (E : DEnds) (ρ : DEnv) (C : Cells) : Prop := e ρ C (fun d C1 => match d with
  | .ptr p => match C1 p with
    | some (.lst ds) => ∃ C2, Sub C2 C1 ∧ C2 p = none ∧ E.rt (.lst ds) C2
    | some (.dK kvs) => ∃ C2, Sub C2 C1 ∧ C2 p = none ∧ E.rt (.dK kvs) C2
    | some (.dT kvs) => ∃ C2, Sub C2 C1 ∧ C2 p = none ∧ E.rt (.dT kvs) C2
    | some (.ins Cl fs) => ∃ C2, Sub C2 C1 ∧ C2 p = none ∧ E.rt (.ins Cl fs) C2
    | _ => False
  | d => E.rt d C1) E.ex
/-- a cell that does not change any more: what the name at i holds is data from here on -/
def wFrz (i : Nat) (E : DEnds) (ρ : DEnv) (C : Cells) : Prop := match (ρ[i]? : Option (Option D)) with
  | some (some (.ptr p)) => match C p with
    | some (.lst ds) => ∃ C2, Sub C2 C ∧ C2 p = none ∧ E.nx (ρ.set i (some (.lst ds))) C2
    | some (.dK kvs) => ∃ C2, Sub C2 C ∧ C2 p = none ∧ E.nx (ρ.set i (some (.dK kvs))) C2
    | some (.dT kvs) => ∃ C2, Sub C2 C ∧ C2 p = none ∧ E.nx (ρ.set i (some (.dT kvs))) C2
    | some (.ins Cl fs) => ∃ C2, Sub C2 C ∧ C2 p = none ∧ E.nx (ρ.set i (some (.ins Cl fs))) C2
    | _ => False
  | _ => False
/-- a cell's content as data -/
def Cell.toD : Cell → D
  | .lst ds => .lst ds
  | .ins C fs => .ins C fs
  | .dK kvs => .dK kvs
  | .dT kvs => .dT kvs
  | .lK kvs _ _ => .dK kvs
  | .lT kvs _ _ => .dT kvs
  | .dN _ _ => .non
  | .lN _ _ _ _ => .non
  | .dO _ _ => .non
  | .lO _ _ _ _ => .non
def Cell.isN : Cell → Bool
  | .dN _ _ => true
  | .lN _ _ _ _ => true
  | .dO _ _ => true
  | .lO _ _ _ _ => true
  | _ => false
section
variable {X : Cx} {W : WX} {K : PySem.W.Frag} {st : Stmt} {rest : List Stmt} {a b : DS} {e : Expr} {we : DE} {t : DT} {pos : Pos}
theorem ds_nil : PSs X [] (tS X.K W wNext) := PSs.imp pss_nil fun D σ H ⟨F, C, ρ, DE, hs, en, xr, w, er⟩ => er.nx σ F H ρ C (Ex.refl F) hs en w
theorem ds_cons (h1 : PS X st (tS X.K W a)) (h2 : PSs X rest (tS X.K W b)) : PSs X (st :: rest) (tS X.K W (wSeq a b)) := PSs.imp (pss_cons h1 h2) fun D σ H ⟨F, C, ρ, DE, hs, en, xr, w, er⟩ =>
  ⟨F, C, ρ, { DE with nx := fun ρ' C' => b DE ρ' C' }, hs, en, xr, w, ⟨fun σ1 F1 H1 ρ1 C1 e1 h1 n1 q => ⟨F1, C1, ρ1, DE, h1, n1, xr.mono e1, q, er.mono e1⟩, er.rt, er.bk, er.ct⟩⟩
theorem ds_consL (h1 : PS X st (tS X.K W a)) (h2 : PSs X rest (tS X.K W b)) : PSs X (st :: rest) (tS X.K W (wSeqL a b)) := ds_cons h1 h2
theorem ds_one (h1 : PS X st (tS X.K W a)) : PSs X [st] (tS X.K W a) := pss_one h1
theorem ds_pass : PS X (.Pass pos) (tS X.K W wNext) := PS.imp ps_pass fun D σ H ⟨F, C, ρ, DE, hs, en, xr, w, er⟩ => er.nx σ F H ρ C (Ex.refl F) hs en w
theorem ds_break : PS X (.Break pos) (tS X.K W wBreak) := PS.imp ps_break fun D σ H ⟨F, C, ρ, DE, hs, en, xr, w, er⟩ => er.bk σ F H ρ C (Ex.refl F) hs en w
theorem ds_continue : PS X (.Continue pos) (tS X.K W wCont) := PS.imp ps_continue fun D σ H ⟨F, C, ρ, DE, hs, en, xr, w, er⟩ => er.ct σ F H ρ C (Ex.refl F) hs en w
theorem ds_doc {x j pos'} : PS X (.Expr (.Constant (.str x) j pos) pos') (tS X.K W wNext) := PS.imp ps_doc fun D σ H ⟨F, C, ρ, DE, hs, en, xr, w, er⟩ => er.nx σ F H ρ C (Ex.refl F) hs en w
theorem ds_expr (he : PE X e (tE X.K W we)) (hs : swapsWith e none pos.line X.env = pure false := by rfl) : PS X (.Expr e pos) (tS X.K W (wDrop we)) := PS.imp (ps_expr he hs) fun D σ H ⟨F, C, ρ, DE, hs, en, xr, w, er⟩ =>
  ⟨F, C, ρ, _, _, hs, en, xr, w, fun v F1 H1 d C1 e1 h1 r q => er.nx σ F1 H1 ρ C1 e1 h1 (en.mono e1) q⟩
theorem ds_ret (he : PE X e (tE X.K W we)) : PS X (.Return (some e) pos) (tS X.K W (wRet we)) := PS.imp (ps_ret he) fun D σ H ⟨F, C, ρ, DE, hs, en, xr, w, er⟩ => ⟨F, C, ρ, _, _, hs, en, xr, w, er.rt⟩
theorem ds_retN : PS X (.Return none pos) (tS X.K W wRetN) := PS.imp ps_retN fun D σ H ⟨F, C, ρ, DE, hs, en, xr, w, er⟩ => er.rt _ F H _ C (Ex.refl F) hs .non w
/-- a dict that is not to change any more is locked for good -/
def Fz (Q : Hp → Prop) (H : Hp) : Prop := Q H ∨ ∃ d u, H d = some u ∧ Mut (some u) ∧ ∀ od, Q (upd H d (.frz od u))
theorem ps_fz {t : TS} (h : PS X st t) : PS X st (fun D σ H => t { D with rt := fun v H' => Fz (D.rt v) H' } σ H) := ⟨fun pins s σ H D I w => by
  refine thn (h.run pins s σ H _ I w) fun f s1 q => ?_
  cases f with
  | next => exact q
  | brk => exact q
  | cont => exact q
  | ret v =>
    obtain ⟨x, σ', H', I2, r, q⟩ := q
    rcases q with q | ⟨d, u, hd, mu, q⟩
    · exact ⟨x, σ', H', I2, r, q⟩
    · obtain ⟨od, I3⟩ := I2.lock hd mu
      exact ⟨x, σ', _, I3, r, q od⟩⟩
theorem pe_fz {t : TE} (h : PE X e t) : PE X e (fun σ H Q => t σ H fun v H' => Fz (Q v) H') := ⟨fun pins s σ H Q I w => by
  refine thn (h.run pins s σ H _ I w) fun u s1 ⟨x, H1, I1, rx, q⟩ => ?_
  rcases q with q | ⟨d, o, hd, mu, q⟩
  · exact ⟨x, H1, I1, rx, q⟩
  · obtain ⟨od, I3⟩ := I1.lock hd mu
    exact ⟨x, _, I3, rx, q od⟩⟩
theorem pss_fz {t : TS} (h : PSs X rest t) : PSs X rest (fun D σ H => Fz (t D σ) H) := ⟨fun pins s σ H D I w => by
  rcases w with w | ⟨d, u, hd, mu, w⟩
  · exact h.run pins s σ H D I w
  · obtain ⟨od, I3⟩ := I.lock hd mu
    exact h.run pins s σ _ D I3 (w od)⟩
theorem frz_go {F H : Hp} {C C2 : Cells} {p : Addr} {c : Cell} (h : Hs K F C H) (e : C p = some c) (s : Sub C2 C) (n : C2 p = none) (hc : match c with | .dK _ => False | .dT _ => False | _ => True) (hn : c.isN = false := by rfl) :
    ∃ F2, Ex F F2 ∧ Hs K F2 C2 H ∧ Rep K F2 (.ref p) c.toD := by
  obtain ⟨o, ho, ex, h2, f, r⟩ := h.freeze e s n
  refine ⟨_, ex, h2, ?_⟩
  have r := r.ex ex
  cases c with
  | lst ds => obtain ⟨xs, q, r⟩ := r; rw [ho] at q; cases q; exact .lst (.of f) r
  | ins _ ds => obtain ⟨dx, xs, q, r⟩ := r; rw [ho] at q; cases q; exact .ins f r
  | lK ds od vs => obtain ⟨q, r⟩ := r; rw [ho] at q; cases q; exact .dK f r
  | lT ds od vs => obtain ⟨q, r⟩ := r; rw [ho] at q; cases q; exact .dT f r
  | dK ds => exact hc.elim
  | dT ds => exact hc.elim
  | dN _ _ => cases hn
  | lN _ _ _ _ => cases hn
  | dO _ _ => cases hn
  | lO _ _ _ _ => cases hn
theorem frz_dic {F H : Hp} {C C2 : Cells} {p : Addr} {o : HO} (h : Hs K F C H) (f0 : F p = none) (s : Sub C2 C) (n : C2 p = none) (od : Obj) : Ex F (upd F p (.frz od o)) ∧ Hs K (upd F p (.frz od o)) C2 (upd H p (.frz od o)) := by
  refine ⟨Ex.new f0, fun a u q => ?_, fun a d q => ?_⟩
  · by_cases z : a = p
    · subst z; rw [upd_same] at q ⊢; exact .inl q
    · rw [upd_ne z] at q ⊢; exact h.ex a u q
  · have z : a ≠ p := cell_ne q n
    obtain ⟨f1, r1⟩ := h.cell a d (s a d q)
    exact ⟨by rw [upd_ne z]; exact f1, (r1.ex (Ex.new f0)).at (upd_ne z)⟩
/-- a cell handed on as data: as it is, or locked -/
theorem frz_any {F H : Hp} {C C2 : Cells} {p : Addr} {c : Cell} (h : Hs K F C H) (e : C p = some c) (s : Sub C2 C) (n : C2 p = none) {Q : Hp → Prop} (k : ∀ F2 H2, Ex F F2 → Hs K F2 C2 H2 → Rep K F2 (.ref p) c.toD → Q H2) (hn : c.isN = false := by rfl) : Fz Q H := by
  cases c with
  | dN _ _ => cases hn
  | lN _ _ _ _ => cases hn
  | dO _ _ => cases hn
  | lO _ _ _ _ => cases hn
  | dK t =>
    obtain ⟨f0, vs, h1, h2⟩ := h.cell p _ e
    refine .inr ⟨p, _, h1, trivial, fun od => ?_⟩
    obtain ⟨e2, h3⟩ := frz_dic (o := .dK vs) h f0 s n od
    exact k _ _ e2 h3 (.dK upd_same (h2.mono e2))
  | dT t =>
    obtain ⟨f0, vs, h1, h2⟩ := h.cell p _ e
    refine .inr ⟨p, _, h1, trivial, fun od => ?_⟩
    obtain ⟨e2, h3⟩ := frz_dic (o := .dT vs) h f0 s n od
    exact k _ _ e2 h3 (.dT upd_same (h2.mono e2))
  | _ =>
    obtain ⟨F2, e2, h2, r2⟩ := frz_go h e s n trivial rfl
    exact .inl (k F2 H e2 h2 r2)
theorem ds_retF (he : PE X e (tE X.K W we)) : PS X (.Return (some e) pos) (tS X.K W (wRetF we)) := PS.imp (ps_fz (ps_ret he)) fun D σ H ⟨F, C, ρ, DE, hs, en, xr, w, er⟩ => ⟨F, C, ρ, _, _, hs, en, xr, w, fun v F1 H1 d C1 e1 h1 r q => by
    cases r <;> first
      | (exact .inl (er.rt _ F1 H1 _ C1 e1 h1 (by constructor <;> assumption) q))
      | (rename_i p
         revert q
         show (match C1 p with | some (.lst ds) => _ | some (.dK ds) => _ | some (.dT ds) => _ | some (.ins Cl ds) => _ | _ => False) → _
         cases ec : C1 p with
         | none => exact fun z => z.elim
         | some c =>
           cases c <;> first | exact fun z => z.elim |
           (rintro ⟨C2, s2, n2, q⟩
            exact frz_any h1 ec s2 n2 fun F2 H2 e2 h2 r2 => er.rt _ F2 H2 _ C2 (e1.trans e2) h2 r2 q))⟩
theorem ds_frz {w : DS} (h : PSs X rest (tS X.K W w)) (i : Nat) : PSs X rest (tS X.K W (wSeq (wFrz i) w)) := PSs.imp (pss_fz h) fun Dn σ H ⟨F, C, ρ, DE, hs, en, xr, q, er⟩ => by
  revert q
  show (match (ρ[i]? : Option (Option D)) with | some (some (.ptr p)) => _ | _ => False) → _
  split
  · rename_i p hp
    obtain ⟨v, hv, rv⟩ := en.2 i _ hp
    cases rv
    show (match C p with | some (.lst ds) => _ | some (.dK ds) => _ | some (.dT ds) => _ | some (.ins Cl ds) => _ | _ => False) → _
    cases ec : C p with
    | none => exact fun z => z.elim
    | some c =>
      cases c <;> first | exact fun z => z.elim |
      (rintro ⟨C2, s2, n2, q⟩
       refine frz_any hs ec s2 n2 fun F2 H2 e2 h2 r2 => ?_
       have en2 := (en.mono e2).set (i := i) r2
       have es : σ.set i (some (.ref p)) = σ := by
         refine List.ext_getElem? fun j => ?_
         by_cases ij : i = j
         · subst ij
           have hl : i < σ.length := by
             rcases Nat.lt_or_ge i σ.length with z | z
             · exact z
             · rw [List.getElem?_eq_none z] at hv; cases hv
           rw [List.getElem?_set_self hl, hv]
         · rw [List.getElem?_set_ne ij]
       rw [es] at en2
       exact ⟨F2, C2, _, DE, h2, en2, xr.mono e2, q, er.mono e2⟩)
  · exact fun z => z.elim
theorem ds_if {c : Expr} {p q : List Stmt} (hc : PT X c (tT X.K W t)) (ha : PSs X p (tS X.K W a)) (hb : PSs X q (tS X.K W b)) : PS X (.If c p q pos) (tS X.K W (wIfS t a b)) := PS.imp (ps_if hc ha hb) fun D σ H ⟨F, C, ρ, DE, hs, en, xr, w, er⟩ =>
  ⟨F, C, ρ, _, _, hs, en, xr, w, fun k F1 H1 C1 e1 h1 q => by
    cases k with
    | true =>
      rw [if_pos rfl] at q
      rw [if_pos rfl]
      exact ⟨F1, C1, ρ, DE, h1, en.mono e1, xr.mono e1, q, er.mono e1⟩
    | false =>
      rw [if_neg Bool.false_ne_true] at q
      rw [if_neg Bool.false_ne_true]
      exact ⟨F1, C1, ρ, DE, h1, en.mono e1, xr.mono e1, q, er.mono e1⟩⟩
end

/-! ### targets -/
inductive Tgt where
  | name (i : Nat)
  | tup (ts : List Tgt)
mutual
def Tgt.tg (K : PySem.W.Frag) : Tgt → TG
  | .name i => gName i
  | .tup ts => gTup K ts.length (tgs K ts)
def tgs (K : PySem.W.Frag) : List Tgt → TGs
  | [] => gNil
  | t :: r => gCons (t.tg K) (tgs K r)
end
mutual
def Tgt.dg : Tgt → D → DEnv → Option DEnv
  | .name i, d, ρ => some (ρ.set i (some d))
  | .tup ts, d, ρ => match d with
    | .tup ds => dgs ts ds ρ
    | .ktup ds => dgs ts ds ρ
    | _ => none
def dgs : List Tgt → List D → DEnv → Option DEnv
  | [], ds, ρ => match ds with
    | [] => some ρ
    | _ => none
  | t :: r, ds, ρ => match ds with
    | d :: ds => match t.dg d ρ with
      | some ρ' => dgs r ds ρ'
      | none => none
    | [] => none
end
mutual
def Tgt.slots : Tgt → List Nat
  | .name i => [i]
  | .tup ts => slotsAll ts
def slotsAll : List Tgt → List Nat
  | [] => []
  | t :: r => t.slots ++ slotsAll r
end
theorem wipe_at (σ : L2.St) : ∀ (vs : List Nat) (j : Nat), (wipe σ vs)[j]? = if j ∈ vs then (σ[j]?).map (fun _ => none) else σ[j]?
  | [], j => by simp [wipe]
  | v :: vs, j => by
    show ((wipe σ vs).set v none)[j]? = _
    rw [List.getElem?_set, wipe_at σ vs j, wipe_length]
    by_cases h : v = j
    · subst h
      rw [if_pos rfl, if_pos (List.mem_cons_self)]
      by_cases hl : v < σ.length
      · rw [if_pos hl, List.getElem?_eq_getElem hl]; rfl
      · rw [if_neg hl, List.getElem?_eq_none (by omega)]; rfl
    · rw [if_neg h]
      by_cases hm : j ∈ vs
      · rw [if_pos hm, if_pos (List.mem_cons_of_mem _ hm)]
      · rw [if_neg hm, if_neg (by simp only [List.mem_cons, not_or]; exact ⟨fun e => h e.symm, hm⟩)]
theorem wipe_set {σ : L2.St} {vs : List Nat} {i : Nat} {x : Option V} (h : i ∈ vs) : wipe (σ.set i x) vs = wipe σ vs := by
  refine List.ext_getElem? fun j => ?_
  rw [wipe_at, wipe_at]
  by_cases hj : j ∈ vs
  · rw [if_pos hj, if_pos hj, List.getElem?_set]
    by_cases e : i = j
    · subst e
      rw [if_pos rfl]
      by_cases hl : i < σ.length
      · rw [if_pos hl, List.getElem?_eq_getElem hl]; rfl
      · rw [if_neg hl, List.getElem?_eq_none (by omega)]
    · rw [if_neg e]
  · rw [if_neg hj, if_neg hj, List.getElem?_set_ne (fun e => hj (by rw [← e]; exact h))]
theorem wipe_wipe (σ : L2.St) (vs : List Nat) : wipe (wipe σ vs) vs = wipe σ vs := by
  refine List.ext_getElem? fun j => ?_
  rw [wipe_at, wipe_at]
  by_cases hj : j ∈ vs
  · rw [if_pos hj, if_pos hj]
    cases σ[j]? <;> rfl
  · rw [if_neg hj, if_neg hj]
section
variable {K : PySem.W.Frag} {F H : Hp}
mutual
theorem tg_ok {Q : L2.St → Hp → Prop} : ∀ (t : Tgt) {v : V} {d : D} {σ : L2.St} {ρ ρ' : DEnv}, Ex F H → Rep K F v d → EnvR K F σ ρ → t.dg d ρ = some ρ' → (∀ σ', EnvR K F σ' ρ' → (∀ vs, (∀ i ∈ t.slots, i ∈ vs) → wipe σ' vs = wipe σ vs) → Q σ' H) → (t.tg K) v σ H Q
  | .name i, v, d, σ, ρ, ρ', ex, r, en, h, k => by
    simp only [Tgt.dg, Option.some.injEq] at h
    subst h
    show Q (σ.set i (some v)) H
    exact k _ (en.set r) fun vs hv => wipe_set (hv i (by simp [Tgt.slots]))
  | .tup ts, v, d, σ, ρ, ρ', ex, r, en, h, k => by
    simp only [Tgt.dg] at h
    cases r <;> first | (simp at h; done) | skip
    · rename_i a xs ds hq hr
      simp only at h
      simp only [Tgt.tg]
      refine ⟨a, xs, rfl, .of (ex.nd hq rfl), ?_, tgs_ok ts ex hr en h (fun σ' e' hw => k σ' e' (by simpa only [Tgt.slots] using hw))⟩
      rw [hr.length]
      exact dgs_len ts h
    · rename_i a xs ds hq hr
      simp only at h
      simp only [Tgt.tg]
      refine ⟨a, xs, rfl, ex_t ex hq, ?_, tgs_ok ts ex hr en h (fun σ' e' hw => k σ' e' (by simpa only [Tgt.slots] using hw))⟩
      rw [hr.length]
      exact dgs_len ts h
theorem tgs_ok {Q : L2.St → Hp → Prop} : ∀ (ts : List Tgt) {vs : List V} {ds : List D} {σ : L2.St} {ρ ρ' : DEnv}, Ex F H → RepL K F vs ds → EnvR K F σ ρ → dgs ts ds ρ = some ρ' → (∀ σ', EnvR K F σ' ρ' → (∀ ws, (∀ i ∈ slotsAll ts, i ∈ ws) → wipe σ' ws = wipe σ ws) → Q σ' H) → (tgs K ts) vs σ H Q
  | [], vs, ds, σ, ρ, ρ', ex, r, en, h, k => by
    cases r with
    | nil =>
      simp only [dgs, Option.some.injEq] at h
      subst h
      simp only [tgs]
      exact ⟨rfl, k σ en fun _ _ => rfl⟩
    | cons _ _ => simp [dgs] at h
  | t :: rest, vs, ds, σ, ρ, ρ', ex, r, en, h, k => by
    cases r with
    | nil => simp [dgs] at h
    | cons r1 r2 =>
      simp only [dgs] at h
      split at h
      · rename_i ρ1 h1
        simp only [tgs]
        refine ⟨_, _, rfl, tg_ok t ex r1 en h1 fun σ1 en1 hw1 => tgs_ok rest ex r2 en1 h fun σ2 en2 hw2 => k σ2 en2 fun ws hin => ?_⟩
        simp only [slotsAll, List.mem_append] at hin
        rw [hw2 ws (fun i hi => hin i (.inr hi)), hw1 ws (fun i hi => hin i (.inl hi))]
      · cases h
theorem dgs_len : ∀ (ts : List Tgt) {ds : List D} {ρ ρ' : DEnv}, dgs ts ds ρ = some ρ' → ds.length = ts.length
  | [], ds, ρ, ρ', h => by
    cases ds with
    | nil => rfl
    | cons _ _ => simp [dgs] at h
  | t :: rest, ds, ρ, ρ', h => by
    cases ds with
    | nil => simp [dgs] at h
    | cons d ds =>
      simp only [dgs] at h
      split at h
      · exact congrArg (· + 1) (dgs_len rest h)
      · cases h
end
end
section
variable {X : Cx} {pos : Pos}
theorem dg_name {x : Str} (i : Nat) (hN : X.N.Nodup) (hi : X.N[i]? = some x := by rfl) (hx : Loc X.env.scope x := by first | exact Or.inl rfl | exact Or.inr rfl) (hf : X.fn x = true ∨ X.env.scope.names.lookup x = some .local := by first | exact .inl rfl | exact .inr rfl | assumption) : PG X (.Name x pos) (Tgt.tg X.K (.name i)) := by
  simp only [Tgt.tg]
  exact pg_name hN hi hx hf
theorem dgs_nil : PGs X [] (tgs X.K []) := by
  simp only [tgs]
  exact pgs_nil
theorem dgs_cons {e : Expr} {es : List Expr} {t : Tgt} {r : List Tgt} (h1 : PG X e (t.tg X.K)) (h2 : PGs X es (tgs X.K r))
    (hs : (assignEach (e :: es) X.env).map (·.2) = assign e X.env :: (assignEach es X.env).map (·.2) := by rfl) : PGs X (e :: es) (tgs X.K (t :: r)) := by
  simp only [tgs]
  exact pgs_cons h1 h2 hs
theorem dg_tup {es : List Expr} {k : Nat} {ts : List Tgt} (hc : X.calm = true) (h : PGs X es (tgs X.K ts))
    (hn : (assignEach es X.env).length = ts.length := by rfl) (hst : (assignEach es X.env).findIdx? (·.1) = none := by rfl) : PG X (.Tuple es k pos) (Tgt.tg X.K (.tup ts)) := by
  simp only [Tgt.tg]
  exact pg_tup hc h hn hst
end
/-- target = e -/
def wAsg (e : DE) (t : Tgt) (E : DEnds) (ρ : DEnv) (C : Cells) : Prop := e ρ C (fun d C1 => match t.dg d ρ with | some ρ' => E.nx ρ' C1 | none => False) E.ex
def wSet (i : Nat) (e : DE) (E : DEnds) (ρ : DEnv) (C : Cells) : Prop := e ρ C (fun d C1 => E.nx (ρ.set i (some d)) C1) E.ex
/-- name op= e -/
def wAug (i : Nat) (e : DE) (r : DR2) (E : DEnds) (ρ : DEnv) (C : Cells) : Prop := match (ρ[i]? : Option (Option D)) with
  | some (some x) => e ρ C (fun y C1 => r x y C1 (fun z C2 => E.nx (ρ.set i (some z)) C2)) E.ex
  | _ => False
section
variable {X : Cx} {W : WX} {K : PySem.W.Frag} {e : Expr} {we : DE} {pos : Pos}
theorem ds_asg {tg : Expr} {t : Tgt} (he : PE X e (tE X.K W we)) (hg : PG X tg (t.tg X.K)) (hs : swapsWithSole [tg] e pos.line X.env = pure false := by rfl) (hw : swappedStores [tg] e X.env = pure none := by rfl)
    (h1 : (assignEach [tg] X.env).map (·.2) = [assign tg X.env] := by rfl) : PS X (.Assign [tg] e pos) (tS X.K W (wAsg we t)) := PS.imp (ps_asg he hg hs hw h1) fun D σ H ⟨F, C, ρ, DE, hs, en, xr, w, er⟩ =>
  ⟨F, C, ρ, _, _, hs, en, xr, w, fun v F1 H1 d C1 e1 h1 r q => by
    revert q
    dsimp only
    split
    · rename_i ρ' hd
      exact fun q => tg_ok t h1.ex r (en.mono e1) hd fun σ' en' _ => er.nx σ' F1 H1 ρ' C1 e1 h1 en' q
    · exact fun z => z.elim⟩
/-- name = e -/
theorem ds_set (i : Nat) {x : Str} {pos' : Pos} (hN : X.N.Nodup) (he : PE X e (tE X.K W we)) (hi : X.N[i]? = some x := by rfl) (hx : Loc X.env.scope x := by first | exact Or.inl rfl | exact Or.inr rfl) (hs : swapsWith e (some (.Name x pos')) pos.line X.env = pure false := by rfl) (hf : X.fn x = true ∨ X.env.scope.names.lookup x = some .local := by first | exact .inl rfl | exact .inr rfl | assumption) :
    PS X (.Assign [.Name x pos'] e pos) (tS X.K W (wSet i we)) := PS.imp (ps_set hN hi hx he hs hf) fun D σ H ⟨F, C, ρ, DE, hs, en, xr, w, er⟩ =>
  ⟨F, C, ρ, _, _, hs, en, xr, w, fun v F1 H1 d C1 e1 h1 r q => er.nx _ F1 H1 _ C1 e1 h1 ((en.mono e1).set r) q⟩
theorem ds_aug (i : Nat) {x : Str} {op : Operator} {ti : TIp} {rd : DR2} {pos' : Pos} (hN : X.N.Nodup) (ho : PIp X op ti) (hr : SimR X.K ti rd) (he : PE X e (tE X.K W we)) (hi : X.N[i]? = some x := by rfl) (hx : Loc X.env.scope x := by first | exact Or.inl rfl | exact Or.inr rfl) (hf : X.fn x = true ∨ X.env.scope.names.lookup x = some .local := by first | exact .inl rfl | exact .inr rfl | assumption) :
    PS X (.AugAssign (.Name x pos') op e pos) (tS X.K W (wAug i we rd)) := PS.imp (ps_aug hN hi hx he ho hf) fun Dn σ H ⟨F, C, ρ, DE, hs, en, xr, w, er⟩ => by
  revert w
  show (match (ρ[i]? : Option (Option D)) with | some (some x) => _ | _ => False) → _
  split
  · rename_i x hx
    intro w
    obtain ⟨v, hv, rv⟩ := en.2 i _ hx
    exact ⟨v, hv, F, C, ρ, _, _, hs, en, xr, w, fun u F1 H1 d C1 e1 h1 r q => hr F1 C1 H1 v u x d _ _ h1 (rv.mono e1) r q fun z F2 H2 dz C2 e2 h2 rz q2 => er.nx _ F2 H2 _ C2 (e1.trans e2) h2 ((en.mono (e1.trans e2)).set rz) q2⟩
  · exact fun z => z.elim
theorem s_ipAdd : SimR K (ipI fun i j => i + j) dAdd := fun F C H x y dx dy P Q hs rx ry w k => by
  cases rx <;> cases ry <;> first | exact w.elim | exact ⟨_, _, rfl, rfl, k _ F H _ C (Ex.refl F) hs (.int _) w⟩
theorem s_ipSub : SimR K (ipI fun i j => i - j) dSub := fun F C H x y dx dy P Q hs rx ry w k => by
  cases rx <;> cases ry <;> first | exact w.elim | exact ⟨_, _, rfl, rfl, k _ F H _ C (Ex.refl F) hs (.int _) w⟩
end

/-! ### what is walked -/
structure DIt where
  items : List D
  still : Cells → Prop
abbrev DI := DEnv → Cells → (DIt → Cells → Prop) → DX → Prop
def ItR (K : PySem.W.Frag) (F : Hp) (J : It) (Jd : DIt) : Prop := ∀ F' H C, Ex F F' → Hs K F' C H → Jd.still C →
  (∀ (i : Nat) (d : D), Jd.items[i]? = some d → J.go i H ∧ ∀ x H', J.yld i H x H' → ∃ F'', Ex F' F'' ∧ Hs K F'' C H' ∧ Rep K F'' x d) ∧ J.stop Jd.items.length H
theorem ItR.mono {K : PySem.W.Frag} {F F' : Hp} {J : It} {Jd : DIt} (e : Ex F F') (h : ItR K F J Jd) : ItR K F' J Jd := fun F1 H C e1 => h F1 H C (e.trans e1)
def tI (K : PySem.W.Frag) (W : WX) (w : DI) : TI := fun σ H R => ∃ F C ρ P PX, Hs K F C H ∧ EnvR K F σ ρ ∧ ExR K F W PX ∧ w ρ C P PX ∧ ∀ J F' H' Jd C', Ex F F' → Hs K F' C' H' → ItR K F' J Jd → P Jd C' → R J H'
theorem PI.imp {X : Cx} {tg it : Expr} {t t' : TI} (h : PI X tg it t) (i : ∀ σ H R, t' σ H R → t σ H R) : PI X tg it t' := ⟨fun pins s σ H R I w => h.run pins s σ H R I (i σ H R w)⟩
def frozen : Cells → Prop := fun _ => True
/-- a list, frozen or a cell -/
def wItL (e : DE) (ρ : DEnv) (C : Cells) (P : DIt → Cells → Prop) (PX : DX) : Prop := e ρ C (fun d C1 => match d with
  | .lst ds => P ⟨ds, frozen⟩ C1
  | .ptr a => match C1 a with
    | some (.lst ds) => P ⟨ds, fun C' => C' a = some (.lst ds)⟩ C1
    | _ => False
  | _ => False) PX
def wItT (e : DE) (ρ : DEnv) (C : Cells) (P : DIt → Cells → Prop) (PX : DX) : Prop := e ρ C (fun d C1 => match d with
  | .tup ds => P ⟨ds, frozen⟩ C1
  | .ktup ds => P ⟨ds, frozen⟩ C1
  | _ => False) PX
def rngD (lo : Int) (n : Nat) : List D := (List.range n).map fun (k : Nat) => D.int (lo + (k : Int))
def wRng1 (a : DA) (ρ : DEnv) (C : Cells) (P : DIt → Cells → Prop) (PX : DX) : Prop := a ρ C (fun ds C1 => match ds with
  | [.int j] => (-(2 ^ 62) ≤ j ∧ j < 2 ^ 62) ∧ P ⟨rngD 0 j.toNat, frozen⟩ C1
  | _ => False) PX
def wRng2 (a : DA) (ρ : DEnv) (C : Cells) (P : DIt → Cells → Prop) (PX : DX) : Prop := a ρ C (fun ds C1 => match ds with
  | [.int i, .int j] => (-(2 ^ 62) ≤ i ∧ i < 2 ^ 62 ∧ -(2 ^ 62) ≤ j ∧ j < 2 ^ 62) ∧ P ⟨rngD i (j - i).toNat, frozen⟩ C1
  | _ => False) PX
theorem rngD_len (lo : Int) (n : Nat) : (rngD lo n).length = n := by simp [rngD]
theorem rngD_get {lo : Int} {n i : Nat} {d : D} (h : (rngD lo n)[i]? = some d) : i < n ∧ d = .int (lo + (i : Int)) := by
  unfold rngD at h
  rw [List.getElem?_map] at h
  rcases Nat.lt_or_ge i n with z | z
  · rw [List.getElem?_range z] at h
    exact ⟨z, (Option.some.inj h).symm⟩
  · rw [List.getElem?_eq_none (by simpa using z)] at h; cases h
section
variable {X : Cx} {W : WX} {K : PySem.W.Frag} {e tg : Expr} {we : DE} {wr : DA} {pos : Pos}
theorem itr_lst {F : Hp} {a : Addr} {xs : List V} {ds : List D} (h : SqL K F a xs) (r : RepL K F xs ds) : ItR K F (Itl K a) ⟨ds, frozen⟩ := fun F' H C e hs _ => by
  have hH : SqL K H a xs := ex_l hs.ex (ex_l e h)
  refine ⟨fun i d hd => ?_, ⟨xs, hH, by rw [r.length]; exact Nat.le_refl _⟩⟩
  obtain ⟨v, hv, rv⟩ := r.get hd
  refine ⟨⟨xs, v, hH, hv⟩, fun x H' y => ?_⟩
  obtain ⟨rfl, y⟩ := y
  have := y xs hH
  rw [hv] at this
  cases this
  exact ⟨F', Ex.refl _, hs, rv.mono e⟩
theorem itr_cell {F : Hp} {a : Addr} {ds : List D} : ItR K F (Itl K a) ⟨ds, fun C' => C' a = some (.lst ds)⟩ := fun F' H C e hs hc => by
  obtain ⟨_, xs, hx, r⟩ := hs.cell a _ hc
  have hH : SqL K H a xs := .of hx
  refine ⟨fun i d hd => ?_, ⟨xs, hH, by rw [r.length]; exact Nat.le_refl _⟩⟩
  obtain ⟨v, hv, rv⟩ := r.get hd
  refine ⟨⟨xs, v, hH, hv⟩, fun x H' y => ?_⟩
  obtain ⟨rfl, y⟩ := y
  have := y xs hH
  rw [hv] at this
  cases this
  exact ⟨F', Ex.refl _, hs, rv⟩
theorem itr_tup {F : Hp} {a : Addr} {xs : List V} {ds : List D} (h : SqT K F a xs) (r : RepL K F xs ds) : ItR K F (Itt K a) ⟨ds, frozen⟩ := fun F' H C e hs _ => by
  have hH : SqT K H a xs := ex_t hs.ex (ex_t e h)
  refine ⟨fun i d hd => ?_, ⟨xs, hH, by rw [r.length]; exact Nat.le_refl _⟩⟩
  obtain ⟨v, hv, rv⟩ := r.get hd
  refine ⟨⟨xs, v, hH, hv⟩, fun x H' y => ?_⟩
  obtain ⟨rfl, y⟩ := y
  have := y xs hH
  rw [hv] at this
  cases this
  exact ⟨F', Ex.refl _, hs, rv.mono e⟩
theorem itr_rng {F : Hp} {lo : Int} {n : Nat} : ItR K F (Itr lo n) ⟨rngD lo n, frozen⟩ := fun F' H C e hs _ => by
  refine ⟨fun i d hd => ?_, by show n ≤ (rngD lo n).length; rw [rngD_len]; exact Nat.le_refl _⟩
  obtain ⟨hi, rfl⟩ := rngD_get hd
  refine ⟨hi, fun x H' y => ?_⟩
  obtain ⟨rfl, rfl⟩ := y
  exact ⟨F', Ex.refl _, hs, .int _⟩
theorem di_list (he : PE X e (tE X.K W we)) : PI X tg e (tI X.K W (wItL we)) := PI.imp (pi_list he) fun σ H R ⟨F, C, ρ, P, PX, hs, en, xr, w, k⟩ =>
  ⟨F, C, ρ, _, PX, hs, en, xr, w, fun v F1 H1 d C1 e1 h1 r q => by
    cases r <;> first | exact q.elim | skip
    · rename_i a xs ds hq hr
      exact ⟨a, rfl, ⟨xs, ex_l h1.ex hq⟩, k _ F1 H1 _ C1 e1 h1 (itr_lst hq hr) q⟩
    · rename_i a
      revert q
      dsimp only
      split
      · rename_i ds hc
        intro q
        obtain ⟨_, xs, hx, r⟩ := h1.cell a _ hc
        exact ⟨a, rfl, ⟨xs, .of hx⟩, k _ F1 H1 _ C1 e1 h1 itr_cell q⟩
      · exact fun z => z.elim⟩
theorem di_tup (he : PE X e (tE X.K W we)) : PI X tg e (tI X.K W (wItT we)) := PI.imp (pi_tup he) fun σ H R ⟨F, C, ρ, P, PX, hs, en, xr, w, k⟩ =>
  ⟨F, C, ρ, _, PX, hs, en, xr, w, fun v F1 H1 d C1 e1 h1 r q => by
    cases r <;> first | exact q.elim | skip
    · rename_i a xs ds hq hr
      exact ⟨a, rfl, ⟨xs, .of (h1.ex.nd hq rfl)⟩, k _ F1 H1 _ C1 e1 h1 (itr_tup (.of hq) hr) q⟩
    · rename_i a xs ds hq hr
      exact ⟨a, rfl, ⟨xs, ex_t h1.ex hq⟩, k _ F1 H1 _ C1 e1 h1 (itr_tup hq hr) q⟩⟩
theorem di_rng1 {a : Expr} {p : Pos} (hg : Gl X "range") (hm : X.mg "range" = none) (ha : PA X [a] (tA X.K W wr)) (hs : starEach [a] X.env = [(false, eval a X.env)] := by rfl) : PI X tg (.Call (.Name "range" p) [a] [] pos) (tI X.K W (wRng1 wr)) :=
  PI.imp (pi_range1 hg hm ha hs) fun σ H R ⟨F, C, ρ, P, PX, hs, en, xr, w, k⟩ => ⟨F, C, ρ, _, PX, hs, en, xr, w, fun v F1 H1 d C1 e1 h1 r q => by
    revert q
    dsimp only
    split
    · intro q
      rename_i j
      cases r with
      | cons r1 r2 =>
        cases r1; cases r2
        exact ⟨j, rfl, q.1.1, q.1.2, k _ F1 H1 _ C1 e1 h1 itr_rng q.2⟩
    · exact fun z => z.elim⟩
theorem di_rng2 {a b : Expr} {p : Pos} (hg : Gl X "range") (hm : X.mg "range" = none) (ha : PA X [a, b] (tA X.K W wr)) (hs : starEach [a, b] X.env = [(false, eval a X.env), (false, eval b X.env)] := by rfl) (hs2 : starEach [b] X.env = [(false, eval b X.env)] := by rfl) : PI X tg (.Call (.Name "range" p) [a, b] [] pos) (tI X.K W (wRng2 wr)) :=
  PI.imp (pi_range2 hg hm ha hs hs2) fun σ H R ⟨F, C, ρ, P, PX, hs, en, xr, w, k⟩ => ⟨F, C, ρ, _, PX, hs, en, xr, w, fun v F1 H1 d C1 e1 h1 r q => by
    revert q
    dsimp only
    split
    · intro q
      rename_i i j
      cases r with
      | cons r1 r2 =>
        cases r1
        cases r2 with
        | cons r2 r3 =>
          cases r2; cases r3
          exact ⟨i, j, rfl, q.1, k _ F1 H1 _ C1 e1 h1 itr_rng q.2⟩
    · exact fun z => z.elim⟩
end

/-! ### loops -/
def ForG (J : DIt) (t : Tgt) (b : DS) (E : DEnds) (ρ : DEnv) (C1 : Cells) : Prop := ∃ Inv : Nat → DEnv → Cells → Prop, Inv 0 ρ C1 ∧ (∀ i ρ' C', Inv i ρ' C' → J.still C') ∧
  (∀ i d ρ' C', J.items[i]? = some d → Inv i ρ' C' → match t.dg d ρ' with
    | some ρ2 => b { nx := Inv (i + 1), ct := Inv (i + 1), bk := E.nx, rt := E.rt, ex := E.ex } ρ2 C'
    | none => False) ∧
  (∀ ρ' C', Inv J.items.length ρ' C' → E.nx ρ' C')
def wFor (wi : DI) (t : Tgt) (b : DS) (E : DEnds) (ρ : DEnv) (C : Cells) : Prop := wi ρ C (fun J C1 => ForG J t b E ρ C1) E.ex
def wWhile (t : DT) (b : DS) (E : DEnds) (ρ : DEnv) (C : Cells) : Prop := ∃ Inv : Nat → DEnv → Cells → Prop, (∃ m, Inv m ρ C) ∧ ∀ m ρ' C', Inv m ρ' C' → t ρ' C' (fun k C1 => if k = true then
    b { nx := fun ρ2 C2 => ∃ m', m' < m ∧ Inv m' ρ2 C2, ct := fun ρ2 C2 => ∃ m', m' < m ∧ Inv m' ρ2 C2, bk := E.nx, rt := E.rt, ex := E.ex } ρ' C1 else E.nx ρ' C1) E.ex
section
variable {X : Cx} {W : WX} {wb : DS} {pos : Pos}
theorem ds_for {tg iter : Expr} {body : List Stmt} {wi : DI} {t : Tgt} (hp : PassesOwn (model X.prog X.w) X.A X.env X.xe) (hc : X.calm = true) (hi : PI X tg iter (tI X.K W wi)) (hg : PG X tg (t.tg X.K)) (hb : PSs X body (tS X.K W wb))
    (hs : ∀ x, foldedSetIterable iter X.env x = pure x := by intro _; rfl) : PS X (.For tg iter body [] pos) (tS X.K W (wFor wi t wb)) := PS.imp (ps_for hp hc hi hg hb hs) fun D σ H ⟨F, C, ρ, DE, hs, en, xr, w, er⟩ =>
  ⟨F, C, ρ, _, _, hs, en, xr, w, fun J F1 H1 Jd C1 e1 h1 ir q => by
    obtain ⟨Inv, i0, st, turn, done⟩ := q
    refine ⟨fun i m σ' H' => m = Jd.items.length - i ∧ i ≤ Jd.items.length ∧ ∃ F' ρ' C', Ex F1 F' ∧ Hs X.K F' C' H' ∧ EnvR X.K F' σ' ρ' ∧ Inv i ρ' C', ⟨_, rfl, Nat.zero_le _, F1, ρ, C1, Ex.refl _, h1, en.mono e1, i0⟩, ?_⟩
    rintro i m σ' H' ⟨rfl, hl, F', ρ', C', e', h', n', p⟩
    obtain ⟨go, stop⟩ := ir F' H' C' e' h' (st i ρ' C' p)
    by_cases hi : i = Jd.items.length
    · subst hi
      exact .inl ⟨stop, er.nx σ' F' H' ρ' C' (e1.trans e') h' n' (done ρ' C' p)⟩
    · have hlt : i < Jd.items.length := by omega
      have hd : Jd.items[i]? = some Jd.items[i] := List.getElem?_eq_getElem hlt
      obtain ⟨g1, g2⟩ := go i _ hd
      have q := turn i _ ρ' C' hd p
      refine .inr ⟨g1, fun σ2 H2 => ∃ F2 ρ2 C2, Ex F' F2 ∧ Hs X.K F2 C2 H2 ∧ EnvR X.K F2 σ2 ρ2 ∧ Inv (i + 1) ρ2 C2, ?_, ?_⟩
      · rintro σ2 H2 ⟨F2, ρ2, C2, e2, h2, n2, p2⟩
        exact ⟨_, by omega, rfl, hlt, F2, ρ2, C2, e'.trans e2, h2, n2, p2⟩
      · intro x H2 hy
        obtain ⟨F2, e2, h2, rx⟩ := g2 x H2 hy
        revert q
        split
        · rename_i ρ2 hdg
          intro q
          refine tg_ok t h2.ex rx (n'.mono e2) hdg fun σ2 en2 _ => ?_
          exact ⟨F2, C', ρ2, { nx := Inv (i + 1), ct := Inv (i + 1), bk := DE.nx, rt := DE.rt, ex := DE.ex }, h2, en2, xr.mono ((e1.trans e').trans e2), q, ⟨fun σ3 F3 H3 ρ3 C3 e3 h3 n3 p3 => ⟨F3, ρ3, C3, e2.trans e3, h3, n3, p3⟩, er.rt.mono ((e1.trans e').trans e2), er.nx.mono ((e1.trans e').trans e2), fun σ3 F3 H3 ρ3 C3 e3 h3 n3 p3 => ⟨F3, ρ3, C3, e2.trans e3, h3, n3, p3⟩⟩⟩
        · exact fun z => z.elim⟩
theorem ds_while {c : Expr} {body : List Stmt} {t : DT} (hp : PassesOwn (model X.prog X.w) X.A X.env X.xe) (hc : PT X c (tT X.K W t)) (hb : PSs X body (tS X.K W wb)) : PS X (.While c body [] pos) (tS X.K W (wWhile t wb)) := PS.imp (ps_while hp hc hb) fun D σ H ⟨F, C, ρ, DE, hs, en, xr, w, er⟩ => by
  obtain ⟨Inv, ⟨m0, i0⟩, turn⟩ := w
  refine ⟨fun m σ' H' => ∃ F' ρ' C', Ex F F' ∧ Hs X.K F' C' H' ∧ EnvR X.K F' σ' ρ' ∧ Inv m ρ' C', ⟨m0, F, ρ, C, Ex.refl _, hs, en, i0⟩, ?_⟩
  rintro m σ' H' ⟨F', ρ', C', e', h', n', p⟩
  refine ⟨F', C', ρ', _, _, h', n', xr.mono e', turn m ρ' C' p, fun k F1 H1 C1 e1 h1 q => ?_⟩
  cases k with
  | true =>
    rw [if_pos rfl] at q
    rw [if_pos rfl]
    refine ⟨fun σ2 H2 => ∃ m', m' < m ∧ ∃ F2 ρ2 C2, Ex F F2 ∧ Hs X.K F2 C2 H2 ∧ EnvR X.K F2 σ2 ρ2 ∧ Inv m' ρ2 C2, fun _ _ z => z, ?_⟩
    exact ⟨F1, C1, ρ', { nx := fun ρ2 C2 => ∃ m', m' < m ∧ Inv m' ρ2 C2, ct := fun ρ2 C2 => ∃ m', m' < m ∧ Inv m' ρ2 C2, bk := DE.nx, rt := DE.rt, ex := DE.ex }, h1, n'.mono e1, xr.mono (e'.trans e1), q, ⟨fun σ3 F3 H3 ρ3 C3 e3 h3 n3 ⟨m', hm, p3⟩ => ⟨m', hm, F3, ρ3, C3, (e'.trans e1).trans e3, h3, n3, p3⟩, er.rt.mono (e'.trans e1), er.nx.mono (e'.trans e1), fun σ3 F3 H3 ρ3 C3 e3 h3 n3 ⟨m', hm, p3⟩ => ⟨m', hm, F3, ρ3, C3, (e'.trans e1).trans e3, h3, n3, p3⟩⟩⟩
  | false =>
    rw [if_neg Bool.false_ne_true] at q
    rw [if_neg Bool.false_ne_true]
    exact er.nx σ' F1 H1 ρ' C1 (e'.trans e1) h1 (n'.mono e1) q
end
end DD

set_option Elab.async false
set_option linter.all false
set_option maxRecDepth 100000
set_option maxHeartbeats 4000000
/-! Readings over data: calls of defs, classes, attributes; a def keeps its promise. -/
namespace DD
open PySem L2 PyProof.Rows

abbrev DSp := List D → Cells → DK → Prop
abbrev XC := Value → List (String × D) → Cells → Prop
abbrev DSpX := List D → Cells → DK → XC → Prop
def KontX (K : PySem.W.Frag) (F : Hp) (PX : XC) (E : XK) : Prop := ∀ cls d fs F' H C, Ex F F' → Hs K F' C H → XRep K F' H d fs → PX cls fs C → E cls d H
/-- a promise over data; of a def that may raise -/
def spD (K : PySem.W.Frag) (R : DSp) : Sp := fun vs H Q _ => ∃ F C ds P, Hs K F C H ∧ RepL K F vs ds ∧ R ds C P ∧ Kont K F P Q
def spX (K : PySem.W.Frag) (R : DSpX) : Sp := fun vs H Q E => ∃ F C ds P PX, Hs K F C H ∧ RepL K F vs ds ∧ R ds C P PX ∧ Kont K F P Q ∧ KontX K F PX E

/-! ### calls -/
def wCall (R : DSp) (dd : List D) (a : DA) (ρ : DEnv) (C : Cells) (P : DK) (PX : DX) : Prop := a ρ C (fun ds C1 => R (ds ++ dd) C1 P) PX
def wCallX (R : DSpX) (dd : List D) (a : DA) (ρ : DEnv) (C : Cells) (P : DK) (PX : DX) : Prop := a ρ C (fun ds C1 => R (ds ++ dd) C1 P (fun cls fs C2 => PX cls fs ρ C2)) PX
/-- it is an instance of the class at Cl without an attribute of this name of its own -/
def isIns (Cl : Addr) (m : String) (o : D) (C : Cells) : Prop := match o with
  | .ins c fs => c = Cl ∧ fs.lookup m = none
  | .ptr p => match C p with
    | some (.ins c fs) => c = Cl ∧ fs.lookup m = none
    | _ => False
  | _ => False
def wMeth (Cl : Addr) (m : String) (R : DSp) (dd : List D) (o : DE) (a : DA) (ρ : DEnv) (C : Cells) (P : DK) (PX : DX) : Prop := o ρ C (fun x C1 => isIns Cl m x C1 ∧ a ρ C1 (fun ds C2 => R (x :: (ds ++ dd)) C2 P) PX) PX
def wMethX (Cl : Addr) (m : String) (R : DSpX) (dd : List D) (o : DE) (a : DA) (ρ : DEnv) (C : Cells) (P : DK) (PX : DX) : Prop := o ρ C (fun x C1 => isIns Cl m x C1 ∧ a ρ C1 (fun ds C2 => R (x :: (ds ++ dd)) C2 P (fun cls fs C3 => PX cls fs ρ C3)) PX) PX
/-- a new instance: a cell; one that does not change any more behind __init__ -/
def wMake (Cl : Addr) (R : DSp) (dd : List D) (a : DA) (ρ : DEnv) (C : Cells) (P : DK) (PX : DX) : Prop := a ρ C (fun ds C1 => ∀ p, C1 p = none → R (.ptr p :: (ds ++ dd)) (cput C1 p (.ins Cl [])) (fun r C2 => r = .non ∧ P (.ptr p) C2)) PX
def frzP (P : DK) (p : Addr) (C2 : Cells) : Prop := match C2 p with
  | some (.ins c fs) => ∃ C3, Sub C3 C2 ∧ C3 p = none ∧ P (.ins c fs) C3
  | _ => False
def wMakeF (Cl : Addr) (R : DSp) (dd : List D) (a : DA) (ρ : DEnv) (C : Cells) (P : DK) (PX : DX) : Prop := a ρ C (fun ds C1 => ∀ p, C1 p = none → R (.ptr p :: (ds ++ dd)) (cput C1 p (.ins Cl [])) (fun r C2 => r = .non ∧ frzP P p C2)) PX
def wMakeX (Cl : Addr) (R : DSpX) (dd : List D) (a : DA) (ρ : DEnv) (C : Cells) (P : DK) (PX : DX) : Prop := a ρ C (fun ds C1 => ∀ p, C1 p = none → R (.ptr p :: (ds ++ dd)) (cput C1 p (.ins Cl [])) (fun r C2 => r = .non ∧ P (.ptr p) C2) (fun cls fs C3 => PX cls fs ρ C3)) PX
def wMakeXF (Cl : Addr) (R : DSpX) (dd : List D) (a : DA) (ρ : DEnv) (C : Cells) (P : DK) (PX : DX) : Prop := a ρ C (fun ds C1 => ∀ p, C1 p = none → R (.ptr p :: (ds ++ dd)) (cput C1 p (.ins Cl [])) (fun r C2 => r = .non ∧ frzP P p C2) (fun cls fs C3 => PX cls fs ρ C3)) PX

section
variable {X : Cx} {W : WX} {K : PySem.W.Frag} {k : Nat} {f Cl : Addr} {fd : FuncData} {ps : List Str} {R : DSp} {RX : DSpX} {dvs : List V} {dd : List D} {dsv : List Value} {x m : Str} {p pos apos : Pos} {e o : Expr} {es : List Expr} {wa : DE} {wr : DA}
theorem KontX.of {F : Hp} {W : WX} {PX : DX} {σ : L2.St} {ρ : DEnv} (xr : ExR K F W PX) (en : EnvR K F σ ρ) : KontX K F (fun cls fs C2 => PX cls fs ρ C2) (WE W σ) :=
  fun cls d fs F' H C e hs r q => xr cls d fs σ F' H ρ C e hs (en.mono e) r q
theorem d_call (G : FnOk X.prog X.w X.K X.mg X.base CX0 k f fd ps (spD X.K R)) (hr : Room k X.A) (hm : X.mg x = some (.ref f)) (hk : PySem.W.keepIn X.K (.ref f) = true) (hb : Binds X.K fd ps dsv) (ha : PA X (e :: es) (tA X.K W wr)) (hd : Vals dvs dsv := by exact .nil) (hdd : ∀ F, RepL X.K F dvs dd := by exact fun _ => .nil) (hg : Gl X x := by rfl)
    (hdb : (x == ("__debug__" : Str)) = false := by decide) (he : starEach (e :: es) X.env = (false, eval e X.env) :: starEach es X.env := by rfl) (hpl : (backTo pos (starEach es X.env)).any (·.1) = false := by rfl) :
    PE X (.Call (.Name x p) (e :: es) [] pos) (tE X.K W (wCall R dd wr)) := PE.imp (pe_call (E := E0) G hr hg hm hk hb hd pass0 ha hdb he hpl) fun σ H Q ⟨F, C, ρ, P, PX, hs, en, xr, w, k⟩ =>
  ⟨F, C, ρ, _, PX, hs, en, xr, w, fun vs F1 H1 ds C1 e1 h1 r q => ⟨F1, C1, ds ++ dd, P, h1, r.append (hdd F1), q, k.mono e1⟩⟩
theorem d_call0 (G : FnOk X.prog X.w X.K X.mg X.base CX0 k f fd ps (spD X.K R)) (hr : Room k X.A) (hm : X.mg x = some (.ref f)) (hk : PySem.W.keepIn X.K (.ref f) = true) (hb : Binds X.K fd ps dsv) (hd : Vals dvs dsv := by exact .nil) (hdd : ∀ F, RepL X.K F dvs dd := by exact fun _ => .nil) (hg : Gl X x := by rfl)
    (hdb : (x == ("__debug__" : Str)) = false := by decide) : PE X (.Call (.Name x p) [] [] pos) (tE X.K W (wCall R dd wNil)) := PE.imp (pe_call0 (E := E0) G hr hg hm hk hb hd pass0 hdb) fun σ H Q ⟨F, C, ρ, P, PX, hs, en, xr, w, k⟩ =>
  ⟨F, C, dd, P, hs, by exact (hdd F), by exact w, k⟩
theorem d_callX (tk : Takes X W) (G : FnOk X.prog X.w X.K X.mg X.base (L2.CX X.prog X.w) k f fd ps (spX X.K RX)) (hr : Room k X.A) (hm : X.mg x = some (.ref f)) (hk : PySem.W.keepIn X.K (.ref f) = true) (hb : Binds X.K fd ps dsv) (ha : PA X (e :: es) (tA X.K W wr)) (hd : Vals dvs dsv := by exact .nil) (hdd : ∀ F, RepL X.K F dvs dd := by exact fun _ => .nil) (hg : Gl X x := by rfl)
    (hdb : (x == ("__debug__" : Str)) = false := by decide) (he : starEach (e :: es) X.env = (false, eval e X.env) :: starEach es X.env := by rfl) (hpl : (backTo pos (starEach es X.env)).any (·.1) = false := by rfl) :
    PE X (.Call (.Name x p) (e :: es) [] pos) (tE X.K W (wCallX RX dd wr)) := PE.imp (pe_callSD (E := WE W) G hr hg hm hk hb hd (fun σ => passAt tk σ) ha hdb he hpl) fun σ H Q ⟨F, C, ρ, P, PX, hs, en, xr, w, k⟩ =>
  ⟨F, C, ρ, _, PX, hs, en, xr, w, fun vs F1 H1 ds C1 e1 h1 r q => ⟨F1, C1, ds ++ dd, P, _, h1, r.append (hdd F1), q, k.mono e1, KontX.of (xr.mono e1) (en.mono e1)⟩⟩
theorem ins_of {F H : Hp} {C : Cells} {v : V} {d : D} (hs : Hs K F C H) (r : Rep K F v d) {mm : String} (h : isIns Cl mm d C) : ∃ a dx gs, v = .ref a ∧ H a = some (.ins Cl dx gs) ∧ gs.lookup (Str.ofString mm) = none := by
  cases r <;> first | exact h.elim | skip
  · rename_i a c dx gs fs hf rf
    obtain ⟨rfl, hl⟩ := h
    exact ⟨a, dx, gs, rfl, hs.ex.nd hf rfl, rf.lookup_none hl⟩
  · rename_i a
    revert h
    show (match C a with | some (.ins c fs) => _ | _ => False) → _
    split
    · rename_i c fs hc
      rintro ⟨rfl, hl⟩
      obtain ⟨_, dx, gs, hg, rf⟩ := hs.cell a _ hc
      exact ⟨a, dx, gs, rfl, hg, rf.lookup_none hl⟩
    · exact fun z => z.elim
theorem d_meth {mm : String} {pl : Sem Bool} (c : Cls X.K Cl) (hm : Meth X.K Cl (Str.ofString mm) f) (G : FnOk X.prog X.w X.K X.mg X.base CX0 k f fd ps (spD X.K R)) (hr : Room k X.A) (hb : Binds X.K fd ps dsv) (ho : PE X o (tE X.K W wa)) (ha : PA X (e :: es) (tA X.K W wr)) (hd : Vals dvs dsv := by exact .nil) (hdd : ∀ F, RepL X.K F dvs dd := by exact fun _ => .nil)
    (hst : starEach (e :: es) X.env = (false, eval e X.env) :: starEach es X.env := by rfl) (hpl : (backTo pos (starEach es X.env)).any (·.1) = false := by rfl)
    (ht : eval (.Call (.Attribute o (Str.ofString mm) apos) (e :: es) [] pos) X.env = (do
      let ov ← eval o X.env
      standAt apos.atName
      let (f, first) ← holding [ov] (getMethod ov (Str.ofString mm) pl)
      callWith pos f first (backTo pos (starEach (e :: es) X.env)) (backToKw pos (keywordEach [] X.env))) := by rfl) :
    PE X (.Call (.Attribute o (Str.ofString mm) apos) (e :: es) [] pos) (tE X.K W (wMeth Cl mm R dd wa wr)) := PE.imp (pe_meth (pl := pl) (E := E0) ho c hm G hr hb hd pass0 ha hst hpl ht) fun σ H Q ⟨F, C, ρ, P, PX, hs, en, xr, w, k⟩ =>
  ⟨F, C, ρ, _, PX, hs, en, xr, w, fun v F1 H1 d C1 e1 h1 rv q => by
    obtain ⟨qi, q⟩ := q
    obtain ⟨a, dx, gs, ev, ha, hl⟩ := ins_of h1 rv qi
    exact ⟨a, dx, gs, ev, ha, hl, F1, C1, ρ, _, PX, h1, en.mono e1, xr.mono e1, q, fun vs F2 H2 ds C2 e2 h2 rl q2 => ⟨F2, C2, d :: (ds ++ dd), P, h2, .cons (rv.mono e2) (rl.append (hdd F2)), q2, k.mono (e1.trans e2)⟩⟩⟩
theorem d_meth0 {mm : String} {pl : Sem Bool} (c : Cls X.K Cl) (hm : Meth X.K Cl (Str.ofString mm) f) (G : FnOk X.prog X.w X.K X.mg X.base CX0 k f fd ps (spD X.K R)) (hr : Room k X.A) (hb : Binds X.K fd ps dsv) (ho : PE X o (tE X.K W wa)) (hd : Vals dvs dsv := by exact .nil) (hdd : ∀ F, RepL X.K F dvs dd := by exact fun _ => .nil)
    (ht : eval (.Call (.Attribute o (Str.ofString mm) apos) [] [] pos) X.env = (do
      let ov ← eval o X.env
      standAt apos.atName
      let (f, first) ← holding [ov] (getMethod ov (Str.ofString mm) pl)
      callWith pos f first (backTo pos (starEach [] X.env)) (backToKw pos (keywordEach [] X.env))) := by rfl) :
    PE X (.Call (.Attribute o (Str.ofString mm) apos) [] [] pos) (tE X.K W (wMeth Cl mm R dd wa wNil)) := PE.imp (pe_meth0 (pl := pl) (E := E0) ho c hm G hr hb hd pass0 ht) fun σ H Q ⟨F, C, ρ, P, PX, hs, en, xr, w, k⟩ =>
  ⟨F, C, ρ, _, PX, hs, en, xr, w, fun v F1 H1 d C1 e1 h1 rv q => by
    obtain ⟨qi, q⟩ := q
    obtain ⟨a, dx, gs, ev, ha, hl⟩ := ins_of h1 rv qi
    exact ⟨a, dx, gs, ev, ha, hl, F1, C1, d :: dd, P, h1, .cons rv (hdd F1), q, k.mono e1⟩⟩
/-- a method that may raise -/
theorem pe_methSD {ta : TE} {t : TA} {E : L2.St → XK} {pl : Sem Bool} {sp : Sp} {CX : CXT} (he : PE X o ta) (c : Cls X.K Cl) (hm : Meth X.K Cl m f) (F : FnOk X.prog X.w X.K X.mg X.base CX k f fd ps sp) (hr : Room k X.A) (hb : Binds X.K fd ps dsv) (hd : Vals dvs dsv) (hx : ∀ σ, PassesAt CX X σ (E σ)) (ha : PA X (e :: es) t)
    (hst : starEach (e :: es) X.env = (false, eval e X.env) :: starEach es X.env := by rfl) (hpl : (backTo pos (starEach es X.env)).any (·.1) = false := by rfl)
    (ht : eval (.Call (.Attribute o m apos) (e :: es) [] pos) X.env = (do
      let ov ← eval o X.env
      standAt apos.atName
      let (f, first) ← holding [ov] (getMethod ov m pl)
      callWith pos f first (backTo pos (starEach (e :: es) X.env)) (backToKw pos (keywordEach [] X.env))) := by rfl) :
    PE X (.Call (.Attribute o m apos) (e :: es) [] pos) (fun σ H Q => ta σ H fun x H1 => ∃ a dx fs, x = .ref a ∧ H1 a = some (.ins Cl dx fs) ∧ fs.lookup m = none ∧ t σ H1 fun vs H2 => sp (x :: (vs ++ dvs)) H2 Q (E σ)) := by
  refine ⟨fun pins s σ H Q I h => ?_⟩
  refine PySem.W.methodCall_KW (pl := pl) (thn (he.run pins s σ H _ I h) fun u s1 ⟨x, H1, I1, rx, a, dx, fs, ex, ea, l, q⟩ => ?_) ht
  subst ex
  obtain rfl : u = Value.ref a := rx
  refine getmeth_ok I1 ea c hm l ?_
  refine PySem.W.callWith_K (first := [.ref a]) (h₀ := X.base) I.ok.mod.kin hm.kp (thn (ha.run pos pins s1 σ H1 _ I1 q) fun us s2 ⟨vs, H2, I2, r, q2⟩ => ⟨I2.kIn, ?_⟩) hst hpl
  exact run_fnSD (us := .ref a :: us) (vs := .ref a :: vs) F hr hb hd (hx σ) I2 (.cons rfl r) q2
theorem pe_methSD0 {ta : TE} {E : L2.St → XK} {pl : Sem Bool} {sp : Sp} {CX : CXT} (he : PE X o ta) (c : Cls X.K Cl) (hm : Meth X.K Cl m f) (F : FnOk X.prog X.w X.K X.mg X.base CX k f fd ps sp) (hr : Room k X.A) (hb : Binds X.K fd ps dsv) (hd : Vals dvs dsv) (hx : ∀ σ, PassesAt CX X σ (E σ))
    (ht : eval (.Call (.Attribute o m apos) [] [] pos) X.env = (do
      let ov ← eval o X.env
      standAt apos.atName
      let (f, first) ← holding [ov] (getMethod ov m pl)
      callWith pos f first (backTo pos (starEach [] X.env)) (backToKw pos (keywordEach [] X.env))) := by rfl) :
    PE X (.Call (.Attribute o m apos) [] [] pos) (fun σ H Q => ta σ H fun x H1 => ∃ a dx fs, x = .ref a ∧ H1 a = some (.ins Cl dx fs) ∧ fs.lookup m = none ∧ sp (x :: dvs) H1 Q (E σ)) := by
  refine ⟨fun pins s σ H Q I h => ?_⟩
  refine PySem.W.methodCall_KW (pl := pl) (thn (he.run pins s σ H _ I h) fun u s1 ⟨x, H1, I1, rx, a, dx, fs, ex, ea, l, q⟩ => ?_) ht
  subst ex
  obtain rfl : u = Value.ref a := rx
  refine getmeth_ok I1 ea c hm l ?_
  exact PySem.W.callWith_K0 (first := [.ref a]) I1.kIn hm.kp (run_fnSD (us := [.ref a]) (vs := [.ref a]) F hr hb hd (hx σ) I1 (.cons rfl .nil) q)
theorem d_methX {mm : String} {pl : Sem Bool} (tk : Takes X W) (c : Cls X.K Cl) (hm : Meth X.K Cl (Str.ofString mm) f) (G : FnOk X.prog X.w X.K X.mg X.base (L2.CX X.prog X.w) k f fd ps (spX X.K RX)) (hr : Room k X.A) (hb : Binds X.K fd ps dsv) (ho : PE X o (tE X.K W wa)) (ha : PA X (e :: es) (tA X.K W wr)) (hd : Vals dvs dsv := by exact .nil) (hdd : ∀ F, RepL X.K F dvs dd := by exact fun _ => .nil)
    (hst : starEach (e :: es) X.env = (false, eval e X.env) :: starEach es X.env := by rfl) (hpl : (backTo pos (starEach es X.env)).any (·.1) = false := by rfl)
    (ht : eval (.Call (.Attribute o (Str.ofString mm) apos) (e :: es) [] pos) X.env = (do
      let ov ← eval o X.env
      standAt apos.atName
      let (f, first) ← holding [ov] (getMethod ov (Str.ofString mm) pl)
      callWith pos f first (backTo pos (starEach (e :: es) X.env)) (backToKw pos (keywordEach [] X.env))) := by rfl) :
    PE X (.Call (.Attribute o (Str.ofString mm) apos) (e :: es) [] pos) (tE X.K W (wMethX Cl mm RX dd wa wr)) := PE.imp (pe_methSD (pl := pl) (E := WE W) ho c hm G hr hb hd (fun σ => passAt tk σ) ha hst hpl ht) fun σ H Q ⟨F, C, ρ, P, PX, hs, en, xr, w, k⟩ =>
  ⟨F, C, ρ, _, PX, hs, en, xr, w, fun v F1 H1 d C1 e1 h1 rv q => by
    obtain ⟨qi, q⟩ := q
    obtain ⟨a, dx, gs, ev, ha, hl⟩ := ins_of h1 rv qi
    exact ⟨a, dx, gs, ev, ha, hl, F1, C1, ρ, _, PX, h1, en.mono e1, xr.mono e1, q, fun vs F2 H2 ds C2 e2 h2 rl q2 => ⟨F2, C2, d :: (ds ++ dd), P, _, h2, .cons (rv.mono e2) (rl.append (hdd F2)), q2, k.mono (e1.trans e2), KontX.of (xr.mono (e1.trans e2)) (en.mono (e1.trans e2))⟩⟩⟩
theorem d_methX0 {mm : String} {pl : Sem Bool} (tk : Takes X W) (c : Cls X.K Cl) (hm : Meth X.K Cl (Str.ofString mm) f) (G : FnOk X.prog X.w X.K X.mg X.base (L2.CX X.prog X.w) k f fd ps (spX X.K RX)) (hr : Room k X.A) (hb : Binds X.K fd ps dsv) (ho : PE X o (tE X.K W wa)) (hd : Vals dvs dsv := by exact .nil) (hdd : ∀ F, RepL X.K F dvs dd := by exact fun _ => .nil)
    (ht : eval (.Call (.Attribute o (Str.ofString mm) apos) [] [] pos) X.env = (do
      let ov ← eval o X.env
      standAt apos.atName
      let (f, first) ← holding [ov] (getMethod ov (Str.ofString mm) pl)
      callWith pos f first (backTo pos (starEach [] X.env)) (backToKw pos (keywordEach [] X.env))) := by rfl) :
    PE X (.Call (.Attribute o (Str.ofString mm) apos) [] [] pos) (tE X.K W (wMethX Cl mm RX dd wa wNil)) := PE.imp (pe_methSD0 (pl := pl) (E := WE W) ho c hm G hr hb hd (fun σ => passAt tk σ) ht) fun σ H Q ⟨F, C, ρ, P, PX, hs, en, xr, w, k⟩ =>
  ⟨F, C, ρ, _, PX, hs, en, xr, w, fun v F1 H1 d C1 e1 h1 rv q => by
    obtain ⟨qi, q⟩ := q
    obtain ⟨a, dx, gs, ev, ha, hl⟩ := ins_of h1 rv qi
    exact ⟨a, dx, gs, ev, ha, hl, F1, C1, d :: dd, P, _, h1, .cons rv (hdd F1), q, k.mono e1, KontX.of (xr.mono e1) (en.mono e1)⟩⟩
/-- an object that no data speaks of -/
theorem Hs.skip {F : Hp} {C : Cells} {H : Hp} (h : Hs K F C H) {p : Addr} {o : HO} (hp : H p = none) : Hs K F C (upd H p o) := by
  obtain ⟨f0, c0⟩ := h.fresh hp
  exact ⟨h.ex.mut f0, fun a c e => ⟨(h.cell a c e).1, (h.cell a c e).2.at (upd_ne (cell_ne e c0))⟩⟩
theorem Hs.inst {F : Hp} {C : Cells} {H : Hp} (h : Hs K F C H) {q dx : Addr} (hq : H q = none) (hd : H dx = none) (ne : dx ≠ q) : C q = none ∧ Hs K F (cput C q (.ins Cl [])) (upd (upd H dx (.own q)) q (.ins Cl dx [])) := by
  obtain ⟨f0, c0⟩ := h.fresh hq
  refine ⟨c0, ?_⟩
  exact (h.skip (o := .own q) hd).put (c := .ins Cl []) f0 ⟨dx, [], upd_same, .nil⟩
theorem frz_kont {F : Hp} {P : DK} {Q : VK} {q : Addr} (k : Kont K F P Q) : Kont K F (fun r C2 => r = .non ∧ frzP P q C2) (fun v H2 => v = .non ∧ Q (.ref q) H2) := fun v F2 H2 d C2 e2 h2 rv ⟨ed, z⟩ => by
  subst ed
  cases rv
  refine ⟨rfl, ?_⟩
  revert z
  unfold frzP
  split
  · rename_i c fs hc
    rintro ⟨C3, s3, n3, z⟩
    obtain ⟨F3, e3, h3, r3⟩ := frz_go h2 hc s3 n3 trivial
    exact k _ F3 H2 _ C3 (e2.trans e3) h3 r3 z
  · exact fun z => z.elim
theorem ptr_kont {F : Hp} {P : DK} {Q : VK} {q : Addr} (k : Kont K F P Q) : Kont K F (fun r C2 => r = .non ∧ P (.ptr q) C2) (fun v H2 => v = .non ∧ Q (.ref q) H2) := fun v F2 H2 d C2 e2 h2 rv ⟨ed, z⟩ => by
  subst ed
  cases rv
  exact ⟨rfl, k _ F2 H2 _ C2 e2 h2 (.ptr q) z⟩
theorem d_make (M : Mk X.K Cl f) (G : FnOk X.prog X.w X.K X.mg X.base CX0 k f fd ps (spD X.K R)) (hr : Room (k + 1) X.A) (hm : X.mg x = some (.ref Cl)) (hb : Binds X.K fd ps dsv) (ha : PA X (e :: es) (tA X.K W wr)) (hd : Vals dvs dsv := by exact .nil) (hdd : ∀ F, RepL X.K F dvs dd := by exact fun _ => .nil) (hg : Gl X x := by rfl)
    (hdb : (x == ("__debug__" : Str)) = false := by decide) (he : starEach (e :: es) X.env = (false, eval e X.env) :: starEach es X.env := by rfl) (hpl : (backTo pos (starEach es X.env)).any (·.1) = false := by rfl) :
    PE X (.Call (.Name x p) (e :: es) [] pos) (tE X.K W (wMake Cl R dd wr)) := PE.imp (pe_make (E := E0) M G hr hg hm hb hd pass0 ha hdb he hpl) fun σ H Q ⟨F, C, ρ, P, PX, hs, en, xr, w, k⟩ =>
  ⟨F, C, ρ, _, PX, hs, en, xr, w, fun vs F1 H1 ds C1 e1 h1 r q => fun z dx hz hdx ne => by
    obtain ⟨c0, h2⟩ := h1.inst (Cl := Cl) hz hdx ne
    exact ⟨F1, _, .ptr z :: (ds ++ dd), _, h2, .cons (.ptr z) (r.append (hdd F1)), q z c0, ptr_kont (k.mono e1)⟩⟩
theorem d_make0 (M : Mk X.K Cl f) (G : FnOk X.prog X.w X.K X.mg X.base CX0 k f fd ps (spD X.K R)) (hr : Room (k + 1) X.A) (hm : X.mg x = some (.ref Cl)) (hb : Binds X.K fd ps dsv) (hd : Vals dvs dsv := by exact .nil) (hdd : ∀ F, RepL X.K F dvs dd := by exact fun _ => .nil) (hg : Gl X x := by rfl)
    (hdb : (x == ("__debug__" : Str)) = false := by decide) : PE X (.Call (.Name x p) [] [] pos) (tE X.K W (wMake Cl R dd wNil)) := PE.imp (pe_make0 (E := E0) M G hr hg hm hb hd pass0 hdb) fun σ H Q ⟨F, C, ρ, P, PX, hs, en, xr, w, k⟩ => fun z dx hz hdx ne => by
    obtain ⟨c0, h2⟩ := hs.inst (Cl := Cl) hz hdx ne
    exact ⟨F, _, .ptr z :: dd, _, h2, .cons (.ptr z) (hdd F), w z c0, ptr_kont k⟩
theorem d_makeF (M : Mk X.K Cl f) (G : FnOk X.prog X.w X.K X.mg X.base CX0 k f fd ps (spD X.K R)) (hr : Room (k + 1) X.A) (hm : X.mg x = some (.ref Cl)) (hb : Binds X.K fd ps dsv) (ha : PA X (e :: es) (tA X.K W wr)) (hd : Vals dvs dsv := by exact .nil) (hdd : ∀ F, RepL X.K F dvs dd := by exact fun _ => .nil) (hg : Gl X x := by rfl)
    (hdb : (x == ("__debug__" : Str)) = false := by decide) (he : starEach (e :: es) X.env = (false, eval e X.env) :: starEach es X.env := by rfl) (hpl : (backTo pos (starEach es X.env)).any (·.1) = false := by rfl) :
    PE X (.Call (.Name x p) (e :: es) [] pos) (tE X.K W (wMakeF Cl R dd wr)) := PE.imp (pe_make (E := E0) M G hr hg hm hb hd pass0 ha hdb he hpl) fun σ H Q ⟨F, C, ρ, P, PX, hs, en, xr, w, k⟩ =>
  ⟨F, C, ρ, _, PX, hs, en, xr, w, fun vs F1 H1 ds C1 e1 h1 r q => fun z dx hz hdx ne => by
    obtain ⟨c0, h2⟩ := h1.inst (Cl := Cl) hz hdx ne
    exact ⟨F1, _, .ptr z :: (ds ++ dd), _, h2, .cons (.ptr z) (r.append (hdd F1)), q z c0, frz_kont (k.mono e1)⟩⟩
end

/-! ### attributes -/
/-- the attribute f of an instance of the class at Cl -/
def fldOf (Cl : Addr) (f : String) (o : D) (C : Cells) : Option D := match o with
  | .ins c fs => if c = Cl then fs.lookup f else none
  | .ptr p => match C p with
    | some (.ins c fs) => if c = Cl then fs.lookup f else none
    | _ => none
  | _ => none
def wFld (Cl : Addr) (f : String) (o : DE) (ρ : DEnv) (C : Cells) (P : DK) (PX : DX) : Prop := o ρ C (fun x C1 => match fldOf Cl f x C1 with
  | some d => P d C1
  | none => False) PX
def wFldSet (Cl : Addr) (f : String) (o v : DE) (E : DEnds) (ρ : DEnv) (C : Cells) : Prop := v ρ C (fun d C1 => o ρ C1 (fun x C2 => match x with
  | .ptr p => match C2 p with
    | some (.ins c fs) => c = Cl ∧ fs.length < 1000 ∧ E.nx ρ (cput C2 p (.ins Cl (dput f d fs)))
    | _ => False
  | _ => False) E.ex) E.ex
section
variable {X : Cx} {W : WX} {K : PySem.W.Frag} {Cl : Addr} {f : String} {o value : Expr} {wa wv : DE} {pos pos' : Pos}
theorem fld_of {F H : Hp} {C : Cells} {v : V} {x d : D} (hs : Hs K F C H) (r : Rep K F v x) (h : fldOf Cl f x C = some d) : ∃ a dx gs u, v = .ref a ∧ H a = some (.ins Cl dx gs) ∧ gs.lookup (Str.ofString f) = some u ∧ Rep K F u d := by
  cases r <;> first | (simp [fldOf] at h; done) | skip
  · rename_i a c dx gs fs hf rf
    simp only [fldOf] at h
    split at h
    · rename_i e
      subst e
      obtain ⟨u, hu, ru⟩ := rf.lookup h
      exact ⟨a, dx, gs, u, rfl, hs.ex.nd hf rfl, hu, ru⟩
    · cases h
  · rename_i a
    simp only [fldOf] at h
    split at h
    · rename_i c fs hc
      split at h
      · rename_i e
        subst e
        obtain ⟨_, dx, gs, hg, rf⟩ := hs.cell a _ hc
        obtain ⟨u, hu, ru⟩ := rf.lookup h
        exact ⟨a, dx, gs, u, rfl, hg, hu, ru⟩
      · cases h
    · cases h
theorem d_fld (c : Cls X.K Cl) (n : NoAttr X.K Cl (Str.ofString f)) (he : PE X o (tE X.K W wa)) (hb : attributeBase o (Str.ofString f) X.env (eval o X.env) = eval o X.env := by rfl) : PE X (.Attribute o (Str.ofString f) pos) (tE X.K W (wFld Cl f wa)) :=
  PE.imp (pe_fld he hb) fun σ H Q ⟨F, C, ρ, P, PX, hs, en, xr, w, k⟩ => ⟨F, C, ρ, _, PX, hs, en, xr, w, fun v F1 H1 d C1 e1 h1 r q => by
    revert q
    dsimp only
    split
    · rename_i u hu
      intro q
      obtain ⟨a, dx, gs, u', rfl, ha, hl, ru⟩ := fld_of h1 r hu
      exact ⟨a, Cl, dx, gs, u', rfl, ha, c, n, hl, k u' F1 H1 u C1 e1 h1 ru q⟩
    · exact fun z => z.elim⟩
theorem ds_fld (c : Cls X.K Cl) (n : NoAttr X.K Cl (Str.ofString f)) (ho : PE X o (tE X.K W wa)) (hv : PE X value (tE X.K W wv)) (hs : swapsWith value (some (.Attribute o (Str.ofString f) pos')) pos.line X.env = pure false := by rfl) :
    PS X (.Assign [.Attribute o (Str.ofString f) pos'] value pos) (tS X.K W (wFldSet Cl f wa wv)) := PS.imp (ps_fld ho hv hs) fun Dn σ H ⟨F, C, ρ, DE, hs, en, xr, w, er⟩ =>
  ⟨F, C, ρ, _, _, hs, en, xr, w, fun y F1 H1 d C1 e1 h1 ry q => ⟨F1, C1, ρ, _, _, h1, en.mono e1, xr.mono e1, q, fun v F2 H2 x C2 e2 h2 rx q2 => by
    cases rx <;> first | exact q2.elim | skip
    rename_i p
    revert q2
    show (match C2 p with | some (.ins c fs) => _ | _ => False) → _
    split
    · rename_i cl fs hc
      rintro ⟨rfl, hl, q2⟩
      obtain ⟨f0, dx, gs, hg, rf⟩ := h2.cell p _ hc
      have h3 := h2.put (o := .ins cl dx (putF (Str.ofString f) y gs)) (c := .ins cl (dput f d fs)) f0 ⟨dx, _, upd_same, rf.put (ry.mono e2)⟩
      exact ⟨p, cl, dx, gs, rfl, hg, c, n, by rw [rf.length]; exact hl, er.nx σ F2 _ ρ _ (e1.trans e2) h3 (en.mono (e1.trans e2)) q2⟩
    · exact fun z => z.elim⟩⟩
end

/-! ### a def's body keeps its promise -/
def endsD (P : DK) : DEnds := { nx := fun _ C' => ∃ C2, Sub C2 C' ∧ P .non C2, rt := fun d C' => ∃ C2, Sub C2 C' ∧ P d C2, bk := fun _ _ => False, ct := fun _ _ => False, ex := fun _ _ _ _ => False }
def endsX (P : DK) (PX : XC) : DEnds := { nx := fun _ C' => ∃ C2, Sub C2 C' ∧ P .non C2, rt := fun d C' => ∃ C2, Sub C2 C' ∧ P d C2, bk := fun _ _ => False, ct := fun _ _ => False, ex := fun cls fs _ C' => ∃ C2, Sub C2 C' ∧ PX cls fs C2 }
def startD (N : List Str) (ds : List D) : DEnv := ds.map some ++ List.replicate (N.length - ds.length) none
theorem start_ok {K : PySem.W.Frag} {F : Hp} {N : List Str} {vs : List V} {ds : List D} (r : RepL K F vs ds) : EnvR K F (L2.start N vs) (startD N ds) := by
  have hl := r.length
  refine ⟨by simp [L2.start, startD, hl], fun i d h => ?_⟩
  unfold startD at h
  unfold L2.start
  rcases Nat.lt_or_ge i ds.length with z | z
  · rw [List.getElem?_append_left (by simpa using z), List.getElem?_map] at h
    cases e : ds[i]? with
    | none => rw [e] at h; cases h
    | some d' =>
      rw [e] at h
      simp only [Option.map_some, Option.some.injEq] at h
      subst h
      obtain ⟨v, hv, rv⟩ := r.get e
      exact ⟨v, by rw [List.getElem?_append_left (by simpa [hl] using z), List.getElem?_map, hv]; rfl, rv⟩
  · rw [List.getElem?_append_right (by simpa using z)] at h
    have := List.mem_of_getElem? h
    simp at this
section
variable {P : Program} {w : World} {K : PySem.W.Frag} {mg : Str → Option Value} {base : Heap} {x qual : Str} {st : Stmt} {f : Addr} {fd : FuncData} {N ps : List Str} {k : Nat} {R : DSp} {RX : DSpX} {ws : DS}
abbrev W0 : WX := fun _ _ _ _ => False
theorem ok_D (F : Fun K x qual st f fd) (S : FnScope N ps (defScope st)) (len : ∀ ds C Pk, R ds C Pk → ds.length = ps.length)
    (hbody : ∀ (cdv : Value) (A : Around) (outer : List Env) (s : Shared) (H : Hp) (E : XK), Room k (A.deeper (envOfC qual (defScope st) s.heap.objs.size f cdv)) → PSs (cxOf CX0 P w K mg base N qual (defScope st) f cdv A outer s H E).nox (defBody st) (tS K W0 ws))
    (hw : ∀ ds C Pk, R ds C Pk → ws (endsD Pk) (startD N ds) C) : FnOk P w K mg base CX0 (k + 1) f fd ps (spD K R) := by
  refine F.ok S (fun vs H Q E ⟨F1, C, ds, Pk, hs, r, h, _⟩ => by rw [r.length]; exact len ds C Pk h) fun cdv A outer s H vs Q E hr ⟨F1, C, ds, Pk, hs, r, h, kk⟩ => ?_
  refine ⟨_, hbody cdv A outer s H E hr, F1, C, startD N ds, endsD Pk, hs, start_ok r, fun _ _ _ _ _ _ _ _ _ _ _ _ z => z.elim, hw ds C Pk h, ?_⟩
  exact ⟨fun σ F2 H2 ρ C2 e2 h2 n2 ⟨C3, s3, q⟩ => kk _ F2 H2 _ C3 e2 (h2.sub s3) .non q, fun v F2 H2 d C2 e2 h2 rv ⟨C3, s3, q⟩ => kk v F2 H2 d C3 e2 (h2.sub s3) rv q, fun _ _ _ _ _ _ _ _ z => z.elim, fun _ _ _ _ _ _ _ _ z => z.elim⟩
/-- what leaves this def -/
abbrev WD (E : XK) : WX := fun cls d _ H => E cls d H
theorem ok_DX (F : Fun K x qual st f fd) (S : FnScope N ps (defScope st)) (len : ∀ ds C Pk PX, RX ds C Pk PX → ds.length = ps.length)
    (hbody : ∀ (cdv : Value) (A : Around) (outer : List Env) (s : Shared) (H : Hp) (E : XK), Room k (A.deeper (envOfC qual (defScope st) s.heap.objs.size f cdv)) → Takes (cxOf (L2.CX P w) P w K mg base N qual (defScope st) f cdv A outer s H E) (WD E) →
      PSs (cxOf (L2.CX P w) P w K mg base N qual (defScope st) f cdv A outer s H E) (defBody st) (tS K (WD E) ws))
    (hw : ∀ ds C Pk PX, RX ds C Pk PX → ws (endsX Pk PX) (startD N ds) C) : FnOk P w K mg base (L2.CX P w) (k + 1) f fd ps (spX K RX) := by
  refine F.okX S (fun vs H Q E ⟨F1, C, ds, Pk, PX, hs, r, h, _⟩ => by rw [r.length]; exact len ds C Pk PX h) fun cdv A outer s H vs Q E hr ⟨F1, C, ds, Pk, PX, hs, r, h, kk, kx⟩ => ?_
  refine ⟨_, hbody cdv A outer s H E hr (takes_of rfl rfl rfl rfl), F1, C, startD N ds, endsX Pk PX, hs, start_ok r, fun cls d fs σ F2 H2 ρ C2 e2 h2 n2 rx ⟨C3, s3, q⟩ => kx cls d fs F2 H2 C3 e2 (h2.sub s3) rx q, hw ds C Pk PX h, ?_⟩
  exact ⟨fun σ F2 H2 ρ C2 e2 h2 n2 ⟨C3, s3, q⟩ => kk _ F2 H2 _ C3 e2 (h2.sub s3) .non q, fun v F2 H2 d C2 e2 h2 rv ⟨C3, s3, q⟩ => kk v F2 H2 d C3 e2 (h2.sub s3) rv q, fun _ _ _ _ _ _ _ _ z => z.elim, fun _ _ _ _ _ _ _ _ z => z.elim⟩
end
end DD

set_option Elab.async false
set_option linter.all false
set_option maxRecDepth 100000
set_option maxHeartbeats 4000000
/-! Readings over data: lists, tuples, built-ins, equality, comprehensions. -/
namespace DD
open PySem L2 PyProof.Rows

/-! ### sequences -/
def seqOf (x : D) (C : Cells) : Option (List D) := match x with
  | .lst ds => some ds
  | .ptr a => match C a with
    | some (.lst ds) => some ds
    | _ => none
  | _ => none
/-- a list or a tuple -/
def itsOf (x : D) (C : Cells) : Option (List D) := match x with
  | .tup ds => some ds
  | .ktup ds => some ds
  | x => seqOf x C
section
variable {K : PySem.W.Frag} {F H : Hp} {C : Cells} {v : V} {x : D} {ds : List D}
theorem seq_of (hs : Hs K F C H) (r : Rep K F v x) (h : seqOf x C = some ds) : ∃ a xs, v = .ref a ∧ SqL K H a xs ∧ RepL K F xs ds := by
  cases r <;> first | (simp [seqOf] at h; done) | skip
  · rename_i a xs ds' hq hr
    simp only [seqOf, Option.some.injEq] at h
    subst h
    exact ⟨a, xs, rfl, ex_l hs.ex hq, hr⟩
  · rename_i a
    simp only [seqOf] at h
    split at h
    · rename_i ds' hc
      simp only [Option.some.injEq] at h
      subst h
      obtain ⟨_, xs, hx, r⟩ := hs.cell a _ hc
      exact ⟨a, xs, rfl, .of hx, r⟩
    · cases h
theorem its_of (hs : Hs K F C H) (r : Rep K F v x) (h : itsOf x C = some ds) : ∃ a xs, v = .ref a ∧ (SqL K H a xs ∨ SqT K H a xs) ∧ RepL K F xs ds := by
  have go : seqOf x C = some ds → ∃ a xs, v = .ref a ∧ (SqL K H a xs ∨ SqT K H a xs) ∧ RepL K F xs ds := fun h => by
    obtain ⟨a, xs, h1, h2, h3⟩ := seq_of hs r h
    exact ⟨a, xs, h1, .inl h2, h3⟩
  cases r <;> first
    | exact go h
    | (rename_i a xs ds' hq hr
       simp only [itsOf, Option.some.injEq] at h
       subst h
       exact ⟨a, xs, rfl, .inr (by first | exact .of (hs.ex.nd hq rfl) | exact ex_t hs.ex hq), hr⟩)
theorem atI_rep {xs : List V} {d : D} {i : Int} (r : RepL K F xs ds) (h : atI ds i = some d) : ∃ u, atI xs i = some u ∧ Rep K F u d := by
  unfold atI at h ⊢
  rw [r.length]
  cases e : ixN ds.length i with
  | none => rw [e] at h; cases h
  | some j =>
    rw [e] at h
    exact r.get h
end
/-- len(x) -/
def lenOf (x : D) (C : Cells) : Option Nat := match x with
  | .str z => if z.length ≤ 100000 then some z.length else none
  | x => (itsOf x C).map (·.length)
def dLen (ds : List D) (C : Cells) (P : DK) : Prop := match ds with
  | [x] => match lenOf x C with
    | some n => P (.int n) C
    | none => False
  | _ => False
/-- x[i] -/
def itemOf (x : D) (C : Cells) (i : Int) : Option D := match x with
  | .str z => if z.length ≤ 100000 then (atI z.cps.toList i).map fun c => .str ⟨#[c]⟩ else none
  | x => (itsOf x C).bind fun ds => atI ds i
def dIx (x : D) (y : D) (C : Cells) (P : DK) : Prop := match y with
  | .int i => match itemOf x C i with
    | some d => P d C
    | none => False
  | _ => False
section
variable {K : PySem.W.Frag}
theorem RepL.one {F : Hp} {xs : List V} {x : D} (r : RepL K F xs [x]) : ∃ v, xs = [v] ∧ Rep K F v x := by
  cases r with
  | cons r1 r2 =>
    cases r2
    exact ⟨_, rfl, r1⟩
theorem s_len : SimA K (fun xs H Q => ∃ x n, xs = [x] ∧ LenV K x H n ∧ Q (.int n) H) dLen := fun F C H xs ds P Q hs r w k => by
  revert w
  unfold dLen
  split
  · rename_i x
    split
    · rename_i n hn
      intro w
      obtain ⟨v, rfl, r1⟩ := r.one
      refine ⟨v, n, rfl, ?_, k _ F H _ C (Ex.refl F) hs (.int _) w⟩
      have go : ∀ ds', itsOf x C = some ds' → n = ds'.length → LenV K v H n := fun ds' e en => by
        obtain ⟨a, xs, rfl, h2, h3⟩ := its_of hs r1 e
        show (∃ xs, SqL K H a xs ∧ n = xs.length) ∨ ∃ xs, SqT K H a xs ∧ n = xs.length
        rcases h2 with h2 | h2
        · exact .inl ⟨xs, h2, by rw [en, h3.length]⟩
        · exact .inr ⟨xs, h2, by rw [en, h3.length]⟩
      cases r1 <;> first
        | (simp only [lenOf, Option.map_eq_some_iff] at hn
           obtain ⟨ds', e1, e2⟩ := hn
           exact go ds' e1 e2.symm)
        | (simp only [lenOf] at hn
           split at hn
           · rename_i hz
             cases hn
             exact ⟨sz_of hz, rfl⟩
           · cases hn)
    · exact fun z => z.elim
  · exact fun z => z.elim
theorem s_ix : SimR K (rIx K) dIx := fun F C H x y dx dy P Q hs rx ry w k => by
  revert w
  unfold dIx
  split
  · rename_i i
    cases ry
    split
    · rename_i d hd
      intro w
      have go : ∀ ds', itsOf dx C = some ds' → atI ds' i = some d → rIx K x (.int i) H Q := fun ds' e en => by
        obtain ⟨a, xs, rfl, h2, h3⟩ := its_of hs rx e
        obtain ⟨u, hu, ru⟩ := atI_rep h3 en
        rcases h2 with h2 | h2
        · exact .inl ⟨a, xs, i, u, rfl, rfl, h2, hu, k u F H d C (Ex.refl F) hs ru w⟩
        · exact .inr (.inl ⟨a, xs, i, u, rfl, rfl, h2, hu, k u F H d C (Ex.refl F) hs ru w⟩)
      cases rx <;> first
        | (simp only [itemOf, Option.bind_eq_some_iff] at hd
           obtain ⟨ds', e1, e2⟩ := hd
           exact go ds' e1 e2)
        | (simp only [itemOf] at hd
           split at hd
           · rename_i hz
             rw [Option.map_eq_some_iff] at hd
             obtain ⟨c, hc, rfl⟩ := hd
             exact .inr (.inr ⟨_, i, c, rfl, rfl, sz_of hz, hc, k _ F H _ C (Ex.refl F) hs (.str _) w⟩)
           · cases hd)
    · exact fun z => z.elim
  · exact fun z => z.elim
end

/-! ### a list that changes -/
def wSetL (o i e : DE) (E : DEnds) (ρ : DEnv) (C : Cells) : Prop := e ρ C (fun d C1 => o ρ C1 (fun x C2 => i ρ C2 (fun y C3 => match x, y with
  | .ptr a, .int n => match C3 a with
    | some (.lst ds) => match ixN ds.length n with
      | some j => E.nx ρ (cput C3 a (.lst (ds.set j d)))
      | none => False
    | _ => False
  | _, _ => False) E.ex) E.ex) E.ex
/-- o[i] op= e -/
def wAugL (o i e : DE) (r : DR2) (E : DEnds) (ρ : DEnv) (C : Cells) : Prop := o ρ C (fun x C1 => i ρ C1 (fun y C2 => match x, y with
  | .ptr a, .int n => match C2 a with
    | some (.lst ds) => match atI ds n with
      | some d => e ρ C2 (fun z C3 => r d z C3 (fun u C4 => match C4 a with
        | some (.lst ds') => match ixN ds'.length n with
          | some j => E.nx ρ (cput C4 a (.lst (ds'.set j u)))
          | none => False
        | _ => False)) E.ex
      | none => False
    | _ => False
  | _, _ => False) E.ex) E.ex
abbrev DRM := D → List D → Cells → DK → Prop
def isSeq (x : D) (C : Cells) : Prop := (seqOf x C).isSome = true
/-- a list's method -/
def wBML (r : DRM) (o : DE) (a : DA) (ρ : DEnv) (C : Cells) (P : DK) (PX : DX) : Prop := o ρ C (fun x C1 => isSeq x C1 ∧ a ρ C1 (fun ds C2 => r x ds C2 P) PX) PX
def SimM (K : PySem.W.Frag) (r : V → List V → Hp → VK → Prop) (rd : DRM) : Prop := ∀ F C H x dx xs ds P Q, Hs K F C H → Rep K F x dx → RepL K F xs ds → rd dx ds C P → Kont K F P Q → r x xs H Q
def dAppend (x : D) (ds : List D) (C : Cells) (P : DK) : Prop := match x, ds with
  | .ptr a, [d] => match C a with
    | some (.lst xs) => xs.length < 100000 ∧ P .non (cput C a (.lst (xs ++ [d])))
    | _ => False
  | _, _ => False
def dPop (x : D) (ds : List D) (C : Cells) (P : DK) : Prop := match x, ds with
  | .ptr a, [] => match C a with
    | some (.lst xs) => match xs[xs.length - 1]? with
      | some d => P d (cput C a (.lst xs.dropLast))
      | none => False
    | _ => False
  | _, _ => False
section
variable {X : Cx} {W : WX} {K : PySem.W.Frag} {o i e : Expr} {es : List Expr} {wo wi we : DE} {wr : DA} {pos tpos apos : Pos}
theorem i_setL {F H : Hp} {C : Cells} {a : Addr} {ds : List D} {d : D} {v : V} {j : Nat} (hs : Hs K F C H) (hc : C a = some (.lst ds)) (rv : Rep K F v d) :
    ∃ xs, H a = some (.lst xs) ∧ xs.length = ds.length ∧ RepL K F xs ds ∧ Hs K F (cput C a (.lst (ds.set j d))) (upd H a (.lst (xs.set j v))) := by
  obtain ⟨f0, xs, hx, r⟩ := hs.cell a _ hc
  exact ⟨xs, hx, r.length, r, hs.put (c := .lst (ds.set j d)) f0 ⟨_, upd_same, r.set rv j⟩⟩
theorem ds_setL (ho : PE X o (tE X.K W wo)) (hi : PE X i (tE X.K W wi)) (he : PE X e (tE X.K W we))
    (ha : ∀ v, assign (.Subscript o i pos) X.env v = (do
      let ov ← holding [v] (eval o X.env)
      let iv ← holding [v, ov] (eval i X.env)
      standAt pos
      holding [v, ov, iv] (setItem ov iv v)
      release [v, ov, iv] []) := by intro _; rfl)
    (hs : swapsWithSole [.Subscript o i pos] e tpos.line X.env = pure false := by rfl) (hw : swappedStores [.Subscript o i pos] e X.env = pure none := by rfl)
    (h1 : (assignEach [.Subscript o i pos] X.env).map (·.2) = [assign (.Subscript o i pos) X.env] := by rfl) : PS X (.Assign [.Subscript o i pos] e tpos) (tS X.K W (wSetL wo wi we)) :=
  PS.imp (ps_asg he (pg_sub ho hi set_list ha) hs hw h1) fun Dn σ H ⟨F, C, ρ, DE, hs, en, xr, w, er⟩ =>
  ⟨F, C, ρ, _, _, hs, en, xr, w, fun v F1 H1 d C1 e1 h1 rv q => ⟨F1, C1, ρ, _, _, h1, en.mono e1, xr.mono e1, q, fun x F2 H2 dx C2 e2 h2 rx q2 => ⟨F2, C2, ρ, _, _, h2, en.mono (e1.trans e2), xr.mono (e1.trans e2), q2, fun y F3 H3 dy C3 e3 h3 ry q3 => by
    revert q3
    dsimp only
    split
    · rename_i a n
      cases ry
      cases rx
      split
      · rename_i ds hc
        split
        · rename_i j hj
          intro q3
          obtain ⟨xs, hx, hl, r, h4⟩ := i_setL (j := j) h3 hc (rv.mono (e2.trans e3))
          exact ⟨a, xs, n, j, rfl, rfl, hx, by rw [hl]; exact hj, er.nx σ F3 _ ρ _ ((e1.trans e2).trans e3) h4 (en.mono ((e1.trans e2).trans e3)) q3⟩
        · exact fun z => z.elim
      · exact fun z => z.elim
    · exact fun z => z.elim⟩⟩⟩
theorem get_list : PGet X (rIxL X.K) := by
  intro pins s σ H x y v u Q I rx ry h
  obtain ⟨p, xs, i, z, rfl, rfl, hq, he, q⟩ := h
  cases rx
  obtain ⟨t, rfl⟩ := ry
  obtain ⟨its, r, pl, hz⟩ := I.list hq
  obtain ⟨j, h1, h2, h3, h4, h5⟩ := atI_get he
  obtain ⟨w, ew, rw'⟩ := r.get h2
  have hl := r.length
  have hn := line63
  have fin : EP X pins σ Q w s := ⟨z, H, I, rw', q⟩
  by_cases h0 : 0 ≤ i
  · have hj : i.toNat = j := by
      rw [seqIndex_of h0 h5] at h1
      exact Option.some.inj h1
    exact wpAny_getItem_list (x := w) pl.isList h0 (by omega) (by rw [hj]; simpa using ew) fin
  · have hj : (i + (its.toArray.size : Int)).toNat = j := by
      rw [seqIndex_neg (by omega) h4] at h1
      rw [List.size_toArray, ← hl]
      exact Option.some.inj h1
    exact wpAny_getItem_list_neg (x := w) pl.isList (by omega) (by rw [List.size_toArray] <;> omega) (by omega) (by rw [hj]; simpa using ew) fin
theorem ds_augL {op : Operator} {ti : TIp} {rd : DR2} (ho : PE X o (tE X.K W wo)) (hi : PE X i (tE X.K W wi)) (he : PE X e (tE X.K W we)) (hp : PIp X op ti) (hr : SimR X.K ti rd)
    (ha : ∀ ov iv new, augStore i ov iv new = (do holding [new, ov, iv] (setItem ov iv new); release [new, ov, iv] []; pure .next) := by intros; rfl) : PS X (.AugAssign (.Subscript o i tpos) op e pos) (tS X.K W (wAugL wo wi we rd)) :=
  PS.imp (ps_augS ho hi get_list he hp set_list ha) fun Dn σ H ⟨F, C, ρ, DE, hs, en, xr, w, er⟩ =>
  ⟨F, C, ρ, _, _, hs, en, xr, w, fun x F1 H1 dx C1 e1 h1 rx q => ⟨F1, C1, ρ, _, _, h1, en.mono e1, xr.mono e1, q, fun y F2 H2 dy C2 e2 h2 ry q2 => by
    revert q2
    dsimp only
    split
    · rename_i a n
      cases ry
      cases rx
      split
      · rename_i ds hc
        split
        · rename_i d hd
          intro q2
          obtain ⟨f0, xs, hx, r⟩ := h2.cell a _ hc
          obtain ⟨u, hu, ru⟩ := atI_rep r hd
          refine ⟨a, xs, n, u, rfl, rfl, .of hx, hu, F2, C2, ρ, _, _, h2, en.mono (e1.trans e2), xr.mono (e1.trans e2), q2, fun z F3 H3 dz C3 e3 h3 rz q3 => hr F3 C3 H3 u z d dz _ _ h3 (ru.mono e3) rz q3 fun g F4 H4 dg C4 e4 h4 rg q4 => ?_⟩
          revert q4
          split
          · rename_i ds' hc'
            split
            · rename_i j hj
              intro q4
              obtain ⟨xs', hx', hl', r', h5⟩ := i_setL (j := j) h4 hc' rg
              have ee := ((e1.trans e2).trans e3).trans e4
              exact ⟨a, xs', n, j, rfl, rfl, hx', by rw [hl']; exact hj, er.nx σ F4 _ ρ _ ee h5 (en.mono ee) q4⟩
            · exact fun z => z.elim
          · exact fun z => z.elim
        · exact fun z => z.elim
      · exact fun z => z.elim
    · exact fun z => z.elim⟩⟩
theorem isSeq_ty {F H : Hp} {C : Cells} {v : V} {x : D} (hs : Hs K F C H) (r : Rep K F v x) (h : isSeq x C) : tyV K "list" v H := by
  unfold isSeq at h
  obtain ⟨ds, hd⟩ := Option.isSome_iff_exists.mp h
  obtain ⟨a, xs, rfl, h2, _⟩ := seq_of hs r hd
  exact .inl ⟨rfl, xs, h2⟩
theorem d_bmL {id : String} {name : Str} {r : V → List V → Hp → VK → Prop} {rd : DRM} (pa : PlainAttrs "list") (slot : Slot "list" name id) (hty : typeOf (.builtin id) = pure (.type "method_descriptor")) (hm : MtR X id r) (hr : SimM X.K r rd) (ho : PE X o (tE X.K W wo)) (ha : PA X (e :: es) (tA X.K W wr))
    (hbase : attributeBase o name X.env (eval o X.env) = eval o X.env := by rfl)
    (hfew : ((backTo pos (starEach (e :: es) X.env)).all (fun x => !x.1) && (backToKw pos (keywordEach [] X.env)).all (fun x => x.1.isSome)
      && decide ((e :: es).length + ([] : List Keyword).length + (if ([] : List Keyword).isEmpty then 0 else 1) < 30)) = true := by rfl)
    (hline : (apos.endLine == pos.line) = true := by rfl) (hs : starEach (e :: es) X.env = (false, eval e X.env) :: starEach es X.env := by rfl) (hplain : (backTo pos (starEach es X.env)).any (·.1) = false := by rfl) :
    PE X (.Call (.Attribute o name apos) (e :: es) [] pos) (tE X.K W (wBML rd wo wr)) :=
  PE.imp (pe_bm pa slot hty hm ho ha hbase hfew hline hs hplain) fun σ H Q ⟨F, C, ρ, P, PX, hs, en, xr, w, k⟩ => ⟨F, C, ρ, _, PX, hs, en, xr, w, fun v F1 H1 d C1 e1 h1 rv q => ⟨isSeq_ty h1 rv q.1, F1, C1, ρ, _, PX, h1, en.mono e1, xr.mono e1, q.2, fun vs F2 H2 ds C2 e2 h2 rl q2 => hr F2 C2 H2 v d vs ds P Q h2 (rv.mono e2) rl q2 (k.mono (e1.trans e2))⟩⟩
theorem d_bmL0 {id : String} {name : Str} {r : V → List V → Hp → VK → Prop} {rd : DRM} (pa : PlainAttrs "list") (slot : Slot "list" name id) (hty : typeOf (.builtin id) = pure (.type "method_descriptor")) (hm : MtR X id r) (hr : SimM X.K r rd) (ho : PE X o (tE X.K W wo))
    (hbase : attributeBase o name X.env (eval o X.env) = eval o X.env := by rfl) (hline : (apos.endLine == pos.line) = true := by rfl) : PE X (.Call (.Attribute o name apos) [] [] pos) (tE X.K W (wBML rd wo wNil)) :=
  PE.imp (pe_bm0 pa slot hty hm ho hbase hline) fun σ H Q ⟨F, C, ρ, P, PX, hs, en, xr, w, k⟩ => ⟨F, C, ρ, _, PX, hs, en, xr, w, fun v F1 H1 d C1 e1 h1 rv q => ⟨isSeq_ty h1 rv q.1, hr F1 C1 H1 v d [] [] P Q h1 rv .nil q.2 (k.mono e1)⟩⟩
theorem s_append : SimM K rAppend dAppend := fun F C H x dx xs ds P Q hs rx rl w k => by
  revert w
  unfold dAppend
  split
  · rename_i a d
    cases rx
    split
    · rename_i ys hc
      rintro ⟨hl, w⟩
      cases rl with
      | cons r1 r2 =>
        cases r2
        obtain ⟨f0, zs, hx, r⟩ := hs.cell a _ hc
        exact ⟨a, zs, _, rfl, rfl, hx, by rw [r.length]; exact sz_lt hl, k _ F _ _ _ (Ex.refl F) (hs.put (c := .lst (ys ++ [d])) f0 ⟨_, upd_same, r.append (.cons r1 .nil)⟩) .non w⟩
    · exact fun z => z.elim
  · exact fun z => z.elim
theorem s_pop : SimM K rPop dPop := fun F C H x dx xs ds P Q hs rx rl w k => by
  revert w
  unfold dPop
  split
  · rename_i a
    cases rx
    cases rl
    split
    · rename_i ys hc
      split
      · rename_i d hd
        intro w
        obtain ⟨f0, zs, hx, r⟩ := hs.cell a _ hc
        obtain ⟨u, hu, ru⟩ := r.get hd
        exact ⟨a, zs, u, rfl, rfl, hx, by rw [r.length]; exact hu, k _ F _ _ _ (Ex.refl F) (hs.put (c := .lst ys.dropLast) f0 ⟨_, upd_same, r.dropLast⟩) ru w⟩
      · exact fun z => z.elim
    · exact fun z => z.elim
  · exact fun z => z.elim
end
/-! ### + and * of lists, slices, list(..) -/
def dCat (x : D) (y : D) (C : Cells) (P : DK) : Prop := match seqOf x C, seqOf y C with
  | some xs, some ys => xs.length + ys.length ≤ 100000 ∧ P (.lst (xs ++ ys)) C
  | _, _ => False
def rCatS (K : PySem.W.Frag) : R2 := fun x y H Q => ∃ l b xs zs, x = .ref l ∧ y = .ref b ∧ SqL K H l xs ∧ SqL K H b zs ∧ xs.length + zs.length ≤ sizeLine ∧ ∀ p, H p = none → Q (.ref p) (upd H p (.lst (xs ++ zs)))
theorem op_catS {X : Cx} : OpR X (binaryOp .Add) (rCatS X.K) := by
  intro pins s σ H x y v u Q I rx ry h
  obtain ⟨l, b, xs, zs, rfl, rfl, hH, hB, hz, q⟩ := h
  cases rx
  cases ry
  obtain ⟨its, r, pl, _⟩ := I.list hH
  obtain ⟨its2, r2, pl2, _⟩ := I.list hB
  obtain ⟨⟨cls, dd, data, sl⟩, ho, hc, n, hd⟩ := id pl.isList
  obtain ⟨⟨cls2, dd2, data2, sl2⟩, ho2, hc2, n2, hd2⟩ := id pl2.isList
  simp only at hc hd hc2 hd2
  subst hc hd hc2 hd2
  have hl := r.length
  have hl2 := r2.length
  have e : its.toArray ++ its2.toArray = (its ++ its2).toArray := by simp
  refine concat_meets ⟨_, ho, rfl⟩ ⟨_, ho2, rfl⟩ noFill_list_add seq_list_add PySem.F.slot_list_add PySem.F.entry_list_add (PySem.F.args_list_add_2 _ _) (list_addW l b its.toArray its2.toArray n n2 dd dd2 sl sl2 (by rw [List.size_toArray, List.size_toArray]; omega)) ⟨ho, ho2, ?_⟩
  rw [e]
  exact ⟨.ref _, _, I.lnew (t' := s.toks) (r.append r2) (by rw [List.length_append]; omega), rfl, q _ I.fresh⟩
section
variable {X : Cx} {W : WX} {K : PySem.W.Frag}
theorem s_cat : SimR K (rCatS K) dCat := fun F C H x y dx dy P Q hs rx ry w k => by
  revert w
  unfold dCat
  split
  · rename_i xs ys h1 h2
    rintro ⟨hz, w⟩
    obtain ⟨a, us, rfl, hu, ru⟩ := seq_of hs rx h1
    obtain ⟨b, vs, rfl, hv, rv⟩ := seq_of hs ry h2
    refine ⟨a, b, us, vs, rfl, rfl, hu, hv, by rw [ru.length, rv.length]; exact sz_of hz, fun p hp => ?_⟩
    obtain ⟨e2, h3, r3⟩ := hs.newL (ru.append rv) hp
    exact k _ _ _ _ C e2 h3 r3 w
  · exact fun z => z.elim
/-- [e, ..] * n, the new list frozen, or a cell -/
def wRep (a : DA) (n : DE) (ρ : DEnv) (C : Cells) (P : DK) (PX : DX) : Prop := a ρ C (fun ds C1 => ds.length ≤ 100000 ∧ n ρ C1 (fun y C2 => match y with
  | .int k => (-(2 ^ 63) ≤ k ∧ k < 2 ^ 63 ∧ ds.length * k.toNat ≤ 100000) ∧ P (.lst (List.replicate k.toNat ds).flatten) C2
  | _ => False) PX) PX
def wRepC (a : DA) (n : DE) (ρ : DEnv) (C : Cells) (P : DK) (PX : DX) : Prop := a ρ C (fun ds C1 => ds.length ≤ 100000 ∧ n ρ C1 (fun y C2 => match y with
  | .int k => (-(2 ^ 63) ≤ k ∧ k < 2 ^ 63 ∧ ds.length * k.toNat ≤ 100000) ∧ ∀ p, C2 p = none → P (.ptr p) (cput C2 p (.lst (List.replicate k.toNat ds).flatten))
  | _ => False) PX) PX
theorem RepL.flat {F : Hp} {xs : List V} {ds : List D} (r : RepL K F xs ds) : ∀ n, RepL K F (List.replicate n xs).flatten (List.replicate n ds).flatten
  | 0 => .nil
  | n + 1 => by
    rw [List.replicate_succ, List.flatten_cons, List.replicate_succ, List.flatten_cons]
    exact r.append (RepL.flat r n)
theorem d_rep {es : List Expr} {b : Expr} {wr : DA} {wb : DE} {pos p2 : Pos} (ha : PA X es (tA X.K W wr)) (hb : PE X b (tE X.K W wb)) : PE X (.BinOp (.List es p2) .Mult b pos) (tE X.K W (wRep wr wb)) :=
  PE.imp (pe_op op_rep (pe_lst ha) hb) fun σ H Q ⟨F, C, ρ, P, PX, hs, en, xr, w, k⟩ => by
  refine ⟨F, C, ρ, _, PX, hs, en, xr, w, fun vs F1 H1 ds C1 e1 h1 r q => ?_⟩
  obtain ⟨hz, q⟩ := q
  refine ⟨by rw [r.length]; exact sz_of hz, fun p hp => ?_⟩
  obtain ⟨e2, h2, r2⟩ := h1.newL r hp
  refine ⟨_, C1, ρ, _, PX, h2, en.mono (e1.trans e2), xr.mono (e1.trans e2), q, fun u F3 H3 dy C3 e3 h3 ry q3 => ?_⟩
  revert q3
  dsimp only
  split
  · rename_i n
    rintro ⟨⟨b1, b2, b3⟩, q3⟩
    cases ry
    refine ⟨p, n, vs, rfl, rfl, h3.ex.nd (e3.nd upd_same rfl) rfl, b1, b2, by rw [r.length]; exact sz_of b3, fun l hl => ?_⟩
    obtain ⟨e4, h4, r4⟩ := h3.newL ((r.mono (e2.trans e3)).flat n.toNat) hl
    exact k _ _ _ _ C3 (((e1.trans e2).trans e3).trans e4) h4 r4 q3
  · exact fun z => z.elim
theorem d_repC {es : List Expr} {b : Expr} {wr : DA} {wb : DE} {pos p2 : Pos} (ha : PA X es (tA X.K W wr)) (hb : PE X b (tE X.K W wb)) : PE X (.BinOp (.List es p2) .Mult b pos) (tE X.K W (wRepC wr wb)) :=
  PE.imp (pe_op op_rep (pe_lst ha) hb) fun σ H Q ⟨F, C, ρ, P, PX, hs, en, xr, w, k⟩ => by
  refine ⟨F, C, ρ, _, PX, hs, en, xr, w, fun vs F1 H1 ds C1 e1 h1 r q => ?_⟩
  obtain ⟨hz, q⟩ := q
  refine ⟨by rw [r.length]; exact sz_of hz, fun p hp => ?_⟩
  obtain ⟨e2, h2, r2⟩ := h1.newL r hp
  refine ⟨_, C1, ρ, _, PX, h2, en.mono (e1.trans e2), xr.mono (e1.trans e2), q, fun u F3 H3 dy C3 e3 h3 ry q3 => ?_⟩
  revert q3
  dsimp only
  split
  · rename_i n
    rintro ⟨⟨b1, b2, b3⟩, q3⟩
    cases ry
    refine ⟨p, n, vs, rfl, rfl, h3.ex.nd (e3.nd upd_same rfl) rfl, b1, b2, by rw [r.length]; exact sz_of b3, fun l hl => ?_⟩
    obtain ⟨c0, h4⟩ := h3.newC ((r.mono (e2.trans e3)).flat n.toNat) hl
    exact k _ _ _ _ _ ((e1.trans e2).trans e3) h4 (.ptr l) (q3 l c0)
  · exact fun z => z.elim
end
/-! ### slices -/
abbrev DO := DEnv → Cells → (Option Int → Cells → Prop) → DX → Prop
def wNoPart (_ : DEnv) (C : Cells) (P : Option Int → Cells → Prop) (_ : DX) : Prop := P none C
def wPart (e : DE) (ρ : DEnv) (C : Cells) (P : Option Int → Cells → Prop) (PX : DX) : Prop := e ρ C (fun d C1 => match d with | .int i => P (some i) C1 | _ => False) PX
def tO (K : PySem.W.Frag) (W : WX) (w : DO) : TO := fun σ H Q => ∃ F C ρ P PX, Hs K F C H ∧ EnvR K F σ ρ ∧ ExR K F W PX ∧ w ρ C P PX ∧ ∀ o F' H' C', Ex F F' → Hs K F' C' H' → P o C' → Q o H'
theorem PO.imp {X : Cx} {e : Option Expr} {t t' : TO} (h : PO X e t) (i : ∀ σ H Q, t' σ H Q → t σ H Q) : PO X e t' := ⟨fun pins s σ H Q I w => h.run pins s σ H Q I (i σ H Q w)⟩
def cutD (xs : List D) (lo hi : Option Int) : List D := (xs.drop (HT.sIx xs.length 0 lo)).take (HT.sIx xs.length xs.length hi - HT.sIx xs.length 0 lo)
def wSl (e : DE) (lo hi : DO) (ρ : DEnv) (C : Cells) (P : DK) (PX : DX) : Prop := e ρ C (fun x C1 => lo ρ C1 (fun l C2 => hi ρ C2 (fun h C3 => match seqOf x C3 with
  | some ds => P (.lst (cutD ds l h)) C3
  | none => False) PX) PX) PX
section
variable {X : Cx} {W : WX} {K : PySem.W.Frag}
theorem do_none : PO X none (tO X.K W wNoPart) := PO.imp po_none fun σ H Q ⟨F, C, ρ, P, PX, hs, en, xr, w, k⟩ => k _ F H C (Ex.refl F) hs w
theorem do_some {e : Expr} {we : DE} (he : PE X e (tE X.K W we)) : PO X (some e) (tO X.K W (wPart we)) := PO.imp (po_some he) fun σ H Q ⟨F, C, ρ, P, PX, hs, en, xr, w, k⟩ =>
  ⟨F, C, ρ, _, PX, hs, en, xr, w, fun v F1 H1 d C1 e1 h1 r q => by
    cases r <;> first | exact q.elim | exact ⟨_, rfl, k _ F1 H1 C1 e1 h1 q⟩⟩
theorem RepL.cut {F : Hp} {xs : List V} {ds : List D} (r : RepL K F xs ds) (lo hi : Option Int) : RepL K F (cutV xs lo hi) (cutD ds lo hi) := by
  unfold cutV cutD
  rw [r.length]
  exact (r.drop _).take _
theorem d_sl {e : Expr} {lo hi : Option Expr} {we : DE} {wl wh : DO} {p2 pos : Pos} (he : PE X e (tE X.K W we)) (hl : PO X lo (tO X.K W wl)) (hh : PO X hi (tO X.K W wh)) : PE X (.Subscript e (.Slice lo hi none p2) pos) (tE X.K W (wSl we wl wh)) :=
  PE.imp (pe_slice sl_list he hl hh) fun σ H Q ⟨F, C, ρ, P, PX, hs, en, xr, w, k⟩ =>
  ⟨F, C, ρ, _, PX, hs, en, xr, w, fun v F1 H1 x C1 e1 h1 rv q => ⟨F1, C1, ρ, _, PX, h1, en.mono e1, xr.mono e1, q, fun l F2 H2 C2 e2 h2 q2 => ⟨F2, C2, ρ, _, PX, h2, en.mono (e1.trans e2), xr.mono (e1.trans e2), q2, fun h F3 H3 C3 e3 h3 q3 => by
    revert q3
    dsimp only
    split
    · rename_i ds hd
      intro q3
      obtain ⟨a, us, rfl, hu, ru⟩ := seq_of h3 (rv.mono (e2.trans e3)) hd
      refine ⟨a, us, rfl, hu, fun p hp => ?_⟩
      obtain ⟨e4, h4, r4⟩ := h3.newL (ru.cut l h) hp
      exact k _ _ _ _ C3 (((e1.trans e2).trans e3).trans e4) h4 r4 q3
    · exact fun z => z.elim⟩⟩⟩
end

/-! ### built-ins -/
/-- list(x): frozen, a cell -/
def dList (ds : List D) (C : Cells) (P : DK) : Prop := match ds with
  | [x] => match itsOf x C with
    | some xs => P (.lst xs) C
    | none => False
  | _ => False
def dListC (ds : List D) (C : Cells) (P : DK) : Prop := match ds with
  | [x] => match itsOf x C with
    | some xs => ∀ p, C p = none → P (.ptr p) (cput C p (.lst xs))
    | none => False
  | _ => False
def dTupleOf (ds : List D) (C : Cells) (P : DK) : Prop := match ds with
  | [x] => match itsOf x C with
    | some xs => P (match x with | .ktup ys => .ktup ys | _ => .tup xs) C
    | none => False
  | _ => False
def dMax2 (ds : List D) (C : Cells) (P : DK) : Prop := match ds with
  | [.int i, .int j] => P (.int (max i j)) C
  | _ => False
def dMin2 (ds : List D) (C : Cells) (P : DK) : Prop := match ds with
  | [.int i, .int j] => P (.int (min i j)) C
  | _ => False
def dAbs (ds : List D) (C : Cells) (P : DK) : Prop := match ds with
  | [.int i] => P (.int i.natAbs) C
  | _ => False
def dInt (ds : List D) (C : Cells) (P : DK) : Prop := match ds with
  | [.int i] => P (.int i) C
  | [.bl b] => P (.int (if b then 1 else 0)) C
  | _ => False
/-- the whole numbers of a list -/
def IntsOf (x : D) (C : Cells) (ns : List Int) : Prop := seqOf x C = some (ns.map D.int)
def dSum (ds : List D) (C : Cells) (P : DK) : Prop := match ds with
  | [x] => ∃ ns, IntsOf x C ns ∧ P (.int ns.sum) C
  | _ => False
def maxI : List Int → Int
  | [] => 0
  | x :: r => r.foldl max x
def minI : List Int → Int
  | [] => 0
  | x :: r => r.foldl min x
def dMaxL (ds : List D) (C : Cells) (P : DK) : Prop := match ds with
  | [x] => ∃ ns, IntsOf x C ns ∧ ns ≠ [] ∧ P (.int (maxI ns)) C
  | _ => False
def dMinL (ds : List D) (C : Cells) (P : DK) : Prop := match ds with
  | [x] => ∃ ns, IntsOf x C ns ∧ ns ≠ [] ∧ P (.int (minI ns)) C
  | _ => False
def sortI (ns : List Int) : List Int := ns.mergeSort (fun a b => decide (a ≤ b))
def dSortI (ds : List D) (C : Cells) (P : DK) : Prop := match ds with
  | [x] => ∃ ns, IntsOf x C ns ∧ P (.lst ((sortI ns).map D.int)) C
  | _ => False
theorem foldl_max_spec : ∀ (r : List Int) (x : Int), (r.foldl max x = x ∨ r.foldl max x ∈ r) ∧ x ≤ r.foldl max x ∧ ∀ y ∈ r, y ≤ r.foldl max x
  | [], x => ⟨.inl rfl, Int.le_refl _, by simp⟩
  | z :: r, x => by
    obtain ⟨h1, h2, h3⟩ := foldl_max_spec r (max x z)
    simp only [List.foldl_cons]
    refine ⟨?_, by omega, fun y hy => ?_⟩
    · rcases h1 with h1 | h1
      · rcases Int.le_total x z with h | h
        · rw [h1, Int.max_eq_right h]; exact .inr List.mem_cons_self
        · rw [h1, Int.max_eq_left h]; exact .inl rfl
      · exact .inr (List.mem_cons_of_mem _ h1)
    · rcases List.mem_cons.mp hy with rfl | hy
      · omega
      · exact h3 y hy
theorem foldl_min_spec : ∀ (r : List Int) (x : Int), (r.foldl min x = x ∨ r.foldl min x ∈ r) ∧ r.foldl min x ≤ x ∧ ∀ y ∈ r, r.foldl min x ≤ y
  | [], x => ⟨.inl rfl, Int.le_refl _, by simp⟩
  | z :: r, x => by
    obtain ⟨h1, h2, h3⟩ := foldl_min_spec r (min x z)
    simp only [List.foldl_cons]
    refine ⟨?_, by omega, fun y hy => ?_⟩
    · rcases h1 with h1 | h1
      · rcases Int.le_total x z with h | h
        · rw [h1, Int.min_eq_left h]; exact .inl rfl
        · rw [h1, Int.min_eq_right h]; exact .inr List.mem_cons_self
      · exact .inr (List.mem_cons_of_mem _ h1)
    · rcases List.mem_cons.mp hy with rfl | hy
      · omega
      · exact h3 y hy
theorem maxI_spec : ∀ {ns : List Int}, ns ≠ [] → maxI ns ∈ ns ∧ ∀ y ∈ ns, y ≤ maxI ns
  | [], h => absurd rfl h
  | x :: r, _ => by
    obtain ⟨h1, h2, h3⟩ := foldl_max_spec r x
    refine ⟨?_, fun y hy => ?_⟩
    · show r.foldl max x ∈ x :: r
      rcases h1 with h1 | h1
      · rw [h1]; exact List.mem_cons_self
      · exact List.mem_cons_of_mem _ h1
    · show y ≤ r.foldl max x
      rcases List.mem_cons.mp hy with rfl | hy
      · exact h2
      · exact h3 y hy
theorem minI_spec : ∀ {ns : List Int}, ns ≠ [] → minI ns ∈ ns ∧ ∀ y ∈ ns, minI ns ≤ y
  | [], h => absurd rfl h
  | x :: r, _ => by
    obtain ⟨h1, h2, h3⟩ := foldl_min_spec r x
    refine ⟨?_, fun y hy => ?_⟩
    · show r.foldl min x ∈ x :: r
      rcases h1 with h1 | h1
      · rw [h1]; exact List.mem_cons_self
      · exact List.mem_cons_of_mem _ h1
    · show r.foldl min x ≤ y
      rcases List.mem_cons.mp hy with rfl | hy
      · exact h2
      · exact h3 y hy
theorem sortI_perm (ns : List Int) : (sortI ns).Perm ns := List.mergeSort_perm ns _
theorem sortI_pair (ns : List Int) : (sortI ns).Pairwise (· ≤ ·) := by
  have h := List.pairwise_mergeSort (le := fun a b : Int => decide (a ≤ b)) (by intro a b c; simp; omega) (by intro a b; simp; omega) ns
  exact h.imp (by intro a b; simp)
theorem sorted_unique : ∀ {xs ys : List Int}, xs.Perm ys → xs.Pairwise (· ≤ ·) → ys.Pairwise (· ≤ ·) → xs = ys := fun {xs ys} p h1 h2 =>
  p.eq_of_pairwise (fun a b _ _ h h' => by omega) h1 h2
section
variable {K : PySem.W.Frag}
theorem ints_of {F H : Hp} {C : Cells} {v : V} {x : D} {ns : List Int} (hs : Hs K F C H) (r : Rep K F v x) (h : IntsOf x C ns) : ∃ a, v = .ref a ∧ SqL K H a (ns.map V.int) := by
  obtain ⟨a, xs, rfl, h2, h3⟩ := seq_of hs r h
  rw [h3.of_ints] at h2
  exact ⟨a, rfl, h2⟩
theorem s_list : SimA K (fun xs H Q => ∃ p ys, xs = [.ref p] ∧ (SqL K H p ys ∨ SqT K H p ys) ∧ ∀ l, H l = none → Q (.ref l) (upd H l (.lst ys))) dList := fun F C H xs ds P Q hs r w k => by
  revert w
  unfold dList
  split
  · split
    · rename_i ys hy
      intro w
      cases r with
      | cons r1 r2 =>
        cases r2
        obtain ⟨a, us, rfl, h2, h3⟩ := its_of hs r1 hy
        refine ⟨a, us, rfl, h2, fun p hp => ?_⟩
        obtain ⟨e4, h4, r4⟩ := hs.newL h3 hp
        exact k _ _ _ _ C e4 h4 r4 w
    · exact fun z => z.elim
  · exact fun z => z.elim
theorem s_listC : SimA K (fun xs H Q => ∃ p ys, xs = [.ref p] ∧ (SqL K H p ys ∨ SqT K H p ys) ∧ ∀ l, H l = none → Q (.ref l) (upd H l (.lst ys))) dListC := fun F C H xs ds P Q hs r w k => by
  revert w
  unfold dListC
  split
  · split
    · rename_i ys hy
      intro w
      cases r with
      | cons r1 r2 =>
        cases r2
        obtain ⟨a, us, rfl, h2, h3⟩ := its_of hs r1 hy
        refine ⟨a, us, rfl, h2, fun p hp => ?_⟩
        obtain ⟨c0, h4⟩ := hs.newC h3 hp
        exact k _ _ _ _ _ (Ex.refl F) h4 (.ptr p) (w p c0)
    · exact fun z => z.elim
  · exact fun z => z.elim
theorem s_max2 : SimA K (fun xs H Q => ∃ i j, xs = [.int i, .int j] ∧ Q (.int (if j > i then j else i)) H) dMax2 := fun F C H xs ds P Q hs r w k => by
  revert w
  unfold dMax2
  split
  · rename_i i j
    intro w
    cases r with
    | cons r1 r2 =>
      cases r1
      cases r2 with
      | cons r3 r4 =>
        cases r3; cases r4
        refine ⟨i, j, rfl, k _ F H _ C (Ex.refl F) hs (.int _) ?_⟩
        rw [show (if j > i then j else i) = max i j by split <;> omega]
        exact w
  · exact fun z => z.elim
theorem s_min2 : SimA K (fun xs H Q => ∃ i j, xs = [.int i, .int j] ∧ Q (.int (if j < i then j else i)) H) dMin2 := fun F C H xs ds P Q hs r w k => by
  revert w
  unfold dMin2
  split
  · rename_i i j
    intro w
    cases r with
    | cons r1 r2 =>
      cases r1
      cases r2 with
      | cons r3 r4 =>
        cases r3; cases r4
        refine ⟨i, j, rfl, k _ F H _ C (Ex.refl F) hs (.int _) ?_⟩
        rw [show (if j < i then j else i) = min i j by split <;> omega]
        exact w
  · exact fun z => z.elim
theorem s_abs : SimA K (fun xs H Q => ∃ i, xs = [.int i] ∧ Q (.int (if i < 0 then -i else i)) H) dAbs := fun F C H xs ds P Q hs r w k => by
  revert w
  unfold dAbs
  split
  · rename_i i
    intro w
    cases r with
    | cons r1 r2 =>
      cases r1; cases r2
      refine ⟨i, rfl, k _ F H _ C (Ex.refl F) hs (.int _) ?_⟩
      rw [show (if i < 0 then -i else i) = (i.natAbs : Int) by split <;> omega]
      exact w
  · exact fun z => z.elim
theorem s_int : SimA K (fun xs H Q => (∃ i, xs = [.int i] ∧ Q (.int i) H) ∨ ∃ k, xs = [.bl k] ∧ Q (.int (if k then 1 else 0)) H) dInt := fun F C H xs ds P Q hs r w k => by
  revert w
  unfold dInt
  split
  · rename_i i
    intro w
    cases r with
    | cons r1 r2 =>
      cases r1; cases r2
      exact .inl ⟨i, rfl, k _ F H _ C (Ex.refl F) hs (.int _) w⟩
  · rename_i b
    intro w
    cases r with
    | cons r1 r2 =>
      cases r1; cases r2
      exact .inr ⟨b, rfl, k _ F H _ C (Ex.refl F) hs (.int _) w⟩
  · exact fun z => z.elim
theorem s_sum : SimA K (rSum K) dSum := fun F C H xs ds P Q hs r w k => by
  revert w
  unfold dSum
  split
  · rintro ⟨ns, hn, w⟩
    cases r with
    | cons r1 r2 =>
      cases r2
      obtain ⟨a, rfl, h2⟩ := ints_of hs r1 hn
      exact ⟨a, ns, rfl, h2, k _ F H _ C (Ex.refl F) hs (.int _) w⟩
  · exact fun z => z.elim
theorem s_maxL : SimA K (rMax K) dMaxL := fun F C H xs ds P Q hs r w k => by
  revert w
  unfold dMaxL
  split
  · rintro ⟨ns, hn, hne, w⟩
    cases r with
    | cons r1 r2 =>
      cases r2
      obtain ⟨a, rfl, h2⟩ := ints_of hs r1 hn
      refine ⟨a, ns, rfl, h2, List.length_pos_iff.mpr hne, fun m hm hle => ?_⟩
      obtain ⟨g1, g2⟩ := maxI_spec hne
      rw [show m = maxI ns from Int.le_antisymm (g2 m hm) (hle _ g1)]
      exact k _ F H _ C (Ex.refl F) hs (.int _) w
  · exact fun z => z.elim
theorem s_minL : SimA K (rMin K) dMinL := fun F C H xs ds P Q hs r w k => by
  revert w
  unfold dMinL
  split
  · rintro ⟨ns, hn, hne, w⟩
    cases r with
    | cons r1 r2 =>
      cases r2
      obtain ⟨a, rfl, h2⟩ := ints_of hs r1 hn
      refine ⟨a, ns, rfl, h2, List.length_pos_iff.mpr hne, fun m hm hle => ?_⟩
      obtain ⟨g1, g2⟩ := minI_spec hne
      rw [show m = minI ns from Int.le_antisymm (hle _ g1) (g2 m hm)]
      exact k _ F H _ C (Ex.refl F) hs (.int _) w
  · exact fun z => z.elim
theorem s_sortI : SimA K (rSortedI K) dSortI := fun F C H xs ds P Q hs r w k => by
  revert w
  unfold dSortI
  split
  · rintro ⟨ns, hn, w⟩
    cases r with
    | cons r1 r2 =>
      cases r2
      obtain ⟨a, rfl, h2⟩ := ints_of hs r1 hn
      refine ⟨a, ns, rfl, h2, fun ns' p hp hr hf => ?_⟩
      have e : ns' = sortI ns := sorted_unique (hp.trans (sortI_perm ns).symm) hr (sortI_pair ns)
      subst e
      obtain ⟨e4, h4, r4⟩ := hs.newL (RepL.ints _) hf
      exact k _ _ _ _ C e4 h4 r4 w
  · exact fun z => z.elim
end
end DD

set_option Elab.async false
set_option linter.all false
set_option maxRecDepth 100000
set_option maxHeartbeats 4000000
/-! Readings over data: == of nested data, in, comprehensions. -/
namespace DD
open PySem L2 PyProof.Rows

mutual
def D.py : D → PyData
  | .non => .none
  | .bl b => .bool b
  | .int i => .int i
  | .str x => .str x
  | .tup xs => .tuple (pys xs)
  | .lst xs => .list (pys xs)
  | .ins _ _ => .dict []
  | .ptr _ => .dict []
  | .dK _ => .dict []
  | .dT _ => .dict []
  | .ktup xs => .tuple (pys xs)
def pys : List D → List PyData
  | [] => []
  | d :: r => d.py :: pys r
end
/-- data of a depth, of nothing but None, bools, ints, texts, lists, tuples -/
inductive Dat : Nat → D → Prop where
  | non {n} : Dat n .non
  | bl {n} (b : Bool) : Dat n (.bl b)
  | int {n} (i : Int) : Dat n (.int i)
  | str {n} {x : Str} (h : PyData.canLay0 (.str x) = true) : Dat n (.str x)
  | tup {n} {ds : List D} (h : ∀ d, d ∈ ds → Dat n d) : Dat (n + 1) (.tup ds)
  | lst {n} {ds : List D} (h : ∀ d, d ∈ ds → Dat n d) : Dat (n + 1) (.lst ds)
  | ktup {n} {ds : List D} (h : ∀ d, d ∈ ds → Dat n d) : Dat (n + 1) (.ktup ds)
theorem dat_mono : ∀ {n m : Nat} {d : D}, Dat n d → n ≤ m → Dat m d
  | _, _, _, .non, _ => .non
  | _, _, _, .bl b, _ => .bl b
  | _, _, _, .int i, _ => .int i
  | _, _, _, .str h, _ => .str h
  | n + 1, m, _, .tup h, l => by
    obtain ⟨k, rfl⟩ : ∃ k, m = k + 1 := ⟨m - 1, by omega⟩
    exact .tup fun d hd => dat_mono (h d hd) (by omega)
  | n + 1, m, _, .lst h, l => by
    obtain ⟨k, rfl⟩ : ∃ k, m = k + 1 := ⟨m - 1, by omega⟩
    exact .lst fun d hd => dat_mono (h d hd) (by omega)
  | n + 1, m, _, .ktup h, l => by
    obtain ⟨k, rfl⟩ : ∃ k, m = k + 1 := ⟨m - 1, by omega⟩
    exact .ktup fun d hd => dat_mono (h d hd) (by omega)
theorem pys_lay {n : Nat} : ∀ ds : List D, (∀ d, d ∈ ds → PyData.canLay0 d.py = true ∧ d.py.depth ≤ n) → PyData.canLayAll0 (pys ds) = true ∧ PyData.depthAll (pys ds) ≤ n
  | [], _ => by simp [pys, PyData.canLayAll0, PyData.depthAll]
  | d :: r, h => by
    obtain ⟨h1, h2⟩ := h d List.mem_cons_self
    obtain ⟨h3, h4⟩ := pys_lay r fun e he => h e (List.mem_cons_of_mem _ he)
    refine ⟨by simp [pys, PyData.canLayAll0, h1, h3], ?_⟩
    simp only [pys, PyData.depthAll]
    omega
theorem dat_lay : ∀ {n : Nat} {d : D}, Dat n d → PyData.canLay0 d.py = true ∧ d.py.depth ≤ n
  | _, _, .non => by simp [D.py, PyData.canLay0, PyData.depth]
  | _, _, .bl b => by simp [D.py, PyData.canLay0, PyData.depth]
  | _, _, .int i => by simp [D.py, PyData.canLay0, PyData.depth]
  | _, _, .str h => ⟨h, by simp [D.py, PyData.depth]⟩
  | n + 1, _, .tup (ds := ds) h => by
    obtain ⟨h1, h2⟩ := pys_lay (n := n) ds fun d hd => dat_lay (h d hd)
    exact ⟨by simp only [D.py, PyData.canLay0, h1], by simp only [D.py, PyData.depth]; omega⟩
  | n + 1, _, .lst (ds := ds) h => by
    obtain ⟨h1, h2⟩ := pys_lay (n := n) ds fun d hd => dat_lay (h d hd)
    exact ⟨by simp only [D.py, PyData.canLay0, h1], by simp only [D.py, PyData.depth]; omega⟩
  | n + 1, _, .ktup (ds := ds) h => by
    obtain ⟨h1, h2⟩ := pys_lay (n := n) ds fun d hd => dat_lay (h d hd)
    exact ⟨by simp only [D.py, PyData.canLay0, h1], by simp only [D.py, PyData.depth]; omega⟩
theorem dat_shaped {n : Nat} {d : D} (h : Dat n d) (hn : n ≤ 60) : SeqAt.shaped d.py = true := by
  obtain ⟨h1, h2⟩ := dat_lay h
  unfold SeqAt.shaped
  rw [h1, decide_eq_true (by omega)]
  rfl
/-- == of data -/
def D.eqb (x y : D) : Bool := PyData.eqv x.py y.py
theorem eqb_self {n : Nat} {d : D} (h : Dat n d) : d.eqb d = true := SeqAt.eqv_refl _ (dat_lay h).1
/-- a list that is a cell, as data -/
def D.res (C : Cells) : D → D
  | .ptr a => match C a with
    | some (.lst ds) => .lst ds
    | _ => .ptr a
  | d => d
def dEqD (neg : Bool) (x : D) (y : D) (C : Cells) (P : DK) : Prop := ∃ n, n ≤ 60 ∧ Dat n (x.res C) ∧ Dat n (y.res C) ∧ P (.bl (neg ^^ (x.res C).eqb (y.res C))) C
section
variable {K : PySem.W.Frag} {F H : Hp} {C : Cells}
theorem dpAll_of {n : Nat} : ∀ {ds : List D} {xs : List V}, (∀ d, d ∈ ds → ∀ v, Rep K F v d → Dp K H v d.py) → RepL K F xs ds → DpAll K H xs (pys ds)
  | [], _, _, .nil => by simp only [pys]; exact .nil
  | d :: r, _, h, .cons h1 h2 => by
    simp only [pys]
    exact .cons (h d List.mem_cons_self _ h1) (dpAll_of (n := n) (fun e he => h e (List.mem_cons_of_mem _ he)) h2)
theorem rep_dp (ex : Ex F H) : ∀ {n : Nat} {d : D}, Dat n d → ∀ v, Rep K F v d → Dp K H v d.py
  | _, _, .non, v, r => by cases r; exact .non
  | _, _, .bl b, v, r => by cases r; exact .bl b
  | _, _, .int i, v, r => by cases r; exact .int i
  | _, _, .str h, v, r => by cases r; exact .str _
  | n + 1, _, .tup h, v, r => by
    cases r with
    | tup hq hr => exact .tup (.of (ex.nd hq rfl)) (dpAll_of (n := n) (fun d hd v r => rep_dp ex (h d hd) v r) hr)
  | n + 1, _, .ktup h, v, r => by
    cases r with
    | ktup hq hr => exact .tup (ex_t ex hq) (dpAll_of (n := n) (fun d hd v r => rep_dp ex (h d hd) v r) hr)
  | n + 1, _, .lst h, v, r => by
    cases r with
    | lst hq hr => exact .lst (ex_l ex hq) (dpAll_of (n := n) (fun d hd v r => rep_dp ex (h d hd) v r) hr)
theorem res_dp (hs : Hs K F C H) {n : Nat} {v : V} {x : D} (r : Rep K F v x) (h : Dat n (x.res C)) : Dp K H v (x.res C).py := by
  cases x with
  | ptr a =>
    cases r
    revert h
    show Dat n (match C a with | some (.lst ds) => .lst ds | _ => .ptr a) → Dp K H (.ref a) (D.py (match C a with | some (.lst ds) => .lst ds | _ => .ptr a))
    split
    · rename_i ds hc
      intro h
      obtain ⟨_, xs, hx, r⟩ := hs.cell a _ hc
      cases h with
      | lst h =>
        rename_i m
        exact .lst (.of hx) (dpAll_of (n := m) (fun d hd v r => rep_dp hs.ex (h d hd) v r) r)
    · intro h; cases h
  | _ => exact rep_dp hs.ex h v r
theorem s_eqD : SimR K (rEqD K) (dEqD false) := fun F C H x y dx dy P Q hs rx ry w k => by
  obtain ⟨n, hn, h1, h2, w⟩ := w
  refine ⟨_, _, res_dp hs rx h1, res_dp hs ry h2, dat_shaped h1 hn, dat_shaped h2 hn, ?_⟩
  rw [Bool.false_xor] at w
  exact k _ F H _ C (Ex.refl F) hs (.bl _) w
theorem s_neD : SimR K (rNeD K) (dEqD true) := fun F C H x y dx dy P Q hs rx ry w k => by
  obtain ⟨n, hn, h1, h2, w⟩ := w
  refine ⟨_, _, res_dp hs rx h1, res_dp hs ry h2, dat_shaped h1 hn, dat_shaped h2 hn, ?_⟩
  rw [Bool.true_xor] at w
  exact k _ F H _ C (Ex.refl F) hs (.bl _) w
end

/-! ### x in xs, of flat things -/
def toV : D → V
  | .non => .non
  | .bl b => .bl b
  | .int i => .int i
  | .str x => .str x
  | _ => .non
def flatD : D → Bool
  | .non => true
  | .bl _ => true
  | .int _ => true
  | .str _ => true
  | _ => false
/-- x is one of the items -/
def inD (x : D) (ds : List D) : Bool := ds.any fun y => eqV (toV y) (toV x)
def dIn (neg : Bool) (x : D) (y : D) (C : Cells) (P : DK) : Prop := match itsOf y C with
  | some ds => flatD x = true ∧ ds.all flatD = true ∧ P (.bl (neg ^^ inD x ds)) C
  | none => False
section
variable {K : PySem.W.Frag} {F H : Hp} {C : Cells}
theorem flat_rep {v : V} {x : D} (r : Rep K F v x) (h : flatD x = true) : v = toV x ∧ flatV v = true := by
  cases r <;> first | exact ⟨rfl, rfl⟩ | cases h
theorem flat_reps : ∀ {xs : List V} {ds : List D}, RepL K F xs ds → ds.all flatD = true → xs = ds.map toV ∧ xs.all flatV = true
  | _, _, .nil, _ => ⟨rfl, rfl⟩
  | _, _, .cons h r, a => by
    simp only [List.all_cons, Bool.and_eq_true] at a
    obtain ⟨e1, f1⟩ := flat_rep h a.1
    obtain ⟨e2, f2⟩ := flat_reps r a.2
    exact ⟨by rw [e1, e2]; rfl, by rw [List.all_cons, f1, f2]; rfl⟩
theorem s_inS {neg : Bool} : SimR K (rIn K neg) (dIn neg) := fun F C H x y dx dy P Q hs rx ry w k => by
  revert w
  unfold dIn
  split
  · rename_i ds hd
    rintro ⟨h1, h2, w⟩
    obtain ⟨a, xs, rfl, hq, hr⟩ := its_of hs ry hd
    obtain ⟨e1, f1⟩ := flat_rep rx h1
    obtain ⟨e2, f2⟩ := flat_reps hr h2
    refine ⟨a, xs, rfl, hq, f1, f2, ?_⟩
    have e : (if neg then !inV x xs else inV x xs) = (neg ^^ inD dx ds) := by
      rw [e1, e2]
      unfold inV inD
      rw [List.any_map]
      cases neg <;> simp [Function.comp_def]
    rw [e]
    exact k _ F H _ C (Ex.refl F) hs (.bl _) w
  · exact fun z => z.elim
end

/-! ### list comprehensions -/
def dwipe (ρ : DEnv) : List Nat → DEnv
  | [] => ρ
  | v :: vs => (dwipe ρ vs).set v none
abbrev noX : DX := fun _ _ _ _ => False
def wYes (_ : DEnv) (C : Cells) (P : Bool → Cells → Prop) (_ : DX) : Prop := P true C
def LcG (J : DIt) (t : Tgt) (wt : DT) (we : DE) (vs : List Nat) (ρ : DEnv) (C1 : Cells) (P : DK) : Prop := ∀ Dl, C1 Dl = none → ∃ Inv : Nat → Cells → Prop, Inv 0 (cput C1 Dl (.lst [])) ∧
  (∀ i C', Inv i C' → J.still C') ∧
  (∀ i d C', J.items[i]? = some d → Inv i C' → match t.dg d (dwipe ρ vs) with
    | some ρ2 => wt ρ2 C' (fun b C2 => if b = true then we ρ2 C2 (fun y C3 => match C3 Dl with
        | some (.lst acc) => acc.length < 100000 ∧ Inv (i + 1) (cput C3 Dl (.lst (acc ++ [y])))
        | _ => False) noX else Inv (i + 1) C2) noX
    | none => False) ∧
  (∀ C', Inv J.items.length C' → match C' Dl with
    | some (.lst acc) => ∃ C4, Sub C4 C' ∧ C4 Dl = none ∧ P (.lst acc) C4
    | _ => False)
def wLc (wi : DI) (t : Tgt) (wt : DT) (we : DE) (vs : List Nat) (ρ : DEnv) (C : Cells) (P : DK) (PX : DX) : Prop := wi ρ C (fun J C1 => LcG J t wt we vs ρ C1 P) PX
theorem EnvR.wipe {K : PySem.W.Frag} {F : Hp} {σ : L2.St} {ρ : DEnv} (h : EnvR K F σ ρ) : ∀ vs, EnvR K F (L2.wipe σ vs) (dwipe ρ vs)
  | [] => h
  | v :: vs => by
    obtain ⟨h1, h2⟩ := EnvR.wipe h vs
    refine ⟨by show ((L2.wipe σ vs).set v none).length = ((dwipe ρ vs).set v none).length; rw [List.length_set, List.length_set]; exact h1, fun i d q => ?_⟩
    have q' : ((dwipe ρ vs).set v none)[i]? = some (some d) := q
    by_cases e : v = i
    · subst e
      rw [List.getElem?_set] at q'
      simp only [if_true] at q'
      split at q' <;> cases q'
    · rw [List.getElem?_set_ne e] at q'
      obtain ⟨w, hw, rw'⟩ := h2 i d q'
      refine ⟨w, ?_, rw'⟩
      show ((L2.wipe σ vs).set v none)[i]? = some (some w)
      rw [List.getElem?_set_ne e]
      exact hw
section
variable {X : Cx} {W : WX} {K : PySem.W.Frag}
theorem i_lc {wi : DI} {t : Tgt} {wt : DT} {we : DE} {vs : List Nat} (ht : ∀ i ∈ t.slots, i ∈ vs) {σ : L2.St} {H : Hp} {Q : VK} (h : tE K W (wLc wi t wt we vs) σ H Q) : tLc (tI K W wi) (t.tg K) (tT K W0 wt) (tE K W0 we) vs σ H Q := by
  obtain ⟨F, C, ρ, P, PX, hs, en, xr, w, k⟩ := h
  refine ⟨F, C, ρ, _, PX, hs, en, xr, w, fun J F1 H1 Jd C1 e1 h1 ir q => fun Dl hD => ?_⟩
  obtain ⟨c0, h2⟩ := h1.newC (xs := []) (ds := []) .nil hD
  obtain ⟨Inv, i0, st, turn, done⟩ := q Dl c0
  refine ⟨fun i m H' => m = Jd.items.length - i ∧ i ≤ Jd.items.length ∧ ∃ F' C', Ex F1 F' ∧ Hs K F' C' H' ∧ Inv i C', ⟨_, rfl, Nat.zero_le _, F1, _, Ex.refl _, h2, i0⟩, ?_⟩
  rintro i m H' ⟨rfl, hl, F', C', e', h', p⟩
  obtain ⟨go, stop⟩ := ir F' H' C' e' h' (st i C' p)
  by_cases hi : i = Jd.items.length
  · subst hi
    have z := done C' p
    revert z
    split
    · rename_i acc hc
      rintro ⟨C4, s4, n4, z⟩
      obtain ⟨F5, e5, h5, r5⟩ := frz_go h' hc s4 n4 trivial
      exact .inl ⟨stop, k _ F5 H' _ C4 ((e1.trans e').trans e5) h5 r5 z⟩
    · exact fun z => z.elim
  · have hlt : i < Jd.items.length := by omega
    have hd : Jd.items[i]? = some Jd.items[i] := List.getElem?_eq_getElem hlt
    obtain ⟨g1, g2⟩ := go i _ hd
    have q := turn i _ C' hd p
    refine .inr ⟨g1, fun H2 => ∃ F2 C2, Ex F' F2 ∧ Hs K F2 C2 H2 ∧ Inv (i + 1) C2, ?_, ?_⟩
    · rintro H2 ⟨F2, C2, e2, h2, p2⟩
      exact ⟨_, by omega, rfl, hlt, F2, C2, e'.trans e2, h2, p2⟩
    · intro x H2 hy
      obtain ⟨F2, e2, h2, rx⟩ := g2 x H2 hy
      revert q
      split
      · rename_i ρ2 hdg
        intro q
        refine tg_ok t h2.ex rx (((en.mono (e1.trans e')).wipe vs).mono e2) hdg fun σ2 en2 hw => ?_
        refine ⟨by rw [hw vs ht, wipe_wipe], ?_⟩
        refine ⟨F2, C', ρ2, _, noX, h2, en2, fun _ _ _ _ _ _ _ _ _ _ _ _ z => z.elim, q, fun b F3 H3 C3 e3 h3 q3 => ?_⟩
        cases b with
        | false =>
          rw [if_neg Bool.false_ne_true] at q3
          rw [if_neg Bool.false_ne_true]
          exact ⟨F3, C3, e2.trans e3, h3, q3⟩
        | true =>
          rw [if_pos rfl] at q3
          rw [if_pos rfl]
          refine ⟨F3, C3, ρ2, _, noX, h3, en2.mono e3, fun _ _ _ _ _ _ _ _ _ _ _ _ z => z.elim, q3, fun y F4 H4 dy C4 e4 h4 ry q4 => ?_⟩
          revert q4
          dsimp only
          split
          · rename_i acc hc
            rintro ⟨hz, q4⟩
            obtain ⟨f0, us, hu, ru⟩ := h4.cell Dl _ hc
            exact ⟨us, hu, by rw [ru.length]; exact sz_lt hz, F4, _, (e2.trans e3).trans e4, h4.put (c := .lst (acc ++ [dy])) f0 ⟨_, upd_same, ru.append (.cons ry .nil)⟩, q4⟩
          · exact fun z => z.elim
      · exact fun z => z.elim
theorem dts_nil : PTs X [] (tT X.K W wYes) := ⟨fun pins s σ H Q I ⟨F, C, ρ, P, PX, hs, en, xr, w, k⟩ => pts_nil.run pins s σ H Q I (k _ F H C (Ex.refl F) hs w)⟩
theorem dts_one {c : Expr} {t : DT} (h : PT X c (tT X.K W t)) : PTs X [c] (tT X.K W t) := pts_one h
theorem d_lc {elt tg iter : Expr} {ifs : List Expr} {scope : Scope} {own : List (Str × Nat)} {pos : Pos} {wi : DI} {t : Tgt} {wt : DT} {we : DE} (hc : X.calm = true) (hN : X.N.Nodup) (hi : PI X tg iter (tI X.K W wi)) (ok : BlkOk X.N X.env.scope scope own) (hsl : ∀ i ∈ t.slots, i ∈ own.map (·.2))
    (hg : ∀ (s : Shared) (H : Hp) (C : Addr) (cl : List (Str × Addr)) (fp : List Addr), PG (X.blk s H scope (compEnvC scope cl C X.env) fp) tg (t.tg X.K)) (ht : ∀ (s : Shared) (H : Hp) (C : Addr) (cl : List (Str × Addr)) (fp : List Addr), PTs (X.blk s H scope (compEnvC scope cl C X.env) fp) ifs (tT X.K W0 wt))
    (he : ∀ (s : Shared) (H : Hp) (C : Addr) (cl : List (Str × Addr)) (fp : List Addr), PE (X.blk s H scope (compEnvC scope cl C X.env) fp) elt (tE X.K W0 we)) (hs : ∀ x, foldedSetIterable iter X.env x = pure x := by intro _; rfl) :
    PE X (.ListComp elt [⟨tg, iter, ifs, 0⟩] scope pos) (tE X.K W (wLc wi t wt we (own.map (·.2)))) := PE.imp (pe_lc hc hN hi ok hg ht he hs) fun _ _ _ => i_lc hsl
theorem ds_setLc (i : Nat) {y : Str} {py : Pos} {elt tg iter : Expr} {ifs : List Expr} {scope : Scope} {own : List (Str × Nat)} {pos spos : Pos} {wi : DI} {t : Tgt} {wt : DT} {we : DE} (hc : X.calm = true) (hN : X.N.Nodup) (hy : X.N[i]? = some y) (hyl : X.env.scope.names.lookup y = some .local)
    (hsw : swapsWith (.ListComp elt [⟨tg, iter, ifs, 0⟩] scope pos) (some (.Name y py)) spos.line X.env = pure true) (hi : PI X tg iter (tI X.K W wi)) (ok : BlkOk X.N X.env.scope scope own) (hsl : ∀ i ∈ t.slots, i ∈ own.map (·.2))
    (hg : ∀ (s : Shared) (H : Hp) (C : Addr) (cl : List (Str × Addr)) (fp : List Addr), PG (X.blk s H scope (compEnvC scope cl C X.env) fp) tg (t.tg X.K)) (ht : ∀ (s : Shared) (H : Hp) (C : Addr) (cl : List (Str × Addr)) (fp : List Addr), PTs (X.blk s H scope (compEnvC scope cl C X.env) fp) ifs (tT X.K W0 wt))
    (he : ∀ (s : Shared) (H : Hp) (C : Addr) (cl : List (Str × Addr)) (fp : List Addr), PE (X.blk s H scope (compEnvC scope cl C X.env) fp) elt (tE X.K W0 we)) (hs : ∀ x, foldedSetIterable iter X.env x = pure x := by intro _; rfl) :
    PS X (.Assign [.Name y py] (.ListComp elt [⟨tg, iter, ifs, 0⟩] scope pos) spos) (tS X.K W (wSet i (wLc wi t wt we (own.map (·.2))))) := PS.imp (ps_setLc hc hN hy hyl hsw hi ok hg ht he hs) fun Dn σ H ⟨F, C, ρ, DE, hs, en, xr, w, er⟩ => by
  have z : tE X.K W (wLc wi t wt we (own.map (·.2))) σ H (fun x H1 => Dn.nx (σ.set i (some x)) H1) := ⟨F, C, ρ, _, _, hs, en, xr, w, fun v F1 H1 d C1 e1 h1 r q => er.nx _ F1 H1 _ C1 e1 h1 ((en.mono e1).set r) q⟩
  exact i_lc hsl z
end
/-- a comprehension that changes nothing -/
theorem lc_pure {t : Tgt} {wt : DT} {we : DE} {vs : List Nat} {J : DIt} {C1 : Cells} {ρ : DEnv} {P : DK} (f : D → Option D) (hf : ∀ C', Sub C1 C' → J.still C') (hn : J.items.length ≤ 100000)
    (h : ∀ (i : Nat) d C' (Q : Option D → Cells → Prop), J.items[i]? = some d → Sub C1 C' → Q (f d) C' → match t.dg d (dwipe ρ vs) with
      | some ρ2 => wt ρ2 C' (fun b C2 => if b = true then we ρ2 C2 (fun y C3 => Q (some y) C3) noX else Q none C2) noX
      | none => False)
    (hP : P (.lst (J.items.filterMap f)) C1) : LcG J t wt we vs ρ C1 P := by
  intro Dl hD
  refine ⟨fun i C' => C' = cput C1 Dl (.lst ((J.items.take i).filterMap f)), by simp, fun i C' e => hf C' (by rw [e]; exact Sub.new hD), fun i d C' hd e => ?_, fun C' e => ?_⟩
  · have ht : J.items.take (i + 1) = J.items.take i ++ [d] := by rw [List.take_succ, hd]; rfl
    refine h i d C' (fun o C3 => match o with
      | some y => match C3 Dl with
        | some (.lst acc) => acc.length < 100000 ∧ cput C3 Dl (.lst (acc ++ [y])) = cput C1 Dl (.lst ((J.items.take (i + 1)).filterMap f))
        | _ => False
      | none => C3 = cput C1 Dl (.lst ((J.items.take (i + 1)).filterMap f))) hd (by rw [e]; exact Sub.new hD) ?_
    split
    · rename_i y hy
      rw [e, cput_same]
      refine ⟨?_, ?_⟩
      · have := List.length_filterMap_le f (J.items.take i)
        have hlt : i < J.items.length := (List.getElem?_eq_some_iff.mp hd).1
        rw [List.length_take] at this
        omega
      · rw [cput_cput, ht, List.filterMap_append]
        simp [hy]
    · rename_i hy
      rw [e, ht, List.filterMap_append]
      simp [hy]
  · rw [e, cput_same, List.take_length]
    exact ⟨C1, Sub.new hD, hD, hP⟩
end DD

set_option Elab.async false
set_option linter.all false
set_option maxRecDepth 100000
set_option maxHeartbeats 4000000
/-! Readings over data: constants of the module, further operators, the law's end, what loops ask. -/
namespace DD
open PySem L2 PyProof.Rows
section
variable {X : Cx} {W : WX} {K : PySem.W.Frag}
/-- a module's whole number -/
theorem d_kint {x : Str} {i : Int} {pos : Pos} (h : ∃ t, X.mg x = some (.int i t)) (hg : Gl X x := by rfl) (hd : (x == ("__debug__" : Str)) = false := by decide) : PE X (.Name x pos) (tE X.K W (wC (.int i))) := by
  obtain ⟨t, h⟩ := h
  exact d_glob (v := .int i) hg h ⟨t, rfl⟩ (fun _ => .int i) hd
/-- // by a divisor below 2 ^ 64 -/
abbrev dDivW : DR2 := dI (fun _ j => 0 < j ∧ j < 18446744073709551616) fun i j => .int (i / j)
theorem s_divW : SimR K (rI CDivW fun i j => .int (i / j)) dDivW := fun F C H x y dx dy P Q hs rx ry w k => by
  cases rx <;> cases ry <;> first
    | exact w.elim
    | exact ⟨_, _, rfl, rfl, wide_div (b := 64) w.1.1 (by have := w.1; omega) (by decide) (by decide), k _ F H _ C (Ex.refl F) hs (.int _) w.2⟩
def dPow : DR2 := dI CPow fun i j => .int (i ^ j.toNat)
theorem s_pow : SimR K (rI CPow fun i j => .int (i ^ j.toNat)) dPow := simI fun _ _ _ => .int _
theorem s_tupleOf : SimA K (fun xs H Q => ∃ p ys, xs = [.ref p] ∧ ((SqL K H p ys ∧ ∀ l, H l = none → Q (.ref l) (upd H l (.tup ys))) ∨ (SqT K H p ys ∧ Q (.ref p) H))) dTupleOf := fun F C H xs ds P Q hs r w k => by
  revert w
  unfold dTupleOf
  split
  · rename_i x
    obtain ⟨v, rfl, r1⟩ := r.one
    have go : ∀ ys, seqOf x C = some ys → P (.tup ys) C → ∃ p zs, [v] = [V.ref p] ∧ ((SqL K H p zs ∧ ∀ l, H l = none → Q (.ref l) (upd H l (.tup zs))) ∨ (SqT K H p zs ∧ Q (.ref p) H)) := fun ys hy w => by
      obtain ⟨a, us, rfl, h2, h3⟩ := seq_of hs r1 hy
      refine ⟨a, us, rfl, .inl ⟨h2, fun p hp => ?_⟩⟩
      obtain ⟨e4, h4, r4⟩ := hs.newT h3 hp
      exact k _ _ _ _ C e4 h4 r4 w
    cases r1 <;> first
      | (split
         · rename_i ys hy
           exact go ys hy
         · exact fun z => z.elim)
      | (rename_i a us ds hq hr
         exact fun w => ⟨a, us, rfl, .inr ⟨.of (hs.ex.nd hq rfl), k _ F H _ C (Ex.refl F) hs (.tup hq hr) w⟩⟩)
      | (rename_i a us ds hq hr
         exact fun w => ⟨a, us, rfl, .inr ⟨ex_t hs.ex hq, k _ F H _ C (Ex.refl F) hs (.ktup hq hr) w⟩⟩)
  · exact fun z => z.elim
/-- a, b = e1, e2 -/
def wPar (i j : Nat) (a : DA) (E : DEnds) (ρ : DEnv) (C : Cells) : Prop := a ρ C (fun ds C1 => match ds with
  | [x, y] => E.nx ((ρ.set i (some x)).set j (some y)) C1
  | _ => False) E.ex
theorem ds_par {i j : Nat} {x y : Str} {a b : Expr} {wr : DA} {px py pt pos : Pos} {kt k2 pt2} (hc : X.calm = true) (hN : X.N.Nodup) (hi : X.N[i]? = some x) (hj : X.N[j]? = some y) (hij : i ≠ j)
    (hx : X.env.scope.names.lookup x = some .local) (hy : X.env.scope.names.lookup y = some .local) (ha : PA X [a, b] (tA X.K W wr))
    (hw : swappedStores [.Tuple [.Name x px, .Name y py] kt pt] (.Tuple [a, b] k2 pt2) X.env = pure (some [x, y]))
    (hs : swapsWithSole [.Tuple [.Name x px, .Name y py] kt pt] (.Tuple [a, b] k2 pt2) pos.line X.env = pure false := by rfl) :
    PS X (.Assign [.Tuple [.Name x px, .Name y py] kt pt] (.Tuple [a, b] k2 pt2) pos) (tS X.K W (wPar i j wr)) := PS.imp (ps_par hc hN hi hj hij hx hy ha hw hs) fun Dn σ H ⟨F, C, ρ, DE, hs, en, xr, w, er⟩ =>
  ⟨F, C, ρ, _, _, hs, en, xr, w, fun vs F1 H1 ds C1 e1 h1 r q => by
    revert q
    dsimp only
    split
    · intro q
      cases r with
      | cons r1 r2 =>
        cases r2 with
        | cons r2 r3 =>
          cases r3
          exact ⟨_, _, rfl, er.nx _ F1 H1 _ C1 e1 h1 (((en.mono e1).set r1).set r2) q⟩
    · exact fun z => z.elim⟩
end

/-! ### the law's own promise -/
def spLawD (K : PySem.W.Frag) : Sp := fun vs H Q _ => ∃ (a : Addr) (ns : List Int), vs = [.ref a] ∧ SqL K H a (ns.map V.int) ∧ ns.length ≤ 63 ∧ ∀ H', Q (.bl true) H'
theorem spLaw_imp {K : PySem.W.Frag} (R : DSp) (go : ∀ (ns : List Int) (P : DK), ns.length ≤ 63 → (∀ C', P (.bl true) C') → R [.lst (ns.map D.int)] (fun _ => none) P) : ∀ vs H Q E, spLawD K vs H Q E → spD K R vs H Q E :=
  fun vs H Q E ⟨a, ns, hv, hs, hl, k⟩ => by
    subst hv
    refine ⟨H, fun _ => none, [.lst (ns.map D.int)], fun d _ => d = .bl true, ⟨Ex.refl H, fun _ _ e => by cases e⟩, .cons (.lst hs (RepL.ints ns)) .nil, go ns _ hl fun _ => rfl, fun v F' H' d C' _ _ r q => ?_⟩
    subst q
    cases r
    exact k H'
end DD

set_option Elab.async false
set_option linter.all false
set_option maxRecDepth 100000
set_option maxHeartbeats 4000000
/-! Readings over data: sorted(..) of data of any kind. -/
namespace DD
open PySem L2 PyProof.Rows PySem.W
def rSortedD (K : PySem.W.Frag) : List V → Hp → VK → Prop := fun vs H Q => ∃ (a : Addr) (xs : List V) (ps : List PyData), vs = [V.ref a] ∧ SqL K H a xs ∧ DpAll K H xs ps ∧ AllAlike ps ∧ Sortable ps ∧ (∀ d ∈ ps, d.depth ≤ 60) ∧
  ∀ p, H p = none → Q (.ref p) (upd H p (.lst (((xs.zip ps).mergeSort (dataLe false Prod.snd)).map Prod.fst)))
theorem dpAll_len {K : PySem.W.Frag} {H : Hp} : ∀ {xs : List V} {ps : List PyData}, DpAll K H xs ps → xs.length = ps.length
  | _, _, .nil => rfl
  | _, _, .cons _ r => congrArg (· + 1) (dpAll_len r)
theorem each_zip {xs : List V} {ps : List PyData} {vs : List Value} : ∀ {xs : List V} {ps : List PyData} {vs : List Value}, Vals xs vs → xs.length = ps.length → EachIs (fun v (b : V × PyData) => RelV b.1 v) vs (xs.zip ps)
  | _, [], _, .nil, _ => .nil
  | _, p :: ps, _, .cons r t, h => .cons r (each_zip (xs := xs) (ps := ps) (vs := vs) t (by simpa using h))
theorem each_reads {X : Cx} {pins : List (Addr × Obj)} {σ : L2.St} {H : Hp} {s : Shared} (I : Inv X pins σ H s) : ∀ {xs : List V} {ps : List PyData} {vs : List Value}, Vals xs vs → DpAll X.K H xs ps → EachIs (fun v (b : V × PyData) => ∃ as, Reads s.heap v b.2 as) vs (xs.zip ps)
  | _, _, _, .nil, .nil => .nil
  | _, _, _, .cons r t, .cons d e => .cons (Dp.reads I _ _ _ d r) (each_reads I t e)
theorem each_vals {bs : List (V × PyData)} {vs : List Value} : ∀ {bs : List (V × PyData)} {vs : List Value}, EachIs (fun v (b : V × PyData) => RelV b.1 v) vs bs → Vals (bs.map Prod.fst) vs
  | _, _, .nil => .nil
  | _, _, .cons r t => .cons r (each_vals (bs := bs) (vs := vs) t)
theorem zip_snd {xs : List V} {ps : List PyData} (h : xs.length = ps.length) : (xs.zip ps).map Prod.snd = ps := List.map_snd_zip (by omega)
theorem cr_sortedD {X : Cx} (hu : X.A.units + 64 < cLine) : CallR X (.builtin "sorted") (rSortedD X.K) := by
  intro pins s σ H vs us Q I r h
  obtain ⟨a, xs, ps, rfl, hs, hd, hal, hk, hdep, q⟩ := h
  obtain ⟨its, rv, hl, hz⟩ := I.list hs
  rw [Vals.ref1 r]
  have hlen := dpAll_len hd
  have hb : (xs.zip ps).length = xs.length := by rw [List.length_zip]; omega
  refine sorted_data (bs := xs.zip ps) (enc := Prod.snd) (R := fun v b => RelV b.1 v) hl.isList (each_zip (xs := xs) (ps := ps) (vs := its) rv hlen) (each_reads I rv hd) (by rw [zip_snd hlen]; exact hal) (by rw [zip_snd hlen]; exact hk) (by rw [hb]; exact hz) (fun b hb => ?_) fun out h1 h2 => ?_
  · have := hdep b.2 (by rw [← zip_snd hlen]; exact List.mem_map_of_mem hb)
    omega
  · obtain ⟨ep, he'⟩ := PyProof.Rows.sortedAll_at s.heap its out.toArray
    have k1 := each_vals (bs := []) (vs := []) h2
    have hlen2 : (((xs.zip ps).mergeSort (dataLe false Prod.snd)).map Prod.fst).length ≤ sizeLine := by
      rw [List.length_map, List.length_mergeSort, hb]; exact hz
    exact ⟨.ref _, upd H (s.heap.objs.size + 1) (.lst (((xs.zip ps).mergeSort (dataLe false Prod.snd)).map Prod.fst)), I.laid (t' := s.toks) (fun _ _ => PyProof.Rows.sortedAll_old) (Nat.le_succ _) ⟨hlen2, out, ep, k1, he'⟩, rfl, q _ (I.hok.fresh (Nat.le_succ _))⟩
/-- sorted(x), data of one kind -/
def leD : D → D → Bool := dataLe false D.py
structure SortsD (ds : List D) : Prop where
  dat : ∃ n, n ≤ 60 ∧ ∀ d ∈ ds, Dat n d
  alike : AllAlike (ds.map D.py)
  ok : Sortable (ds.map D.py)
def dSortD (ds : List D) (C : Cells) (P : DK) : Prop := match ds with
  | [x] => match itsOf x C with
    | some xs => SortsD xs ∧ seqOf x C = some xs ∧ P (.lst (xs.mergeSort leD)) C
    | none => False
  | _ => False
section
variable {K : PySem.W.Frag}
theorem pys_map : ∀ ds : List D, pys ds = ds.map D.py
  | [] => by simp [pys]
  | d :: r => by simp [pys, pys_map r]
theorem RepL.of_zip {F : Hp} : ∀ {L : List (V × D)}, (∀ p ∈ L, Rep K F p.1 p.2) → RepL K F (L.map Prod.fst) (L.map Prod.snd)
  | [], _ => .nil
  | p :: r, h => .cons (h p List.mem_cons_self) (RepL.of_zip fun q hq => h q (List.mem_cons_of_mem _ hq))
theorem RepL.zip_mem {F : Hp} : ∀ {xs : List V} {ds : List D}, RepL K F xs ds → ∀ p ∈ xs.zip ds, Rep K F p.1 p.2
  | _, _, .nil, p, hp => by simp at hp
  | _, _, .cons h r, p, hp => by
    simp only [List.zip_cons_cons, List.mem_cons] at hp
    rcases hp with rfl | hp
    · exact h
    · exact RepL.zip_mem r p hp
theorem RepL.sort {F : Hp} {xs : List V} {ds : List D} (r : RepL K F xs ds) : RepL K F (((xs.zip (pys ds)).mergeSort (dataLe false Prod.snd)).map Prod.fst) (ds.mergeSort leD) := by
  have hl := r.length
  have e1 : xs.zip (pys ds) = (xs.zip ds).map (fun p => (p.1, p.2.py)) := by rw [pys_map, List.zip_map_right]; congr
  have e2 : (((xs.zip ds).map (fun p => (p.1, p.2.py))).mergeSort (dataLe false Prod.snd)) = ((xs.zip ds).mergeSort (fun p q => leD p.2 q.2)).map (fun p => (p.1, p.2.py)) :=
    (List.map_mergeSort (r := fun p q : V × D => leD p.2 q.2) (s := dataLe false Prod.snd) (f := fun p : V × D => (p.1, p.2.py)) (fun a _ b _ => rfl)).symm
  have e3 : ds.mergeSort leD = ((xs.zip ds).mergeSort (fun p q => leD p.2 q.2)).map Prod.snd := by
    have e4 : ds = (xs.zip ds).map Prod.snd := (List.map_snd_zip (by omega)).symm
    conv => lhs; rw [e4]
    exact (List.map_mergeSort (r := fun p q : V × D => leD p.2 q.2) (s := leD) (f := Prod.snd) (fun a _ b _ => rfl)).symm
  rw [e1, e2, e3, List.map_map]
  exact RepL.of_zip (L := (xs.zip ds).mergeSort (fun p q => leD p.2 q.2)) fun p hp => r.zip_mem p (List.mem_mergeSort.mp hp)
theorem s_sortD : SimA K (rSortedD K) dSortD := fun F C H xs ds P Q hs r w k => by
  revert w
  unfold dSortD
  split
  · rename_i x
    split
    · rename_i ys hy
      rintro ⟨⟨⟨n, hn, hd⟩, hal, hok⟩, hsq, w⟩
      obtain ⟨v, rfl, r1⟩ := r.one
      obtain ⟨a, us, rfl, h2, h3⟩ := seq_of hs r1 hsq
      refine ⟨a, us, pys ys, rfl, h2, dpAll_of (n := n) (fun d hd' v r => rep_dp hs.ex (hd d hd') v r) h3, by rw [pys_map]; exact hal, by rw [pys_map]; exact hok, fun d hd' => ?_, fun p hp => ?_⟩
      · rw [pys_map, List.mem_map] at hd'
        obtain ⟨e, he, rfl⟩ := hd'
        have := (dat_lay (hd e he)).2
        omega
      · obtain ⟨e4, h4, r4⟩ := hs.newL h3.sort hp
        exact k _ _ _ _ C e4 h4 r4 w
    · exact fun z => z.elim
  · exact fun z => z.elim
end

/-! ### pairs of whole numbers -/
def pairD (p : Int × Int) : D := .tup [.int p.1, .int p.2]
def lePair (p q : Int × Int) : Bool := decide (p.1 < q.1 ∨ (p.1 = q.1 ∧ p.2 ≤ q.2))
theorem leD_pair (p q : Int × Int) : leD (pairD p) (pairD q) = lePair p q := by
  have := congrFun (congrFun (dataLe_ii (fun p : Int × Int => p.1) (fun p => p.2)) p) q
  exact this
theorem sorts_pairs (ps : List (Int × Int)) : SortsD (ps.map pairD) := by
  refine ⟨⟨1, by decide, fun d hd => ?_⟩, ?_, ?_⟩
  · obtain ⟨p, _, rfl⟩ := List.mem_map.mp hd
    exact .tup fun e he => by
      simp only [List.mem_cons, List.not_mem_nil, or_false] at he
      rcases he with rfl | rfl <;> exact .int _
  · rw [List.map_map]
    exact AllAlike.of fun b b' => by simp [pairD, D.py, pys, alike, alikeAll]
  · rw [List.map_map]
    exact Sortable.tuples fun b => ⟨.int b.1, [.int b.2], by simp [pairD, D.py, pys]⟩
theorem sort_pairs (ps : List (Int × Int)) : (ps.map pairD).mergeSort leD = (ps.mergeSort lePair).map pairD :=
  (List.map_mergeSort (fun a _ b _ => (leD_pair a b).symm)).symm
theorem lePair_sorted (ps : List (Int × Int)) : (ps.mergeSort lePair).Pairwise fun p q => p.1 < q.1 ∨ (p.1 = q.1 ∧ p.2 ≤ q.2) := by
  have h := List.pairwise_mergeSort (le := lePair) (by intro a b c; simp [lePair]; omega) (by intro a b; simp [lePair]; omega) ps
  exact h.imp (by intro a b; simp [lePair])
end DD

set_option Elab.async false
set_option linter.all false
set_option maxRecDepth 100000
set_option maxHeartbeats 4000000
/-! Tools for readings over data: loops, places. -/
namespace DD
open PySem L2

theorem for_rng {lo : Int} {n i : Nat} {b : DS} {E : DEnds} {ρ : DEnv} {C : Cells} (Inv : Nat → DEnv → Cells → Prop) (h0 : Inv 0 ρ C)
    (hs : ∀ (k : Nat) ρ' C', k < n → Inv k ρ' C' → b { nx := Inv (k + 1), ct := Inv (k + 1), bk := E.nx, rt := E.rt, ex := E.ex } (ρ'.set i (some (.int (lo + (k : Int))))) C')
    (hd : ∀ ρ' C', Inv n ρ' C' → E.nx ρ' C') : ForG ⟨rngD lo n, frozen⟩ (.name i) b E ρ C := by
  refine ⟨Inv, h0, fun _ _ _ _ => trivial, fun k d ρ' C' hk hI => ?_, fun ρ' C' hI => hd ρ' C' (by have e := rngD_len lo n; simp only [e] at hI; exact hI)⟩
  obtain ⟨hk2, rfl⟩ := rngD_get hk
  simp only [Tgt.dg]
  exact hs k ρ' C' hk2 hI
theorem for_items {ds : List D} {t : Tgt} {b : DS} {E : DEnds} {ρ : DEnv} {C : Cells} (Inv : Nat → DEnv → Cells → Prop) (h0 : Inv 0 ρ C)
    (hs : ∀ (k : Nat) d ρ' C', ds[k]? = some d → Inv k ρ' C' → match t.dg d ρ' with
      | some ρ2 => b { nx := Inv (k + 1), ct := Inv (k + 1), bk := E.nx, rt := E.rt, ex := E.ex } ρ2 C'
      | none => False)
    (hd : ∀ ρ' C', Inv ds.length ρ' C' → E.nx ρ' C') : ForG ⟨ds, frozen⟩ t b E ρ C := ⟨Inv, h0, fun _ _ _ _ => trivial, hs, hd⟩
theorem for_map {α : Type} {L : List α} {enc : α → D} {t : Tgt} {b : DS} {E : DEnds} {ρ : DEnv} {C : Cells} (Inv : Nat → DEnv → Cells → Prop) (h0 : Inv 0 ρ C)
    (hs : ∀ (k : Nat) a ρ' C', L[k]? = some a → Inv k ρ' C' → match t.dg (enc a) ρ' with
      | some ρ2 => b { nx := Inv (k + 1), ct := Inv (k + 1), bk := E.nx, rt := E.rt, ex := E.ex } ρ2 C'
      | none => False)
    (hd : ∀ ρ' C', Inv L.length ρ' C' → E.nx ρ' C') : ForG ⟨L.map enc, frozen⟩ t b E ρ C := by
  refine for_items Inv h0 (fun k d ρ' C' hk hI => ?_) (fun ρ' C' hI => hd ρ' C' (by rw [List.length_map] at hI; exact hI))
  rw [List.getElem?_map] at hk
  cases hL : L[k]? with
  | none => rw [hL] at hk; cases hk
  | some a =>
    rw [hL] at hk
    simp only [Option.map_some, Option.some.injEq] at hk
    subst hk
    exact hs k a ρ' C' hL hI
/-- a loop over a list that is a cell and stays as it is -/
theorem for_cell {α : Type} {L : List α} {enc : α → D} {a : Addr} {t : Tgt} {b : DS} {E : DEnds} {ρ : DEnv} {C : Cells} (Inv : Nat → DEnv → Cells → Prop) (h0 : Inv 0 ρ C) (hst : ∀ k ρ' C', Inv k ρ' C' → C' a = some (.lst (L.map enc)))
    (hs : ∀ (k : Nat) x ρ' C', L[k]? = some x → Inv k ρ' C' → match t.dg (enc x) ρ' with
      | some ρ2 => b { nx := Inv (k + 1), ct := Inv (k + 1), bk := E.nx, rt := E.rt, ex := E.ex } ρ2 C'
      | none => False)
    (hd : ∀ ρ' C', Inv L.length ρ' C' → E.nx ρ' C') : ForG ⟨L.map enc, fun C' => C' a = some (.lst (L.map enc))⟩ t b E ρ C := by
  refine ⟨Inv, h0, hst, (fun k d ρ' C' hk hI => ?_), (fun ρ' C' hI => hd ρ' C' (by simp only [List.length_map] at hI; exact hI))⟩
  simp only [List.getElem?_map] at hk
  cases hL : L[k]? with
  | none => rw [hL] at hk; cases hk
  | some a =>
    rw [hL] at hk
    simp only [Option.map_some, Option.some.injEq] at hk
    subst hk
    exact hs k a ρ' C' hL hI
/-- a comprehension over a range that changes nothing -/
theorem lc_rng {lo : Int} {n i : Nat} {wt : DT} {we : DE} {vs : List Nat} {C1 : Cells} {ρ : DEnv} {P : DK} (f : Int → Option D) (hn : n ≤ 100000)
    (h : ∀ (k : Nat) C' (Q : Option D → Cells → Prop), k < n → Sub C1 C' → Q (f (lo + (k : Int))) C' →
      wt ((dwipe ρ vs).set i (some (.int (lo + (k : Int))))) C' (fun b C2 => if b = true then we ((dwipe ρ vs).set i (some (.int (lo + (k : Int))))) C2 (fun y C3 => Q (some y) C3) noX else Q none C2) noX)
    (hP : P (.lst ((List.range n).filterMap fun (k : Nat) => f (lo + (k : Int)))) C1) : LcG ⟨rngD lo n, frozen⟩ (.name i) wt we vs ρ C1 P := by
  refine lc_pure (fun d => match d with | .int z => f z | _ => none) (fun _ _ => trivial) (by simpa [rngD_len] using hn) (fun k d C' Q hk hs hq => ?_) ?_
  · obtain ⟨hk2, rfl⟩ := rngD_get hk
    simp only [Tgt.dg]
    exact h k C' Q hk2 hs hq
  · have e : (rngD lo n).filterMap (fun d => match d with | .int z => f z | _ => none) = (List.range n).filterMap fun (k : Nat) => f (lo + (k : Int)) := by
      unfold rngD
      rw [List.filterMap_map]
      rfl
    show P (.lst ((rngD lo n).filterMap (fun d => match d with | .int z => f z | _ => none))) C1
    rw [e]
    exact hP
theorem lc_map {α : Type} {L : List α} {enc : α → D} {st : Cells → Prop} {t : Tgt} {wt : DT} {we : DE} {vs : List Nat} {C1 : Cells} {ρ : DEnv} {P : DK} (f : α → Option D) (hf : ∀ C', Sub C1 C' → st C') (hn : L.length ≤ 100000)
    (h : ∀ (k : Nat) a C' (Q : Option D → Cells → Prop), L[k]? = some a → Sub C1 C' → Q (f a) C' → match t.dg (enc a) (dwipe ρ vs) with
      | some ρ2 => wt ρ2 C' (fun b C2 => if b = true then we ρ2 C2 (fun y C3 => Q (some y) C3) noX else Q none C2) noX
      | none => False)
    (hP : P (.lst (L.filterMap f)) C1) : LcG ⟨L.map enc, st⟩ t wt we vs ρ C1 P := by
  intro Dl hD
  refine ⟨fun i C' => C' = cput C1 Dl (.lst ((L.take i).filterMap f)), by simp, fun i C' e => hf C' (by rw [e]; exact Sub.new hD), fun i d C' hd e => ?_, fun C' e => ?_⟩
  · simp only [List.getElem?_map] at hd
    cases hL : L[i]? with
    | none => rw [hL] at hd; cases hd
    | some a =>
      rw [hL] at hd
      simp only [Option.map_some, Option.some.injEq] at hd
      subst hd
      have ht : L.take (i + 1) = L.take i ++ [a] := by rw [List.take_succ, hL]; rfl
      refine h i a C' (fun o C3 => match o with
        | some y => match C3 Dl with
          | some (.lst acc) => acc.length < 100000 ∧ cput C3 Dl (.lst (acc ++ [y])) = cput C1 Dl (.lst ((L.take (i + 1)).filterMap f))
          | _ => False
        | none => C3 = cput C1 Dl (.lst ((L.take (i + 1)).filterMap f))) hL (by rw [e]; exact Sub.new hD) ?_
      split
      · rename_i y hy
        rw [e, cput_same]
        refine ⟨?_, ?_⟩
        · have := List.length_filterMap_le f (L.take i)
          have hlt : i < L.length := (List.getElem?_eq_some_iff.mp hL).1
          rw [List.length_take] at this
          omega
        · rw [cput_cput, ht, List.filterMap_append]
          simp [hy]
      · rename_i hy
        rw [e, ht, List.filterMap_append]
        simp [hy]
  · simp only [List.length_map, List.take_length] at e
    rw [e, cput_same]
    exact ⟨C1, Sub.new hD, hD, hP⟩
theorem atI_nat' {α : Type} (xs : List α) (j : Nat) : atI xs (j : Int) = xs[j]? := by
  unfold atI ixN
  rw [if_pos (by omega)]
  by_cases h : (j : Int) < xs.length
  · rw [if_pos h]
    simp
  · rw [if_neg h]
    rw [List.getElem?_eq_none (by omega)]
    rfl
theorem atI_at {α : Type} {xs : List α} {i : Int} (h0 : 0 ≤ i) : atI xs i = xs[i.toNat]? := by
  obtain ⟨j, rfl⟩ := Int.eq_ofNat_of_zero_le h0
  rw [atI_nat']
  simp
theorem atI_zero {α : Type} (x : α) (xs : List α) : atI (x :: xs) 0 = some x := by
  rw [atI_at (by omega)]; rfl
theorem ixN_at {n : Nat} {i : Int} (h0 : 0 ≤ i) (h1 : i < n) : ixN n i = some i.toNat := by
  unfold ixN
  rw [if_pos h0, if_pos h1]
theorem ixN_nat {n j : Nat} (h1 : j < n) : ixN n (j : Int) = some j := by
  rw [ixN_at (by omega) (by omega)]; simp
theorem sub_put {C : Cells} {p : Addr} {c : Cell} (h : C p = none) : Sub C (cput C p c) := Sub.new h
theorem seq_hide {a b : DS} {E : DEnds} {ρ : DEnv} {C : Cells} (h : ∀ E', { E with nx := fun ρ' C' => b E ρ' C' } = E' → a E' ρ C) : wSeqL a b E ρ C := h _ rfl
theorem while_hide {t : DT} {b : DS} {E : DEnds} {ρ : DEnv} {C : Cells} (h : ∀ b', b = b' → wWhile t b' E ρ C) : wWhile t b E ρ C := h _ rfl
section
variable {C : Cells} {a Cl : Addr} {ds : List D} {fs : List (String × D)} {f : String} {i : Int}
theorem seqOf_lst : seqOf (.lst ds) C = some ds := rfl
theorem seqOf_ptr : seqOf (.ptr a) C = match C a with | some (.lst ds) => some ds | _ => none := rfl
theorem itsOf_lst : itsOf (.lst ds) C = some ds := rfl
theorem itsOf_tup : itsOf (.tup ds) C = some ds := rfl
theorem itsOf_ptr : itsOf (.ptr a) C = match C a with | some (.lst ds) => some ds | _ => none := rfl
theorem lenOf_lst : lenOf (.lst ds) C = some ds.length := rfl
theorem lenOf_tup : lenOf (.tup ds) C = some ds.length := rfl
theorem lenOf_ptr : lenOf (.ptr a) C = match C a with | some (.lst ds) => some ds.length | _ => none := by
  show Option.map List.length (itsOf (.ptr a) C) = _
  rw [itsOf_ptr]
  split <;> simp_all
theorem lenOf_str {z : Str} (h : z.length ≤ 100000) : lenOf (.str z) C = some z.length := by simp only [lenOf, if_pos h]
theorem itemOf_lst : itemOf (.lst ds) C i = atI ds i := rfl
theorem itemOf_tup : itemOf (.tup ds) C i = atI ds i := rfl
theorem itemOf_ptr : itemOf (.ptr a) C i = match C a with | some (.lst ds) => atI ds i | _ => none := by
  show (itsOf (.ptr a) C).bind (fun ds => atI ds i) = _
  rw [itsOf_ptr]
  split <;> simp_all
theorem itemOf_str {z : Str} (h : z.length ≤ 100000) : itemOf (.str z) C i = (atI z.cps.toList i).map fun c => .str ⟨#[c]⟩ := by simp only [itemOf, if_pos h]
theorem isSeq_ptr : isSeq (.ptr a) C = match C a with | some (.lst _) => True | _ => False := by
  show ((seqOf (.ptr a) C).isSome = true) = _
  rw [seqOf_ptr]
  split <;> simp_all
theorem isSeq_lst : isSeq (.lst ds) C := rfl
theorem fldOf_ins : fldOf Cl f (.ins Cl fs) C = fs.lookup f := by simp only [fldOf, if_true]
theorem fldOf_ptr : fldOf Cl f (.ptr a) C = match C a with | some (.ins c fs) => if c = Cl then fs.lookup f else none | _ => none := rfl
theorem isIns_ins : isIns Cl f (.ins Cl fs) C = (fs.lookup f = none) := by simp only [isIns, true_and]
theorem isIns_ptr : isIns Cl f (.ptr a) C = match C a with | some (.ins c fs) => c = Cl ∧ fs.lookup f = none | _ => False := rfl
theorem res_lst : D.res C (.lst ds) = .lst ds := rfl
theorem res_tup : D.res C (.tup ds) = .tup ds := rfl
theorem res_ptr : D.res C (.ptr a) = match C a with | some (.lst ds) => .lst ds | _ => .ptr a := rfl
end
/-- a product that is no wide one -/
theorem cmul_l {i j : Int} (h : -(2 ^ 64) < i) (h' : i < 2 ^ 64) : CMul i j := .inl ⟨h, h'⟩
theorem cmul_r {i j : Int} (h : -(2 ^ 64) < j) (h' : j < 2 ^ 64) : CMul i j := .inr ⟨h, h'⟩
theorem mod_lo (a : Int) {m : Int} (h : 0 < m) : 0 ≤ a % m := Int.emod_nonneg _ (by omega)
theorem mod_hi (a : Int) {m : Int} (h : 0 < m) : a % m < m := Int.emod_lt_of_pos _ h
end DD

set_option Elab.async false
set_option linter.all false
set_option maxRecDepth 100000
set_option maxHeartbeats 4000000
/-! Tools for readings over data: cells taken away, == of lists, comprehensions over places. -/
namespace DD
open PySem L2
/-- without the cell at p -/
def crem (C : Cells) (p : Addr) : Cells := fun a => if a = p then none else C a
theorem crem_sub (C : Cells) (p : Addr) : Sub (crem C p) C := fun a c h => by
  unfold crem at h
  split at h
  · cases h
  · exact h
theorem crem_same {C : Cells} {p : Addr} : crem C p p = none := by unfold crem; rw [if_pos rfl]
theorem crem_ne {C : Cells} {p a : Addr} (h : a ≠ p) : crem C p a = C a := by unfold crem; rw [if_neg h]
theorem eqv_lists {α : Type} {enc : α → D} [DecidableEq α] (h : ∀ a b, (enc a).eqb (enc b) = decide (a = b)) : ∀ xs ys : List α, PyData.eqvAll (pys (xs.map enc)) (pys (ys.map enc)) = decide (xs = ys)
  | [], [] => by simp [pys, PyData.eqvAll]
  | [], y :: ys => by simp [pys, PyData.eqvAll]
  | x :: xs, [] => by simp [pys, PyData.eqvAll]
  | x :: xs, y :: ys => by
    have e := h x y
    unfold D.eqb at e
    simp only [List.map_cons, pys, PyData.eqvAll, e, eqv_lists h xs ys, List.cons.injEq]
    by_cases h1 : x = y <;> by_cases h2 : xs = ys <;> simp [h1, h2]
theorem eqb_lst {α : Type} {enc : α → D} [DecidableEq α] (h : ∀ a b, (enc a).eqb (enc b) = decide (a = b)) (xs ys : List α) : (D.lst (xs.map enc)).eqb (.lst (ys.map enc)) = decide (xs = ys) := by
  show PyData.eqv (D.lst (xs.map enc)).py (D.lst (ys.map enc)).py = _
  simp only [D.py, PyData.eqv]
  exact eqv_lists h xs ys
theorem eqb_tup {α : Type} {enc : α → D} [DecidableEq α] (h : ∀ a b, (enc a).eqb (enc b) = decide (a = b)) (xs ys : List α) : (D.tup (xs.map enc)).eqb (.tup (ys.map enc)) = decide (xs = ys) := by
  show PyData.eqv (D.tup (xs.map enc)).py (D.tup (ys.map enc)).py = _
  simp only [D.py, PyData.eqv]
  exact eqv_lists h xs ys
theorem eqb_int (a b : Int) : (D.int a).eqb (.int b) = decide (a = b) := by simp [D.eqb, D.py, PyData.eqv]; rfl
theorem eqb_str (a b : Str) : (D.str a).eqb (.str b) = decide (a = b) := by simp [D.eqb, D.py, PyData.eqv]; rfl
theorem eqb_ints (xs ys : List Int) : (D.lst (xs.map D.int)).eqb (.lst (ys.map D.int)) = decide (xs = ys) := eqb_lst eqb_int xs ys
theorem eqb_pair (p q : Int × Int) : (pairD p).eqb (pairD q) = decide (p = q) := by
  have e : (pairD p).eqb (pairD q) = decide ([p.1, p.2] = [q.1, q.2]) := eqb_tup eqb_int [p.1, p.2] [q.1, q.2]
  rw [e]
  cases p; cases q
  simp
theorem eqb_lst_nil {α : Type} (enc : α → D) : ∀ xs : List α, (D.lst (xs.map enc)).eqb (.lst []) = xs.isEmpty
  | [] => by simp [D.eqb, D.py, pys, PyData.eqv, PyData.eqvAll]
  | x :: xs => by simp [D.eqb, D.py, pys, PyData.eqv, PyData.eqvAll]
theorem dat_lst {α : Type} {enc : α → D} {n : Nat} (h : ∀ a, Dat n (enc a)) (xs : List α) : Dat (n + 1) (.lst (xs.map enc)) := .lst fun d hd => by
  obtain ⟨a, _, rfl⟩ := List.mem_map.mp hd
  exact h a
theorem dat_tup {α : Type} {enc : α → D} {n : Nat} (h : ∀ a, Dat n (enc a)) (xs : List α) : Dat (n + 1) (.tup (xs.map enc)) := .tup fun d hd => by
  obtain ⟨a, _, rfl⟩ := List.mem_map.mp hd
  exact h a
theorem dat_ints {n : Nat} (xs : List Int) : Dat (n + 1) (.lst (xs.map D.int)) := dat_lst (fun _ => .int _) xs
theorem dat_nil {n : Nat} : Dat (n + 1) (.lst []) := .lst fun d hd => by cases hd
theorem dat_pair {n : Nat} (p : Int × Int) : Dat (n + 1) (pairD p) := dat_tup (enc := D.int) (fun _ => .int _) [p.1, p.2]
/-- == of two lists of ints -/
theorem range_filterMap {α β : Type} (L : List α) (g : α → Option β) : (List.range L.length).filterMap (fun k => (L[k]?).bind g) = L.filterMap g := by
  suffices h : ∀ n, n ≤ L.length → (List.range n).filterMap (fun k => (L[k]?).bind g) = (L.take n).filterMap g by
    rw [h L.length (Nat.le_refl _), List.take_length]
  intro n
  induction n with
  | zero => intro _; rfl
  | succ n ih =>
    intro hn
    rw [List.range_succ, List.filterMap_append, ih (by omega), List.take_succ, List.filterMap_append]
    have e : L[n]? = some L[n] := List.getElem?_eq_getElem (by omega)
    simp only [e, List.filterMap_cons, List.filterMap_nil, Option.bind_some, Option.toList_some]
theorem take_snoc {α : Type} {L : List α} {k : Nat} {e : α} (h : L[k]? = some e) : L.take (k + 1) = L.take k ++ [e] := by
  rw [List.take_succ, h]; rfl
theorem filterMap_map {α β γ : Type} (L : List α) (g : α → Option β) (f : β → γ) : L.filterMap (fun a => (g a).map f) = (L.filterMap g).map f := by
  rw [List.map_filterMap]
theorem ints_ptr {C : Cells} {a : Addr} {ns : List Int} (h : C a = some (.lst (ns.map D.int))) : IntsOf (.ptr a) C ns := by simp only [IntsOf, seqOf, h]
theorem ints_lst {C : Cells} {ns : List Int} : IntsOf (.lst (ns.map D.int)) C ns := rfl
/-- the first of a sorted list -/
theorem sortI_head {l : List Int} (h : l ≠ []) : ∃ r, sortI l = minI l :: r := by
  obtain ⟨h1, h2⟩ := minI_spec h
  have hp := sortI_perm l
  have hs := sortI_pair l
  cases e : sortI l with
  | nil =>
    rw [e] at hp
    exact absurd hp.symm.eq_nil h
  | cons x r =>
    refine ⟨r, ?_⟩
    rw [e] at hp hs
    have hx : x ∈ l := hp.mem_iff.mp List.mem_cons_self
    have hm : minI l ∈ x :: r := hp.mem_iff.mpr h1
    have hle := h2 x hx
    rcases List.mem_cons.mp hm with q | q
    · rw [q]
    · have := (List.pairwise_cons.mp hs).1 _ q
      rw [show x = minI l by omega]
end DD

set_option Elab.async false
set_option linter.all false
set_option maxRecDepth 100000
set_option maxHeartbeats 4000000
/-! More: range with a step, the last of a list, cuts. -/
namespace DD
open PySem L2

def rngC (lo c : Int) (n : Nat) : List D := (List.range n).map fun (k : Nat) => D.int (lo + (k : Int) * c)
theorem rngC_len (lo c : Int) (n : Nat) : (rngC lo c n).length = n := by simp [rngC]
theorem rngC_get {lo c : Int} {n i : Nat} {d : D} (h : (rngC lo c n)[i]? = some d) : i < n ∧ d = .int (lo + (i : Int) * c) := by
  unfold rngC at h
  rw [List.getElem?_map] at h
  rcases Nat.lt_or_ge i n with z | z
  · rw [List.getElem?_range z] at h
    exact ⟨z, (Option.some.inj h).symm⟩
  · rw [List.getElem?_eq_none (by simpa using z)] at h; cases h
def wRng3 (a : DA) (ρ : DEnv) (C : Cells) (P : DIt → Cells → Prop) (PX : DX) : Prop := a ρ C (fun ds C1 => match ds with
  | [.int i, .int j, .int c] => ∃ n, RgC i j c n ∧ P ⟨rngC i c n, frozen⟩ C1
  | _ => False) PX
theorem itr_rngC {K : PySem.W.Frag} {F : Hp} {lo c : Int} {n : Nat} : ItR K F (Itc lo c n) ⟨rngC lo c n, frozen⟩ := fun F' H C e hs _ => by
  refine ⟨fun i d hd => ?_, by show n ≤ (rngC lo c n).length; rw [rngC_len]; exact Nat.le_refl _⟩
  obtain ⟨hi, rfl⟩ := rngC_get hd
  refine ⟨hi, fun x H' y => ?_⟩
  obtain ⟨rfl, rfl⟩ := y
  exact ⟨F', Ex.refl _, hs, .int _⟩
theorem di_rng3 {X : Cx} {W : WX} {tg : Expr} {wr : DA} {pos : Pos} {a b c : Expr} {p : Pos} (hg : Gl X "range") (hm : X.mg "range" = none) (ha : PA X [a, b, c] (tA X.K W wr))
    (hs : starEach [a, b, c] X.env = (false, eval a X.env) :: starEach [b, c] X.env := by rfl) (hpl : (backTo pos (starEach [b, c] X.env)).any (·.1) = false := by rfl) :
    PI X tg (.Call (.Name "range" p) [a, b, c] [] pos) (tI X.K W (wRng3 wr)) :=
  PI.imp (pi_range3 hg hm ha hs hpl) fun σ H R ⟨F, C, ρ, P, PX, hs, en, xr, w, k⟩ => ⟨F, C, ρ, _, PX, hs, en, xr, w, fun v F1 H1 d C1 e1 h1 r q => by
    revert q
    dsimp only
    split
    · rintro ⟨n, hn, q⟩
      rename_i i j c
      cases r with
      | cons r1 r2 =>
        cases r1
        cases r2 with
        | cons r2 r3 =>
          cases r2
          cases r3 with
          | cons r3 r4 =>
            cases r3; cases r4
            exact ⟨i, j, c, n, rfl, hn, k _ F1 H1 _ C1 e1 h1 itr_rngC q⟩
    · exact fun z => z.elim⟩
theorem for_rngC {lo c : Int} {n i : Nat} {b : DS} {E : DEnds} {ρ : DEnv} {C : Cells} (Inv : Nat → DEnv → Cells → Prop) (h0 : Inv 0 ρ C)
    (hs : ∀ (k : Nat) ρ' C', k < n → Inv k ρ' C' → b { nx := Inv (k + 1), ct := Inv (k + 1), bk := E.nx, rt := E.rt, ex := E.ex } (ρ'.set i (some (.int (lo + (k : Int) * c)))) C')
    (hd : ∀ ρ' C', Inv n ρ' C' → E.nx ρ' C') : ForG ⟨rngC lo c n, frozen⟩ (.name i) b E ρ C := by
  refine ⟨Inv, h0, fun _ _ _ _ => trivial, fun k d ρ' C' hk hI => ?_, fun ρ' C' hI => hd ρ' C' (by have e := rngC_len lo c n; simp only [e] at hI; exact hI)⟩
  obtain ⟨hk2, rfl⟩ := rngC_get hk
  simp only [Tgt.dg]
  exact hs k ρ' C' hk2 hI
theorem rgC_two {n : Nat} (h : n ≤ 1000000) : RgC 0 (n : Int) 2 ((n + 1) / 2) := by
  have e : Builtin.Range.rangeSize 0 (n : Int) 2 = (((n + 1) / 2 : Nat) : Int) := by
    unfold Builtin.Range.rangeSize
    split <;> omega
  refine ⟨by decide, by decide, ?_, e⟩
  unfold Builtin.Range.small
  rw [e]
  have e1 : ((2 : Int) > 0) = True := by simp
  have e2 : Builtin.Range.rangeFitsLong 2 = true := by decide
  have e3 : Builtin.Range.rangeFitsLong 0 = true := by decide
  have e4 : ∀ i : Int, 0 ≤ i → i ≤ 3000000 → Builtin.Range.rangeFitsLong i = true := fun i h1 h2 => by
    simp only [Builtin.Range.rangeFitsLong, Bool.and_eq_true, decide_eq_true_eq]; omega
  rw [e2, e3, e4 _ (by omega) (by omega)]
  simp only [Bool.and_eq_true, Bool.or_eq_true, decide_eq_true_eq, beq_iff_eq, e1, if_true, true_and]
  exact ⟨e4 _ (by omega) (by omega), .inr (e4 _ (by omega) (by omega))⟩

theorem atI_getLast {α : Type} (xs : List α) : atI xs (-1) = xs.getLast? := by
  unfold atI ixN
  rcases List.eq_nil_or_concat xs with h | ⟨r, x, h⟩
  · subst h; rfl
  · subst h
    simp only [List.concat_eq_append, List.length_append, List.length_singleton]
    rw [if_neg (by decide), if_pos (by omega)]
    have : (-1 + ((r.length + 1 : Nat) : Int)).toNat = r.length := by omega
    simp only [Option.bind_some, this]
    simp
theorem atI_snoc {α : Type} (xs : List α) (x : α) : atI (xs ++ [x]) (-1) = some x := by rw [atI_getLast, List.getLast?_concat]
theorem atI_succ {α : Type} (xs : List α) (j : Nat) : atI xs ((j : Int) + 1) = xs[j + 1]? := atI_nat' xs (j + 1)
theorem cut_init (xs : List D) : cutD xs none (some (-1)) = xs.dropLast := by
  unfold cutD
  simp only [HT.sIx, List.drop_zero, Nat.sub_zero]
  rw [if_pos (by decide), List.dropLast_eq_take]
  congr 1
  omega
theorem cut_from (xs : List D) (k : Nat) : cutD xs (some (k : Int)) none = xs.drop k := by
  unfold cutD
  simp only [HT.sIx_nat, HT.sIx_none]
  rw [List.take_of_length_le (by rw [List.length_drop]; omega)]
  rcases Nat.le_total k xs.length with h | h
  · rw [Nat.min_eq_left h]
  · rw [Nat.min_eq_right h, List.drop_eq_nil_of_le (Nat.le_refl _), List.drop_eq_nil_of_le h]
theorem cut_to (xs : List D) (k : Nat) : cutD xs none (some (k : Int)) = xs.take k := by
  unfold cutD
  simp only [HT.sIx_nat, HT.sIx_none, List.drop_zero, Nat.sub_zero]
  rcases Nat.le_total k xs.length with h | h
  · rw [Nat.min_eq_left h]
  · rw [Nat.min_eq_right h, List.take_of_length_le (Nat.le_refl _), List.take_of_length_le h]
end DD

set_option Elab.async false
set_option linter.all false
set_option maxRecDepth 100000
set_option maxHeartbeats 4000000
/-! More: a module's tuple, x in xs of data, tuples put together. -/
namespace DD
open PySem L2 PySem.Spec PyProof.Rows

/-! ### a tuple of the module -/
theorem rep_tupK {K : PySem.W.Frag} {a : Addr} {od : Option Addr} {its : Array Value} {n : Nat} {sl : Array (Option Value)} {vs : List V} {ds : List D} (h : K.lookup a = some ⟨.type "tuple", od, .seq its n, sl⟩) (hs : its.size ≤ sizeLine) (r : Vals vs its.toList)
    (q : ∀ F, RepL K F vs ds) : ∀ F, Rep K F (.ref a) (.ktup ds) := fun F => .ktup (.inr ⟨_, its, n, h, rfl, rfl, hs, r⟩) (q F)
theorem d_kdat {X : Cx} {W : WX} {x : Str} {d : D} {pos : Pos} (h : ∃ a, X.mg x = some (.ref a) ∧ ∀ F, Rep X.K F (.ref a) d) (hg : Gl X x := by rfl) (hd : (x == ("__debug__" : Str)) = false := by decide) : PE X (.Name x pos) (tE X.K W (wC d)) := by
  obtain ⟨a, hm, hr⟩ := h
  exact d_glob hg hm (v := .ref a) rfl hr hd

/-! ### x in xs, data of any depth -/
def rInQ (K : PySem.W.Frag) (neg : Bool) : R2 := fun x y H Q => ∃ d e ds, (e = .list ds ∨ e = .tuple ds) ∧ Dp K H x d ∧ Dp K H y e ∧ SeqAt.shaped d = true ∧ SeqAt.shaped e = true ∧ Q (.bl (neg ^^ ds.any fun z => PyData.eqv z d)) H
theorem room_in_tuple {A : Around} {xs : List PyData} {d : PyData} (hd : SeqAt.shaped d = true) (hu : A.units + 65 < cLine) : A.units + 1 + min (PyData.depthAll xs) d.depth < cLine := by
  unfold SeqAt.shaped at hd
  simp only [Bool.and_eq_true, decide_eq_true_eq] at hd
  have : min (PyData.depthAll xs) d.depth ≤ d.depth := Nat.min_le_right _ _
  omega
theorem op_inQ {X : Cx} (hu : X.A.units + 65 < cLine) : OpR X (compareOp .In) (rInQ X.K false) := by
  intro pins s σ H x y v u Q I rx ry h
  obtain ⟨d, e, ds, he, hd, hq, sd, se, q⟩ := h
  obtain ⟨as, r1⟩ := Dp.reads I d x v hd rx
  obtain ⟨bs, r2⟩ := Dp.reads I e y u hq ry
  rw [Bool.false_xor] at q
  rcases he with rfl | rfl
  · exact SeqAt.in_list_reads r2 r1 (SeqAt.canLay_of_shaped se) (SeqAt.canLay_of_shaped sd) (room_in_tuple sd hu) ⟨.bl _, H, I, rfl, q⟩
  · exact SeqAt.in_tuple_reads r2 r1 (SeqAt.canLay_of_shaped se) (SeqAt.canLay_of_shaped sd) (room_in_tuple sd hu) ⟨.bl _, H, I, rfl, q⟩
theorem op_notInQ {X : Cx} (hu : X.A.units + 65 < cLine) : OpR X (compareOp .NotIn) (rInQ X.K true) := by
  intro pins s σ H x y v u Q I rx ry h
  obtain ⟨d, e, ds, he, hd, hq, sd, se, q⟩ := h
  obtain ⟨as, r1⟩ := Dp.reads I d x v hd rx
  obtain ⟨bs, r2⟩ := Dp.reads I e y u hq ry
  rw [Bool.true_xor] at q
  rcases he with rfl | rfl
  · exact SeqAt.notIn_list_reads r2 r1 (SeqAt.canLay_of_shaped se) (SeqAt.canLay_of_shaped sd) (room_in_tuple sd hu) ⟨.bl _, H, I, rfl, q⟩
  · exact SeqAt.notIn_tuple_reads r2 r1 (SeqAt.canLay_of_shaped se) (SeqAt.canLay_of_shaped sd) (room_in_tuple sd hu) ⟨.bl _, H, I, rfl, q⟩
/-- the items of a list or a tuple that is data -/
def inItems : D → Option (List D)
  | .lst ds => some ds
  | .tup ds => some ds
  | .ktup ds => some ds
  | _ => none
def dInD (neg : Bool) (x : D) (y : D) (C : Cells) (P : DK) : Prop := match inItems (y.res C) with
  | some ds => ∃ n, n ≤ 60 ∧ Dat n (x.res C) ∧ Dat n (y.res C) ∧ P (.bl (neg ^^ ds.any fun z => z.eqb (x.res C))) C
  | none => False
theorem any_pys (d : PyData) : ∀ ds : List D, ((pys ds).any fun z => PyData.eqv z d) = ds.any fun z => PyData.eqv z.py d
  | [] => rfl
  | x :: r => by simp only [pys, List.any_cons, any_pys d r]
theorem s_inD {K : PySem.W.Frag} {neg : Bool} : SimR K (rInQ K neg) (dInD neg) := fun F C H x y dx dy P Q hs rx ry w k => by
  revert w
  unfold dInD
  split
  · rename_i ds hd
    rintro ⟨n, hn, h1, h2, w⟩
    have kk := k _ F H _ C (Ex.refl F) hs (.bl _) w
    have e : (fun z : D => z.eqb (dx.res C)) = fun z : D => PyData.eqv z.py (dx.res C).py := rfl
    rw [e, ← any_pys] at kk
    refine ⟨_, _, pys ds, ?_, res_dp hs rx h1, res_dp hs ry h2, dat_shaped h1 hn, dat_shaped h2 hn, kk⟩
    cases hy : dy.res C <;> rw [hy] at hd <;> cases hd
    · exact .inr (by rw [D.py])
    · exact .inl (by rw [D.py])
    · exact .inr (by rw [D.py])
  · exact fun z => z.elim

/-! ### tuples put together -/
def dCatT (x : D) (y : D) (C : Cells) (P : DK) : Prop := match x, y with
  | .tup xs, .tup ys => xs.length + ys.length ≤ 100000 ∧ P (.tup (xs ++ ys)) C
  | _, _ => False
theorem s_catT {K : PySem.W.Frag} : SimR K (rCatA K) dCatT := fun F C H x y dx dy P Q hs rx ry w k => by
  unfold dCatT at w
  split at w
  · rename_i xs ys
    cases rx with
    | tup h1 r1 =>
      cases ry with
      | tup h2 r2 =>
        rename_i a us b vs
        have e1 := r1.length
        have e2 := r2.length
        refine ⟨a, b, us, vs, rfl, rfl, .of (hs.ex.nd h1 rfl), .of (hs.ex.nd h2 rfl), by rw [e1, e2]; exact Nat.le_trans w.1 (by decide), fun e => ?_, fun _ e => ?_, fun _ _ p hp => ?_⟩
        · subst e
          cases r1
          exact k _ F H _ C (Ex.refl F) hs (.tup h2 r2) w.2
        · subst e
          cases r2
          have w2 := w.2
          rw [List.append_nil] at w2
          exact k _ F H _ C (Ex.refl F) hs (.tup h1 r1) w2
        · obtain ⟨ex, hs'⟩ := hs.lay (o := .tup (us ++ vs)) hp
          exact k _ _ _ _ C ex hs' (.tup (by unfold upd; rw [if_pos rfl]) ((r1.mono ex).append (r2.mono ex))) w.2
  · exact w.elim
theorem atI_lit {α : Type} (xs : List α) (n : Nat) : atI xs (no_index (@OfNat.ofNat Int n _)) = xs[n]? := atI_nat' xs n
theorem _root_.L2.Room.units2 {k : Nat} {A : Around} (r : L2.Room k A) : A.units + 65 < cLine := by have := r.un; omega
end DD

set_option Elab.async false
set_option linter.all false
set_option maxRecDepth 100000
set_option maxHeartbeats 4000000
/-! Exceptions: raise of an own class, try and except. -/
namespace DD
open PySem L2 PySem.Spec PyProof.Rows

/-- what is known of an own class of errors without an __init__ -/
structure XcT (K : PySem.W.Frag) (C : Addr) : Prop where
  xi : PySem.W.excIn K C [.type "ValueError", .type "Exception", .type "BaseException", .type "object"] "ValueError.__new__" = true
  xb : PySem.W.subIn K (.ref C) (.type "BaseException") = some true
  xt : PySem.W.typeIn K (.ref C) = some (.type "type")
  xk : PySem.W.keepIn K (.ref C) = true
theorem exm_is {K : PySem.W.Frag} {C1 C2 : Addr} {b : Bool} (h1 : PySem.W.subIn K (.ref C2) (.type "BaseException") = some true) (h2 : PySem.W.isClsIn K C2 = true) (h3 : PySem.W.typeIn K (.ref C2) = some (.type "type")) (h4 : PySem.W.subIn K (.ref C1) (.ref C2) = some b) :
    PySem.W.exmOne K (.ref C1) (.ref C2) = some b := by
  unfold PySem.W.exmOne PySem.W.kitCls
  have h5 : (PySem.W.clsIn K C2).isSome = true := h2
  rw [h1, if_pos (by decide)]
  dsimp only
  rw [h5, h3, if_pos (by decide), h4]

def wRaise (cls : Value) (E : DEnds) (ρ : DEnv) (C : Cells) : Prop := E.ex cls [] ρ C
section
variable {X : Cx} {W : WX} {K : PySem.W.Frag} {pos : Pos}
theorem ds_raise0 {x m : Str} {j : Nat} {p p2 pos' : Pos} {C : Addr} (hc : X.calm = true) (tk : Takes X W) (T : XcT X.K C) (gC : X.mg x = some (.ref C)) (hg : Gl X x) (hdb : (x == ("__debug__" : Str)) = false := by decide) :
    PS X (.Raise (some (.Call (.Name x p) [.Constant (.str m) j p2] [] pos)) none pos') (tS X.K W (wRaise (.ref C))) :=
  PS.imp (ps_raise hc tk (pmk_own PySem.F.excBase_ValueError T.xi gC T.xk (raises_own T.xb T.xt) hg hdb)) fun D σ H ⟨F, C', ρ, E, hs, en, xr, w, k⟩ =>
    xr _ none [] σ F H ρ C' (Ex.refl F) hs en (.inl rfl) w

/-! try: .. except X: .. (the suite raises nothing) -/
def wTry (K : PySem.W.Frag) (c : Value) (wb ws : DS) (E : DEnds) (ρ : DEnv) (C : Cells) : Prop := wb { E with ex := fun cls fs ρ' C' => ∃ b, PySem.W.exmOne K cls c = some b ∧ (b = true → ws { E with ex := fun _ _ _ _ => False } ρ' C') ∧ (b = false → E.ex cls fs ρ' C') } ρ C
theorem EndsR.exx {F : Hp} {E : DEnds} {D : Ends} {px : DX} (h : EndsR K F E D) : EndsR K F { E with ex := px } D := ⟨h.nx, h.rt, h.bk, h.ct⟩
theorem ds_try {x : Str} {C : Addr} {K' : PySem.W.Frag} {body suite : List Stmt} {b₀ : Stmt} {np pos' : Pos} {wb ws : DS} (hs : X.stack = X.env :: X.outer) (hf : X.env.frame = some X.env.locals) (T : XcT K' C) (gC : X.mg x = some (.ref C)) (tk : Takes X W)
    (hb : ∀ (W' : WX) (pn : List (Addr × Obj)) (xe : Value → Shared → Prop), Takes (X.tr pn xe) W' → PassesOwn (model X.prog X.w) X.A X.env xe → PSs (X.tr pn xe) body (tS X.K W' wb))
    (hsu : ∀ (a : Addr) (oe : Obj) (cls : Value) (d : Option Addr) (pn : List (Addr × Obj)), Zc cls d oe → (∃ vs, oe.data = .fields vs) → PSs (X.suite a ((a, oe) :: pn)) (b₀ :: suite) (tS X.K (fun _ _ _ _ => False) ws))
    (hK : X.K = K' := by rfl) (hg : Gl X x := by rfl) (hdb : (x == ("__debug__" : Str)) = false := by decide) :
    PS X (.Try body [.ExceptHandler (some (.Name x np)) none (b₀ :: suite) pos'] [] [] pos) (tS X.K W (wTry K' (.ref C) wb ws)) := by
  subst hK
  exact PS.imp (ps_try_only (tb := fun W' => tS X.K W' wb) (ts := fun _ _ _ => tS X.K (fun _ _ _ _ => False) ws) hs hf ⟨hg, hdb, .inl gC⟩ tk hb hsu) fun D σ H ⟨F, C', ρ, E, hs', en, xr, w, k⟩ =>
    ⟨F, C', ρ, { E with ex := fun cls fs ρ' C' => ∃ b, PySem.W.exmOne X.K cls (.ref C) = some b ∧ (b = true → ws { E with ex := fun _ _ _ _ => False } ρ' C') ∧ (b = false → E.ex cls fs ρ' C') }, hs', en, fun cls d fs σ1 F1 H1 ρ1 C1 e1 h1 n1 rx ⟨b, hb1, hy, hn⟩ =>
      ⟨b, hb1, fun hbt a ha => ⟨F1, C1, ρ1, { E with ex := fun _ _ _ _ => False }, h1, n1, fun _ _ _ _ _ _ _ _ _ _ _ _ z => z.elim, hy hbt, (k.mono e1).exx⟩, fun hbf => xr cls d fs σ1 F1 H1 ρ1 C1 e1 h1 n1 rx (hn hbf)⟩, w, k.exx⟩
end

/-! an object made, its __init__ may raise -/
section
variable {X : Cx} {W : WX} {k : Nat} {f Cl : Addr} {fd : FuncData} {ps : List Str} {x : Str} {p pos : Pos} {e : Expr} {es : List Expr} {dvs : List V} {dsv : List Value}
theorem make_at {CX : CXT} {sp : Sp} {E : XK} {pins : List (Addr × Obj)} {σ : L2.St} {H : Hp} {s : Shared} {Q : VK} {us : List Value} {vs : List V} (M : Mk X.K Cl f) (F : FnOk X.prog X.w X.K X.mg X.base CX k f fd ps sp) (hr : Room (k + 1) X.A) (hb : Binds X.K fd ps dsv) (hd : Vals dvs dsv)
    (hx : PassesAt CX X σ E) (I : Inv X pins σ H s) (r : Vals vs us)
    (h : ∀ z dx, H z = none → H dx = none → dx ≠ z → sp (.ref z :: (vs ++ dvs)) (upd (upd H dx (.own z)) z (.ins Cl dx [])) (fun v H2 => v = .non ∧ Q (.ref z) H2) E) :
    wpAny (model X.prog X.w) X.A (call (.ref Cl) us) (EP X pins σ Q) X.xe s := by
  have q := h _ _ (I.hok.fresh (Nat.le_succ s.heap.objs.size)) (I.hok.fresh (Nat.le_refl s.heap.objs.size)) (Nat.ne_of_lt (Nat.lt_succ_self s.heap.objs.size))
  have J := Inv.made (C := Cl) I
  have rv : Vals (V.ref (s.heap.objs.size + 1) :: (vs ++ dvs)) (Value.ref (s.heap.objs.size + 1) :: (us ++ dsv)) := .cons rfl (r.append hd)
  have len : (Value.ref (s.heap.objs.size + 1) :: us ++ dsv).length = ps.length := rv.length.symm.trans (F.len _ _ _ _ q)
  refine wpAny_call (make_map (f := f) I.kIn M.makes M.init (beq_iff_eq.mp M.fn) (codeAny_mono (F.run _ X.stack _ _ ⟨Value.ref (s.heap.objs.size + 1) :: us, []⟩ (Value.ref (s.heap.objs.size + 1) :: (us ++ dsv)) _ _ E (hr.make Cl us []) (J.env0.make Cl us []) (hb _ (Value.ref (s.heap.objs.size + 1) :: us) J.kIn len) rv q) fun o s' z => ?_))
  match o, z with
  | .error e, z => exact hx pins _ _ e s' J z
  | .ok (.ret u), z =>
    obtain ⟨v, H', J2, _, ev, q3⟩ := J.after z
    subst ev
    exact ⟨by assumption, ⟨V.ref _, H', J2, rfl, q3⟩⟩
  | .ok .next, z => exact z.elim
  | .ok .brk, z => exact z.elim
  | .ok .cont, z => exact z.elim
theorem d_makeX {RX : DSpX} {dd : List D} {wr : DA} (tk : Takes X W) (M : Mk X.K Cl f) (G : FnOk X.prog X.w X.K X.mg X.base (L2.CX X.prog X.w) k f fd ps (spX X.K RX)) (hr : Room (k + 1) X.A) (hm : X.mg x = some (.ref Cl)) (hb : Binds X.K fd ps dsv) (ha : PA X (e :: es) (tA X.K W wr)) (hd : Vals dvs dsv := by exact .nil) (hdd : ∀ F, RepL X.K F dvs dd := by exact fun _ => .nil) (hg : Gl X x := by rfl)
    (hdb : (x == ("__debug__" : Str)) = false := by decide) (he : starEach (e :: es) X.env = (false, eval e X.env) :: starEach es X.env := by rfl) (hpl : (backTo pos (starEach es X.env)).any (·.1) = false := by rfl) :
    PE X (.Call (.Name x p) (e :: es) [] pos) (tE X.K W (wMakeX Cl RX dd wr)) := by
  refine ⟨fun pins s σ H Q I ⟨F, C, ρ, P, PX, hs, en, xr, w, kk⟩ => ?_⟩
  refine wpAny_Call_Name_kw (ld_glob I hg hm ?_ hdb)
  refine PySem.W.callWith_K (h₀ := X.base) I.ok.mod.kin M.kp (thn (ha.run pos pins s σ H (fun vs H1 => ∃ F1 C1 ds, Ex F F1 ∧ Hs X.K F1 C1 H1 ∧ RepL X.K F1 vs ds ∧ ∀ q, C1 q = none → RX (.ptr q :: (ds ++ dd)) (cput C1 q (.ins Cl [])) (fun r C2 => r = .non ∧ P (.ptr q) C2) (fun cls fs C3 => PX cls fs ρ C3)) I
    ⟨F, C, ρ, _, PX, hs, en, xr, w, fun vs F1 H1 ds C1 e1 h1 r q => ⟨F1, C1, ds, e1, h1, r, q⟩⟩) fun us s1 ⟨vs, H1, I1, r, F1, C1, ds, e1, h1, rr, q⟩ => ⟨I1.kIn, ?_⟩) he hpl
  refine make_at (E := WE W σ) M G hr hb hd (passAt tk σ) I1 r fun z dx hz hdx ne => ?_
  obtain ⟨c0, h2⟩ := h1.inst (Cl := Cl) hz hdx ne
  exact ⟨F1, _, .ptr z :: (ds ++ dd), _, _, h2, .cons (.ptr z) (rr.append (hdd F1)), q z c0, ptr_kont (kk.mono e1), KontX.of (xr.mono e1) (en.mono e1)⟩
end

/-! xs.index(y), flat items -/
def dIndex (x : D) (ds : List D) (C : Cells) (P : DK) : Prop := match ds with
  | [y] => ∃ xs, seqOf x C = some xs ∧ flatD y = true ∧ xs.all flatD = true ∧ ∃ (j : Nat) (z : D), xs[j]? = some z ∧ eqV (toV z) (toV y) = true ∧ (∀ (m : Nat) (z' : D), m < j → xs[m]? = some z' → eqV (toV z') (toV y) = false) ∧ P (.int (j : Int)) C
  | _ => False
theorem s_index {K : PySem.W.Frag} : SimM K (rIndex K) dIndex := fun F C H x dx xs ds P Q hs rx rl w k => by
  revert w
  unfold dIndex
  split
  · rename_i y
    rintro ⟨zs, hz, fy, fz, j, z, hj, hzy, hno, w⟩
    obtain ⟨a, us, rfl, hq, hr⟩ := seq_of hs rx hz
    cases rl with
    | cons r1 r2 =>
      cases r2
      obtain ⟨e1, f1⟩ := flat_rep r1 fy
      obtain ⟨e2, f2⟩ := flat_reps hr fz
      refine ⟨a, us, _, j, toV z, rfl, rfl, hq, f1, f2, ?_, by rw [e1]; exact hzy, fun m z' hm hz' => ?_, k _ F H _ C (Ex.refl F) hs (.int _) w⟩
      · rw [e2, List.getElem?_map, hj]; rfl
      · rw [e2, List.getElem?_map] at hz'
        cases hm' : zs[m]? with
        | none => rw [hm'] at hz'; cases hz'
        | some z2 =>
          rw [hm'] at hz'
          cases hz'
          rw [e1]
          exact hno m z2 hm hm'
  · exact fun z => z.elim
theorem eqV_int (a b : Int) : eqV (toV (.int a)) (toV (.int b)) = decide (a = b) := by
  simp only [toV, eqV]
  exact Bool.beq_eq_decide_eq a b
end DD

set_option Elab.async false
set_option linter.all false
set_option maxRecDepth 100000
set_option maxHeartbeats 4000000
/-! xs.extend(ys) of a cell by any list. -/
namespace DD
open PySem L2 HT PySem.Spec PyProof.Rows
open PySem.AutoSeq1 (wpAny_loadPart')

theorem list_extendW (l : Addr) (items : Array Value) (n : Nat) (b : Addr) (items2 : Array Value) (n2 : Nat) (sl2 : Array (Option Value)) (hc0 : ¬(!items.isEmpty && Builtin.List.listTooLong (items.size + items2.size)) = true) (hc1 : items.size ≤ sizeLine) (hs2 : items.size + items2.size ≤ sizeLine + 1) :
    Meets (Builtin.«list.extend» ⟨[.ref l, .ref b], []⟩) (fun _ R s => s.heap.get? l = some { cls := .type "list", dict := none, data := .seq items n, slots := #[] } ∧ s.heap.get? b = some { cls := .type "list", dict := none, data := .seq items2 n2, slots := sl2 } ∧ R (.ok (.ret Value.none)) { s with heap := s.heap.update l (Obj.mapSeq fun x => x ++ items2), toks := s.toks }) :=
  .of_wp fun prog w A R s h => by
    obtain ⟨hp, g, d, tk, os⟩ := s
    obtain ⟨hl, hb, h⟩ := h
    have f1 := AutoSeq1.idx_int
    have f2 := AutoSeq1.sub_tuple_tuple
    have f3 := AutoSeq1.sub_list_list
    have f4 := AutoSeq1.sub_tuple_list
    have f5 := AutoSeq1.sub_list_tuple
    have hz' : (items ++ items2).size ≤ sizeLine + 1 := by rw [Array.size_append]; exact hs2
    wp_walk using (wpAny_updateSeq hl rfl (hz := hc1) (_hz' := hz')), wpAny_loadPart' hl, wpAny_loadPart' hb
    exact ⟨_, rfl, h⟩
def rExtendS (K : PySem.W.Frag) : V → List V → Hp → VK → Prop := fun x vs H Q => ∃ l b xs zs, x = .ref l ∧ vs = [.ref b] ∧ H l = some (.lst xs) ∧ SqL K H b zs ∧ xs.length + zs.length ≤ sizeLine ∧ Q .non (upd H l (.lst (xs ++ zs)))
theorem mt_extendS {X : Cx} : MtR X "list.extend" (rExtendS X.K) := by
  intro pins s σ H x vs v us Q I rx rv h
  obtain ⟨l, b, xs, zs, rfl, rfl, hH, hB, hz, q⟩ := h
  cases rx
  obtain ⟨u, rfl, ru⟩ := rv.one
  cases ru
  obtain ⟨z, its, n, r, hl, e⟩ := I.lstM hH
  obtain ⟨its2, r2, pl2, _⟩ := I.list hB
  obtain ⟨⟨cls2, dd2, data2, sl2⟩, n2, ho2, hc2, hdd, hd2⟩ := pl2
  simp only at hc2 hdd hd2
  subst hc2 hdd hd2
  have hl2 := r2.length
  have hsz : its.toArray.size + its2.toArray.size ≤ sizeLine := by rw [List.size_toArray, List.size_toArray]; omega
  have hlong : ¬ (!its.toArray.isEmpty && Builtin.List.listTooLong (its.toArray.size + its2.toArray.size)) = true := by
    rw [notLongL hsz, Bool.and_false]
    exact Bool.false_ne_true
  refine call_meets F.slot_list_extend ⟨_, e, rfl⟩ F.entry_list_extend (F.args_list_extend_2 _ _)
    (list_extendW l its.toArray n b its2.toArray n2 sl2 hlong (by rw [List.size_toArray]; omega) (by omega)) ⟨e, ho2, ?_⟩
  refine ⟨.non, _, I.lset (its' := its ++ its2) hH e (by simp) (r.append r2) ?_, rfl, q⟩
  rw [List.length_append]
  omega
def dExtend (x : D) (ds : List D) (C : Cells) (P : DK) : Prop := match x, ds with
  | .ptr a, [d] => match C a, seqOf d C with
    | some (.lst xs), some ys => xs.length + ys.length ≤ 100000 ∧ P .non (cput C a (.lst (xs ++ ys)))
    | _, _ => False
  | _, _ => False
theorem s_extend {K : PySem.W.Frag} : SimM K (rExtendS K) dExtend := fun F C H x dx xs ds P Q hs rx rl w k => by
  revert w
  unfold dExtend
  split
  · rename_i a d
    cases rx
    split
    · rename_i ys zs hc hd
      rintro ⟨hl, w⟩
      cases rl with
      | cons r1 r2 =>
        cases r2
        obtain ⟨f0, us, hx, r⟩ := hs.cell a _ hc
        obtain ⟨b, vs, rfl, hv, rv⟩ := seq_of hs r1 hd
        exact ⟨a, b, us, vs, rfl, rfl, hx, hv, by rw [r.length, rv.length]; exact sz_of hl, k _ F _ _ _ (Ex.refl F) (hs.put (c := .lst (ys ++ zs)) f0 ⟨_, upd_same, r.append rv⟩) .non w⟩
    · exact fun z => z.elim
  · exact fun z => z.elim
section
variable {X : Cx} {W : WX} {K : PySem.W.Frag}
theorem d_extend {o e : Expr} {es : List Expr} {wo : DE} {wr : DA} {pos apos : Pos} (ho : PE X o (tE X.K W wo)) (ha : PA X (e :: es) (tA X.K W wr))
    (hbase : attributeBase o (Str.ofString "extend") X.env (eval o X.env) = eval o X.env := by rfl)
    (hfew : ((backTo pos (starEach (e :: es) X.env)).all (fun x => !x.1) && (backToKw pos (keywordEach [] X.env)).all (fun x => x.1.isSome)
      && decide ((e :: es).length + ([] : List Keyword).length + (if ([] : List Keyword).isEmpty then 0 else 1) < 30)) = true := by rfl)
    (hline : (apos.endLine == pos.line) = true := by rfl) (hs : starEach (e :: es) X.env = (false, eval e X.env) :: starEach es X.env := by rfl) (hplain : (backTo pos (starEach es X.env)).any (·.1) = false := by rfl) :
    PE X (.Call (.Attribute o (Str.ofString "extend") apos) (e :: es) [] pos) (tE X.K W (wBML dExtend wo wr)) :=
  d_bmL PySem.F.plainAttrs_list PySem.F.slot_list_extend PySem.F.type_list_extend mt_extendS s_extend ho ha hbase hfew hline hs hplain
end
end DD

set_option Elab.async false
set_option linter.all false
set_option maxRecDepth 100000
set_option maxHeartbeats 4000000
/-! Texts: what is walked, ord, chr, join; any and all of lists; a module's text; statements that are never reached. -/
namespace DD
open PySem L2 HT PySem.Spec PyProof.Rows

/-- a sign as a text -/
def chD (c : Nat) : D := .str ⟨#[c]⟩
def strDs (z : Str) : List D := z.cps.toList.map chD
def wItS (e : DE) (ρ : DEnv) (C : Cells) (P : DIt → Cells → Prop) (PX : DX) : Prop := e ρ C (fun d C1 => match d with
  | .str z => P ⟨strDs z, frozen⟩ C1
  | _ => False) PX
def dOrd (ds : List D) (C : Cells) (P : DK) : Prop := match ds with
  | [.str z] => z.length = 1 ∧ P (.int (z.cps.getD 0 0 : Nat)) C
  | _ => False
def dChr (ds : List D) (C : Cells) (P : DK) : Prop := match ds with
  | [.int i] => (0 ≤ i ∧ i ≤ 1114111) ∧ P (chD i.toNat) C
  | _ => False
def dAny (ds : List D) (C : Cells) (P : DK) : Prop := match ds with
  | [x] => ∃ bs : List Bool, seqOf x C = some (bs.map D.bl) ∧ P (.bl (bs.any id)) C
  | _ => False
def dAll (ds : List D) (C : Cells) (P : DK) : Prop := match ds with
  | [x] => ∃ bs : List Bool, seqOf x C = some (bs.map D.bl) ∧ P (.bl (bs.all id)) C
  | _ => False
/-- a text's method -/
def wBMS (r : DRM) (o : DE) (a : DA) (ρ : DEnv) (C : Cells) (P : DK) (PX : DX) : Prop := o ρ C (fun x C1 => match x with
  | .str z => a ρ C1 (fun ds C2 => r (.str z) ds C2 P) PX
  | _ => False) PX
def dJoin (x : D) (ds : List D) (C : Cells) (P : DK) : Prop := match x, ds with
  | .str a, [y] => ∃ ys : List Str, seqOf y C = some (ys.map D.str) ∧ (ys.map (·.length)).sum + ys.length * a.length ≤ 16777216 ∧ P (.str (Txt.join a ys)) C
  | _, _ => False
def wDead (E : DEnds) (ρ : DEnv) (C : Cells) : Prop := False
section
variable {X : Cx} {W : WX} {K : PySem.W.Frag} {e tg : Expr} {we wo : DE} {wr : DA} {pos : Pos}
theorem ds_dead {s : Stmt} : PS X s (tS X.K W wDead) := ⟨fun pins s σ H D I w => by obtain ⟨F, C, ρ, DE, _, _, _, h, _⟩ := w; exact h.elim⟩
theorem itr_str {F : Hp} {z : Str} : ItR K F (Its z) ⟨strDs z, frozen⟩ := fun F' H C e hs _ => by
  refine ⟨fun i d hd => ?_, by show z.cps.size ≤ (strDs z).length; unfold strDs; rw [List.length_map, Array.length_toList]; exact Nat.le_refl _⟩
  unfold strDs at hd
  rw [List.getElem?_map, Array.getElem?_toList] at hd
  cases hc : z.cps[i]? with
  | none => rw [hc] at hd; cases hd
  | some c =>
    rw [hc] at hd
    injection hd with hd
    subst hd
    refine ⟨(Array.getElem?_eq_some_iff.mp hc).1, fun x H' y => ?_⟩
    obtain ⟨rfl, c', h1, rfl⟩ := y
    rw [hc] at h1
    injection h1 with h1
    subst h1
    exact ⟨F', Ex.refl _, hs, .str _⟩
theorem di_str (he : PE X e (tE X.K W we)) : PI X tg e (tI X.K W (wItS we)) := PI.imp (pi_str he) fun σ H R ⟨F, C, ρ, P, PX, hs, en, xr, w, k⟩ =>
  ⟨F, C, ρ, _, PX, hs, en, xr, w, fun v F1 H1 d C1 e1 h1 r q => by
    cases r <;> first | exact q.elim | skip
    exact ⟨_, rfl, k _ F1 H1 _ C1 e1 h1 itr_str q⟩⟩
theorem s_ord : SimA K (fun xs H Q => ∃ x, xs = [.str x] ∧ x.length = 1 ∧ Q (.int (x.cps.getD 0 0 : Nat)) H) dOrd := fun F C H xs ds P Q hs r w k => by
  revert w
  unfold dOrd
  split
  · rename_i z
    rintro ⟨hl, w⟩
    cases r with
    | cons r1 r2 =>
      cases r2
      cases r1
      exact ⟨z, rfl, hl, k _ F H _ C (Ex.refl F) hs (.int _) w⟩
  · exact fun z => z.elim
theorem s_chr : SimA K (fun xs H Q => ∃ i, xs = [.int i] ∧ 0 ≤ i ∧ i ≤ 1114111 ∧ Q (.str ⟨#[i.toNat]⟩) H) dChr := fun F C H xs ds P Q hs r w k => by
  revert w
  unfold dChr
  split
  · rename_i i
    rintro ⟨hl, w⟩
    cases r with
    | cons r1 r2 =>
      cases r2
      cases r1
      exact ⟨i, rfl, hl.1, hl.2, k _ F H _ C (Ex.refl F) hs (.str _) w⟩
  · exact fun z => z.elim
theorem RepL.bools {F : Hp} : ∀ {xs : List V} {bs : List Bool}, RepL K F xs (bs.map D.bl) → xs = bs.map V.bl
  | _, [], r => by cases r; rfl
  | _, b :: bs, r => by
    cases r with
    | cons r1 r2 =>
      cases r1
      rw [RepL.bools r2]
      rfl
theorem RepL.strs {F : Hp} : ∀ {xs : List V} {ys : List Str}, RepL K F xs (ys.map D.str) → xs = ys.map V.str
  | _, [], r => by cases r; rfl
  | _, b :: bs, r => by
    cases r with
    | cons r1 r2 =>
      cases r1
      rw [RepL.strs r2]
      rfl
theorem s_any : SimA K (rAny K) dAny := fun F C H xs ds P Q hs r w k => by
  revert w
  unfold dAny
  split
  · rintro ⟨bs, hn, w⟩
    cases r with
    | cons r1 r2 =>
      cases r2
      obtain ⟨a, us, rfl, h2, r3⟩ := seq_of hs r1 hn
      rw [r3.bools] at h2
      exact ⟨a, bs, rfl, h2, k _ F H _ C (Ex.refl F) hs (.bl _) w⟩
  · exact fun z => z.elim
theorem s_all : SimA K (rAll K) dAll := fun F C H xs ds P Q hs r w k => by
  revert w
  unfold dAll
  split
  · rintro ⟨bs, hn, w⟩
    cases r with
    | cons r1 r2 =>
      cases r2
      obtain ⟨a, us, rfl, h2, r3⟩ := seq_of hs r1 hn
      rw [r3.bools] at h2
      exact ⟨a, bs, rfl, h2, k _ F H _ C (Ex.refl F) hs (.bl _) w⟩
  · exact fun z => z.elim
theorem d_bmS {es : List Expr} {apos : Pos} {id : String} {name : Str} {r : V → List V → Hp → VK → Prop} {rd : DRM} {o : Expr} (pa : PlainAttrs "str") (slot : Slot "str" name id) (hty : typeOf (.builtin id) = pure (.type "method_descriptor")) (hm : MtR X id r) (hr : SimM X.K r rd) (ho : PE X o (tE X.K W wo)) (ha : PA X (e :: es) (tA X.K W wr))
    (hbase : attributeBase o name X.env (eval o X.env) = eval o X.env := by rfl)
    (hfew : ((backTo pos (starEach (e :: es) X.env)).all (fun x => !x.1) && (backToKw pos (keywordEach [] X.env)).all (fun x => x.1.isSome)
      && decide ((e :: es).length + ([] : List Keyword).length + (if ([] : List Keyword).isEmpty then 0 else 1) < 30)) = true := by rfl)
    (hline : (apos.endLine == pos.line) = true := by rfl) (hs : starEach (e :: es) X.env = (false, eval e X.env) :: starEach es X.env := by rfl) (hplain : (backTo pos (starEach es X.env)).any (·.1) = false := by rfl) :
    PE X (.Call (.Attribute o name apos) (e :: es) [] pos) (tE X.K W (wBMS rd wo wr)) :=
  PE.imp (pe_bm pa slot hty hm ho ha hbase hfew hline hs hplain) fun σ H Q ⟨F, C, ρ, P, PX, hs, en, xr, w, k⟩ => ⟨F, C, ρ, _, PX, hs, en, xr, w, fun v F1 H1 d C1 e1 h1 rv q => by
    cases rv <;> first | exact q.elim | skip
    rename_i z
    exact ⟨rfl, F1, C1, ρ, _, PX, h1, en.mono e1, xr.mono e1, q, fun vs F2 H2 ds C2 e2 h2 rl q2 => hr F2 C2 H2 (.str z) (.str z) vs ds P Q h2 (.str z) rl q2 (k.mono (e1.trans e2))⟩⟩
theorem s_join : SimM K (fun x xs H Q => ∃ a p, ∃ ys : List Str, x = .str a ∧ xs = [.ref p] ∧ (SqL K H p (ys.map V.str) ∨ SqT K H p (ys.map V.str)) ∧ (ys.map (·.length)).sum + ys.length * a.length ≤ 16777216 ∧ Q (.str (Txt.join a ys)) H) dJoin := fun F C H x dx xs ds P Q hs rx rl w k => by
  revert w
  unfold dJoin
  split
  · rename_i a y
    rintro ⟨ys, hn, hl, w⟩
    cases rx
    cases rl with
    | cons r1 r2 =>
      cases r2
      obtain ⟨p, us, rfl, h2, r3⟩ := seq_of hs r1 hn
      rw [r3.strs] at h2
      exact ⟨a, p, ys, rfl, rfl, .inl h2, hl, k _ F H _ C (Ex.refl F) hs (.str _) w⟩
  · exact fun z => z.elim
/-- a module's text -/
theorem d_kstr {x : Str} {z : Str} {pos : Pos} (h : ∃ t, X.mg x = some (.str z t)) (hg : Gl X x := by rfl) (hd : (x == ("__debug__" : Str)) = false := by decide) : PE X (.Name x pos) (tE X.K W (wC (.str z))) := by
  obtain ⟨t, h⟩ := h
  exact d_glob (v := .str z) hg h ⟨t, rfl⟩ (fun _ => .str z) hd
end
end DD

set_option Elab.async false
set_option linter.all false
set_option maxRecDepth 100000
set_option maxHeartbeats 4000000
/-! max of three whole numbers; what is joined. -/
namespace DD
open PySem L2 HT PySem.Spec PyProof.Rows

def dMax3 (ds : List D) (C : Cells) (P : DK) : Prop := match ds with
  | [.int i, .int j, .int l] => P (.int (max (max i j) l)) C
  | _ => False
theorem nu_max2 (i j : Int) : nuMax2 (.int i) (.int j) = some (.int (max i j)) := by
  have e : nuLt (.int i) (.int j) = some (decide (i < j)) := rfl
  unfold nuMax2
  rw [e]
  show some (if decide (i < j) = true then V.int j else V.int i) = _
  by_cases h : i < j
  · rw [if_pos (by simpa using h)]; congr 2; omega
  · rw [if_neg (by simpa using h)]; congr 2; omega
theorem s_max3 {K : PySem.W.Frag} : SimA K (rNuC3 nuMax3) dMax3 := fun F C H xs ds P Q hs r w k => by
  revert w
  unfold dMax3
  split
  · rename_i i j l
    intro w
    cases r with
    | cons r1 r2 =>
      cases r1
      cases r2 with
      | cons r3 r4 =>
        cases r3
        cases r4 with
        | cons r5 r6 =>
          cases r5; cases r6
          refine ⟨.int i, .int j, .int l, .int (max (max i j) l), rfl, ?_, k _ F H _ C (Ex.refl F) hs (.int _) w⟩
          unfold nuMax3
          rw [nu_max2]
          exact nu_max2 _ _
  · exact fun z => z.elim
theorem strjoin_chars : ∀ cs : List Nat, Str.join ⟨#[]⟩ (cs.map fun c => (⟨#[c]⟩ : Str)) = ⟨cs.toArray⟩
  | [] => rfl
  | [c] => rfl
  | c :: d :: r => by
    have ih := strjoin_chars (d :: r)
    show (⟨#[c]⟩ : Str) ++ ⟨#[]⟩ ++ Str.join ⟨#[]⟩ ((d :: r).map fun c => (⟨#[c]⟩ : Str)) = _
    rw [ih]
    show (⟨(#[c] ++ #[]) ++ (d :: r).toArray⟩ : Str) = _
    simp
theorem join_chars (cs : List Nat) : Txt.join ⟨#[]⟩ (cs.map fun c => (⟨#[c]⟩ : Str)) = ⟨cs.toArray⟩ := by rw [TL.join_eq, strjoin_chars]
end DD

set_option Elab.async false
set_option linter.all false
set_option maxRecDepth 100000
set_option maxHeartbeats 4000000
/-! Comprehensions whose items are not known beforehand; slices by both ends. -/
namespace DD
open PySem L2
theorem lc_gen {α : Type} {J : DIt} {t : Tgt} {we : DE} {vs : List Nat} {C1 : Cells} {ρ : DEnv} {P : DK} (enc : α → D) (ok : α → Prop) (hst : ∀ C', Sub C1 C' → J.still C') (hn : J.items.length < 100000)
    (h : ∀ (i : Nat) d C' (Q : DK), J.items[i]? = some d → Sub C1 C' → (∀ a C3, ok a → Sub C' C3 → Q (enc a) C3) → match t.dg d (dwipe ρ vs) with
      | some ρ2 => we ρ2 C' Q noX
      | none => False)
    (hP : ∀ L : List α, L.length = J.items.length → (∀ a ∈ L, ok a) → P (.lst (L.map enc)) C1) : LcG J t wYes we vs ρ C1 P := by
  intro Dl hD
  refine ⟨fun i C' => ∃ L : List α, L.length = i ∧ (∀ a ∈ L, ok a) ∧ Sub C1 C' ∧ C' Dl = some (.lst (L.map enc)), ⟨[], rfl, (fun a ha => by cases ha), Sub.new hD, cput_same⟩, fun i C' ⟨L, _, _, hs, _⟩ => hst C' hs, fun i d C' hd ⟨L, hl, hok, hs, hc⟩ => ?_, fun C' ⟨L, hl, hok, hs, hc⟩ => ?_⟩
  · have hi := (List.getElem?_eq_some_iff.mp hd).1
    have := h i d C' (fun y C3 => match C3 Dl with
        | some (.lst acc) => acc.length < 100000 ∧ ∃ L : List α, L.length = i + 1 ∧ (∀ a ∈ L, ok a) ∧ Sub C1 (cput C3 Dl (.lst (acc ++ [y]))) ∧ cput C3 Dl (.lst (acc ++ [y])) Dl = some (.lst (L.map enc))
        | _ => False) hd hs (fun a C3 ha hs3 => ?_)
    · revert this
      cases t.dg d (dwipe ρ vs) with
      | none => exact fun z => z
      | some ρ2 => exact fun z => z
    · rw [hs3 _ _ hc]
      refine ⟨by rw [List.length_map]; omega, L ++ [a], by rw [List.length_append, List.length_singleton, hl], fun b hb => ?_, fun b c hb => ?_, ?_⟩
      · rcases List.mem_append.mp hb with hb | hb
        · exact hok b hb
        · simp only [List.mem_cons, List.not_mem_nil, or_false] at hb; subst hb; exact ha
      · have hne : b ≠ Dl := fun z => by rw [z, hD] at hb; cases hb
        rw [cput_ne hne]
        exact hs3 _ _ (hs _ _ hb)
      · rw [cput_same, List.map_append]
        rfl
  · rw [hc]
    exact ⟨C1, hs, hD, hP L hl hok⟩
theorem cut_mid (xs : List D) {a b : Nat} (h1 : a ≤ b) (h2 : b ≤ xs.length) : cutD xs (some (a : Int)) (some (b : Int)) = (xs.drop a).take (b - a) := by
  unfold cutD
  rw [HT.sIx_nat, HT.sIx_nat, Nat.min_eq_left h2, Nat.min_eq_left (Nat.le_trans h1 h2)]
end DD

set_option Elab.async false
set_option linter.all false
set_option maxRecDepth 100000
set_option maxHeartbeats 4000000
/-! Dicts: keys that are numbers and texts, or tuples of these. -/
namespace DD
open PySem L2 PyProof.Rows

/-! ### tables of data -/
section
variable {κ : Type} [DecidableEq κ]
def vaD (t : List (κ × D)) (k : κ) : Option D := (t.find? fun p => decide (p.1 = k)).map (·.2)
def puD (t : List (κ × D)) (k : κ) (d : D) : List (κ × D) := if (t.any fun p => decide (p.1 = k)) = true then t.map (fun p => if p.1 = k then (p.1, d) else p) else t ++ [(k, d)]
def drD (t : List (κ × D)) (k : κ) : List (κ × D) := t.filter fun p => decide (p.1 ≠ k)
theorem vaD_nil {k : κ} : vaD [] k = none := rfl
theorem vaD_hit {k : κ} {p : κ × D} {t : List (κ × D)} (e : p.1 = k) : vaD (p :: t) k = some p.2 := by unfold vaD; rw [List.find?_cons, decide_eq_true e]; rfl
theorem vaD_miss {k : κ} {p : κ × D} {t : List (κ × D)} (e : ¬ p.1 = k) : vaD (p :: t) k = vaD t k := by unfold vaD; rw [List.find?_cons, decide_eq_false e]
theorem any_vaD (k : κ) : ∀ t : List (κ × D), (t.any fun p => decide (p.1 = k)) = (vaD t k).isSome
  | [] => rfl
  | p :: t => by
    by_cases e : p.1 = k
    · rw [vaD_hit e, List.any_cons, decide_eq_true e]; rfl
    · rw [vaD_miss e, List.any_cons, decide_eq_false e, ← any_vaD k t]; rfl
theorem vaD_app (k : κ) (u : List (κ × D)) : ∀ t : List (κ × D), vaD (t ++ u) k = match vaD t k with | some d => some d | none => vaD u k
  | [] => rfl
  | p :: t => by
    by_cases e : p.1 = k
    · rw [List.cons_append, vaD_hit e, vaD_hit e]
    · rw [List.cons_append, vaD_miss e, vaD_miss e, vaD_app k u t]
theorem vaD_set (k j : κ) (d : D) : ∀ t : List (κ × D), vaD (t.map fun p => if p.1 = k then (p.1, d) else p) j = (vaD t j).map fun x => if j = k then d else x
  | [] => rfl
  | p :: t => by
    rw [List.map_cons]
    by_cases h : p.1 = k
    · rw [if_pos h]
      by_cases e : p.1 = j
      · rw [vaD_hit (p := (p.1, d)) e, vaD_hit e, Option.map_some, if_pos (by rw [← e, h])]
      · rw [vaD_miss (p := (p.1, d)) e, vaD_miss e, vaD_set k j d t]
    · rw [if_neg h]
      by_cases e : p.1 = j
      · rw [vaD_hit e, vaD_hit e, Option.map_some, if_neg (by rw [← e]; exact h)]
      · rw [vaD_miss e, vaD_miss e, vaD_set k j d t]
/-- what is read behind a store -/
theorem vaD_put (t : List (κ × D)) (k j : κ) (d : D) : vaD (puD t k d) j = if j = k then some d else vaD t j := by
  unfold puD
  rw [any_vaD]
  cases e : vaD t k with
  | some x =>
    rw [if_pos (show (some x).isSome = true from rfl), vaD_set]
    by_cases h : j = k
    · rw [if_pos h, h, e, Option.map_some, if_pos rfl]
    · rw [if_neg h]
      cases vaD t j with
      | none => rfl
      | some y => rw [Option.map_some, if_neg h]
  | none =>
    rw [if_neg (by decide), vaD_app]
    by_cases h : j = k
    · rw [if_pos h, h, e]
      exact vaD_hit rfl
    · rw [if_neg h]
      have : vaD [(k, d)] j = none := vaD_miss (p := (k, d)) (fun z => h z.symm)
      rw [this]
      cases vaD t j <;> rfl
theorem puD_new {t : List (κ × D)} {k : κ} (h : vaD t k = none) (d : D) : puD t k d = t ++ [(k, d)] := by
  unfold puD
  rw [any_vaD, h]
  rfl
theorem puD_len (t : List (κ × D)) (k : κ) (d : D) : (puD t k d).length ≤ t.length + 1 := by
  unfold puD
  split
  · rw [List.length_map]; omega
  · rw [List.length_append]; exact Nat.le_refl _
theorem vaD_drop (k j : κ) : ∀ t : List (κ × D), vaD (drD t k) j = if j = k then none else vaD t j
  | [] => by rw [show drD ([] : List (κ × D)) k = [] from rfl, vaD_nil]; split <;> rfl
  | p :: t => by
    have ih := vaD_drop k j t
    unfold drD at ih ⊢
    rw [List.filter_cons]
    by_cases h : p.1 = k
    · rw [if_neg (by simpa using h), ih]
      by_cases e : j = k
      · rw [if_pos e, if_pos e]
      · rw [if_neg e, if_neg e, vaD_miss (by rw [h]; exact fun z => e z.symm)]
    · rw [if_pos (by simpa using h)]
      by_cases e : p.1 = j
      · rw [vaD_hit e, vaD_hit e, if_neg (by rw [← e]; exact h)]
      · rw [vaD_miss e, vaD_miss e, ih]
end
/-- keys -/
def keyOf : D → Option L2.Key
  | .int i => some (.inl i)
  | .str z => some (.inr z)
  | _ => none
def keysAll : List D → Option (List L2.Key)
  | [] => some []
  | d :: r => match keyOf d, keysAll r with
    | some k, some ks => some (k :: ks)
    | _, _ => none
def keysOf : D → Option (List L2.Key)
  | .tup ds => keysAll ds
  | _ => none
def keyD : L2.Key → D
  | .inl i => .int i
  | .inr z => .str z
/-- a dict's entries: keys that are numbers and texts; tuples of these -/
def kvsK (x : D) (C : Cells) : Option (List (L2.Key × D)) := match x with
  | .dK t => some t
  | .ptr a => match C a with
    | some (.dK t) => some t
    | some (.lK t _ _) => some t
    | _ => none
  | _ => none
def kvsT (x : D) (C : Cells) : Option (List (List L2.Key × D)) := match x with
  | .dT t => some t
  | .ptr a => match C a with
    | some (.dT t) => some t
    | some (.lT t _ _) => some t
    | _ => none
  | _ => none
def dicGet (x : D) (C : Cells) (y : D) : Option (Option D) := match kvsK x C with
  | some t => (keyOf y).map (vaD t)
  | none => match kvsT x C with
    | some t => (keysOf y).map (vaD t)
    | none => none
def isDic (x : D) (C : Cells) : Prop := (kvsK x C).isSome = true ∨ (kvsT x C).isSome = true
section
variable {K : PySem.W.Frag} {F H : Hp} {C : Cells}
theorem RepK.pair {vs : List (L2.Key × V)} {t : List (L2.Key × D)} (r : RepK K F vs t) : Paired (fun p q => p.1 = q.1 ∧ Rep K F p.2 q.2) vs t := by
  match r with
  | .nil => exact .nil
  | .cons h r => exact .cons ⟨rfl, h⟩ (RepK.pair r)
theorem RepT.pair {vs : List (List L2.Key × V)} {t : List (List L2.Key × D)} (r : RepT K F vs t) : Paired (fun p q => p.1 = q.1 ∧ Rep K F p.2 q.2) vs t := by
  match r with
  | .nil => exact .nil
  | .cons h r => exact .cons ⟨rfl, h⟩ (RepT.pair r)
theorem RepK.of {vs : List (L2.Key × V)} {t : List (L2.Key × D)} (r : Paired (fun p q => p.1 = q.1 ∧ Rep K F p.2 q.2) vs t) : RepK K F vs t := by
  induction r with
  | nil => exact .nil
  | @cons p q _ _ h _ ih =>
    obtain ⟨k, v⟩ := p
    obtain ⟨k', d⟩ := q
    obtain ⟨rfl, h⟩ := h
    exact .cons h ih
theorem RepT.of {vs : List (List L2.Key × V)} {t : List (List L2.Key × D)} (r : Paired (fun p q => p.1 = q.1 ∧ Rep K F p.2 q.2) vs t) : RepT K F vs t := by
  induction r with
  | nil => exact .nil
  | @cons p q _ _ h _ ih =>
    obtain ⟨k, v⟩ := p
    obtain ⟨k', d⟩ := q
    obtain ⟨rfl, h⟩ := h
    exact .cons h ih
section
variable {κ : Type} [DecidableEq κ]
abbrev TP (K : PySem.W.Frag) (F : Hp) : List (κ × V) → List (κ × D) → Prop := Paired fun p q => p.1 = q.1 ∧ Rep K F p.2 q.2
theorem tp_val {vs : List (κ × V)} {t : List (κ × D)} (r : TP K F vs t) (k : κ) : (vaD t k = none ∧ valV vs k = none) ∨ ∃ v d, vaD t k = some d ∧ valV vs k = some v ∧ Rep K F v d := by
  induction r with
  | nil => exact .inl ⟨rfl, rfl⟩
  | @cons p q _ _ h _ ih =>
    by_cases e : q.1 = k
    · exact .inr ⟨p.2, q.2, vaD_hit e, valV_pos (h.1.trans e), h.2⟩
    · rw [vaD_miss e, valV_neg (fun z => e (h.1.symm.trans z))]
      exact ih
theorem tp_put {vs : List (κ × V)} {t : List (κ × D)} (r : TP K F vs t) (k : κ) {v : V} {d : D} (h : Rep K F v d) : TP K F (putK vs k v) (puD t k d) := by
  have e : (vs.any fun p => decide (p.1 = k)) = (t.any fun p => decide (p.1 = k)) := by
    rw [valV_any, any_vaD]
    rcases tp_val r k with ⟨e1, e2⟩ | ⟨_, _, e1, e2, _⟩ <;> rw [e1, e2] <;> rfl
  unfold putK puD
  rw [e]
  by_cases c : (t.any fun p => decide (p.1 = k)) = true
  · rw [if_pos c, if_pos c]
    clear e c
    induction r with
    | nil => exact .nil
    | @cons p q _ _ g _ ih =>
      rw [List.map_cons, List.map_cons]
      refine .cons ?_ ih
      by_cases z : q.1 = k
      · rw [if_pos z, if_pos (g.1.trans z)]; exact ⟨g.1, h⟩
      · rw [if_neg z, if_neg (fun y => z (g.1.symm.trans y))]; exact g
  · rw [if_neg c, if_neg c]
    exact Paired.snoc r ⟨rfl, h⟩
theorem tp_drop {vs : List (κ × V)} {t : List (κ × D)} (r : TP K F vs t) (k : κ) : TP K F (dropK vs k) (drD t k) := by
  unfold dropK drD
  induction r with
  | nil => exact .nil
  | @cons p q _ _ g _ ih =>
    rw [List.filter_cons, List.filter_cons]
    by_cases z : q.1 = k
    · rw [if_neg (by simpa using g.1.trans z), if_neg (by simpa using z)]; exact ih
    · rw [if_pos (by simpa using fun y => z (g.1.symm.trans y)), if_pos (by simpa using z)]; exact .cons g ih
theorem tp_keys {vs : List (κ × V)} {t : List (κ × D)} (r : TP K F vs t) : vs.map (·.1) = t.map (·.1) := by
  induction r with
  | nil => rfl
  | cons g _ ih => rw [List.map_cons, List.map_cons, ih, g.1]
theorem tp_len {vs : List (κ × V)} {t : List (κ × D)} (r : TP K F vs t) : vs.length = t.length := Paired.length r
end
theorem key_rep {v : V} {y : D} {k : L2.Key} (r : Rep K F v y) (h : keyOf y = some k) : v = kV k := by
  cases r <;> first | (cases h; rfl) | cases h
theorem keys_all : ∀ {vs : List V} {ds : List D} {ks : List L2.Key}, RepL K F vs ds → keysAll ds = some ks → vs = ks.map kV
  | _, _, ks, .nil, h => by cases h; rfl
  | _, _, ks, .cons (d := d) (ds := ds) h1 h2, h => by
    simp only [keysAll] at h
    split at h
    · rename_i k ks' e1 e2
      cases h
      rw [key_rep h1 e1, keys_all h2 e2, List.map_cons]
    · cases h
theorem keys_rep (hs : Hs K F C H) {v : V} {y : D} {ks : List L2.Key} (r : Rep K F v y) (h : keysOf y = some ks) : ∃ b, v = .ref b ∧ H b = some (.tup (ks.map kV)) := by
  cases r <;> first | cases h | skip
  rename_i a xs ds hq hr
  exact ⟨a, rfl, by rw [← keys_all hr h]; exact hs.ex.nd hq rfl⟩
theorem kvsK_rd (hs : Hs K F C H) {v : V} {x : D} {t : List (L2.Key × D)} (r : Rep K F v x) (h : kvsK x C = some t) : ∃ a vs, v = .ref a ∧ Rd H a (.dK vs) ∧ RepK K F vs t := by
  cases r <;> first | cases h | skip
  · rename_i a
    simp only [kvsK] at h
    split at h
    · rename_i t' hc
      cases h
      obtain ⟨_, vs, h1, h2⟩ := hs.cell a _ hc
      exact ⟨a, vs, rfl, .inl h1, h2⟩
    · rename_i t' hc
      cases h
      obtain ⟨_, h1, h2⟩ := hs.cell a _ hc
      exact ⟨a, _, rfl, .inr ⟨_, h1⟩, h2⟩
    · cases h
  · rename_i a od vs hd hr
    exact ⟨a, vs, rfl, .inr ⟨od, hs.ex.nd hd rfl⟩, hr⟩
theorem kvsT_rd (hs : Hs K F C H) {v : V} {x : D} {t : List (List L2.Key × D)} (r : Rep K F v x) (h : kvsT x C = some t) : ∃ a vs, v = .ref a ∧ Rd H a (.dT vs) ∧ RepT K F vs t := by
  cases r <;> first | cases h | skip
  · rename_i a
    simp only [kvsT] at h
    split at h
    · rename_i t' hc
      cases h
      obtain ⟨_, vs, h1, h2⟩ := hs.cell a _ hc
      exact ⟨a, vs, rfl, .inl h1, h2⟩
    · rename_i t' hc
      cases h
      obtain ⟨_, h1, h2⟩ := hs.cell a _ hc
      exact ⟨a, _, rfl, .inr ⟨_, h1⟩, h2⟩
    · cases h
  · rename_i a od vs hd hr
    exact ⟨a, vs, rfl, .inr ⟨od, hs.ex.nd hd rfl⟩, hr⟩
theorem isDic_rd (hs : Hs K F C H) {v : V} {x : D} (r : Rep K F v x) (h : isDic x C) : ∃ a, v = .ref a ∧ IsD H a := by
  rcases h with h | h
  · obtain ⟨t, e⟩ := Option.isSome_iff_exists.mp h
    obtain ⟨a, vs, h1, h2, _⟩ := kvsK_rd hs r e
    exact ⟨a, h1, .inl ⟨vs, h2⟩⟩
  · obtain ⟨t, e⟩ := Option.isSome_iff_exists.mp h
    obtain ⟨a, vs, h1, h2, _⟩ := kvsT_rd hs r e
    exact ⟨a, h1, .inr ⟨vs, h2⟩⟩
/-- what is found -/
theorem dicGet_rd (hs : Hs K F C H) {v u : V} {x y : D} {o : Option D} (rx : Rep K F v x) (ry : Rep K F u y) (h : dicGet x C y = some o) :
    ∃ a w, v = .ref a ∧ DGet H a u w ∧ ((o = none ∧ w = none) ∨ ∃ z d, o = some d ∧ w = some z ∧ Rep K F z d) := by
  unfold dicGet at h
  split at h
  · rename_i t ht
    obtain ⟨a, vs, h1, h2, h3⟩ := kvsK_rd hs rx ht
    rw [Option.map_eq_some_iff] at h
    obtain ⟨k, hk, ho⟩ := h
    refine ⟨a, _, h1, .inl ⟨vs, k, h2, key_rep ry hk, rfl⟩, ?_⟩
    rcases tp_val h3.pair k with ⟨e1, e2⟩ | ⟨z, d, e1, e2, e3⟩
    · exact .inl ⟨ho.symm.trans e1, e2⟩
    · exact .inr ⟨z, d, ho.symm.trans e1, e2, e3⟩
  · split at h
    · rename_i t ht
      obtain ⟨a, vs, h1, h2, h3⟩ := kvsT_rd hs rx ht
      rw [Option.map_eq_some_iff] at h
      obtain ⟨k, hk, ho⟩ := h
      obtain ⟨b, hb, hb2⟩ := keys_rep hs ry hk
      refine ⟨a, _, h1, .inr ⟨vs, k, b, h2, hb, hb2, rfl⟩, ?_⟩
      rcases tp_val h3.pair k with ⟨e1, e2⟩ | ⟨z, d, e1, e2, e3⟩
      · exact .inl ⟨ho.symm.trans e1, e2⟩
      · exact .inr ⟨z, d, ho.symm.trans e1, e2, e3⟩
    · cases h
end

/-! ### x[y], y in x, x.get(y), x.get(y, z) -/
def dDGet (x : D) (y : D) (C : Cells) (P : DK) : Prop := match dicGet x C y with
  | some (some d) => P d C
  | _ => False
def dDIn (neg : Bool) (y : D) (x : D) (C : Cells) (P : DK) : Prop := match dicGet x C y with
  | some o => P (.bl (neg ^^ o.isSome)) C
  | none => False
def wGet1 (o k : DE) (ρ : DEnv) (C : Cells) (P : DK) (PX : DX) : Prop := o ρ C (fun x C1 => isDic x C1 ∧ k ρ C1 (fun y C2 => match dicGet x C2 y with
  | some u => P (u.getD .non) C2
  | none => False) PX) PX
def wGet2 (o k e : DE) (ρ : DEnv) (C : Cells) (P : DK) (PX : DX) : Prop := o ρ C (fun x C1 => isDic x C1 ∧ k ρ C1 (fun y C2 => e ρ C2 (fun z C3 => match dicGet x C3 y with
  | some u => P (u.getD z) C3
  | none => False) PX) PX) PX
section
variable {X : Cx} {W : WX} {K : PySem.W.Frag} {o i e : Expr} {wo wi we : DE} {pos apos tpos : Pos} {n : Nat}
theorem d_dget (hr : Room n X.A) (ho : PE X o (tE X.K W wo)) (hi : PE X i (tE X.K W wi)) (hs : NoSl i := by exact fun _ _ => rfl) : PE X (.Subscript o i pos) (tE X.K W (wOp dDGet wo wi)) :=
  PE.imp (pe_dget (hu_of hr) ho hi hs) fun σ H Q ⟨F, C, ρ, P, PX, hs, en, xr, w, k⟩ =>
  ⟨F, C, ρ, _, PX, hs, en, xr, w, fun v F1 H1 x C1 e1 h1 rx q => ⟨F1, C1, ρ, _, PX, h1, en.mono e1, xr.mono e1, q, fun u F2 H2 y C2 e2 h2 ry q2 => by
    unfold dDGet at q2
    split at q2
    · rename_i d hd
      obtain ⟨a, w', rfl, g, ⟨e3, _⟩ | ⟨z, d', e3, rfl, rz⟩⟩ := dicGet_rd h2 (rx.mono e2) ry hd
      · cases e3
      · cases e3
        exact ⟨a, z, rfl, g, k z F2 H2 d C2 (e1.trans e2) h2 rz q2⟩
    · exact q2.elim⟩⟩
theorem i_din {neg : Bool} {σ : L2.St} {H : Hp} {Q : VK} (h : tE K W (wOp (dDIn neg) wi wo) σ H Q) : tE K W wi σ H fun y H1 => tE K W wo σ H1 fun x H2 => ∃ a w, x = .ref a ∧ DGet H2 a y w ∧ Q (.bl (neg ^^ w.isSome)) H2 := by
  obtain ⟨F, C, ρ, P, PX, hs, en, xr, w, k⟩ := h
  refine ⟨F, C, ρ, _, PX, hs, en, xr, w, fun v F1 H1 y C1 e1 h1 ry q => ⟨F1, C1, ρ, _, PX, h1, en.mono e1, xr.mono e1, q, fun u F2 H2 x C2 e2 h2 rx q2 => ?_⟩⟩
  unfold dDIn at q2
  split at q2
  · rename_i o hd
    obtain ⟨a, w', rfl, g, hw⟩ := dicGet_rd h2 rx (ry.mono e2) hd
    refine ⟨a, w', rfl, g, k _ F2 H2 _ C2 (e1.trans e2) h2 (.bl _) ?_⟩
    rcases hw with ⟨e3, e4⟩ | ⟨z, d', e3, e4, rz⟩ <;> (subst e3 e4; exact q2)
  · exact q2.elim
theorem c_din (hr : Room n X.A) (hi : PE X i (tE X.K W wi)) (ho : PE X o (tE X.K W wo)) : PC X .In i o (tE X.K W (wOp (dDIn false) wi wo)) := ⟨fun pins s σ H Q I h =>
  (pc_din (hu_of hr) hi ho).run pins s σ H Q I (by
    have z := i_din h
    simp only [Bool.false_xor] at z
    exact z)⟩
theorem c_dnotin (hr : Room n X.A) (hi : PE X i (tE X.K W wi)) (ho : PE X o (tE X.K W wo)) : PC X .NotIn i o (tE X.K W (wOp (dDIn true) wi wo)) := ⟨fun pins s σ H Q I h =>
  (pc_dnotin (hu_of hr) hi ho).run pins s σ H Q I (by
    have z := i_din h
    simp only [Bool.true_xor] at z
    exact z)⟩
theorem d_din (hr : Room n X.A) (hi : PE X i (tE X.K W wi)) (ho : PE X o (tE X.K W wo)) (hb : behindInMarks .In o = false := by rfl) : PE X (.Compare i [.In] [o] pos) (tE X.K W (wOp (dDIn false) wi wo)) := pe_cmp (c_din hr hi ho) hb
theorem d_dnotin (hr : Room n X.A) (hi : PE X i (tE X.K W wi)) (ho : PE X o (tE X.K W wo)) (hb : behindInMarks .NotIn o = false := by rfl) : PE X (.Compare i [.NotIn] [o] pos) (tE X.K W (wOp (dDIn true) wi wo)) := pe_cmp (c_dnotin hr hi ho) hb
theorem d_tdin (hr : Room n X.A) (hi : PE X i (tE X.K W wi)) (ho : PE X o (tE X.K W wo)) (hb : behindInMarks .In o = false := by rfl) : PT X (.Compare i [.In] [o] pos) (tT X.K W (wTest (wOp (dDIn false) wi wo))) :=
  PT.imp (pt_cmp (c_din hr hi ho) hb) fun σ H Q h => i_test h
theorem d_tdnotin (hr : Room n X.A) (hi : PE X i (tE X.K W wi)) (ho : PE X o (tE X.K W wo)) (hb : behindInMarks .NotIn o = false := by rfl) : PT X (.Compare i [.NotIn] [o] pos) (tT X.K W (wTest (wOp (dDIn true) wi wo))) :=
  PT.imp (pt_cmp (c_dnotin hr hi ho) hb) fun σ H Q h => i_test h
theorem dd_get1 (hr : Room n X.A) (ho : PE X o (tE X.K W wo)) (hi : PE X i (tE X.K W wi)) (m : M1 X o "get" apos i pos := by exact ⟨rfl, rfl, rfl, rfl⟩) : PE X (.Call (.Attribute o "get" apos) [i] [] pos) (tE X.K W (wGet1 wo wi)) :=
  PE.imp (pe_dget1 (hu_of hr) ho hi m) fun σ H Q ⟨F, C, ρ, P, PX, hs, en, xr, w, k⟩ =>
  ⟨F, C, ρ, _, PX, hs, en, xr, w, fun v F1 H1 x C1 e1 h1 rx q => by
    obtain ⟨qd, q⟩ := q
    obtain ⟨a, rfl, ha⟩ := isDic_rd h1 rx qd
    refine ⟨a, rfl, ha, F1, C1, ρ, _, PX, h1, en.mono e1, xr.mono e1, q, fun u F2 H2 y C2 e2 h2 ry q2 => ?_⟩
    split at q2
    · rename_i o hd
      obtain ⟨a', w', ea, g, hw⟩ := dicGet_rd h2 (rx.mono e2) ry hd
      cases ea
      refine ⟨w', g, ?_⟩
      rcases hw with ⟨rfl, rfl⟩ | ⟨z, d', rfl, rfl, rz⟩
      · exact k _ F2 H2 _ C2 (e1.trans e2) h2 .non q2
      · exact k _ F2 H2 _ C2 (e1.trans e2) h2 rz q2
    · exact q2.elim⟩
theorem dd_get2 (hr : Room n X.A) (ho : PE X o (tE X.K W wo)) (hi : PE X i (tE X.K W wi)) (he : PE X e (tE X.K W we)) (m : M2 X o "get" apos i e pos := by exact ⟨rfl, rfl, rfl, rfl⟩) : PE X (.Call (.Attribute o "get" apos) [i, e] [] pos) (tE X.K W (wGet2 wo wi we)) :=
  PE.imp (pe_dget2 (hu_of hr) ho hi he m) fun σ H Q ⟨F, C, ρ, P, PX, hs, en, xr, w, k⟩ =>
  ⟨F, C, ρ, _, PX, hs, en, xr, w, fun v F1 H1 x C1 e1 h1 rx q => by
    obtain ⟨qd, q⟩ := q
    obtain ⟨a, rfl, ha⟩ := isDic_rd h1 rx qd
    refine ⟨a, rfl, ha, F1, C1, ρ, _, PX, h1, en.mono e1, xr.mono e1, q, fun u F2 H2 y C2 e2 h2 ry q2 => ⟨F2, C2, ρ, _, PX, h2, en.mono (e1.trans e2), xr.mono (e1.trans e2), q2, fun z F3 H3 dz C3 e3 h3 rz q3 => ?_⟩⟩
    split at q3
    · rename_i o hd
      obtain ⟨a', w', ea, g, hw⟩ := dicGet_rd h3 (rx.mono (e2.trans e3)) (ry.mono e3) hd
      cases ea
      refine ⟨w', g, ?_⟩
      have ee := (e1.trans e2).trans e3
      rcases hw with ⟨rfl, rfl⟩ | ⟨z, d', rfl, rfl, rz'⟩
      · exact k _ F3 H3 _ C3 ee h3 rz q3
      · exact k _ F3 H3 _ C3 ee h3 rz' q3
    · exact q3.elim⟩
end

/-! ### stores -/
def dicPut (x y d : D) (C : Cells) (P : Cells → Prop) : Prop := match x with
  | .ptr a => match C a with
    | some (.dK t) => match keyOf y with
      | some k => t.length < 100000 ∧ P (cput C a (.dK (puD t k d)))
      | none => False
    | some (.dT t) => match keysOf y with
      | some k => t.length < 100000 ∧ P (cput C a (.dT (puD t k d)))
      | none => False
    | _ => False
  | _ => False
def wSetD (o i e : DE) (E : DEnds) (ρ : DEnv) (C : Cells) : Prop := e ρ C (fun d C1 => o ρ C1 (fun x C2 => i ρ C2 (fun y C3 => dicPut x y d C3 fun C4 => E.nx ρ C4) E.ex) E.ex) E.ex
def wDelD (o i : DE) (E : DEnds) (ρ : DEnv) (C : Cells) : Prop := o ρ C (fun x C1 => i ρ C1 (fun y C2 => match x with
  | .ptr a => match C2 a with
    | some (.dK t) => match keyOf y with
      | some k => (vaD t k).isSome = true ∧ E.nx ρ (cput C2 a (.dK (drD t k)))
      | none => False
    | _ => False
  | _ => False) E.ex) E.ex
/-- {}: its keys numbers and texts; tuples -/
def wNewK (_ : DEnv) (C : Cells) (P : DK) (_ : DX) : Prop := ∀ p, C p = none → P (.ptr p) (cput C p (.dK []))
def wNewT (_ : DEnv) (C : Cells) (P : DK) (_ : DX) : Prop := ∀ p, C p = none → P (.ptr p) (cput C p (.dT []))
/-- {} that is not written at -/
def wNew0 (_ : DEnv) (C : Cells) (P : DK) (_ : DX) : Prop := P (.dK []) C
section
variable {X : Cx} {W : WX} {K : PySem.W.Frag} {o i e : Expr} {wo wi we : DE} {pos pos' tpos : Pos} {n : Nat}
theorem dicPut_ok {F H : Hp} {C : Cells} {v u z : V} {x y d : D} {P : Cells → Prop} (hs : Hs K F C H) (rx : Rep K F v x) (ry : Rep K F u y) (rz : Rep K F z d) (h : dicPut x y d C P) : ∃ a H' C', v = .ref a ∧ DPut H a u z H' ∧ Hs K F C' H' ∧ P C' := by
  unfold dicPut at h
  split at h
  · rename_i a
    cases rx
    split at h
    · rename_i t hc
      split at h
      · rename_i k hk
        obtain ⟨f0, vs, h1, h2⟩ := hs.cell a _ hc
        refine ⟨a, _, _, rfl, .inl ⟨vs, k, h1, key_rep ry hk, ?_, rfl⟩, hs.put (c := .dK (puD t k d)) f0 ⟨_, upd_same, RepK.of (tp_put h2.pair k rz)⟩, h.2⟩
        rw [tp_len h2.pair]
        exact sz_lt h.1
      · exact h.elim
    · rename_i t hc
      split at h
      · rename_i k hk
        obtain ⟨f0, vs, h1, h2⟩ := hs.cell a _ hc
        obtain ⟨b, hb, hb2⟩ := keys_rep hs ry hk
        refine ⟨a, _, _, rfl, .inr ⟨vs, k, b, h1, hb, hb2, ?_, rfl⟩, hs.put (c := .dT (puD t k d)) f0 ⟨_, upd_same, RepT.of (tp_put h2.pair k rz)⟩, h.2⟩
        rw [tp_len h2.pair]
        exact sz_lt h.1
      · exact h.elim
    · exact h.elim
  · exact h.elim
theorem ds_setD (hr : Room n X.A) (ho : PE X o (tE X.K W wo)) (hi : PE X i (tE X.K W wi)) (he : PE X e (tE X.K W we)) (hs : swapsWith e (some (.Subscript o i pos')) pos.line X.env = pure false := by rfl) :
    PS X (.Assign [.Subscript o i pos'] e pos) (tS X.K W (wSetD wo wi we)) := PS.imp (ps_dput (hu_of hr) ho hi he hs) fun Dn σ H ⟨F, C, ρ, DE, hs, en, xr, w, er⟩ =>
  ⟨F, C, ρ, _, _, hs, en, xr, w, fun z F1 H1 d C1 e1 h1 rz q => ⟨F1, C1, ρ, _, _, h1, en.mono e1, xr.mono e1, q, fun v F2 H2 x C2 e2 h2 rx q2 => ⟨F2, C2, ρ, _, _, h2, en.mono (e1.trans e2), xr.mono (e1.trans e2), q2, fun u F3 H3 y C3 e3 h3 ry q3 => by
    obtain ⟨a, H4, C4, rfl, g, h4, q4⟩ := dicPut_ok h3 (rx.mono e3) ry (rz.mono (e2.trans e3)) q3
    have ee := (e1.trans e2).trans e3
    exact ⟨a, H4, rfl, g, er.nx σ F3 H4 ρ C4 ee h4 (en.mono ee) q4⟩⟩⟩⟩
theorem ds_delD (ho : PE X o (tE X.K W wo)) (hi : PE X i (tE X.K W wi)) : PS X (.Delete [.Subscript o i tpos] pos) (tS X.K W (wDelD wo wi)) := PS.imp (ps_ddel ho hi) fun Dn σ H ⟨F, C, ρ, DE, hs, en, xr, w, er⟩ =>
  ⟨F, C, ρ, _, _, hs, en, xr, w, fun v F1 H1 x C1 e1 h1 rx q => ⟨F1, C1, ρ, _, _, h1, en.mono e1, xr.mono e1, q, fun u F2 H2 y C2 e2 h2 ry q2 => by
    split at q2
    · rename_i a
      cases rx
      split at q2
      · rename_i t hc
        split at q2
        · rename_i k hk
          obtain ⟨f0, vs, g1, g2⟩ := h2.cell a _ hc
          refine ⟨a, vs, k, rfl, g1, key_rep ry hk, ?_, er.nx σ F2 _ ρ _ (e1.trans e2) (h2.put (c := .dK (drD t k)) f0 ⟨_, upd_same, RepK.of (tp_drop g2.pair k)⟩) (en.mono (e1.trans e2)) q2.2⟩
          rcases tp_val g2.pair k with ⟨z1, z2⟩ | ⟨_, _, z1, z2, _⟩
          · have := q2.1
            rw [z1] at this
            cases this
          · rw [z2]; rfl
        · exact q2.elim
      · exact q2.elim
    · exact q2.elim⟩⟩
theorem d_newK : PE X (.Dict [] [] pos) (tE X.K W wNewK) := PE.imp pe_dnewK fun σ H Q ⟨F, C, ρ, P, PX, hs, en, xr, w, k⟩ => fun p hp =>
  k _ F _ _ _ (Ex.refl F) (hs.put (c := .dK []) (hs.fresh hp).1 ⟨[], upd_same, .nil⟩) (.ptr p) (w p (hs.fresh hp).2)
theorem d_newT : PE X (.Dict [] [] pos) (tE X.K W wNewT) := PE.imp pe_dnewT fun σ H Q ⟨F, C, ρ, P, PX, hs, en, xr, w, k⟩ => fun p hp =>
  k _ F _ _ _ (Ex.refl F) (hs.put (c := .dT []) (hs.fresh hp).1 ⟨[], upd_same, .nil⟩) (.ptr p) (w p (hs.fresh hp).2)
theorem d_new0 : PE X (.Dict [] [] pos) (tE X.K W wNew0) := PE.imp (pe_fz pe_dnewK) fun σ H Q ⟨F, C, ρ, P, PX, hs, en, xr, w, k⟩ => fun p hp => .inr ⟨p, _, upd_same, trivial, fun od => by
  obtain ⟨e, h2⟩ := hs.lay (o := .frz od (.dK [])) hp
  rw [upd_upd]
  exact k _ _ _ _ C e h2 (.dK upd_same .nil) w⟩
end
end DD

set_option Elab.async false
set_option linter.all false
set_option maxRecDepth 100000
set_option maxHeartbeats 4000000
/-! Dicts: walks, locks, len, dict(..), sorted(..). -/
namespace DD
open PySem L2 PyProof.Rows

def keyTD (ks : List L2.Key) : D := .tup (ks.map keyD)
section
variable {K : PySem.W.Frag} {F H : Hp} {C : Cells}
theorem rep_key (k : L2.Key) : Rep K F (kV k) (keyD k) := by
  cases k with
  | inl i => exact .int i
  | inr z => exact .str z
theorem rep_keys : ∀ ks : List L2.Key, RepL K F (ks.map kV) (ks.map keyD)
  | [] => .nil
  | k :: r => .cons (rep_key k) (rep_keys r)
/-- a tuple that stands is data -/
theorem Hs.adopt (h : Hs K F C H) {q : Addr} {xs : List V} (hq : H q = some (.tup xs)) : ∃ F2, Ex F F2 ∧ Hs K F2 C H ∧ F2 q = some (.tup xs) := by
  cases e : F q with
  | some u =>
    have : u = .tup xs := by
      rcases h.ex q u e with z | ⟨_, od, z⟩
      · rw [hq] at z; exact (Option.some.inj z).symm
      · rw [hq] at z; cases z
    exact ⟨F, Ex.refl F, h, by rw [e, this]⟩
  | none =>
    have c0 : C q = none := by
      cases c : C q with
      | none => rfl
      | some c1 =>
        obtain ⟨_, r⟩ := h.cell q _ c
        cases c1 <;> first
          | (obtain ⟨_, z, _⟩ := r; rw [hq] at z; cases z)
          | (obtain ⟨_, _, z, _⟩ := r; rw [hq] at z; cases z)
          | (obtain ⟨z, _⟩ := r; rw [hq] at z; cases z)
    refine ⟨upd F q (.tup xs), Ex.new e, ⟨fun a u z => ?_, fun a c z => ?_⟩, upd_same⟩
    · by_cases ne : a = q
      · subst ne; rw [upd_same] at z; cases z; exact .inl hq
      · rw [upd_ne ne] at z; exact h.ex a u z
    · have ne : a ≠ q := cell_ne z c0
      obtain ⟨f1, r⟩ := h.cell a c z
      exact ⟨by rw [upd_ne ne]; exact f1, r.ex (Ex.new e)⟩
theorem Hs.adopts (h : Hs K F C H) : ∀ {vs : List (List L2.Key × V)} {bs : List Addr}, IsKeys H vs bs → ∃ F2, Ex F F2 ∧ Hs K F2 C H ∧ RepL K F2 (bs.map V.ref) (vs.map fun p => keyTD p.1) := by
  intro vs bs r
  unfold IsKeys at r
  induction r with
  | nil => exact ⟨F, Ex.refl F, h, .nil⟩
  | @cons p b _ _ g _ ih =>
    obtain ⟨F2, e2, h2, r2⟩ := ih
    obtain ⟨F3, e3, h3, f3⟩ := h2.adopt g
    exact ⟨F3, e2.trans e3, h3, .cons (.tup f3 (rep_keys p.1)) (r2.mono e3)⟩
end

/-! ### what is walked -/
def wItK (e : DE) (ρ : DEnv) (C : Cells) (P : DIt → Cells → Prop) (PX : DX) : Prop := e ρ C (fun d C1 => match d with
  | .dK t => P ⟨t.map fun p => keyD p.1, frozen⟩ C1
  | .dT t => P ⟨t.map fun p => keyTD p.1, frozen⟩ C1
  | .ptr a => match C1 a with
    | some (.lK t od vs) => P ⟨t.map fun p => keyD p.1, fun C' => C' a = some (.lK t od vs)⟩ C1
    | some (.lT t od vs) => P ⟨t.map fun p => keyTD p.1, fun C' => C' a = some (.lT t od vs)⟩ C1
    | _ => False
  | _ => False) PX
section
variable {K : PySem.W.Frag} {F : Hp} {a : Addr} {od : Obj}
theorem itk_at {vs : List (L2.Key × V)} {t : List (L2.Key × D)} {st : Cells → Prop} (r : RepK K F vs t) (hl : ∀ F' H C, Ex F F' → Hs K F' C H → st C → H a = some (.frz od (.dK vs))) : ItR K F (Itk a od vs) ⟨t.map fun p => keyD p.1, st⟩ := fun F' H C e hs hc => by
  have hH := hl F' H C e hs hc
  have ln := tp_len r.pair
  refine ⟨fun i d hd => ?_, hH, by show vs.length ≤ (t.map _).length; rw [List.length_map, ln]; exact Nat.le_refl _⟩
  have hi : i < t.length := by
    have := (List.getElem?_eq_some_iff.mp hd).1
    simpa using this
  refine ⟨⟨hH, by rw [ln]; exact hi⟩, fun x H' y => ?_⟩
  obtain ⟨rfl, k, v, hk, rfl⟩ := y
  refine ⟨F', Ex.refl _, hs, ?_⟩
  have ek : (vs.map (·.1))[i]? = some k := by rw [List.getElem?_map, hk]; rfl
  rw [tp_keys r.pair, List.getElem?_map] at ek
  have hd' : (t.map fun p => keyD p.1)[i]? = some d := hd
  rw [List.getElem?_map] at hd'
  cases ht : t[i]? with
  | none => rw [ht] at hd'; cases hd'
  | some p =>
    rw [ht] at ek hd'
    cases ek; cases hd'
    exact rep_key p.1
theorem itkt_at {vs : List (List L2.Key × V)} {t : List (List L2.Key × D)} {st : Cells → Prop} (r : RepT K F vs t) (hl : ∀ F' H C, Ex F F' → Hs K F' C H → st C → H a = some (.frz od (.dT vs))) : ItR K F (Itkt a od vs) ⟨t.map fun p => keyTD p.1, st⟩ := fun F' H C e hs hc => by
  have hH := hl F' H C e hs hc
  have ln := tp_len r.pair
  refine ⟨fun i d hd => ?_, hH, by show vs.length ≤ (t.map _).length; rw [List.length_map, ln]; exact Nat.le_refl _⟩
  have hi : i < t.length := by
    have := (List.getElem?_eq_some_iff.mp hd).1
    simpa using this
  refine ⟨⟨hH, by rw [ln]; exact hi⟩, fun x H' y => ?_⟩
  obtain ⟨rfl, k, v, q, hk, rfl, hq⟩ := y
  obtain ⟨F2, e2, h2, f2⟩ := hs.adopt hq
  refine ⟨F2, e2, h2, ?_⟩
  have ek : (vs.map (·.1))[i]? = some k := by rw [List.getElem?_map, hk]; rfl
  rw [tp_keys r.pair, List.getElem?_map] at ek
  have hd' : (t.map fun p => keyTD p.1)[i]? = some d := hd
  rw [List.getElem?_map] at hd'
  cases ht : t[i]? with
  | none => rw [ht] at hd'; cases hd'
  | some p =>
    rw [ht] at ek hd'
    cases ek; cases hd'
    exact .tup f2 (rep_keys p.1)
end
section
variable {X : Cx} {W : WX} {e tg : Expr} {we : DE}
theorem di_keys (he : PE X e (tE X.K W we)) : PI X tg e (tI X.K W (wItK we)) := PI.imp (pi_keys he) fun σ H R ⟨F, C, ρ, P, PX, hs, en, xr, w, k⟩ =>
  ⟨F, C, ρ, _, PX, hs, en, xr, w, fun v F1 H1 d C1 e1 h1 r q => by
    cases r <;> first | exact q.elim | skip
    · rename_i a
      revert q
      dsimp only
      split
      · rename_i t od vs hc
        intro q
        obtain ⟨_, g1, g2⟩ := h1.cell a _ hc
        exact ⟨a, od, rfl, .inl ⟨vs, g1, k _ F1 H1 _ C1 e1 h1 (itk_at g2 fun F' H' C' _ h' hc' => (h'.cell a (.lK t od vs) hc').2.1) q⟩⟩
      · rename_i t od vs hc
        intro q
        obtain ⟨_, g1, g2⟩ := h1.cell a _ hc
        exact ⟨a, od, rfl, .inr ⟨vs, g1, k _ F1 H1 _ C1 e1 h1 (itkt_at g2 fun F' H' C' _ h' hc' => (h'.cell a (.lT t od vs) hc').2.1) q⟩⟩
      · exact fun z => z.elim
    · rename_i a od vs t hf hr
      exact ⟨a, od, rfl, .inl ⟨vs, h1.ex.nd hf rfl, k _ F1 H1 _ C1 e1 h1 (itk_at hr fun F' H' C' e' h' _ => h'.ex.nd (e'.nd hf rfl) rfl) q⟩⟩
    · rename_i a od vs t hf hr
      exact ⟨a, od, rfl, .inr ⟨vs, h1.ex.nd hf rfl, k _ F1 H1 _ C1 e1 h1 (itkt_at hr fun F' H' C' e' h' _ => h'.ex.nd (e'.nd hf rfl) rfl) q⟩⟩⟩
end

/-! ### a dict locked while a statement, an expression runs -/
abbrev Pth := DEnv → Cells → Option D
def pVar (i : Nat) : Pth := fun ρ _ => match (ρ[i]? : Option (Option D)) with
  | some (some d) => some d
  | _ => none
def pFld (Cl : Addr) (f : String) (g : Pth) : Pth := fun ρ C => match g ρ C with
  | some x => fldOf Cl f x C
  | none => none
def unl (E : DEnds) (a : Addr) (c c' : Cell) : DEnds := { nx := fun ρ' C' => C' a = some c ∧ E.nx ρ' (cput C' a c'), rt := fun d C' => C' a = some c ∧ E.rt d (cput C' a c'), bk := fun ρ' C' => C' a = some c ∧ E.bk ρ' (cput C' a c'), ct := fun ρ' C' => C' a = some c ∧ E.ct ρ' (cput C' a c'), ex := E.ex }
def wLockS (g : Pth) (w : DS) (E : DEnds) (ρ : DEnv) (C : Cells) : Prop := match g ρ C with
  | some (.ptr a) => match C a with
    | some (.dK t) => ∀ od vs, w (unl E a (.lK t od vs) (.dK t)) ρ (cput C a (.lK t od vs))
    | some (.dT t) => ∀ od vs, w (unl E a (.lT t od vs) (.dT t)) ρ (cput C a (.lT t od vs))
    | some (.dN q t) => ∀ od vs, w (unl E a (.lN q t od vs) (.dN q t)) ρ (cput C a (.lN q t od vs))
    | some (.dO q t) => ∀ od vs, w (unl E a (.lO q t od vs) (.dO q t)) ρ (cput C a (.lO q t od vs))
    | _ => w E ρ C
  | _ => w E ρ C
def wLockE (g : Pth) (w : DE) (ρ : DEnv) (C : Cells) (P : DK) (PX : DX) : Prop := match g ρ C with
  | some (.ptr a) => match C a with
    | some (.dK t) => ∀ od vs, w ρ (cput C a (.lK t od vs)) (fun d C' => C' a = some (.lK t od vs) ∧ P d (cput C' a (.dK t))) PX
    | some (.dT t) => ∀ od vs, w ρ (cput C a (.lT t od vs)) (fun d C' => C' a = some (.lT t od vs) ∧ P d (cput C' a (.dT t))) PX
    | some (.dN q t) => ∀ od vs, w ρ (cput C a (.lN q t od vs)) (fun d C' => C' a = some (.lN q t od vs) ∧ P d (cput C' a (.dN q t))) PX
    | some (.dO q t) => ∀ od vs, w ρ (cput C a (.lO q t od vs)) (fun d C' => C' a = some (.lO q t od vs) ∧ P d (cput C' a (.dO q t))) PX
    | _ => w ρ C P PX
  | _ => w ρ C P PX
section
variable {X : Cx} {W : WX} {K : PySem.W.Frag} {st : Stmt} {e : Expr}
theorem ps_or {t1 t2 : TS} (h1 : PS X st t1) (h2 : PS X st t2) : PS X st (fun D σ H => t1 D σ H ∨ t2 D σ H) := ⟨fun pins s σ H D I w => w.elim (h1.run pins s σ H D I) (h2.run pins s σ H D I)⟩
theorem pe_or {t1 t2 : TE} (h1 : PE X e t1) (h2 : PE X e t2) : PE X e (fun σ H Q => t1 σ H Q ∨ t2 σ H Q) := ⟨fun pins s σ H Q I w => w.elim (h1.run pins s σ H Q I) (h2.run pins s σ H Q I)⟩
theorem unl_ends {F : Hp} {E : DEnds} {D : Ends} {a : Addr} {c c' : Cell} {od : Obj} {u : HO} (er : EndsR K F E D) (hc : ∀ F' H', Ex F F' → RepC K F' H' a c → H' a = some (.frz od u) ∧ RepC K F' (upd H' a u) a c') :
    EndsR K F (unl E a c c') ⟨fun σ' H' => H' a = some (.frz od u) ∧ D.nx σ' (upd H' a u), fun v H' => H' a = some (.frz od u) ∧ D.rt v (upd H' a u), fun σ' H' => H' a = some (.frz od u) ∧ D.bk σ' (upd H' a u), fun σ' H' => H' a = some (.frz od u) ∧ D.ct σ' (upd H' a u)⟩ :=
  ⟨fun σ' F' H' ρ' C' e' h' n' ⟨hq, q⟩ => by
    obtain ⟨f0, r⟩ := h'.cell a _ hq
    obtain ⟨z1, z2⟩ := hc F' H' e' r
    exact ⟨z1, er.nx σ' F' _ ρ' _ e' (h'.put f0 z2) n' q⟩,
  fun v F' H' d C' e' h' rv ⟨hq, q⟩ => by
    obtain ⟨f0, r⟩ := h'.cell a _ hq
    obtain ⟨z1, z2⟩ := hc F' H' e' r
    exact ⟨z1, er.rt v F' _ d _ e' (h'.put f0 z2) rv q⟩,
  fun σ' F' H' ρ' C' e' h' n' ⟨hq, q⟩ => by
    obtain ⟨f0, r⟩ := h'.cell a _ hq
    obtain ⟨z1, z2⟩ := hc F' H' e' r
    exact ⟨z1, er.bk σ' F' _ ρ' _ e' (h'.put f0 z2) n' q⟩,
  fun σ' F' H' ρ' C' e' h' n' ⟨hq, q⟩ => by
    obtain ⟨f0, r⟩ := h'.cell a _ hq
    obtain ⟨z1, z2⟩ := hc F' H' e' r
    exact ⟨z1, er.ct σ' F' _ ρ' _ e' (h'.put f0 z2) n' q⟩⟩
theorem ds_lock (g : Pth) {w : DS} (h : PS X st (tS X.K W w)) : PS X st (tS X.K W (wLockS g w)) := PS.imp (ps_or h (ps_lock h)) fun D σ H ⟨F, C, ρ, DE, hs, en, xr, q, er⟩ => by
  have go : w DE ρ C → tS X.K W w D σ H := fun q => ⟨F, C, ρ, DE, hs, en, xr, q, er⟩
  unfold wLockS at q
  split at q
  · rename_i a _
    split at q
    · rename_i t hc
      obtain ⟨f0, vs, h1, r⟩ := hs.cell a _ hc
      refine .inr ⟨a, .dK vs, h1, trivial, fun od => ⟨F, _, ρ, unl DE a (.lK t od vs) (.dK t), hs.put (c := .lK t od vs) f0 ⟨upd_same, r⟩, en, xr, q od vs, ?_⟩⟩
      exact unl_ends er fun F' H' e' z => ⟨z.1, vs, upd_same, z.2⟩
    · rename_i t hc
      obtain ⟨f0, vs, h1, r⟩ := hs.cell a _ hc
      refine .inr ⟨a, .dT vs, h1, trivial, fun od => ⟨F, _, ρ, unl DE a (.lT t od vs) (.dT t), hs.put (c := .lT t od vs) f0 ⟨upd_same, r⟩, en, xr, q od vs, ?_⟩⟩
      exact unl_ends er fun F' H' e' z => ⟨z.1, vs, upd_same, z.2⟩
    · rename_i qq t hc
      obtain ⟨f0, vs, h1, r⟩ := hs.cell a _ hc
      refine .inr ⟨a, ndO qq.w a vs, h1, trivial, fun od => ⟨F, _, ρ, unl DE a (.lN qq t od vs) (.dN qq t), hs.put (c := .lN qq t od vs) f0 ⟨upd_same, r⟩, en, xr, q od vs, ?_⟩⟩
      exact unl_ends er fun F' H' e' z => ⟨z.1, vs, upd_same, z.2⟩
    · rename_i qq t hc
      obtain ⟨f0, vs, h1, r⟩ := hs.cell a _ hc
      refine .inr ⟨a, ldO qq a vs, h1, trivial, fun od => ⟨F, _, ρ, unl DE a (.lO qq t od vs) (.dO qq t), hs.put (c := .lO qq t od vs) f0 ⟨upd_same, r⟩, en, xr, q od vs, ?_⟩⟩
      exact unl_ends er fun F' H' e' z => ⟨z.1, vs, upd_same, z.2⟩
    · exact .inl (go q)
  · exact .inl (go q)
theorem d_lock (g : Pth) {w : DE} (h : PE X e (tE X.K W w)) : PE X e (tE X.K W (wLockE g w)) := PE.imp (pe_or h (pe_lock h)) fun σ H Q ⟨F, C, ρ, P, PX, hs, en, xr, q, k⟩ => by
  have go : w ρ C P PX → tE X.K W w σ H Q := fun q => ⟨F, C, ρ, P, PX, hs, en, xr, q, k⟩
  unfold wLockE at q
  split at q
  · rename_i a _
    split at q
    · rename_i t hc
      obtain ⟨f0, vs, h1, r⟩ := hs.cell a _ hc
      refine .inr ⟨a, .dK vs, h1, trivial, fun od => ⟨F, _, ρ, _, PX, hs.put (c := .lK t od vs) f0 ⟨upd_same, r⟩, en, xr, q od vs, fun v F' H' d C' e' h' rv ⟨hq, q'⟩ => ?_⟩⟩
      obtain ⟨g0, g1, g2⟩ := h'.cell a _ hq
      exact ⟨g1, k v F' _ d _ e' (h'.put (c := .dK t) g0 ⟨vs, upd_same, g2⟩) rv q'⟩
    · rename_i t hc
      obtain ⟨f0, vs, h1, r⟩ := hs.cell a _ hc
      refine .inr ⟨a, .dT vs, h1, trivial, fun od => ⟨F, _, ρ, _, PX, hs.put (c := .lT t od vs) f0 ⟨upd_same, r⟩, en, xr, q od vs, fun v F' H' d C' e' h' rv ⟨hq, q'⟩ => ?_⟩⟩
      obtain ⟨g0, g1, g2⟩ := h'.cell a _ hq
      exact ⟨g1, k v F' _ d _ e' (h'.put (c := .dT t) g0 ⟨vs, upd_same, g2⟩) rv q'⟩
    · rename_i qq t hc
      obtain ⟨f0, vs, h1, r⟩ := hs.cell a _ hc
      refine .inr ⟨a, ndO qq.w a vs, h1, trivial, fun od => ⟨F, _, ρ, _, PX, hs.put (c := .lN qq t od vs) f0 ⟨upd_same, r⟩, en, xr, q od vs, fun v F' H' d C' e' h' rv ⟨hq, q'⟩ => ?_⟩⟩
      obtain ⟨g0, g1, g2⟩ := h'.cell a _ hq
      exact ⟨g1, k v F' _ d _ e' (h'.put (c := .dN qq t) g0 ⟨vs, upd_same, g2⟩) rv q'⟩
    · rename_i qq t hc
      obtain ⟨f0, vs, h1, r⟩ := hs.cell a _ hc
      refine .inr ⟨a, ldO qq a vs, h1, trivial, fun od => ⟨F, _, ρ, _, PX, hs.put (c := .lO qq t od vs) f0 ⟨upd_same, r⟩, en, xr, q od vs, fun v F' H' d C' e' h' rv ⟨hq, q'⟩ => ?_⟩⟩
      obtain ⟨g0, g1, g2⟩ := h'.cell a _ hq
      exact ⟨g1, k v F' _ d _ e' (h'.put (c := .dO qq t) g0 ⟨vs, upd_same, g2⟩) rv q'⟩
    · exact .inl (go q)
  · exact .inl (go q)
end

/-! ### len, dict(..), list(..) -/
def rLenDic : List V → Hp → VK → Prop := fun xs H Q => ∃ (p : Addr) (n : Nat), xs = [.ref p] ∧ ((∃ t : List (L2.Key × V), Rd H p (.dK t) ∧ n = t.length) ∨ ∃ t : List (List L2.Key × V), Rd H p (.dT t) ∧ n = t.length) ∧ Q (.int ((n : Nat) : Int)) H
theorem cr_lenDic {X : Cx} : CallR X (.builtin "len") rLenDic := by
  intro pins s σ H xs us Q I r h
  obtain ⟨p, n, rfl, hp, q⟩ := h
  rw [Vals.ref1 r]
  rcases hp with ⟨t, hp, rfl⟩ | ⟨t, hp, rfl⟩
  · exact d_len I hp fun tk s' I' => ⟨.int _, H, I', ⟨tk, rfl⟩, q⟩
  · obtain ⟨z, hd, ys, rel, dd⟩ := dt_rd I.hok hp
    have e : t.length = ys.length := Paired.length rel
    refine call_len_dictH hd dd (by rw [← e]; rw [sizeLine_eq] at z; omega) ?_
    rw [← e]
    exact ⟨.int _, H, I.tok _, ⟨_, rfl⟩, q⟩
def dLenDic (ds : List D) (C : Cells) (P : DK) : Prop := match ds with
  | [x] => match kvsK x C with
    | some t => P (.int (t.length : Nat)) C
    | none => match kvsT x C with
      | some t => P (.int (t.length : Nat)) C
      | none => False
  | _ => False
def dDictC (ds : List D) (C : Cells) (P : DK) : Prop := match ds with
  | [x] => match kvsK x C with
    | some t => ∀ p, C p = none → P (.ptr p) (cput C p (.dK t))
    | none => False
  | _ => False
def dKeyList (own : Bool) (ds : List D) (C : Cells) (P : DK) : Prop := match ds with
  | [x] => match kvsK x C with
    | some t => if own = true then ∀ p, C p = none → P (.ptr p) (cput C p (.lst (t.map fun p => keyD p.1))) else P (.lst (t.map fun p => keyD p.1)) C
    | none => False
  | _ => False
section
variable {K : PySem.W.Frag}
theorem s_lenDic : SimA K rLenDic dLenDic := fun F C H xs ds P Q hs r w k => by
  unfold dLenDic at w
  split at w
  · obtain ⟨v, rfl, r1⟩ := r.one
    split at w
    · rename_i t ht
      obtain ⟨a, vs, rfl, h2, h3⟩ := kvsK_rd hs r1 ht
      exact ⟨a, _, rfl, .inl ⟨vs, h2, (tp_len h3.pair).symm⟩, k _ F H _ C (Ex.refl F) hs (.int _) w⟩
    · split at w
      · rename_i t ht
        obtain ⟨a, vs, rfl, h2, h3⟩ := kvsT_rd hs r1 ht
        exact ⟨a, _, rfl, .inr ⟨vs, h2, (tp_len h3.pair).symm⟩, k _ F H _ C (Ex.refl F) hs (.int _) w⟩
      · exact w.elim
  · exact w.elim
theorem s_dictC : SimA K (fun xs H Q => ∃ (a : Addr) (t : List (L2.Key × V)), xs = [.ref a] ∧ Rd H a (.dK t) ∧ ∀ p, H p = none → Q (.ref p) (upd H p (.dK t))) dDictC := fun F C H xs ds P Q hs r w k => by
  unfold dDictC at w
  split at w
  · obtain ⟨v, rfl, r1⟩ := r.one
    split at w
    · rename_i t ht
      obtain ⟨a, vs, rfl, h2, h3⟩ := kvsK_rd hs r1 ht
      refine ⟨a, vs, rfl, h2, fun p hp => ?_⟩
      obtain ⟨f0, c0⟩ := hs.fresh hp
      exact k _ F _ _ _ (Ex.refl F) (hs.put (c := .dK t) f0 ⟨vs, upd_same, h3⟩) (.ptr p) (w p c0)
    · exact w.elim
  · exact w.elim
theorem rep_keyl : ∀ {F : Hp} {vs : List (L2.Key × V)} {t : List (L2.Key × D)}, RepK K F vs t → RepL K F (vs.map fun p => kV p.1) (t.map fun p => keyD p.1)
  | _, _, _, .nil => .nil
  | _, _, _, .cons _ r => .cons (rep_key _) (rep_keyl r)
theorem s_keyList (own : Bool) : SimA K (fun xs H Q => ∃ (a : Addr) (t : List (L2.Key × V)), xs = [.ref a] ∧ Rd H a (.dK t) ∧ ∀ p, H p = none → Q (.ref p) (upd H p (.lst (t.map fun kv => kV kv.1)))) (dKeyList own) := fun F C H xs ds P Q hs r w k => by
  unfold dKeyList at w
  split at w
  · obtain ⟨v, rfl, r1⟩ := r.one
    split at w
    · rename_i t ht
      obtain ⟨a, vs, rfl, h2, h3⟩ := kvsK_rd hs r1 ht
      refine ⟨a, vs, rfl, h2, fun p hp => ?_⟩
      cases own with
      | true =>
        rw [if_pos rfl] at w
        obtain ⟨c0, h4⟩ := hs.newC (rep_keyl h3) hp
        exact k _ F _ _ _ (Ex.refl F) h4 (.ptr p) (w p c0)
      | false =>
        rw [if_neg (by decide)] at w
        obtain ⟨e4, h4, r4⟩ := hs.newL (rep_keyl h3) hp
        exact k _ _ _ _ C e4 h4 r4 w
    · exact w.elim
  · exact w.elim
end
end DD

set_option Elab.async false
set_option linter.all false
set_option maxRecDepth 100000
set_option maxHeartbeats 4000000
/-! Dicts: sorted keys; == . -/
namespace DD
open PySem L2 PyProof.Rows PySem.W

def keyP : L2.Key → PyData
  | .inl i => .int i
  | .inr z => .str z
theorem keyP_py (k : L2.Key) : (keyD k).py = keyP k := by cases k <;> simp [keyD, keyP, D.py]
theorem key_reads {h : Heap} {k : L2.Key} {u : Value} (r : RelV (kV k) u) : Reads h u (keyP k) [] := by
  cases k with
  | inl i => obtain ⟨t, rfl⟩ := (show ∃ t, u = Value.int i t from r); exact .int i t
  | inr z => obtain ⟨t, rfl⟩ := (show ∃ t, u = Value.str z t from r); exact .str z t
theorem keys_reads {h : Heap} : ∀ {ks : List L2.Key} {us : List Value}, Vals (ks.map kV) us → ReadsAll h us (ks.map keyP) []
  | [], _, .nil => .nil
  | _ :: _, _, .cons a b => .cons (key_reads a) (keys_reads b)
theorem tupk_reads {P : Program} {w : World} {H : Hp} {h : Heap} {q : Addr} {ks : List L2.Key} (ok : HOk P w H h) (e : H q = some (.tup (ks.map kV))) : Reads h (.ref q) (.tuple (ks.map keyP)) [] := by
  obtain ⟨_, its, r, o, h1, h2, n, h3⟩ := (show ObjOk P w H h q (.tup (ks.map kV)) from ok q _ e)
  exact .tuple h1 h2 h3 (keys_reads (by simpa using r))
/-- what is sorted: values that read as ps, none of them a list -/
inductive Keys (h : Heap) : List V → List PyData → List Value → Prop
  | nil : Keys h [] [] []
  | cons {x : V} {p : PyData} {u : Value} {xs : List V} {ps : List PyData} {us : List Value} : RelV x u → Reads h u p [] → Keys h xs ps us → Keys h (x :: xs) (p :: ps) (u :: us)
theorem Keys.rel {h : Heap} {xs : List V} {ps : List PyData} {us : List Value} (k : Keys h xs ps us) : EachIs (fun v (b : V × PyData) => RelV b.1 v) us (xs.zip ps) := by
  induction k with
  | nil => exact .nil
  | cons a _ _ ih => exact .cons a ih
theorem Keys.rd {h h' : Heap} {a : Addr} (kp : ∀ b o, h.get? b = some o → h'.get? b = some o) {xs : List V} {ps : List PyData} {us : List Value} (k : Keys h xs ps us) : EachIs (fun v (b : V × PyData) => ∃ as, Reads h' v b.2 as ∧ a ∉ as) us (xs.zip ps) := by
  induction k with
  | nil => exact .nil
  | cons _ b _ ih => exact .cons ⟨[], PyProof.Rows.Reads.keeps kp b, by simp⟩ ih
theorem Keys.len {h : Heap} {xs : List V} {ps : List PyData} {us : List Value} (k : Keys h xs ps us) : xs.length = ps.length ∧ us.length = ps.length := by
  induction k with
  | nil => exact ⟨rfl, rfl⟩
  | cons _ _ _ ih => exact ⟨congrArg (· + 1) ih.1, congrArg (· + 1) ih.2⟩
theorem Keys.snd {h : Heap} {xs : List V} {ps : List PyData} {us : List Value} (k : Keys h xs ps us) : (xs.zip ps).map Prod.snd = ps := zip_snd k.len.1
/-- the new list is sorted -/
theorem sort_new {X : Cx} {pins : List (Addr × Obj)} {σ : L2.St} {H : Hp} {s : Shared} {xs : List V} {ps : List PyData} {acc : List Value} {Q : VK} {E : Value → Shared → Prop} (hu : X.A.units + 64 < cLine) (I : Inv X pins σ H s) (k : Keys s.heap xs ps acc) (hal : AllAlike ps) (hk : Sortable ps) (hd : ∀ d ∈ ps, d.depth ≤ 60)
    (hz : ps.length ≤ sizeLine) (q : ∀ p, H p = none → Q (.ref p) (upd H p (.lst (((xs.zip ps).mergeSort (dataLe false Prod.snd)).map Prod.fst)))) :
    wpAny (model X.prog X.w) X.A.in1 (do
      let l ← newList acc
      let _ ← holding [l] (call (.builtin "list.sort") [l])
      ret l) (fun f s' => ∃ v, f = .done (.ret v) ∧ ∃ x H', Inv X pins σ H' s' ∧ RelV x v ∧ Q x H') E s := by
  obtain ⟨l1, l2⟩ := k.len
  refine wpAny_bind (wpAny_newList ?_ (by rw [l2]; exact hz))
  have ho : (s.heap.push (seqObj "list" acc.toArray 0)).get? s.heap.objs.size = some (seqObj "list" acc.toArray 0) := Heap.get?_push_size _ rfl
  refine wpAny_bind (wpAny_holding (list_sort_data (bs := xs.zip ps) (enc := Prod.snd) (R := fun v b => RelV b.1 v) (s := { s with heap := s.heap.push (seqObj "list" acc.toArray 0) }) ho k.rel (k.rd fun _ _ e => Heap.get?_push_of_some _ e) (by rw [k.snd]; exact hal) (by rw [k.snd]; exact hk) (by rw [List.length_zip]; omega) (fun b hb => ?_) fun out h1 h2 => ?_))
  · have := hd b.2 (by rw [← k.snd]; exact List.mem_map_of_mem hb)
    show X.A.units + 1 + 1 + _ < cLine
    omega
  · obtain ⟨ep, he⟩ := PyProof.Rows.sortedHeap_at (vs := acc) (out := out.toArray) ho
    have k1 := each_vals (bs := []) (vs := []) h2
    have hl : (((xs.zip ps).mergeSort (dataLe false Prod.snd)).map Prod.fst).length ≤ sizeLine := by
      rw [List.length_map, List.length_mergeSort, List.length_zip]; omega
    refine wpAny_pure ⟨_, rfl, .ref s.heap.objs.size, upd H s.heap.objs.size (.lst (((xs.zip ps).mergeSort (dataLe false Prod.snd)).map Prod.fst)), I.laid (t' := s.toks) (fun b u e => ?_) (Nat.le_refl _) ⟨hl, out, ep, k1, he⟩, rfl, q _ (I.hok.fresh (Nat.le_refl _))⟩
    have hb : b < s.heap.objs.size := Heap.lt_size e
    exact (PyProof.Rows.sortedHeap_old (Nat.ne_of_lt hb) (by rw [size_push']; exact Nat.lt_succ_of_lt hb)).trans (Heap.get?_push_of_some _ e)
def rSortedDic : List V → Hp → VK → Prop := fun xs H Q => ∃ a ps, xs = [V.ref a] ∧ AllAlike ps ∧ Sortable ps ∧ (∀ d ∈ ps, d.depth ≤ 60) ∧
  ((∃ t : List (L2.Key × V), Rd H a (.dK t) ∧ ps = t.map (fun p => keyP p.1) ∧ ∀ p, H p = none → Q (.ref p) (upd H p (.lst ((((t.map fun p => kV p.1).zip ps).mergeSort (dataLe false Prod.snd)).map Prod.fst)))) ∨
  ∃ t : List (List L2.Key × V), Rd H a (.dT t) ∧ ps = t.map (fun p => PyData.tuple (p.1.map keyP)) ∧ ∀ bs p, IsKeys H t bs → H p = none → Q (.ref p) (upd H p (.lst ((((bs.map V.ref).zip ps).mergeSort (dataLe false Prod.snd)).map Prod.fst))))
theorem keys_K {h : Heap} {prog : Program} {w : World} : ∀ {t : List (L2.Key × V)} {vs : List (L2.Key × Value)} {acc : List Value}, KV t vs → acc.length = vs.length → (∀ (j : Nat) (v : Value), acc[j]? = some v → ∃ (k : L2.Key) (x : Value), vs[j]? = some (k, x) ∧ keyIs k v = true) → Keys h (t.map fun p => kV p.1) (t.map fun p => keyP p.1) acc := by
  intro t vs acc r
  unfold KV at r
  induction r generalizing acc with
  | nil => intro hl _; cases acc with
    | nil => exact .nil
    | cons _ _ => cases hl
  | @cons p q _ _ g _ ih => intro hl ha; cases acc with
    | nil => cases hl
    | cons u us =>
      obtain ⟨k, x, e1, e2⟩ := ha 0 u rfl
      cases e1
      have e3 : p.1 = k := g.1
      refine .cons (show RelV (kV p.1) u by rw [e3]; exact relV_key e2) (show Reads h u (keyP p.1) [] by rw [e3]; exact key_reads (relV_key e2)) (ih (by simpa using hl) fun j v e => ?_)
      obtain ⟨k', x', z1, z2⟩ := ha (j + 1) v (by simpa using e)
      exact ⟨k', x', by simpa using z1, z2⟩
theorem keys_T {P : Program} {w : World} {H : Hp} {h : Heap} (ok : HOk P w H h) : ∀ {t : List (List L2.Key × V)} {bs : List Addr}, IsKeys H t bs → Keys h (bs.map V.ref) (t.map fun p => PyData.tuple (p.1.map keyP)) (bs.map Value.ref) := by
  intro t bs r
  unfold IsKeys at r
  induction r with
  | nil => exact .nil
  | cons g _ ih => exact .cons rfl (tupk_reads ok g) ih
theorem cr_sortedDic {X : Cx} (hc : X.calm = true) (hu : X.A.units + 64 < cLine) : CallR X (.builtin "sorted") rSortedDic := by
  intro pins s σ H xs us Q I r h
  obtain ⟨a, ps, rfl, hal, hk, hd, h⟩ := h
  rw [Vals.ref1 r]
  refine Calls.call_function_entry PyProof.Rows.kind_sorted PyProof.Rows.plain_sorted PyProof.Rows.entry_sorted (PyProof.Rows.args_sorted1 _) ?_
  unfold Builtin.«sorted»
  refine wpAny_bind (m := checkCount "sorted" 1 1 _) (wpAny_pure ?_)
  rcases h with ⟨t, ht, rfl, q⟩ | ⟨t, ht, rfl, q⟩
  · obtain ⟨z, lo, vs, rel, dd⟩ := dk_rd I.hok ht
    obtain ⟨ep, hat⟩ := dd.dictAt
    have hl : t.length = vs.length := rel.length
    refine wpAny_bind (PySem.W.kdu_collect (A := X.A.in1) (PySem.W.kdl_dict (knd := mixKind X.prog X.w) (kvs := vs) (ep := ep) lo) (I.ok.hd hc) hat (by omega) fun h' tk acc hkp hacc => ?_)
    have I1 : Inv X pins σ H { s with heap := h', toks := tk } := I.kept hkp
    have kk : Keys h' (t.map fun p => kV p.1) (t.map fun p => keyP p.1) acc.toList := keys_K (prog := X.prog) (w := X.w) rel (by rw [Array.length_toList]; exact hacc.1) fun j v e => hacc.2 j v (by rw [← Array.getElem?_toList]; exact e)
    have fin := sort_new (E := fun a b => X.xe a b) hu I1 kk hal hk hd (by rw [List.length_map]; exact z) q
    exact fin
  · obtain ⟨z, hs, ks, pr, o, es, ep, ho, hx, hdt, he, hn⟩ := (show ObjOk X.prog X.w H s.heap a (.dT t) from ht.ok I.hok)
    have l1 : es.size = ks.length := size_of_entries he
    have l2 : t.length = ks.length := Paired.length pr
    refine wpAny_bind (PySem.W.kdu_collect (A := X.A.in1) (kdl_raw hs hx hdt) (I.ok.hd hc) ho (by omega) fun h' tk acc hkp hacc => ?_)
    have I1 : Inv X pins σ H { s with heap := h', toks := tk } := I.kept hkp
    have ib : IsKeys H t (ks.map fun x => x.2.1) := isKeys_of pr
    have ea : acc.toList = (ks.map fun x => x.2.1).map Value.ref := by
      have hl : acc.toList.length = ks.length := by rw [Array.length_toList, hacc.1]; exact l1
      refine List.ext_getElem? fun j => ?_
      rw [List.getElem?_map, List.getElem?_map]
      cases hj : acc.toList[j]? with
      | none =>
        have := List.getElem?_eq_none_iff.mp hj
        rw [List.getElem?_eq_none (show ks.length ≤ j by omega)]
        rfl
      | some v =>
        obtain ⟨en, hen, hv⟩ := hacc.2 j v (by rw [← Array.getElem?_toList]; exact hj)
        have qe := entry_at he j
        rw [hen] at qe
        cases hb : ks[j]? with
        | none => rw [hb] at qe; cases qe
        | some b =>
          rw [hb] at qe
          have e2 : en = entryOfKey (tupleKind (mixKind X.prog X.w)) b := Option.some.inj qe
          rw [hv, e2]
          rfl
    have kk := keys_T I1.hok ib
    rw [← ea] at kk
    have fin := sort_new (E := fun a b => X.xe a b) hu I1 kk hal hk hd (by rw [List.length_map]; exact z) fun p hp => q _ p ib hp
    exact fin
/-- sorted(d) -/
def dSortDic (ds : List D) (C : Cells) (P : DK) : Prop := match ds with
  | [x] => match kvsK x C with
    | some t => SortsD (t.map fun p => keyD p.1) ∧ P (.lst ((t.map fun p => keyD p.1).mergeSort leD)) C
    | none => match kvsT x C with
      | some t => SortsD (t.map fun p => keyTD p.1) ∧ P (.lst ((t.map fun p => keyTD p.1).mergeSort leD)) C
      | none => False
  | _ => False
theorem keyTD_py (ks : List L2.Key) : (keyTD ks).py = PyData.tuple (ks.map keyP) := by
  simp only [keyTD, D.py, pys_map, List.map_map]
  congr 1
  exact List.map_congr_left fun k _ => keyP_py k
theorem s_sortDic {K : PySem.W.Frag} : SimA K rSortedDic dSortDic := fun F C H xs ds P Q hs r w k => by
  unfold dSortDic at w
  split at w
  · obtain ⟨v, rfl, r1⟩ := r.one
    split at w
    · rename_i t ht
      obtain ⟨a, vs, rfl, h2, h3⟩ := kvsK_rd hs r1 ht
      obtain ⟨⟨⟨n, hn, hd⟩, hal, hok⟩, w⟩ := w
      have e1 : vs.map (fun p => keyP p.1) = (t.map fun p => keyD p.1).map D.py := by
        rw [List.map_map, show (D.py ∘ fun p : L2.Key × D => keyD p.1) = keyP ∘ (·.1) from funext fun p => keyP_py p.1, ← List.map_map, ← tp_keys h3.pair, List.map_map]
        rfl
      refine ⟨a, _, rfl, by rw [e1]; exact hal, by rw [e1]; exact hok, fun d hd' => ?_, .inl ⟨vs, h2, rfl, fun p hp => ?_⟩⟩
      · rw [e1] at hd'
        obtain ⟨d', hm, rfl⟩ := List.mem_map.mp hd'
        have := (dat_lay (hd d' hm)).2
        omega
      · have rr := rep_keyl h3
        have e2 : vs.map (fun p => keyP p.1) = pys (t.map fun p => keyD p.1) := by rw [pys_map]; exact e1
        rw [e2]
        obtain ⟨e4, h4, r4⟩ := hs.newL rr.sort hp
        exact k _ _ _ _ C e4 h4 r4 w
    · split at w
      · rename_i t ht
        obtain ⟨a, vs, rfl, h2, h3⟩ := kvsT_rd hs r1 ht
        obtain ⟨⟨⟨n, hn, hd⟩, hal, hok⟩, w⟩ := w
        have e1 : vs.map (fun p => PyData.tuple (p.1.map keyP)) = (t.map fun p => keyTD p.1).map D.py := by
          rw [List.map_map, show (D.py ∘ fun p : List L2.Key × D => keyTD p.1) = (fun k => PyData.tuple (k.map keyP)) ∘ (·.1) from funext fun p => keyTD_py p.1, ← List.map_map, ← tp_keys h3.pair, List.map_map]
          rfl
        refine ⟨a, _, rfl, by rw [e1]; exact hal, by rw [e1]; exact hok, fun d hd' => ?_, .inr ⟨vs, h2, rfl, fun bs p ib hp => ?_⟩⟩
        · rw [e1] at hd'
          obtain ⟨d', hm, rfl⟩ := List.mem_map.mp hd'
          have := (dat_lay (hd d' hm)).2
          omega
        · obtain ⟨F2, e2, h2', rr⟩ := hs.adopts ib
          have ek : (vs.map fun p => keyTD p.1) = t.map fun p => keyTD p.1 := by
            have := congrArg (List.map keyTD) (tp_keys h3.pair)
            rw [List.map_map, List.map_map] at this
            exact this
          rw [ek] at rr
          have e3 : vs.map (fun p => PyData.tuple (p.1.map keyP)) = pys (t.map fun p => keyTD p.1) := by rw [pys_map]; exact e1
          rw [e3]
          obtain ⟨e4, h4, r4⟩ := h2'.newL rr.sort hp
          exact k _ _ _ _ C (e2.trans e4) h4 r4 w
      · exact w.elim
  · exact w.elim
end DD

set_option Elab.async false
set_option linter.all false
set_option maxRecDepth 100000
set_option maxHeartbeats 4000000
/-! Dicts: == ; displays. -/
namespace DD
open PySem L2 PyProof.Rows PySem.W

section
variable {κ : Type} [DecidableEq κ]
def vaP (t : List (κ × PyData)) (k : κ) : Option PyData := (t.find? fun p => decide (p.1 = k)).map (·.2)
theorem vaP_hit {k : κ} {p : κ × PyData} {t : List (κ × PyData)} (e : p.1 = k) : vaP (p :: t) k = some p.2 := by unfold vaP; rw [List.find?_cons, decide_eq_true e]; rfl
theorem vaP_miss {k : κ} {p : κ × PyData} {t : List (κ × PyData)} (e : ¬ p.1 = k) : vaP (p :: t) k = vaP t k := by unfold vaP; rw [List.find?_cons, decide_eq_false e]
def hitP (u : List (κ × PyData)) (p : κ × PyData) : Bool := match vaP u p.1 with
  | some d => PyData.eqv p.2 d
  | none => false
def eqP (t u : List (κ × PyData)) : Bool := t.length == u.length && t.all (hitP u)
def hitD (u : List (κ × D)) (p : κ × D) : Bool := match vaD u p.1 with
  | some d => p.2.eqb d
  | none => false
/-- == of two dicts of data -/
def eqT (t u : List (κ × D)) : Bool := t.length == u.length && t.all (hitD u)
abbrev pyT (t : List (κ × D)) : List (κ × PyData) := t.map fun p => (p.1, p.2.py)
theorem vaP_py (k : κ) : ∀ t : List (κ × D), vaP (pyT t) k = (vaD t k).map D.py
  | [] => rfl
  | p :: t => by
    by_cases e : p.1 = k
    · rw [vaD_hit e]; exact vaP_hit (p := (p.1, p.2.py)) e
    · rw [vaD_miss e, ← vaP_py k t]; exact vaP_miss (p := (p.1, p.2.py)) e
theorem eqP_py (t u : List (κ × D)) : eqP (pyT t) (pyT u) = eqT t u := by
  unfold eqP eqT pyT
  rw [List.length_map, List.length_map, List.all_map]
  congr 2
  funext p
  show hitP (pyT u) (p.1, p.2.py) = hitD u p
  unfold hitP hitD
  rw [vaP_py]
  cases vaD u p.1 <;> rfl
/-- what stands at the values reads so -/
abbrev VKr (h : Heap) : List (κ × Value) → List (κ × PyData) → Prop := Paired fun p q => p.1 = q.1 ∧ (∃ as, Reads h p.2 q.2 as) ∧ SeqAt.shaped q.2 = true
theorem vk_at {h : Heap} {vs : List (κ × Value)} {t : List (κ × PyData)} (r : VKr h vs t) (k : κ) : (valueAt vs k = none ∧ vaP t k = none) ∨ ∃ v d, valueAt vs k = some v ∧ vaP t k = some d ∧ (∃ as, Reads h v d as) ∧ SeqAt.shaped d = true := by
  induction r with
  | nil => exact .inl ⟨rfl, rfl⟩
  | @cons p q _ _ g _ ih =>
    by_cases e : q.1 = k
    · refine .inr ⟨p.2, q.2, ?_, vaP_hit e, g.2.1, g.2.2⟩
      unfold valueAt
      rw [List.find?_cons, decide_eq_true (g.1.trans e)]
      rfl
    · rw [vaP_miss e]
      have : ∀ l : List (κ × Value), valueAt (p :: l) k = valueAt l k := fun l => by
        unfold valueAt
        rw [List.find?_cons, decide_eq_false (fun z => e (g.1.symm.trans z))]
      rw [this]
      exact ih
theorem vk_hits {A : Around} {s : Shared} {va vb : List (κ × Value)} {t u : List (κ × PyData)} (hu : A.in1.units + 64 < cLine) (ra : VKr s.heap va t) (rb : VKr s.heap vb u) : KeqHits A.in1 s vb va (t.all (hitP u)) := by
  induction ra with
  | nil => exact .nil
  | @cons p q ps qs g _ ih =>
    obtain ⟨k, v⟩ := p
    obtain ⟨e, ⟨as, r1⟩, s1⟩ := g
    have e : k = q.1 := e
    rw [List.all_cons]
    rcases vk_at rb k with ⟨z1, z2⟩ | ⟨y, d, z1, z2, ⟨bs, r2⟩, s2⟩
    · have : hitP u q = false := by unfold hitP; rw [← e, z2]
      rw [this, Bool.false_and]
      exact .miss z1
    · have : hitP u q = PyData.eqv q.2 d := by unfold hitP; rw [← e, z2]
      rw [this]
      exact .hit z1 (keq_at r1 r2 s1 s2 hu) ih
end
section
variable {prog : Program} {w : World} {κ : Type} [DecidableEq κ] {knd : HeapKind prog w κ} {A : Around} {E : Value → Shared → Prop} {s : Shared}
/-- the same pairs, keys that lie on the heap -/
theorem same_heap {nm : String} {a b : Addr} {xs ys : List (κ × Addr × Value)} {e : Nat → Bool} {Q : Bool → Shared → Prop} (ha : (a == sysModules) = false) (hb : (b == sysModules) = false) (da : s.heap.DictOfH knd a xs) (db : s.heap.DictOfH knd b ys) (hu : knd.room A)
    (hits : ∀ i k p v, xs[i]? = some (k, p, v) → (atKey ys k = none ∧ e i = false) ∨ ∃ q, atKey ys k = some q ∧ SeqAt.EqAt A s v q.2 (e i)) (h : Q (xs.length == ys.length && (List.range xs.length).all e) s) : wpAny (model prog w) A (Builtin.Dict.samePairs nm a b) Q E s := by
  obtain ⟨oa, es, ep, hoa, _, hda, hea, hia, hna⟩ := da
  obtain ⟨ob, fs, fp, hob, _, hdb, heb, hib, hnb⟩ := db
  have la := size_of_entries hea
  have lb := size_of_entries heb
  rw [← la, ← lb] at h
  unfold Builtin.Dict.samePairs Builtin.Dict.showsAll
  rw [if_neg (by rw [ha]; decide), if_neg (by rw [hb]; decide)]
  refine wpAny_bind (wpAny_pure <| wpAny_bind <| wpAny_pure ?_)
  refine wpAny_bind (wpAny_dictEntries hoa hda ?_); dsimp only
  refine wpAny_bind (wpAny_dictEntries hob hdb ?_)
  by_cases hsz : es.size = fs.size
  · have fin : ∀ r : Bool, (List.range es.size).all e = r → Q r s := fun r hr => by
      rw [show (es.size == fs.size) = true by simpa using hsz, Bool.true_and, hr] at h
      exact h
    rw [if_neg (by rw [hsz]; simp)]
    refine wpAny_bind (wpAny_dictEpoch hoa hda <| wpAny_bind ?_)
    rw [Std.Legacy.Range.forIn_eq_forIn_range']
    simp only [Std.Legacy.Range.size, Nat.sub_zero, Nat.add_sub_cancel, Nat.div_one]
    refine wpAny_forIn_list _ (fun rest q t => t = s ∧ q = (none, ()) ∧ ∃ i, i ≤ es.size ∧ rest = List.range' i (es.size - i) ∧ ∀ j, j < i → e j = true) _ ?_ ?_ _ _ ⟨rfl, rfl, 0, Nat.zero_le _, by simp, fun j hj => by cases hj⟩
    · rintro x rest q t ⟨rfl, rfl, i, hi, hr, hall⟩
      have hlt : i < es.size := Nat.lt_of_le_of_ne hi fun z => by rw [z, Nat.sub_self] at hr; cases hr
      rw [show es.size - i = (es.size - (i + 1)) + 1 by omega, List.range'_succ] at hr
      injection hr with hx hrest
      subst hx
      refine wpAny_bind (wpAny_dictEntries hoa hda ?_)
      obtain ⟨⟨k, p, v⟩, hk⟩ : ∃ y, xs[x]? = some y := ⟨_, List.getElem?_eq_getElem (by omega)⟩
      have hent : es[x]? = some (entryOfKey knd (k, p, v)) := by rw [entry_at hea, hk]; rfl
      rw [hent]
      show wpAny _ _ (holding [Value.ref p, v] _ >>= _) _ _ _
      refine wpAny_bind (wpAny_holding <| wpAny_bind (wpAny_dictFind_heap hu (hia _ (List.mem_of_getElem? hk)) hob hdb heb hib hnb (fun hno => ?_) fun j q hj => ?_))
      · rcases hits x k p v hk with ⟨_, e0⟩ | ⟨q, hq, _⟩
        · refine wpAny_pure ?_
          show wpAny _ _ (if (!false) = true then _ else _) _ _ _
          rw [if_pos (by decide)]
          exact wpAny_pure (wpAny_pure (fin false (List.all_eq_false.mpr ⟨x, List.mem_range.mpr hlt, by rw [e0]; decide⟩)))
        · rw [atKey_none_of_get hno] at hq; cases hq
      · have hq := atKey_of_get hnb hj
        have hfe : fs[j]? = some (entryOfKey knd (k, q)) := by rw [entry_at heb, hj]; rfl
        rcases hits x k p v hk with ⟨h0, _⟩ | ⟨q', hq', he⟩
        · rw [hq] at h0; cases h0
        · rw [hq] at hq'
          cases hq'
          refine wpAny_bind (wpAny_dictEntries hob hdb ?_)
          rw [hfe]
          show wpAny _ _ (holding [q.2] (eqBool v q.2)) _ _ _
          refine wpAny_holding (he prog w _ _ ?_)
          cases hx : e x with
          | false =>
            show wpAny _ _ (if (!false) = true then _ else _) _ _ _
            rw [if_pos (by decide)]
            exact wpAny_pure (wpAny_pure (fin false (List.all_eq_false.mpr ⟨x, List.mem_range.mpr hlt, by rw [hx]; decide⟩)))
          | true =>
            show wpAny _ _ (if (!true) = true then _ else _) _ _ _
            rw [if_neg (by decide)]
            refine wpAny_bind (wpAny_dictEpoch hoa hda ?_)
            rw [if_neg (by simp)]
            exact wpAny_pure ⟨rfl, rfl, x + 1, hlt, hrest, fun j hj => (Nat.lt_succ_iff_lt_or_eq.mp hj).elim (hall j) fun z => by rw [z]; exact hx⟩
    · rintro q t ⟨rfl, rfl, i, hi, hr, hall⟩
      have hin : i = es.size := Nat.le_antisymm hi (by
        rcases Nat.lt_or_ge i es.size with z | z
        · rw [show es.size - i = (es.size - (i + 1)) + 1 by omega, List.range'_succ] at hr; cases hr
        · exact z)
      exact wpAny_pure (fin true (List.all_eq_true.mpr fun j hj => hall j (by rw [hin]; exact List.mem_range.mp hj)))
  · rw [if_pos (by simpa using hsz)]
    rw [show (es.size == fs.size) = false by simpa using hsz, Bool.false_and] at h
    exact wpAny_bind (wpAny_rule (wpAny_pure h))
end

theorem heap_slot {prog : Program} {w : World} {A : Around} {E : Value → Shared → Prop} {s : Shared} {κ : Type} [DecidableEq κ] {knd : HeapKind prog w κ} {a b : Addr} {xs ys : List (κ × Addr × Value)} {e : Nat → Bool} {Q : Value → Shared → Prop} (ha : (a == sysModules) = false) (hb : (b == sysModules) = false) (da : s.heap.DictOfH knd a xs) (db : s.heap.DictOfH knd b ys) (hr : knd.room A.in1) (hu : A.units < cLine)
    (hits : ∀ i k p v, xs[i]? = some (k, p, v) → (atKey ys k = none ∧ e i = false) ∨ ∃ q, atKey ys k = some q ∧ SeqAt.EqAt A.in1 s v q.2 (e i)) :
    (Q (.bool (xs.length == ys.length && (List.range xs.length).all e)) s → wpAny (model prog w) A (compareOp .Eq (.ref a) (.ref b)) Q E s) ∧ (Q (.bool (!(xs.length == ys.length && (List.range xs.length).all e))) s → wpAny (model prog w) A (compareOp .NotEq (.ref a) (.ref b)) Q E s) := by
  have ta : s.TypeIs (.ref a) "dict" := da.typeIs
  have tb : s.TypeIs (.ref b) "dict" := db.typeIs
  constructor
  · intro h
    refine wpAny_richCompare_same_room (op := .Eq) ta tb PySem.F.slot_dict_eq (wpAny_call_entry PySem.F.slot_dict_eq ta PySem.F.entry_dict_eq ?_ (PySem.F.args_dict_eq_2 _ _)) hu
    show wpAny _ _ (Builtin.Dict.dictSlotArgs "__eq__" _ >>= _) _ _ s
    unfold Builtin.Dict.dictSlotArgs
    refine wpAny_bind (wpAny_bind (wpAny_notOrdered_dict ta ?_))
    show wpAny _ _ (pure (Value.ref a, Value.ref b)) _ _ s
    refine wpAny_pure (wpAny_bind (wpAny_isInstance (T := "dict") tb PySem.F.sub_dict_dict ?_))
    simp only [Bool.not_true, Bool.false_eq_true, if_false]
    refine wpAny_bind (wpAny_pure <| wpAny_bind <| wpAny_pure <| wpAny_bind (same_heap ha hb da db hr hits <| wpAny_pure ⟨_, rfl, ?_, ?_⟩))
    · exact fun z => by cases z
    · simpa using h
  · intro h
    refine wpAny_richCompare_same_room (op := .NotEq) ta tb PySem.F.slot_dict_ne (wpAny_call_entry PySem.F.slot_dict_ne ta PySem.F.entry_dict_ne ?_ (PySem.F.args_dict_ne_2 _ _)) hu
    show wpAny _ _ (Builtin.Dict.dictSlotArgs "__ne__" _ >>= _) _ _ s
    unfold Builtin.Dict.dictSlotArgs
    refine wpAny_bind (wpAny_bind (wpAny_notOrdered_dict ta ?_))
    show wpAny _ _ (pure (Value.ref a, Value.ref b)) _ _ s
    refine wpAny_pure (wpAny_bind (wpAny_isInstance (T := "dict") tb PySem.F.sub_dict_dict ?_))
    simp only [Bool.not_true, Bool.false_eq_true, if_false]
    refine wpAny_bind (wpAny_pure <| wpAny_bind <| wpAny_pure <| wpAny_bind (same_heap ha hb da db hr hits <| wpAny_pure ⟨_, rfl, ?_, ?_⟩))
    · exact fun z => by cases z
    · simpa using h
abbrev VP {κ : Type} (K : PySem.W.Frag) (H : Hp) : List (κ × V) → List (κ × PyData) → Prop := Paired fun p q => p.1 = q.1 ∧ Dp K H p.2 q.2 ∧ SeqAt.shaped q.2 = true
/-- two dicts of data -/
def rEqDic (K : PySem.W.Frag) (neg : Bool) : R2 := fun x y H Q => ∃ a b, x = .ref a ∧ y = .ref b ∧
  ((∃ (vs us : List (L2.Key × V)) (t u : List (L2.Key × PyData)), Rd H a (.dK vs) ∧ Rd H b (.dK us) ∧ VP K H vs t ∧ VP K H us u ∧ Q (.bl (neg ^^ eqP t u)) H) ∨
  ∃ (vs us : List (List L2.Key × V)) (t u : List (List L2.Key × PyData)), Rd H a (.dT vs) ∧ Rd H b (.dT us) ∧ VP K H vs t ∧ VP K H us u ∧ Q (.bl (neg ^^ eqP t u)) H)
section
variable {X : Cx} {pins : List (Addr × Obj)} {σ : L2.St} {H : Hp} {s : Shared}
theorem vk_of (I : Inv X pins σ H s) {κ : Type} [DecidableEq κ] {vs : List (κ × V)} {ws : List (κ × Value)} {t : List (κ × PyData)} (r : KV vs ws) (q : VP X.K H vs t) : VKr s.heap ws t := by
  unfold KV at r
  induction r generalizing t with
  | nil => cases q; exact .nil
  | @cons p p' _ _ g _ ih =>
    cases q with
    | cons h z => exact .cons ⟨g.1.symm.trans h.1, Dp.reads I _ _ _ h.2.1 g.2, h.2.2⟩ (ih z)
theorem kt_vk (I : Inv X pins σ H s) {vs : List (List L2.Key × V)} {xs : List (List L2.Key × Addr × Value)} {t : List (List L2.Key × PyData)} (r : KT H vs xs) (q : VP X.K H vs t) : VKr s.heap (xs.map fun x => (x.1, x.2.2)) t := by
  induction r generalizing t with
  | nil => cases q; exact .nil
  | @cons p p' _ _ g _ ih =>
    cases q with
    | cons h z => exact .cons ⟨g.1.symm.trans h.1, Dp.reads I _ _ _ h.2.1 g.2.2, h.2.2⟩ (ih z)
theorem atKey_vals {κ : Type} [DecidableEq κ] (k : κ) : ∀ xs : List (κ × Addr × Value), valueAt (xs.map fun x => (x.1, x.2.2)) k = (atKey xs k).map (·.2)
  | [] => rfl
  | x :: r => by
    have ih := atKey_vals k r
    unfold valueAt atKey at ih ⊢
    rw [List.map_cons, List.find?_cons, List.find?_cons]
    by_cases e : x.1 = k
    · rw [decide_eq_true e]; rfl
    · rw [decide_eq_false e]; exact ih
/-- the i-th pair is found alike -/
def eAt {κ : Type} [DecidableEq κ] (t u : List (κ × PyData)) (i : Nat) : Bool := match t[i]? with
  | some p => hitP u p
  | none => false
theorem eAt_all {κ : Type} [DecidableEq κ] (t u : List (κ × PyData)) : (List.range t.length).all (eAt t u) = t.all (hitP u) := by
  rw [Bool.eq_iff_iff, List.all_eq_true, List.all_eq_true]
  constructor
  · intro h p hp
    obtain ⟨i, hi, e⟩ := List.getElem_of_mem hp
    have := h i (List.mem_range.mpr hi)
    unfold eAt at this
    rw [List.getElem?_eq_getElem hi, e] at this
    exact this
  · intro h i hi
    have hi := List.mem_range.mp hi
    unfold eAt
    rw [List.getElem?_eq_getElem hi]
    exact h _ (List.getElem_mem hi)
theorem eq_dics (hu : X.A.units + 66 < cLine) {neg : Bool} (I : Inv X pins σ H s) {x y : V} {v u : Value} {Q : VK} (rx : RelV x v) (ry : RelV y u) (h : rEqDic X.K neg x y H Q) : wpAny (model X.prog X.w) X.A (compareOp (if neg = true then .NotEq else .Eq) v u) (EP X pins σ Q) X.xe s := by
  have h1 : X.A.in1.units + 64 < cLine := by show X.A.units + 1 + 64 < cLine; omega
  obtain ⟨a, b, rfl, rfl, h⟩ := h
  cases rx; cases ry
  rcases h with ⟨vs, us, t, u, ha, hb, ta, tb, q⟩ | ⟨vs, us, t, u, ha, hb, ta, tb, q⟩
  · obtain ⟨_, ya, va, ra, da⟩ := dk_rd I.hok ha
    obtain ⟨_, yb, vb, rb, db⟩ := dk_rd I.hok hb
    have ka := vk_of I ra ta
    have kb := vk_of I rb tb
    have hits := vk_hits (A := X.A) (by show X.A.units + 1 + 64 < cLine; omega) ka kb
    have el : (va.length == vb.length && t.all (hitP u)) = eqP t u := by unfold eqP; rw [Paired.length ka, Paired.length kb]
    cases neg with
    | false =>
      rw [if_neg (by decide)]
      refine keq_eq ya yb da db (by omega) (fun _ => hits) ?_
      rw [el]
      exact ⟨.bl _, H, I, rfl, by rw [Bool.false_xor] at q; exact q⟩
    | true =>
      rw [if_pos rfl]
      refine keq_ne ya yb da db (by omega) (fun _ => hits) ?_
      rw [el]
      exact ⟨.bl _, H, I, rfl, by rw [Bool.true_xor] at q; exact q⟩
  · obtain ⟨_, ya, xa, ra, da⟩ := dt_rd I.hok ha
    obtain ⟨_, yb, xb, rb, db⟩ := dt_rd I.hok hb
    have ka := kt_vk I ra ta
    have kb := kt_vk I rb tb
    have l1 : xa.length = t.length := by have := Paired.length ka; rwa [List.length_map] at this
    have l2 : xb.length = u.length := by have := Paired.length kb; rwa [List.length_map] at this
    have z := heap_slot (A := X.A) (E := X.xe) (e := eAt t u) (Q := EP X pins σ Q) ya yb da db (tupleKind_room_in1 (A := X.A) (by omega)) (by omega) fun i k p v hi => by
      have hi2 : (xa.map fun x => (x.1, x.2.2))[i]? = some (k, v) := by rw [List.getElem?_map, hi]; rfl
      obtain ⟨q', ht, g1, ⟨as, g2⟩, g3⟩ := paired_get ka hi2
      have g1 : k = q'.1 := g1
      have ee : eAt t u i = hitP u q' := by unfold eAt; rw [ht]
      rw [ee]
      rcases vk_at kb k with ⟨z1, z2⟩ | ⟨y, d, z1, z2, ⟨bs, r2⟩, s2⟩
      · refine .inl ⟨?_, by unfold hitP; rw [← g1, z2]⟩
        rw [atKey_vals] at z1
        exact Option.map_eq_none_iff.mp z1
      · rw [atKey_vals, Option.map_eq_some_iff] at z1
        obtain ⟨p2, z3, rfl⟩ := z1
        refine .inr ⟨p2, z3, ?_⟩
        have : hitP u q' = PyData.eqv q'.2 d := by unfold hitP; rw [← g1, z2]
        rw [this]
        exact keq_at g2 r2 g3 s2 h1
    have el : (xa.length == xb.length && (List.range xa.length).all (eAt t u)) = eqP t u := by unfold eqP; rw [← eAt_all, l1, l2]
    rw [el] at z
    cases neg with
    | false =>
      rw [if_neg (by decide)]
      exact z.1 ⟨.bl _, H, I, rfl, by rw [Bool.false_xor] at q; exact q⟩
    | true =>
      rw [if_pos rfl]
      exact z.2 ⟨.bl _, H, I, rfl, by rw [Bool.true_xor] at q; exact q⟩
end
section
variable {X : Cx} {K : PySem.W.Frag}
theorem op_eqDic (hu : X.A.units + 66 < cLine) : OpR X (compareOp .Eq) (rEqDic X.K false) := fun pins s σ H x y v u Q I rx ry h => by
  have := eq_dics hu I rx ry h
  rwa [if_neg (by decide)] at this
theorem op_neDic (hu : X.A.units + 66 < cLine) : OpR X (compareOp .NotEq) (rEqDic X.K true) := fun pins s σ H x y v u Q I rx ry h => by
  have := eq_dics hu I rx ry h
  rwa [if_pos rfl] at this
def datT {κ : Type} (n : Nat) (t : List (κ × D)) : Prop := ∀ p ∈ t, Dat n p.2
def dEqDic (neg : Bool) (x : D) (y : D) (C : Cells) (P : DK) : Prop := match kvsK x C, kvsK y C with
  | some t, some u => ∃ n, n ≤ 60 ∧ datT n t ∧ datT n u ∧ P (.bl (neg ^^ eqT t u)) C
  | _, _ => match kvsT x C, kvsT y C with
    | some t, some u => ∃ n, n ≤ 60 ∧ datT n t ∧ datT n u ∧ P (.bl (neg ^^ eqT t u)) C
    | _, _ => False
theorem vp_of {F H : Hp} (ex : Ex F H) {κ : Type} [DecidableEq κ] {n : Nat} (hn : n ≤ 60) {vs : List (κ × V)} {t : List (κ × D)} (r : TP K F vs t) : datT n t → VP K H vs (pyT t) := by
  induction r with
  | nil => exact fun _ => .nil
  | @cons p q _ _ g _ ih => exact fun h => .cons ⟨g.1, rep_dp ex (h q List.mem_cons_self) _ g.2, dat_shaped (h q List.mem_cons_self) hn⟩ (ih fun z hz => h z (List.mem_cons_of_mem _ hz))
theorem s_eqDic {neg : Bool} : SimR K (rEqDic K neg) (dEqDic neg) := fun F C H x y dx dy P Q hs rx ry w k => by
  unfold dEqDic at w
  split at w
  · rename_i t u h1 h2
    obtain ⟨n, hn, d1, d2, w⟩ := w
    obtain ⟨a, vs, rfl, g1, g2⟩ := kvsK_rd hs rx h1
    obtain ⟨b, us, rfl, g3, g4⟩ := kvsK_rd hs ry h2
    refine ⟨a, b, rfl, rfl, .inl ⟨vs, us, pyT t, pyT u, g1, g3, vp_of hs.ex hn g2.pair d1, vp_of hs.ex hn g4.pair d2, ?_⟩⟩
    rw [eqP_py]
    exact k _ F H _ C (Ex.refl F) hs (.bl _) w
  · split at w
    · rename_i t u h1 h2
      obtain ⟨n, hn, d1, d2, w⟩ := w
      obtain ⟨a, vs, rfl, g1, g2⟩ := kvsT_rd hs rx h1
      obtain ⟨b, us, rfl, g3, g4⟩ := kvsT_rd hs ry h2
      refine ⟨a, b, rfl, rfl, .inr ⟨vs, us, pyT t, pyT u, g1, g3, vp_of hs.ex hn g2.pair d1, vp_of hs.ex hn g4.pair d2, ?_⟩⟩
      rw [eqP_py]
      exact k _ F H _ C (Ex.refl F) hs (.bl _) w
    · exact w.elim
theorem _root_.L2.Room.units3 {k : Nat} {A : Around} (r : L2.Room k A) : A.units + 66 < cLine := by have := r.un; omega
end
end DD

set_option Elab.async false
set_option linter.all false
set_option maxRecDepth 100000
set_option maxHeartbeats 4000000
/-! Dicts: displays. -/
namespace DD
open PySem L2 PyProof.Rows PySem.W

def wPairs : List (DE × DE) → DEnv → Cells → (List (D × D) → Cells → Prop) → DX → Prop
  | [], _, C, P, _ => P [] C
  | (k, v) :: r, ρ, C, P, PX => k ρ C (fun x C1 => v ρ C1 (fun y C2 => wPairs r ρ C2 (fun ps C3 => P ((x, y) :: ps) C3) PX) PX) PX
def pairsK : List (D × D) → Option (List (L2.Key × D))
  | [] => some []
  | (x, y) :: r => match keyOf x, pairsK r with
    | some k, some t => some ((k, y) :: t)
    | _, _ => none
def mergeD (t : List (L2.Key × D)) : List (L2.Key × D) → List (L2.Key × D)
  | [] => t
  | p :: r => mergeD (puD t p.1 p.2) r
def wDisp (ts : List (DE × DE)) (ρ : DEnv) (C : Cells) (P : DK) (PX : DX) : Prop := ∀ p, C p = none → wPairs ts ρ (cput C p (.dK [])) (fun ps C2 => C2 p = some (.dK []) ∧ match pairsK ps with
  | some t => t.length ≤ 15 ∧ P (.ptr p) (cput C2 p (.dK (mergeD [] t)))
  | none => False) PX
/-- a display that does not change any more -/
def wDispF (ts : List (DE × DE)) (ρ : DEnv) (C : Cells) (P : DK) (PX : DX) : Prop := ∀ p, C p = none → wPairs ts ρ (cput C p (.dK [])) (fun ps C2 => C2 p = some (.dK []) ∧ match pairsK ps with
  | some t => t.length ≤ 15 ∧ ∃ C3, Sub C3 C2 ∧ C3 p = none ∧ P (.dK (mergeD [] t)) C3
  | none => False) PX
section
variable {X : Cx} {W : WX} {K : PySem.W.Frag}
abbrev tPs (K : PySem.W.Frag) (W : WX) (ts : List (DE × DE)) : List (TE × TE) := ts.map fun p => (tE K W p.1, tE K W p.2)
theorem pairs_ok {F : Hp} {t : List (L2.Key × D)} : ∀ {vs : List (V × V)} {ps : List (D × D)} {t : List (L2.Key × D)}, Paired (fun p q => Rep K F p.1 q.1 ∧ Rep K F p.2 q.2) vs ps → pairsK ps = some t → ∃ ks : List (L2.Key × V), vs = ks.map (fun kv => (kV kv.1, kv.2)) ∧ TP K F ks t
  | [], [], t, .nil, h => by cases h; exact ⟨[], rfl, .nil⟩
  | p :: _, (x, y) :: ps, t, .cons g r, h => by
    simp only [pairsK] at h
    split at h
    · rename_i k t' hk ht
      cases h
      obtain ⟨ks, e, z⟩ := pairs_ok (t := t') r ht
      refine ⟨(k, p.2) :: ks, ?_, .cons ⟨rfl, g.2⟩ z⟩
      rw [List.map_cons, ← e, ← key_rep g.1 hk]
    · cases h
theorem tp_merge {F : Hp} : ∀ {more : List (L2.Key × V)} {t : List (L2.Key × D)} {vs : List (L2.Key × V)} {u : List (L2.Key × D)}, TP K F more t → TP K F vs u → TP K F (mergeK vs more) (mergeD u t)
  | [], [], vs, u, .nil, q => q
  | p :: more, d :: t, vs, u, .cons g r, q => by
    show TP K F (mergeK (putK vs p.1 p.2) more) (mergeD (puD u d.1 d.2) t)
    exact tp_merge r (by rw [g.1]; exact tp_put q _ g.2)
theorem i_pairs {F0 : Hp} : ∀ {ts : List (DE × DE)} {σ : L2.St} {H : Hp} {F : Hp} {C : Cells} {ρ : DEnv} {P : List (D × D) → Cells → Prop} {PX : DX} {Q : List (V × V) → Hp → Prop}, Hs K F C H → EnvR K F σ ρ → ExR K F W PX → wPairs ts ρ C P PX →
    (∀ vs F' H' ps C', Ex F F' → Hs K F' C' H' → Paired (fun p q => Rep K F' p.1 q.1 ∧ Rep K F' p.2 q.2) vs ps → P ps C' → Q vs H') → tPairs (tPs K W ts) σ H Q
  | [], σ, H, F, C, ρ, P, PX, Q, hs, en, xr, w, k => k [] F H [] C (Ex.refl F) hs .nil w
  | (a, b) :: ts, σ, H, F, C, ρ, P, PX, Q, hs, en, xr, w, k =>
    ⟨F, C, ρ, _, PX, hs, en, xr, w, fun x F1 H1 dx C1 e1 h1 rx q => ⟨F1, C1, ρ, _, PX, h1, en.mono e1, xr.mono e1, q, fun y F2 H2 dy C2 e2 h2 ry q2 =>
      i_pairs (F0 := F0) h2 (en.mono (e1.trans e2)) (xr.mono (e1.trans e2)) q2 fun vs F3 H3 ps C3 e3 h3 r3 q3 =>
        k ((x, y) :: vs) F3 H3 ((dx, dy) :: ps) C3 ((e1.trans e2).trans e3) h3 (.cons ⟨rx.mono (e2.trans e3), ry.mono e3⟩ r3) q3⟩⟩
variable {pos : Pos} {keys : List (Option Expr)} {values : List Expr} {ts : List (DE × DE)}
theorem dps_nil : PPs X pos [] [] (tPs X.K W []) := pps_nil
theorem dps_cons {k v : Expr} {ks : List (Option Expr)} {vs : List Expr} {wk wv : DE} (hk : PE X k (tE X.K W wk)) (hv : PE X v (tE X.K W wv)) (hr : PPs X pos ks vs (tPs X.K W ts)) : PPs X pos (some k :: ks) (v :: vs) (tPs X.K W ((wk, wv) :: ts)) := pps_cons hk hv hr
theorem d_disp (h : PPs X pos keys values (tPs X.K W ts)) (hall : keys.all (·.isSome) = true := by rfl) (hl : keys.length = values.length := by rfl) (h0 : keys ≠ [] := by exact fun z => by cases z) (h15 : keys.length ≤ 15 := by decide) : PE X (.Dict keys values pos) (tE X.K W (wDisp ts)) :=
  PE.imp (pe_disp h hall hl h0 h15) fun σ H Q ⟨F, C, ρ, P, PX, hs, en, xr, w, k⟩ => fun p hp => by
  obtain ⟨f0, c0⟩ := hs.fresh hp
  refine i_pairs (F0 := F) (hs.put (c := .dK []) f0 ⟨[], upd_same, .nil⟩) en xr (w p c0) fun vs F1 H1 ps C1 e1 h1 r q => ?_
  obtain ⟨hc, q⟩ := q
  obtain ⟨g0, us, g1, g2⟩ := h1.cell p _ hc
  cases g2
  refine ⟨g1, ?_⟩
  split at q
  · rename_i t ht
    obtain ⟨ks, e, z⟩ := pairs_ok (t := t) r ht
    refine ⟨ks, e, by rw [tp_len z]; exact q.1, k _ F1 _ _ _ e1 (h1.put (c := .dK (mergeD [] t)) g0 ⟨_, upd_same, RepK.of (tp_merge z .nil)⟩) (.ptr p) q.2⟩
  · exact q.elim
theorem d_dispF (h : PPs X pos keys values (tPs X.K W ts)) (hall : keys.all (·.isSome) = true := by rfl) (hl : keys.length = values.length := by rfl) (h0 : keys ≠ [] := by exact fun z => by cases z) (h15 : keys.length ≤ 15 := by decide) : PE X (.Dict keys values pos) (tE X.K W (wDispF ts)) :=
  PE.imp (pe_fz (pe_disp h hall hl h0 h15)) fun σ H Q ⟨F, C, ρ, P, PX, hs, en, xr, w, k⟩ => fun p hp => by
  obtain ⟨f0, c0⟩ := hs.fresh hp
  refine i_pairs (F0 := F) (hs.put (c := .dK []) f0 ⟨[], upd_same, .nil⟩) en xr (w p c0) fun vs F1 H1 ps C1 e1 h1 r q => ?_
  obtain ⟨hc, q⟩ := q
  obtain ⟨g0, us, g1, g2⟩ := h1.cell p _ hc
  cases g2
  refine ⟨g1, ?_⟩
  split at q
  · rename_i t ht
    obtain ⟨ks, e, z⟩ := pairs_ok (t := t) r ht
    obtain ⟨hz, C3, s3, n3, q⟩ := q
    refine ⟨ks, e, by rw [tp_len z]; exact hz, .inr ⟨p, _, upd_same, trivial, fun od => ?_⟩⟩
    have h2 : Hs X.K F1 C3 H1 := h1.sub s3
    obtain ⟨e4, h4⟩ := frz_dic (o := .dK (mergeK [] ks)) (C2 := C3) h2 g0 (Sub.refl _) n3 od
    rw [upd_upd]
    exact k _ _ _ _ _ (e1.trans e4) h4 (.dK upd_same ((RepK.of (tp_merge z .nil)).mono e4)) q
  · exact q.elim
end
end DD

set_option Elab.async false
set_option linter.all false
set_option maxRecDepth 100000
set_option maxHeartbeats 4000000
/-! xs == [], xs != [] of lists of anything. -/
namespace DD
open PySem L2 PyProof.Rows PySem.W

def rEmp (K : PySem.W.Frag) (neg : Bool) : R2 := fun x y H Q => ∃ a b xs, x = .ref a ∧ y = .ref b ∧ SqL K H a xs ∧ SqL K H b [] ∧ Q (.bl (neg ^^ xs.isEmpty)) H
section
variable {X : Cx}
theorem op_eqEmp (hu : X.A.units + 64 < cLine) : OpR X (compareOp .Eq) (rEmp X.K false) := by
  intro pins s σ H x y v u Q I rx ry h
  obtain ⟨a, b, xs, rfl, rfl, ha, hb, q⟩ := h
  cases xs with
  | nil => exact op_eqD hu pins s σ H _ _ _ _ Q I rx ry ⟨.list [], .list [], .lst ha .nil, .lst hb .nil, rfl, rfl, q⟩
  | cons z zs =>
    cases rx; cases ry
    obtain ⟨i1, r1, p1, _⟩ := I.list ha
    obtain ⟨i2, r2, p2, _⟩ := I.list hb
    cases r2
    have hl := r1.length
    exact SeqAt.RcAt.lists_lengths p1.isList p2.isList (by rw [List.size_toArray, ← hl]; simp) (by omega) _ _ _ _ ⟨.bl _, H, I, rfl, q⟩
theorem op_neEmp (hu : X.A.units + 64 < cLine) : OpR X (compareOp .NotEq) (rEmp X.K true) := by
  intro pins s σ H x y v u Q I rx ry h
  obtain ⟨a, b, xs, rfl, rfl, ha, hb, q⟩ := h
  cases xs with
  | nil => exact op_neD hu pins s σ H _ _ _ _ Q I rx ry ⟨.list [], .list [], .lst ha .nil, .lst hb .nil, rfl, rfl, q⟩
  | cons z zs =>
    cases rx; cases ry
    obtain ⟨i1, r1, p1, _⟩ := I.list ha
    obtain ⟨i2, r2, p2, _⟩ := I.list hb
    cases r2
    have hl := r1.length
    exact SeqAt.RcNeAt.lists_lengths p1.isList p2.isList (by rw [List.size_toArray, ← hl]; simp) (by omega) _ _ _ _ ⟨.bl _, H, I, rfl, q⟩
end
def dEmp (neg : Bool) (x : D) (y : D) (C : Cells) (P : DK) : Prop := match seqOf x C, seqOf y C with
  | some ds, some [] => P (.bl (neg ^^ ds.isEmpty)) C
  | _, _ => False
theorem s_emp {K : PySem.W.Frag} {neg : Bool} : SimR K (rEmp K neg) (dEmp neg) := fun F C H x y dx dy P Q hs rx ry w k => by
  unfold dEmp at w
  split at w
  · rename_i ds h1 h2
    obtain ⟨a, xs, rfl, g1, g2⟩ := seq_of hs rx h1
    obtain ⟨b, ys, rfl, g3, g4⟩ := seq_of hs ry h2
    cases g4
    refine ⟨a, b, xs, rfl, rfl, g1, g3, ?_⟩
    have : xs.isEmpty = ds.isEmpty := by cases g2 <;> rfl
    rw [this]
    exact k _ F H _ C (Ex.refl F) hs (.bl _) w
  · exact w.elim
end DD

set_option Elab.async false
set_option linter.all false
set_option maxRecDepth 100000
set_option maxHeartbeats 4000000
/-! Tools for tables: keys, equal tables. -/
namespace DD
open PySem L2
section
variable {κ : Type} [DecidableEq κ]
theorem mem_keys (k : κ) : ∀ t : List (κ × D), k ∈ t.map (·.1) ↔ (vaD t k).isSome = true
  | [] => by simp [vaD]
  | p :: t => by
    by_cases e : p.1 = k
    · rw [vaD_hit e, List.map_cons]; simp [e]
    · rw [vaD_miss e, List.map_cons, List.mem_cons, ← mem_keys k t]
      constructor
      · rintro (h | h)
        · exact absurd h.symm e
        · exact h
      · exact .inr
theorem vaD_mem {k : κ} {d : D} : ∀ {t : List (κ × D)}, vaD t k = some d → (k, d) ∈ t
  | p :: t, h => by
    by_cases e : p.1 = k
    · rw [vaD_hit e] at h
      cases h
      rw [← e]
      exact List.mem_cons_self
    · rw [vaD_miss e] at h
      exact List.mem_cons_of_mem _ (vaD_mem h)
theorem vaD_of_mem {k : κ} {d : D} : ∀ {t : List (κ × D)}, (t.map (·.1)).Nodup → (k, d) ∈ t → vaD t k = some d
  | p :: t, hn, h => by
    rw [List.map_cons, List.nodup_cons] at hn
    rcases List.mem_cons.mp h with h | h
    · subst h; exact vaD_hit rfl
    · have : ¬ p.1 = k := fun e => hn.1 (by rw [e]; exact List.mem_map.mpr ⟨_, h, rfl⟩)
      rw [vaD_miss this]
      exact vaD_of_mem hn.2 h
theorem puD_nodup {t : List (κ × D)} (k : κ) (d : D) (h : (t.map (·.1)).Nodup) : ((puD t k d).map (·.1)).Nodup := by
  unfold puD
  split
  · have : ((t.map fun p => if p.1 = k then (p.1, d) else p).map (·.1)) = t.map (·.1) := by
      rw [List.map_map]
      refine List.map_congr_left fun p _ => ?_
      show (if p.1 = k then (p.1, d) else p).1 = p.1
      split <;> rfl
    rw [this]; exact h
  · rename_i hno
    rw [List.map_append, List.nodup_append]
    refine ⟨h, by simp, fun a ha b hb => ?_⟩
    simp only [List.map_cons, List.map_nil, List.mem_cons, List.not_mem_nil, or_false] at hb
    subst hb
    intro e
    subst e
    rw [mem_keys, ← any_vaD] at ha
    exact hno ha
theorem drD_nodup {t : List (κ × D)} (k : κ) (h : (t.map (·.1)).Nodup) : ((drD t k).map (·.1)).Nodup := by
  unfold drD
  exact (List.Sublist.map (fun p : κ × D => p.1) (List.filter_sublist (p := fun p => decide (p.1 ≠ k)) (l := t))).nodup h
theorem nd_map {α β : Type} {f : α → β} : ∀ {L : List α}, L.Nodup → (∀ x ∈ L, ∀ y ∈ L, f x = f y → x = y) → (L.map f).Nodup
  | [], _, _ => List.nodup_nil
  | x :: L, hn, h => by
    rw [List.nodup_cons] at hn
    rw [List.map_cons, List.nodup_cons]
    refine ⟨fun hm => ?_, nd_map hn.2 fun a ha b hb => h a (List.mem_cons_of_mem _ ha) b (List.mem_cons_of_mem _ hb)⟩
    obtain ⟨y, hy, e⟩ := List.mem_map.mp hm
    have := h y (List.mem_cons_of_mem _ hy) x List.mem_cons_self e
    subst this
    exact hn.1 hy
/-- two tables that answer alike are equal -/
theorem keys_perm {t u : List (κ × D)} (ht : (t.map (·.1)).Nodup) (hu : (u.map (·.1)).Nodup) (h : ∀ k, (vaD t k).isSome = (vaD u k).isSome) : (t.map (·.1)).Perm (u.map (·.1)) :=
  (List.perm_ext_iff_of_nodup ht hu).mpr fun k => by rw [mem_keys, mem_keys, h k]
theorem eqT_of {t u : List (κ × D)} {n : Nat} (ht : (t.map (·.1)).Nodup) (hu : (u.map (·.1)).Nodup) (hd : datT n t) (h : ∀ k, vaD t k = vaD u k) : eqT t u = true := by
  unfold eqT
  have hl : t.length = u.length := by
    have := (keys_perm ht hu fun k => by rw [h k]).length_eq
    rwa [List.length_map, List.length_map] at this
  rw [hl, beq_self_eq_true, Bool.true_and, List.all_eq_true]
  intro p hp
  unfold hitD
  rw [← h p.1, vaD_of_mem (d := p.2) ht hp]
  exact eqb_self (hd p hp)
/-- a table written by a list -/
theorem vaD_map {α : Type} {key : α → κ} {val : α → D} {a : α} : ∀ {Z : List α}, (∀ x ∈ Z, key x = key a → x = a) → a ∈ Z → vaD (Z.map fun x => (key x, val x)) (key a) = some (val a)
  | z :: Z, hi, h => by
    rw [List.map_cons]
    by_cases e : key z = key a
    · have := hi z List.mem_cons_self e
      subst this
      exact vaD_hit (p := (key z, val z)) rfl
    · rw [vaD_miss (p := (key z, val z)) e]
      refine vaD_map (fun x hx => hi x (List.mem_cons_of_mem _ hx)) ?_
      rcases List.mem_cons.mp h with h | h
      · subst h; exact absurd rfl e
      · exact h
theorem vaD_map_none {α : Type} {key : α → κ} {val : α → D} {k : κ} : ∀ {Z : List α}, (∀ x ∈ Z, key x ≠ k) → vaD (Z.map fun x => (key x, val x)) k = none
  | [], _ => rfl
  | z :: Z, h => by
    rw [List.map_cons, vaD_miss (p := (key z, val z)) (h z List.mem_cons_self)]
    exact vaD_map_none fun x hx => h x (List.mem_cons_of_mem _ hx)
end
end DD

set_option Elab.async false
set_option linter.all false
set_option maxRecDepth 100000
set_option maxHeartbeats 4000000
/-! min of a list of texts. -/
namespace DD
open PySem L2 PyProof.Rows PySem.W
def ltS (x y : Str) : Bool := dataLt (.str x) (.str y)
def minS : List Str → Str
  | [] => ⟨#[]⟩
  | z :: r => r.foldl (fun a y => if ltS y a then y else a) z
theorem minD_strs (z : Str) : ∀ zs : List Str, minD (.str z) (zs.map .str) = .str (zs.foldl (fun a y => if ltS y a then y else a) z)
  | [] => rfl
  | y :: r => by
    have h1 := minD_strs y r
    have h2 := minD_strs z r
    unfold minD at h1 h2 ⊢
    rw [List.map_cons, List.foldl_cons, List.foldl_cons]
    by_cases g : ltS y z = true
    · rw [if_pos g, if_pos (show dataLt (.str y) (.str z) = true from g)]; exact h1
    · rw [if_neg g, if_neg (show ¬ dataLt (.str y) (.str z) = true from g)]; exact h2
theorem strs_readsAll {h : Heap} : ∀ {zs : List Str} {us : List Value}, Vals (zs.map V.str) us → ReadsAll h us (zs.map PyData.str) []
  | [], _, .nil => .nil
  | z :: zs, _, .cons a b => by
    obtain ⟨t, rfl⟩ := (show ∃ t, _ = Value.str z t from a)
    exact .cons (.str z t) (strs_readsAll b)
theorem depth_strs : ∀ zs : List Str, PyData.depthAll (zs.map PyData.str) = 0
  | [] => rfl
  | z :: zs => by rw [List.map_cons]; simp [PyData.depthAll, PyData.depth, depth_strs zs]
def rMinS (K : PySem.W.Frag) : List V → Hp → VK → Prop := fun xs H Q => ∃ a zs, xs = [.ref a] ∧ SqL K H a (zs.map V.str) ∧ zs ≠ [] ∧ Q (.str (minS zs)) H
theorem cr_minS {X : Cx} (hc : X.calm = true) (hu : X.A.units + 64 < cLine) : CallR X (.builtin "min") (rMinS X.K) := by
  intro pins s σ H xs us Q I r h
  obtain ⟨a, zs, rfl, hs, hne, q⟩ := h
  rw [Vals.ref1 r]
  obtain ⟨its, rv, hl, _⟩ := I.list hs
  cases zs with
  | nil => exact absurd rfl hne
  | cons z zs =>
    refine min_list_data (I.ok.hd hc) hl.isList (xs := zs.map .str) (x := .str z) (as := []) (by simpa using strs_readsAll (zs := z :: zs) rv) ⟨?_, ?_⟩ ?_ fun i v h' tk bs hv hr hk => ?_
    · intro x hx y hy
      rw [← List.map_cons (f := PyData.str)] at hx hy
      obtain ⟨x', _, rfl⟩ := List.mem_map.mp hx
      obtain ⟨y', _, rfl⟩ := List.mem_map.mp hy
      simp [alike]
    · intro x hx
      rw [← List.map_cons (f := PyData.str)] at hx
      obtain ⟨x', _, rfl⟩ := List.mem_map.mp hx
      exact fun e => by cases e
    · rw [← List.map_cons (f := PyData.str), depth_strs]; omega
    · rw [minD_strs] at hr
      have hx : ∃ t, v = Value.str (minS (z :: zs)) t := by
        cases hr
        exact ⟨_, rfl⟩
      exact ⟨.str _, H, I.kept hk, hx, q⟩
def dMinS (ds : List D) (C : Cells) (P : DK) : Prop := match ds with
  | [x] => ∃ zs, seqOf x C = some (zs.map D.str) ∧ zs ≠ [] ∧ P (.str (minS zs)) C
  | _ => False
theorem s_minS {K : PySem.W.Frag} : SimA K (rMinS K) dMinS := fun F C H xs ds P Q hs r w k => by
  unfold dMinS at w
  split at w
  · obtain ⟨v, rfl, r1⟩ := r.one
    obtain ⟨zs, hz, hne, w⟩ := w
    obtain ⟨a, us, rfl, h2, h3⟩ := seq_of hs r1 hz
    rw [h3.of_strs] at h2
    exact ⟨a, zs, rfl, h2, hne, k _ F H _ C (Ex.refl F) hs (.str _) w⟩
  · exact w.elim
theorem leD_str (x y : Str) : leD (.str x) (.str y) = !ltS y x := by
  unfold leD ltS
  rw [dataLe_eq]
  simp [D.py]
end DD

set_option Elab.async false
set_option linter.all false
set_option maxRecDepth 100000
set_option maxHeartbeats 4000000
/-! Comprehensions over a dict's keys. -/
namespace DD
open PySem L2
theorem cput_self {C : Cells} {a : Addr} {c : Cell} (h : C a = some c) : cput C a c = C := by
  funext b
  unfold cput
  split
  · rename_i e; rw [e, h]
  · rfl
/-- a dict with these entries, data or a cell -/
def DicAt (x : D) (C : Cells) (t : List (L2.Key × D)) : Prop := x = .dK t ∨ ∃ a, x = .ptr a ∧ C a = some (.dK t)
theorem DicAt.sub {x : D} {C C' : Cells} {t : List (L2.Key × D)} (h : DicAt x C t) (s : Sub C C') : DicAt x C' t := by
  rcases h with h | ⟨a, h, g⟩
  · exact .inl h
  · exact .inr ⟨a, h, s _ _ g⟩
theorem DicAt.kvs {x : D} {C : Cells} {t : List (L2.Key × D)} (h : DicAt x C t) : kvsK x C = some t := by
  rcases h with rfl | ⟨a, rfl, g⟩
  · rfl
  · simp only [kvsK, g]
theorem pVar_of {ρ : DEnv} {C : Cells} {i : Nat} {x : D} (h : ρ[i]? = some (some x)) : pVar i ρ C = some x := by unfold pVar; rw [h]
theorem wVar_of {ρ : DEnv} {C : Cells} {P : DK} {PX : DX} {i : Nat} {x : D} (h : ρ[i]? = some (some x)) : wVar i ρ C P PX = P x C := by unfold wVar; rw [h]
theorem lc_keys {t : List (L2.Key × D)} {st : Cells → Prop} {j : Nat} {wt : DT} {we : DE} {vs : List Nat} {C1 : Cells} {ρ : DEnv} {P : DK} (p : L2.Key × D → Bool) (val : L2.Key × D → D) (hf : ∀ C', Sub C1 C' → st C') (hn : t.length ≤ 100000)
    (hwt : ∀ e ∈ t, ∀ C' (Q : Bool → Cells → Prop), Sub C1 C' → Q (p e) C' → wt ((dwipe ρ vs).set j (some (keyD e.1))) C' Q noX)
    (hwe : ∀ e ∈ t, ∀ C' (Q : DK), Sub C1 C' → Q (val e) C' → we ((dwipe ρ vs).set j (some (keyD e.1))) C' Q noX)
    (hP : P (.lst ((t.filter p).map val)) C1) : LcG ⟨t.map fun e => keyD e.1, st⟩ (.name j) wt we vs ρ C1 P := by
  refine lc_map (enc := fun e : L2.Key × D => keyD e.1) (fun e => if p e = true then some (val e) else none) hf hn (fun k e C' Q hk hs hQ => ?_) ?_
  · have he := List.mem_of_getElem? hk
    simp only [Tgt.dg]
    refine hwt e he C' _ hs ?_
    cases hp : p e with
    | true =>
      rw [if_pos rfl]
      refine hwe e he C' _ hs ?_
      rw [hp, if_pos rfl] at hQ
      exact hQ
    | false =>
      rw [if_neg (by decide)]
      rw [hp, if_neg (by decide)] at hQ
      exact hQ
  · have : (t.filterMap fun e => if p e = true then some (val e) else none) = (t.filter p).map val := by
      clear hwt hwe hP hn
      induction t with
      | nil => rfl
      | cons e t ih =>
        rw [List.filterMap_cons, List.filter_cons, ih]
        cases hp : p e <;> simp
    rw [this]
    exact hP
theorem lck_gen {t : List (L2.Key × D)} {x : D} {C : Cells} {ρ : DEnv} {P : DK} {PX : DX} {i j : Nat} {wt : DT} {we : DE} {vs : List Nat} (hx : DicAt x C t) (hi : ρ[i]? = some (some x)) (p : L2.Key × D → Bool) (val : L2.Key × D → D) (hn : t.length ≤ 100000)
    (hwt : ∀ e ∈ t, ∀ C' (Q : Bool → Cells → Prop), kvsK x C' = some t → Q (p e) C' → wt ((dwipe ρ vs).set j (some (keyD e.1))) C' Q noX)
    (hwe : ∀ e ∈ t, ∀ C' (Q : DK), kvsK x C' = some t → Q (val e) C' → we ((dwipe ρ vs).set j (some (keyD e.1))) C' Q noX)
    (hP : P (.lst ((t.filter p).map val)) C) : wLockE (pVar i) (wLc (wItK (wVar i)) (.name j) wt we vs) ρ C P PX := by
  rcases hx with rfl | ⟨a, rfl, ha⟩
  · unfold wLockE
    rw [pVar_of hi]
    show wLc _ _ _ _ _ ρ C P PX
    unfold wLc wItK
    rw [wVar_of hi]
    exact lc_keys p val (fun _ _ => trivial) hn (fun e he C' Q _ h => hwt e he C' Q rfl h) (fun e he C' Q _ h => hwe e he C' Q rfl h) hP
  · unfold wLockE
    rw [pVar_of hi]
    dsimp only
    rw [ha]
    intro od ws
    unfold wLc wItK
    rw [wVar_of hi]
    dsimp only
    rw [cput_same]
    have hk : ∀ C', Sub (cput C a (.lK t od ws)) C' → kvsK (.ptr a) C' = some t := fun C' s => by
      have := s a _ cput_same
      simp only [kvsK, this]
    refine lc_keys p val (fun C' s => s a _ cput_same) hn (fun e he C' Q s h => hwt e he C' Q (hk C' s) h) (fun e he C' Q s h => hwe e he C' Q (hk C' s) h) ⟨cput_same, ?_⟩
    rw [cput_cput, cput_self ha]
    exact hP
theorem lockS_set {g : Pth} {m : Nat} {w : DE} {E : DEnds} {ρ : DEnv} {C : Cells} (h : wLockE g w ρ C (fun d C1 => E.nx (ρ.set m (some d)) C1) E.ex) : wLockS g (wSet m w) E ρ C := by
  unfold wLockE at h
  unfold wLockS
  split at h
  · rename_i a e
    split at h
    all_goals exact h
  · exact h
/-- a loop over items while something stays as it is -/
theorem for_mapS {α : Type} {L : List α} {enc : α → D} {st : Cells → Prop} {t : Tgt} {b : DS} {E : DEnds} {ρ : DEnv} {C : Cells} (Inv : Nat → DEnv → Cells → Prop) (h0 : Inv 0 ρ C) (hst : ∀ k ρ' C', Inv k ρ' C' → st C')
    (hs : ∀ (k : Nat) x ρ' C', L[k]? = some x → Inv k ρ' C' → match t.dg (enc x) ρ' with
      | some ρ2 => b { nx := Inv (k + 1), ct := Inv (k + 1), bk := E.nx, rt := E.rt, ex := E.ex } ρ2 C'
      | none => False)
    (hd : ∀ ρ' C', Inv L.length ρ' C' → E.nx ρ' C') : ForG ⟨L.map enc, st⟩ t b E ρ C := by
  refine ⟨Inv, h0, hst, fun k d ρ' C' hk hI => ?_, fun ρ' C' hI => hd ρ' C' (by simp only [List.length_map] at hI; exact hI)⟩
  simp only [List.getElem?_map] at hk
  cases hL : L[k]? with
  | none => rw [hL] at hk; cases hk
  | some x =>
    rw [hL] at hk
    cases hk
    exact hs k x ρ' C' hL hI
end DD

set_option Elab.async false
set_option linter.all false
set_option maxRecDepth 100000
set_option maxHeartbeats 4000000
/-! Texts: +, <, >, <=, >=, x * n, cuts; a def as a value, called by a local name. -/
namespace DD
open PySem L2
section
variable {K : PySem.W.Frag}
def dCatX (x y : D) (C : Cells) (P : DK) : Prop := match x, y with
  | .str i, .str j => i.length + j.length ≤ 100000 ∧ P (.str (i ++ j)) C
  | _, _ => False
theorem line_ge : 100000 ≤ sizeLine := by rw [sizeLine_eq]; omega
theorem s_catX : SimR K (fun x y H Q => ∃ i j, x = .str i ∧ y = .str j ∧ i.length + j.length ≤ sizeLine ∧ Q (.str (i ++ j)) H) dCatX := fun F C H x y dx dy P Q hs rx ry w k => by
  revert w
  unfold dCatX
  split
  · rintro ⟨hl, w⟩
    cases rx; cases ry
    exact ⟨_, _, rfl, rfl, Nat.le_trans hl line_ge, k _ F H _ C (Ex.refl F) hs (.str _) w⟩
  · exact fun z => z.elim
/-- the order of texts, by their signs -/
def ltX (i j : Str) : Bool := decide (i.cps.toList < j.cps.toList)
def dCmpX (f : Str → Str → Bool) (x y : D) (C : Cells) (P : DK) : Prop := match x, y with
  | .str i, .str j => P (.bl (f i j)) C
  | _, _ => False
abbrev dLtX := dCmpX ltX
abbrev dGtX := dCmpX fun i j => ltX j i
abbrev dLeX := dCmpX fun i j => !ltX j i
abbrev dGeX := dCmpX fun i j => !ltX i j
theorem s_cmpX {f : Str → Str → Bool} : SimR K (fun x y H Q => ∃ i j, x = .str i ∧ y = .str j ∧ Q (.bl (f i j)) H) (dCmpX f) := fun F C H x y dx dy P Q hs rx ry w k => by
  revert w
  unfold dCmpX
  split
  · intro w
    cases rx; cases ry
    exact ⟨_, _, rfl, rfl, k _ F H _ C (Ex.refl F) hs (.bl _) w⟩
  · exact fun z => z.elim
theorem s_ltX : SimR K (fun x y H Q => ∃ i j, x = .str i ∧ y = .str j ∧ Q (.bl (decide (i.cps.toList < j.cps.toList))) H) dLtX := s_cmpX
theorem s_gtX : SimR K (fun x y H Q => ∃ i j, x = .str i ∧ y = .str j ∧ Q (.bl (decide (j.cps.toList < i.cps.toList))) H) dGtX := s_cmpX
theorem s_leX : SimR K (fun x y H Q => ∃ i j, x = .str i ∧ y = .str j ∧ Q (.bl (!decide (j.cps.toList < i.cps.toList))) H) dLeX := s_cmpX
theorem s_geX : SimR K (fun x y H Q => ∃ i j, x = .str i ∧ y = .str j ∧ Q (.bl (!decide (i.cps.toList < j.cps.toList))) H) dGeX := s_cmpX
/-- x * n -/
def repX (z : Str) (n : Nat) : Str := ⟨(List.replicate n z.cps).foldl (· ++ ·) #[]⟩
theorem repX_flat (z : Str) (n : Nat) : (repX z n).cps.toList = (List.replicate n z.cps.toList).flatten := by
  have h : ∀ (l : List (Array Nat)) (a : Array Nat), (l.foldl (· ++ ·) a).toList = a.toList ++ (l.map Array.toList).flatten := by
    intro l
    induction l with
    | nil => intro a; simp
    | cons x l ih => intro a; rw [List.foldl_cons, ih]; simp
  unfold repX
  rw [h]
  simp
def rRepX : V → V → Hp → VK → Prop := fun x y H Q => ∃ z k, x = .str z ∧ y = .int k ∧ 0 ≤ k ∧ k ≤ 1000 ∧ z.length ≤ 100 ∧ Q (.str (repX z k.toNat)) H
theorem op_repX {X : Cx} : OpR X (binaryOp .Mult) rRepX := by
  intro pins s σ H x y v u Q I rx ry h
  obtain ⟨z, k, rfl, rfl, h0, h1, hz, q⟩ := h
  obtain ⟨t, rfl⟩ := rx
  obtain ⟨t', rfl⟩ := ry
  refine P.mul_str ?_ (fun hk hg => ?_) (fun hk hg => ?_) ?_
  · have a1 : ¬ k < -(2 ^ 63 : Int) := by omega
    have a2 : ¬ k ≥ 2 ^ 63 := by omega
    rw [decide_eq_false a1, decide_eq_false a2]; rfl
  · have h3 : (1000 : Int) ≤ (2 ^ 63 - 1 : Int) / k := by
      rw [Int.le_ediv_iff_mul_le (by omega)]
      omega
    omega
  · have hm : z.length * k.toNat ≤ 100 * 1000 := Nat.mul_le_mul hz (by omega)
    have := line_ge
    unfold Builtin.Str.tooLong
    simp only [decide_eq_false_iff_not]
    omega
  · have hm : (repX z k.toNat).length ≤ 100000 := by
      have h4 : (repX z k.toNat).length = (repX z k.toNat).cps.toList.length := by rw [Array.length_toList]; rfl
      rw [h4, repX_flat]
      have h5 : ((List.replicate k.toNat z.cps.toList).flatten).length = k.toNat * z.length := by
        rw [List.length_flatten, List.map_replicate, List.sum_replicate_nat, Array.length_toList]; rfl
      rw [h5]
      exact Nat.le_trans (Nat.mul_le_mul (by omega : k.toNat ≤ 1000) hz) (by decide)
    by_cases hk : k < 1
    · rw [if_pos hk]
      have e : k.toNat = 0 := by omega
      rw [e] at q
      exact ⟨by decide, ⟨.str Str.empty, H, I.tok _, ⟨_, rfl⟩, q⟩⟩
    · rw [if_neg hk]
      by_cases hg : (k == 1 || z.length == 0) = true
      · rw [if_pos hg]
        have e : repX z k.toNat = z := by
          have h6 : (repX z k.toNat).cps.toList = z.cps.toList := by
            rw [repX_flat]
            simp only [Bool.or_eq_true, beq_iff_eq] at hg
            rcases hg with hg | hg
            · subst hg; simp
            · have : z.cps.toList = [] := List.length_eq_zero_iff.mp (by rw [Array.length_toList]; exact hg)
              rw [this]; simp
          have h7 : (repX z k.toNat).cps = z.cps := Array.toList_inj.mp h6
          cases z; cases hr : repX _ k.toNat; rw [hr] at h7; exact congrArg Str.mk h7
        rw [e] at q
        exact ⟨.str z, H, I, ⟨_, rfl⟩, q⟩
      · rw [if_neg hg]
        exact ⟨Nat.le_trans hm line_ge, ⟨.str (repX z k.toNat), H, I.tok _, ⟨_, rfl⟩, q⟩⟩
def dRepX (x y : D) (C : Cells) (P : DK) : Prop := match x, y with
  | .str z, .int k => (0 ≤ k ∧ k ≤ 1000 ∧ z.length ≤ 100) ∧ P (.str (repX z k.toNat)) C
  | _, _ => False
theorem s_repX : SimR K rRepX dRepX := fun F C H x y dx dy P Q hs rx ry w k => by
  revert w
  unfold dRepX
  split
  · rintro ⟨⟨h0, h1, h2⟩, w⟩
    cases rx; cases ry
    exact ⟨_, _, rfl, rfl, h0, h1, h2, k _ F H _ C (Ex.refl F) hs (.str _) w⟩
  · exact fun z => z.elim
/-- x[a:b] of a text -/
def wSlX (e : DE) (lo hi : DO) (ρ : DEnv) (C : Cells) (P : DK) (PX : DX) : Prop := e ρ C (fun x C1 => lo ρ C1 (fun l C2 => hi ρ C2 (fun h C3 => match x with
  | .str z => z.length ≤ 100000 ∧ P (.str (cutS z l h)) C3
  | _ => False) PX) PX) PX
theorem d_slX {X : Cx} {W : WX} {e : Expr} {lo hi : Option Expr} {we : DE} {wl wh : DO} {p2 pos : Pos} (he : PE X e (tE X.K W we)) (hl : PO X lo (tO X.K W wl)) (hh : PO X hi (tO X.K W wh)) : PE X (.Subscript e (.Slice lo hi none p2) pos) (tE X.K W (wSlX we wl wh)) :=
  PE.imp (pe_slice sl_str he hl hh) fun σ H Q ⟨F, C, ρ, P, PX, hs, en, xr, w, k⟩ =>
  ⟨F, C, ρ, _, PX, hs, en, xr, w, fun v F1 H1 x C1 e1 h1 rv q => ⟨F1, C1, ρ, _, PX, h1, en.mono e1, xr.mono e1, q, fun l F2 H2 C2 e2 h2 q2 => ⟨F2, C2, ρ, _, PX, h2, en.mono (e1.trans e2), xr.mono (e1.trans e2), q2, fun h F3 H3 C3 e3 h3 q3 => by
    cases rv <;> first | exact q3.elim | exact ⟨_, rfl, Nat.le_trans q3.1 line_ge, k _ F3 H3 _ C3 ((e1.trans e2).trans e3) h3 (.str _) q3.2⟩⟩⟩⟩
end
/-! ### a def as a value, called by a local name -/
section
variable {X : Cx} {W : WX} {pos p : Pos} {x : Str} {e : Expr} {es : List Expr} {wr : DA} {i : Nat}
theorem d_fnV {f : Addr} (hm : X.mg x = some (.ref f)) (hg : Gl X x := by rfl) (hd : (x == ("__debug__" : Str)) = false := by decide) : PE X (.Name x pos) (tE X.K W (wC (.ptr f))) :=
  d_glob hg hm (v := .ref f) rfl (fun _ => .ptr f) hd
def wCallV (ok : List Addr) (RV : Addr → DSpX) (i : Nat) (wr : DA) (ρ : DEnv) (C : Cells) (P : DK) (PX : DX) : Prop := match (ρ[i]? : Option (Option D)) with
  | some (some (.ptr a)) => a ∈ ok ∧ wr ρ C (fun ds C1 => RV a ds C1 P (fun cls fs C3 => PX cls fs ρ C3)) PX
  | _ => False
theorem d_callV {ok : List Addr} {RV : Addr → DSpX} (tk : Takes X W) (hk : ∀ a, a ∈ ok → PySem.W.keepIn X.K (.ref a) = true)
    (G : ∀ a ds C P PX, RV a ds C P PX → ∃ (R : DSpX) (k : Nat) (fd : FuncData) (ps : List Str), R ds C P PX ∧ FnOk X.prog X.w X.K X.mg X.base (L2.CX X.prog X.w) k a fd ps (spX X.K R) ∧ Room k X.A ∧ Binds X.K fd ps [])
    (hN : X.N[i]? = some x) (hv : Vis X.env.scope x) (ha : PA X (e :: es) (tA X.K W wr)) (hdb : (x == ("__debug__" : Str)) = false := by decide) (hcd : (x == ("__classdict__" : Str)) = false := by decide)
    (he : starEach (e :: es) X.env = (false, eval e X.env) :: starEach es X.env := by rfl) (hpl : (backTo pos (starEach es X.env)).any (·.1) = false := by rfl) :
    PE X (.Call (.Name x p) (e :: es) [] pos) (tE X.K W (wCallV ok RV i wr)) := by
  refine ⟨fun pins s σ H Q I ⟨F, C, ρ, P, PX, hs, en, xr, w, kk⟩ => ?_⟩
  revert w
  show (match (ρ[i]? : Option (Option D)) with | some (some (.ptr a)) => _ | _ => False) → _
  split
  · rename_i a hp
    rintro ⟨hok, w⟩
    obtain ⟨v, hvσ, rv⟩ := en.2 i _ hp
    cases rv
    refine wpAny_Call_Name_kw (wpAny_mono ((pe_var hN hv hdb hcd).run pins s σ H (fun v H1 => v = V.ref a ∧ H1 = H) I ⟨_, hvσ, rfl, rfl⟩) (fun u s1 ⟨v, H1, I1, r, ev, eH⟩ => ?_) (fun _ _ z => z))
    subst ev
    subst eH
    have eu : u = .ref a := r
    subst eu
    refine PySem.W.callWith_K (h₀ := X.base) I1.ok.mod.kin (hk a hok) (thn (ha.run pos pins s1 σ H1 (fun vs H2 => ∃ F1 C1 ds, Ex F F1 ∧ Hs X.K F1 C1 H2 ∧ RepL X.K F1 vs ds ∧ RV a ds C1 P (fun cls fs C3 => PX cls fs ρ C3)) I1
      ⟨F, C, ρ, _, PX, hs, en, xr, w, fun vs F1 H2 ds C1 e1 h1 r q => ⟨F1, C1, ds, e1, h1, r, q⟩⟩) fun us s2 ⟨vs, H2, I2, r2, F1, C1, ds, e1, h1, rr, q⟩ => ⟨I2.kIn, ?_⟩) he hpl
    obtain ⟨R, k, fd, ps, hq, hF, hr, hb⟩ := G a ds C1 P _ q
    have hz := run_fnSD (E := WE W) hF hr hb (ds := []) (dvs := []) .nil (passAt tk σ) I2 r2 (Q := Q) (by
      rw [List.append_nil]
      exact ⟨F1, C1, ds, P, _, h1, rr, hq, kk.mono e1, KontX.of (xr.mono e1) (en.mono e1)⟩)
    simpa using hz
  · exact fun z => z.elim
end
end DD

set_option Elab.async false
set_option linter.all false
set_option maxRecDepth 100000
set_option maxHeartbeats 4000000
/-! sorted(xs, key=f), f a def of the program that raises nothing and changes nothing. -/
namespace DD
open PySem L2 PyProof.Rows PySem.W

/-- the order by keys -/
def leK (key : D → D) (a b : D) : Bool := leD (key a) (key b)
def wSortK (R : DSp) (e : DE) (ρ : DEnv) (C : Cells) (P : DK) (PX : DX) : Prop := e ρ C (fun x C1 => match seqOf x C1 with
  | some ds => ∃ key : D → D, SortsD (ds.map key) ∧ (∀ d ∈ ds, R [d] C1 fun r C2 => r = key d ∧ Sub C1 C2) ∧ P (.lst (ds.mergeSort (leK key))) C1
  | none => False) PX
/-- the heap without the object at a -/
def gone (h : Heap) (a : Addr) : Heap := h.update a fun o => { o with data := .freed }
theorem gone_ne {h : Heap} {a b : Addr} (e : b ≠ a) : (gone h a).get? b = h.get? b := Heap.get?_update_ne _ _ _ _ e
theorem gone_at {h : Heap} {a : Addr} : (gone h a).get? a = none := by
  cases h with
  | mk objs life =>
    unfold gone Heap.update Heap.get?
    simp only [Array.getElem?_modify]
    cases objs[a]? <;> simp
theorem Hs.aside {K : PySem.W.Frag} {F H : Hp} {C : Cells} {p : Addr} {o : HO} (h : Hs K F C H) (hp : H p = none) : Hs K F C (upd H p o) := by
  obtain ⟨f0, c0⟩ := h.fresh hp
  refine ⟨fun a u e => ?_, fun a c e => ?_⟩
  · rw [upd_ne (ne_of_none e f0)]
    exact h.ex a u e
  · obtain ⟨f1, r⟩ := h.cell a c e
    exact ⟨f1, r.at (upd_ne (cell_ne e c0))⟩
section
variable {X : Cx} {W : WX} {k : Nat} {f : Addr} {fd : FuncData} {q : Str} {R : DSp} {pins : List (Addr × Obj)} {σ : L2.St} {H F : Hp} {C : Cells} {s : Shared}
/-- what stands while the keys are made -/
structure Mid (X : Cx) (pins : List (Addr × Obj)) (σ : L2.St) (F : Hp) (C : Cells) (ks : List D) (a b : Addr) (e1 : Nat) (s' : Shared) (F' H' : Hp) (ys : List Value) (e : Nat) (vs : List V) : Prop where
  iv : Inv X pins σ H' s'
  ex : Ex F F'
  hs : Hs X.K F' C H'
  va : Vals vs ys
  rp : RepL X.K F' vs ks
  na : H' a = none
  nb : H' b = none
  ga : s'.heap.get? a = some (seqObj "list" #[] e1)
  gb : s'.heap.get? b = some (seqObj "list" ys.toArray e)
theorem vals_get : ∀ {vs : List V} {us : List Value} {i : Nat} {v : V}, Vals vs us → vs[i]? = some v → ∃ u, us[i]? = some u ∧ RelV v u
  | _, _, _, _, .nil, e => by simp at e
  | _, _, 0, _, .cons h _, e => by simp at e; subst e; exact ⟨_, rfl, h⟩
  | _, _, i + 1, _, .cons _ r, e => by
    obtain ⟨u, h1, h2⟩ := vals_get (i := i) r (by simpa using e)
    exact ⟨u, by simpa using h1, h2⟩
theorem vals_getU : ∀ {vs : List V} {us : List Value} {i : Nat} {u : Value}, Vals vs us → us[i]? = some u → ∃ v, vs[i]? = some v ∧ RelV v u
  | _, _, _, _, .nil, e => by simp at e
  | _, _, 0, _, .cons h _, e => by simp at e; subst e; exact ⟨_, rfl, h⟩
  | _, _, i + 1, _, .cons _ r, e => by
    obtain ⟨u, h1, h2⟩ := vals_getU (i := i) r (by simpa using e)
    exact ⟨u, by simpa using h1, h2⟩
theorem vals_snoc {vs : List V} {us : List Value} {v : V} {u : Value} (r : Vals vs us) (h : RelV v u) : Vals (vs ++ [v]) (us ++ [u]) := r.append (.cons h .nil)
/-- the pairs of values and data that an item stands for -/
theorem each_zipD : ∀ {xs : List V} {ds : List D} {vs : List Value}, Vals xs vs → RepL X.K F xs ds → EachIs (fun v (b : V × D) => RelV b.1 v ∧ Rep X.K F b.1 b.2) vs (xs.zip ds)
  | _, _, _, .nil, .nil => .nil
  | _, _, _, .cons r t, .cons d e => .cons ⟨r, d⟩ (each_zipD t e)
theorem each_valsD : ∀ {bs : List (V × D)} {vs : List Value}, EachIs (fun v (b : V × D) => RelV b.1 v ∧ Rep X.K F b.1 b.2) vs bs → Vals (bs.map Prod.fst) vs ∧ RepL X.K F (bs.map Prod.fst) (bs.map Prod.snd)
  | _, _, .nil => ⟨.nil, .nil⟩
  | _, _, .cons r t => ⟨.cons r.1 (each_valsD t).1, .cons r.2 (each_valsD t).2⟩
/-- one key -/
theorem key_turn {a b : Addr} {e1 e : Nat} {s' : Shared} {F' H' : Hp} {ys : List Value} {vs : List V} {ks : List D} {v : V} {u : Value} {d kd : D}
    (G : FnOk X.prog X.w X.K X.mg X.base CX0 k f fd [q] (spD X.K R)) (hr : Room (k + 2) X.A) (hb : Binds X.K fd [q] []) (M : Mid X pins σ F C ks a b e1 s' F' H' ys e vs)
    (hfa : a ∉ frs X.stack) (hfb : b ∉ frs X.stack) (rv : Rep X.K F v d) (ru : RelV v u) (w : R [d] C fun r C2 => r = kd ∧ Sub C C2) :
    wpAny (model X.prog X.w) X.A.in1.in1 (call (.ref f) [u]) (fun y s'' => ∃ F'' H'' z, Mid X pins σ F C ks a b e1 s'' F'' H'' ys e vs ∧ RelV z y ∧ Rep X.K F'' z kd) (fun _ _ => False) s' := by
  have I := M.iv
  refine wpAny_call (codeAny_mono (G.run X.A.in1.in1 X.stack s' H' ⟨[u], []⟩ [u] [v] (fun z H'' => ∃ F'' C2, Ex F' F'' ∧ Hs X.K F'' C2 H'' ∧ Rep X.K F'' z kd ∧ Sub C C2) E0 (Room.in1 (Room.in1 hr)) I.env0.in1.in1 ?_ (.cons ru .nil) ?_) fun r s'' hq => ?_)
  · have := hb s' [u] I.kIn (by simp)
    simpa using this
  · exact ⟨F', C, [d], _, M.hs, .cons (rv.mono M.ex) .nil, w, fun z F2 H2 dz C2 e2 h2 rz q2 => ⟨F2, C2, e2, h2, by rw [← q2.1]; exact rz, q2.2⟩⟩
  · cases r with
    | error e => exact hq.elim
    | ok fl =>
      cases fl with
      | next => exact False.elim hq
      | brk => exact False.elim hq
      | cont => exact False.elim hq
      | ret y =>
        obtain ⟨z, H2, os, bare, un, hok, ry, F2, C2, e2, h2, rz, sb⟩ := hq
        exact ⟨F2, H2, z, ⟨I.call' (ch := []) os un hok bare (fun _ z => nomatch z), M.ex.trans e2, h2.sub sb, M.va, M.rp.mono e2, un.free a _ M.ga M.na (by simp), un.free b _ M.gb M.nb (by simp), un.keep a _ M.ga M.na hfa (by simp), un.keep b _ M.gb M.nb hfb (by simp)⟩, ry, rz⟩
theorem key_sort {xs : List V} {ds : List D} {l : Addr} {key : D → D} {Q : VK} (I : Inv X pins σ H s) (hs : Hs X.K F C H) (hl : SqL X.K H l xs) (r : RepL X.K F xs ds)
    (G : FnOk X.prog X.w X.K X.mg X.base CX0 k f fd [q] (spD X.K R)) (hr : Room (k + 2) X.A) (hb : Binds X.K fd [q] []) (S : SortsD (ds.map key)) (hk : ∀ d ∈ ds, R [d] C fun r C2 => r = key d ∧ Sub C C2)
    (kq : ∀ F' H' v, Ex F F' → Hs X.K F' C H' → Rep X.K F' v (.lst (ds.mergeSort (leK key))) → Q v H') :
    wpAny (model X.prog X.w) X.A (call (.builtin "sorted") [.ref l] [(Str.ofString "key", .ref f)]) (EP X pins σ Q) X.xe s := by
  obtain ⟨its, rv, pl, hz⟩ := I.list hl
  have hlen : its.length = xs.length := rv.length.symm
  have hld : xs.length = ds.length := r.length
  have zL : its.length ≤ sizeLine := by omega
  refine sorted_of_sort pl.isList zL (ksk_s1 _ _) (fun _ => ksk_l1 _ _) fun E' => ?_
  rw [ksk_t1]
  have c0 := copyHeap_at s.heap its
  obtain ⟨e1, c1⟩ : ∃ e1, ((copyHeap s.heap its).update (s.heap.objs.size + 1) (Obj.mapSeq fun _ => (#[] : Array Value))).get? (s.heap.objs.size + 1) = some (seqObj "list" #[] e1) := ⟨_, get?_update_seq c0 fun _ => #[]⟩
  have za : s.heap.objs.size + 1 < (copyHeap s.heap its).objs.size := Heap.lt_size c0
  unfold ksk_tree
  refine wpAny_bind (listItems_at c0 rfl ?_)
  refine wpAny_bind (listUpdate_at c0 rfl ?_ (by rw [List.size_toArray]; exact zL) (Nat.zero_le _))
  refine wpAny_bind (seqEpoch_at c1 rfl ?_)
  refine wpAny_bind (wpAny_newTuple ?_ (by show its.length ≤ _; exact zL))
  refine wpAny_bind (wpAny_newList ?_ (Nat.zero_le _))
  refine wpAny_holding ?_
  show wpAny _ _ (ksk_rest (s.heap.objs.size + 1) (.ref f) false its.toArray e1 (.ref (((copyHeap s.heap its).update (s.heap.objs.size + 1) (Obj.mapSeq fun _ => (#[] : Array Value))).push (seqObj "tuple" its.toArray 0)).objs.size)) _ _ { s with heap := sortingHeap (copyHeap s.heap its) (s.heap.objs.size + 1) its }
  have zb : (((copyHeap s.heap its).update (s.heap.objs.size + 1) (Obj.mapSeq fun _ => (#[] : Array Value))).push (seqObj "tuple" its.toArray 0)).objs.size = (copyHeap s.heap its).objs.size + 1 := by rw [size_push', Heap.size_update]
  have ga : (sortingHeap (copyHeap s.heap its) (s.heap.objs.size + 1) its).get? (s.heap.objs.size + 1) = some (seqObj "list" #[] e1) := Heap.get?_push_of_some _ (Heap.get?_push_of_some _ c1)
  have gb : (sortingHeap (copyHeap s.heap its) (s.heap.objs.size + 1) its).get? (((copyHeap s.heap its).update (s.heap.objs.size + 1) (Obj.mapSeq fun _ => (#[] : Array Value))).push (seqObj "tuple" its.toArray 0)).objs.size = some (seqObj "list" (([] : List Value).toArray) 0) := Heap.get?_push_size _ rfl
  rw [zb] at gb ⊢
  generalize ea : s.heap.objs.size + 1 = a at *
  generalize eb : (copyHeap s.heap its).objs.size + 1 = b at *
  have hab : b ≠ a := by omega
  have la : s.heap.objs.size ≤ a := by omega
  have lb : s.heap.objs.size ≤ b := by omega
  have hfa : a ∉ frs X.stack := fun z => by
    rcases List.mem_cons.mp (I.stkSub a z) with z | z
    · exact absurd z (Nat.ne_of_gt (Nat.lt_of_lt_of_le I.lt la))
    · exact I.nofs la z
  have hfb : b ∉ frs X.stack := fun z => by
    rcases List.mem_cons.mp (I.stkSub b z) with z | z
    · exact absurd z (Nat.ne_of_gt (Nat.lt_of_lt_of_le I.lt lb))
    · exact I.nofs lb z
  have I0 : Inv X pins σ H { s with heap := sortingHeap (copyHeap s.heap its) a its } := I.kept fun c u e => by
    rw [← ea]
    exact sorting_copy_old e
  have M0 : Mid X pins σ F C [] a b e1 { s with heap := sortingHeap (copyHeap s.heap its) a its } F H [] 0 [] := ⟨I0, Ex.refl F, hs, .nil, .nil, I.hok.fresh la, I.hok.fresh lb, ga, gb⟩
  generalize ({ s with heap := sortingHeap (copyHeap s.heap its) a its } : Shared) = s2 at *
  unfold ksk_rest
  refine wpAny_bind (wpAny_rule ?_)
  rw [List.forIn_toArray]
  refine wpAny_bind (ksk_fold (fun i s' => ∃ F' H' ys e vs, Mid X pins σ F C ((ds.take i).map key) a b e1 s' F' H' ys e vs) its 0 s2 ⟨F, H, [], 0, [], M0⟩ (fun j u s' hu hM => ?_) fun s' hM => ?_)
  · obtain ⟨F', H', ys, e, vs, M⟩ := hM
    obtain ⟨v, hv, ru⟩ := vals_getU rv hu
    obtain ⟨d, hd, rd⟩ := r.getV hv
    have hmem : d ∈ ds := List.mem_of_getElem? hd
    rw [Nat.zero_add] at M ⊢
    have ly : ys.length ≤ its.length := by
      rw [← M.va.length, M.rp.length, List.length_map, List.length_take]
      omega
    refine wpAny_bind (wpAny_attempt (wpAny_mono (key_turn G hr hb M hfa hfb rd ru (hk d hmem)) (fun y s'' hy => ?_) fun _ _ z => z.elim))
    obtain ⟨F2, H2, z, N, ry, rz⟩ := hy
    have g2 := N.gb
    obtain ⟨ep, g3⟩ : ∃ ep, (s''.heap.update b (Obj.mapSeq fun xs => xs.push y)).get? b = some (seqObj "list" (ys ++ [y]).toArray ep) := ⟨_, by
      have h := get?_update_seq g2 fun xs => xs.push y
      have e3 : ys.toArray.push y = (ys ++ [y]).toArray := by simp
      rw [e3] at h
      exact h⟩
    refine wpAny_bind (listUpdate_at g2 rfl ?_ (by rw [List.size_toArray]; omega) (by rw [Array.size_push, List.size_toArray]; omega))
    have old : ∀ c o, c ≠ b → s''.heap.get? c = some o → (s''.heap.update b (Obj.mapSeq fun xs => xs.push y)).get? c = some o := fun c o hc e => (Heap.get?_update_ne _ _ _ _ hc).trans e
    refine wpAny_pure ⟨rfl, F2, H2, ys ++ [y], ep, vs ++ [z], ?_⟩
    have e2 : (ds.take (j + 1)).map key = (ds.take j).map key ++ [key d] := by rw [List.take_add_one, hd]; simp
    rw [e2]
    refine ⟨N.iv.turned (it := b) (t' := s''.toks) old N.nb (Nat.ne_of_gt (Nat.lt_of_lt_of_le I.lt lb)) (.inr (Nat.le_trans I.sz lb)) (fun x c ec z => ?_) (fun p hp z => ?_), N.ex, N.hs, vals_snoc N.va ry, N.rp.append (.cons rz .nil), N.na, N.nb, old a _ (Ne.symm hab) N.ga, g3⟩
    · obtain ⟨w0, o, ho, _⟩ := I.cell x c ec
      exact absurd z (Nat.ne_of_lt (Nat.lt_of_lt_of_le (Heap.lt_size ho) lb))
    · exact absurd z (Nat.ne_of_lt (Nat.lt_of_lt_of_le (Heap.lt_size (I.pin p hp).1) lb))
  · obtain ⟨F', H', ys, e, vs, M⟩ := hM
    have et : ds.take (0 + its.length) = ds := List.take_of_length_le (by omega)
    rw [et] at M
    have ly : ys.length = its.length := by
      rw [← M.va.length, M.rp.length, List.length_map]
      omega
    obtain ⟨⟨n, hn, hdat⟩, hal, hok⟩ := S
    have hrd := each_reads M.iv M.va (dpAll_of (n := n) (fun d hd v r => rep_dp M.hs.ex (hdat d hd) v r) M.rp)
    have lk : vs.length = ((ds.map key).map D.py).length := by rw [M.rp.length]; simp
    have hkz : EachIs (fun v k => ∃ as, Reads s'.heap v k as) ys ((ds.map key).map D.py) := by
      have h1 := each_map (R := fun v k => ∃ as, Reads s'.heap v k as) Prod.snd hrd
      rw [pys_map, zip_snd lk] at h1
      exact h1
    refine wpAny_bind (listItems_at M.gb rfl ?_)
    refine keyH_end (κ := dataKind s'.heap ((ds.map key).map D.py)) (h₁ := gone s'.heap b) (fun c o hc ec => ?_) gone_at M.gb M.ga hab ?_ (by rw [List.size_toArray]; exact ly) zL fun h3 tk3 c3 k3 n3 => ⟨rfl, ?_⟩
    · by_cases z : c = b
      · rw [z, gone_at] at ec; cases ec
      · rw [gone_ne z] at ec; exact ec
    · refine SortsAt.data hkz hal hok fun d hd => ?_
      rw [List.mem_map] at hd
      obtain ⟨d', hd', rfl⟩ := hd
      have := (dat_lay (hdat d' hd')).2
      have := hr.un
      show X.A.units + 1 + 1 + _ < cLine
      omega
    · have ko : KeyedOut false ((xs.zip ds).map fun p => (key p.2).py) its (sortVals (dataKind s'.heap ((ds.map key).map D.py)) false ys its) := by
        have e5 : (xs.zip ds).map (fun p : V × D => (key p.2).py) = (ds.map key).map D.py := by
          rw [List.map_map]
          have e6 : ds = (xs.zip ds).map Prod.snd := (List.map_snd_zip (by omega)).symm
          conv => rhs; rw [e6]
          rw [List.map_map]
          rfl
        rw [e5]
        exact ⟨s'.heap, ys, hal, rfl, hkz⟩
      have ke := keyedOut_each (R := fun v (p : V × D) => RelV p.1 v ∧ Rep X.K F p.1 p.2) (bs := xs.zip ds) (fun p => (key p.2).py) ko (each_zipD rv r)
      obtain ⟨kv, kr⟩ := each_valsD ke
      have e7 : ((xs.zip ds).mergeSort (dataLe false fun p => (key p.2).py)).map Prod.snd = ds.mergeSort (leK key) := by
        have e6 : ds = (xs.zip ds).map Prod.snd := (List.map_snd_zip (by omega)).symm
        conv => rhs; rw [e6]
        exact List.map_mergeSort (r := dataLe false fun p : V × D => (key p.2).py) (s := leK key) (f := Prod.snd) fun _ _ _ _ => rfl
      rw [e7] at kr
      generalize ((xs.zip ds).mergeSort (dataLe false fun p => (key p.2).py)).map Prod.fst = zs at kv kr
      have lz : zs.length ≤ sizeLine := by rw [kr.length, List.length_mergeSort]; omega
      have hm : ∀ c u, H' c = some u → c ≠ a ∧ c ≠ b := fun c u z => ⟨fun y => (by rw [y, M.na] at z; cases z), fun y => (by rw [y, M.nb] at z; cases z)⟩
      have kp : ∀ c o, c ≠ a → c ≠ b → s'.heap.get? c = some o → h3.get? c = some o := fun c o z1 z2 z => k3 c o z1 (by rw [gone_ne z2]; exact z)
      have n4 : h3.get? a = some { cls := .type "list", data := .seq (sortVals (dataKind s'.heap ((ds.map key).map D.py)) false ys its).toArray c3 } := n3
      have hok3 : HOk X.prog X.w (upd H' a (.lst zs)) h3 := fun c u hc => by
        by_cases z : c = a
        · subst z
          rw [upd_same] at hc
          cases hc
          exact ⟨lz, _, c3, kv, n4⟩
        · rw [upd_ne z] at hc
          refine (M.iv.hok c u hc).stay (fun g o hg eg => ?_) (fun g hg => by rw [upd_ne (hm g _ hg).1]; exact hg) fun g o hg => by rw [upd_ne (hm g _ hg).1]; exact hg
          rcases hg with rfl | hg
          · exact kp g o (hm g _ hc).1 (hm g _ hc).2 eg
          · exact kp g o (hm g _ hg).1 (hm g _ hg).2 eg
      have un3 : Un (frs X.stack) [a, b] H' (upd H' a (.lst zs)) s'.heap h3 := by
        have nm : ∀ c : Addr, c ∉ [a, b] → c ≠ a ∧ c ≠ b := fun c h => by simpa [not_or] using h
        refine ⟨fun c o e1 e2 _ h => kp c o (nm c h).1 (nm c h).2 e1, fun c o e1 e2 _ h => ⟨o.slots, kp c o (nm c h).1 (nm c h).2 e1⟩, fun c o e1 e2 h => by rw [upd_ne (nm c h).1]; exact e2, fun c o e1 h => ⟨o, kp c o (nm c h).1 (nm c h).2 e1⟩, ?_, ?_, ?_⟩
        · intro c o hc
          rw [upd_ne (hm c _ hc).1]; exact hc
        · intro c o u hc
          rw [upd_ne (hm c _ hc).1]; exact hc
        · intro c ps hc
          exact ⟨#[], by rw [upd_ne (hm c _ hc).1, hc]; simp⟩
      have hs4 := (M.hs.aside (o := .lst zs) M.na)
      obtain ⟨e8, h8, r8⟩ := M.hs.newL (kr.mono M.ex) M.na
      have I9 : Inv X pins σ (upd H' a (.lst zs)) { s' with heap := h3, toks := tk3 } := M.iv.call' (ch := [a, b]) rfl un3 hok3 M.iv.bare fun c hc => by
        have hlc : s.heap.objs.size ≤ c := by
          simp only [List.mem_cons, List.not_mem_nil, or_false] at hc
          rcases hc with rfl | rfl <;> assumption
        refine ⟨.inr (Nat.le_trans I.sz hlc), Nat.ne_of_gt (Nat.lt_of_lt_of_le I.lt hlc), fun x c' ec z => ?_, fun p hp z => ?_⟩
        · obtain ⟨w0, o, ho, _⟩ := I.cell x c' ec
          exact absurd z (Nat.ne_of_lt (Nat.lt_of_lt_of_le (Heap.lt_size ho) hlc))
        · exact absurd z (Nat.ne_of_lt (Nat.lt_of_lt_of_le (Heap.lt_size (I.pin p hp).1) hlc))
      exact ⟨.ref a, _, I9, rfl, kq _ _ _ (M.ex.trans e8) h8 r8⟩
end
end DD

set_option Elab.async false
set_option linter.all false
set_option maxRecDepth 100000
set_option maxHeartbeats 4000000
/-! sorted(xs, key=f) as an expression; the truth of numbers, texts, lists and tuples; startswith. -/
namespace DD
open PySem L2 PyProof.Rows PySem.W

def rSortK (K : PySem.W.Frag) (f : Addr) (R : DSp) : List V → List V → Hp → VK → Prop := fun vs zs H Q => zs = [.ref f] ∧ ∃ l xs ds F C key, vs = [.ref l] ∧ Hs K F C H ∧ SqL K H l xs ∧ RepL K F xs ds ∧ SortsD (ds.map key) ∧
  (∀ d ∈ ds, R [d] C fun r C2 => r = key d ∧ Sub C C2) ∧ ∀ F' H' v, Ex F F' → Hs K F' C H' → Rep K F' v (.lst (ds.mergeSort (leK key))) → Q v H'
section
variable {X : Cx} {W : WX} {K : PySem.W.Frag} {k : Nat} {f : Addr} {fd : FuncData} {q : Str} {R : DSp} {e : Expr} {we : DE} {x fx : Str} {p p2 pos kp : Pos}
theorem cr_sortK (G : FnOk X.prog X.w X.K X.mg X.base CX0 k f fd [q] (spD X.K R)) (hr : Room (k + 2) X.A) (hb : Binds X.K fd [q] []) : CallRK X (.builtin "sorted") [Str.ofString "key"] (rSortK X.K f R) := by
  intro pins s σ H vs zs us ws Q I rv rz h
  obtain ⟨rfl, l, xs, ds, F, C, key, rfl, hs, hl, r, S, hk, kq⟩ := h
  obtain rfl := Vals.ref1 rv
  obtain ⟨w1, rfl, e1⟩ := vals1 rz
  obtain rfl : w1 = Value.ref f := e1
  exact key_sort I hs hl r G hr hb S hk kq
theorem d_sortK (G : FnOk X.prog X.w X.K X.mg X.base CX0 k f fd [q] (spD X.K R)) (hr : Room (k + 2) X.A) (hb : Binds X.K fd [q] []) (hm : X.mg fx = some (.ref f)) (hg : Gl X x) (hz : X.mg x = none) (hv : bootBuiltins x = some (.builtin "sorted")) (he : PE X e (tE X.K W we)) (hgf : Gl X fx := by rfl)
    (hn : x ≠ "__name__" := by decide) (hdb : (x == ("__debug__" : Str)) = false := by decide) (hdf : (fx == ("__debug__" : Str)) = false := by decide)
    (hse : starEach [e] X.env = (false, eval e X.env) :: starEach [] X.env := by rfl) (h1 : backTo pos (starEach [e] X.env) = (false, eval e X.env) :: backTo pos (starEach [] X.env) := by rfl) (hpl : (backTo pos (starEach [e] X.env)).any (·.1) = false := by rfl)
    (hall : (backToKw pos (keywordEach [⟨some (Str.ofString "key"), .Name fx p2, kp⟩] X.env)).all (·.1.isSome) = true := by rfl) (hnone : (backToKw pos (keywordEach [⟨some (Str.ofString "key"), .Name fx p2, kp⟩] X.env)).any (·.1.isNone) = false := by rfl)
    (hks : (backToKw pos (keywordEach [⟨some (Str.ofString "key"), .Name fx p2, kp⟩] X.env)).filterMap (·.1) = [Str.ofString "key"] := by rfl) :
    PE X (.Call (.Name x p) [e] [⟨some (Str.ofString "key"), .Name fx p2, kp⟩] pos) (tE X.K W (wSortK R we)) :=
  PE.imp (pe_callBK (cr_sortK G hr hb) hg hz hv (pa_cons he pa_nil hse) (pk_cons (pe_glob (v := .ref f) hgf hm rfl hdf) pk_nil) hn hdb h1 hpl hall hnone hks) fun σ H Q ⟨F, C, ρ, P, PX, hs, en, xr, w, kk⟩ => ⟨F, C, ρ, _, PX, hs, en, xr, w, fun v F1 H1 d C1 e1 h1 rv q => by
    revert q
    dsimp only
    split
    · rename_i ds hd
      rintro ⟨key, S, hk, q⟩
      obtain ⟨l, xs, rfl, hl, r⟩ := seq_of h1 rv hd
      exact ⟨rfl, l, xs, ds, F1, C1, key, rfl, h1, hl, r, S, hk, fun F' H' v e h r => kk v F' H' _ C1 (e1.trans e) h r q⟩
    · exact fun z => z.elim⟩
end
/-- a value's truth, over data -/
def truOf (x : D) (C : Cells) : Option Bool := match x with
  | .non => some false
  | .bl b => some b
  | .int i => some (i != 0)
  | .str z => if z.length ≤ 100000 then some ((z.length : Int) != 0) else none
  | x => (itsOf x C).map fun ds => !ds.isEmpty
def wTru (e : DE) (ρ : DEnv) (C : Cells) (P : Bool → Cells → Prop) (PX : DX) : Prop := e ρ C (fun x C1 => match truOf x C1 with
  | some k => P k C1
  | none => False) PX
theorem RepL.isEmpty {K : PySem.W.Frag} {F : Hp} {xs : List V} {ds : List D} (r : RepL K F xs ds) : xs.isEmpty = ds.isEmpty := by
  cases r <;> rfl
theorem tru_of {K : PySem.W.Frag} {F H : Hp} {C : Cells} {v : V} {x : D} {k : Bool} (hs : Hs K F C H) (r : Rep K F v x) (h : truOf x C = some k) : TruV K v H k := by
  have go : ∀ ds', itsOf x C = some ds' → k = !ds'.isEmpty → TruV K v H k := fun ds' e en => by
    obtain ⟨a, xs, rfl, h2, h3⟩ := its_of hs r e
    show (∃ xs, SqL K H a xs ∧ k = !xs.isEmpty) ∨ (∃ xs, SqT K H a xs ∧ k = !xs.isEmpty) ∨ _
    rcases h2 with h2 | h2
    · exact .inl ⟨xs, h2, by rw [en, h3.isEmpty]⟩
    · exact .inr (.inl ⟨xs, h2, by rw [en, h3.isEmpty]⟩)
  cases r <;> first
    | (simp only [truOf, Option.map_eq_some_iff] at h
       obtain ⟨ds', e1, e2⟩ := h
       exact go ds' e1 e2.symm)
    | (simp only [truOf, Option.some.injEq] at h
       exact h.symm)
    | (simp only [truOf] at h
       split at h
       · rename_i hz
         simp only [Option.some.injEq] at h
         exact ⟨sz_of hz, h.symm⟩
       · cases h)
theorem d_tru {X : Cx} {W : WX} {e : Expr} {we : DE} (he : PE X e (tE X.K W we)) (hi : ∀ whole, isTrue e X.env whole = (do let v ← whole; standAt e.pos; holding [v] (truthy v)) := by intro _; rfl) : PT X e (tT X.K W (wTru we)) :=
  PT.imp (pt_truth he hi) fun σ H Q ⟨F, C, ρ, P, PX, hs, en, xr, w, k⟩ => ⟨F, C, ρ, _, PX, hs, en, xr, w, fun v F1 H1 d C1 e1 h1 r q => by
    revert q
    dsimp only
    split
    · rename_i b hb
      exact fun q => ⟨b, tru_of h1 r hb, k b F1 H1 C1 e1 h1 q⟩
    · exact fun z => z.elim⟩
/-- s.startswith(t) -/
def dStarts (x : D) (ds : List D) (C : Cells) (P : DK) : Prop := match x, ds with
  | .str a, [.str b] => P (.bl (Txt.startswith a b)) C
  | _, _ => False
theorem s_starts {K : PySem.W.Frag} : SimM K (fun x xs H Q => ∃ a b, x = .str a ∧ xs = [.str b] ∧ Q (.bl (Txt.startswith a b)) H) dStarts := fun F C H x dx xs ds P Q hs rx rl w k => by
  revert w
  unfold dStarts
  split
  · rename_i a b
    intro w
    cases rx
    obtain ⟨v, rfl, r1⟩ := rl.one
    cases r1
    exact ⟨a, b, rfl, rfl, k _ F H _ C (Ex.refl F) hs (.bl _) w⟩
  · exact fun z => z.elim
end DD

set_option Elab.async false
set_option linter.all false
set_option maxRecDepth 100000
set_option maxHeartbeats 4000000
/-! Tables of plain values, and the dicts that hold them. -/
namespace DD
open PySem L2
section
variable {κ β : Type} [DecidableEq κ]
def lkA (t : List (κ × β)) (k : κ) : Option β := (t.find? fun p => decide (p.1 = k)).map fun p => p.2
def puA (t : List (κ × β)) (k : κ) (v : β) : List (κ × β) := if (t.any fun p => decide (p.1 = k)) = true then t.map (fun p => if p.1 = k then (p.1, v) else p) else t ++ [(k, v)]
theorem lkA_nil (k : κ) : lkA ([] : List (κ × β)) k = none := rfl
theorem lkA_cons (p : κ × β) (t : List (κ × β)) (k : κ) : lkA (p :: t) k = if p.1 = k then some p.2 else lkA t k := by
  unfold lkA
  rw [List.find?_cons]
  by_cases g : p.1 = k
  · rw [decide_eq_true g, if_pos g]; rfl
  · rw [decide_eq_false g, if_neg g]
theorem lkA_app (t u : List (κ × β)) (k : κ) : lkA (t ++ u) k = match lkA t k with
  | some v => some v
  | none => lkA u k := by
  induction t with
  | nil => rfl
  | cons p t ih =>
    rw [List.cons_append, lkA_cons, lkA_cons, ih]
    by_cases g : p.1 = k
    · rw [if_pos g, if_pos g]
    · rw [if_neg g, if_neg g]
theorem lkA_none {t : List (κ × β)} {k : κ} : lkA t k = none ↔ k ∉ t.map fun p => p.1 := by
  induction t with
  | nil => simp [lkA]
  | cons p t ih =>
    rw [lkA_cons, List.map_cons, List.mem_cons, not_or]
    by_cases g : p.1 = k
    · rw [if_pos g]; simp [g]
    · rw [if_neg g, ih]
      exact ⟨fun h => ⟨fun z => g z.symm, h⟩, fun h => h.2⟩
theorem lkA_some_mem {t : List (κ × β)} {k : κ} {v : β} (h : lkA t k = some v) : (k, v) ∈ t := by
  induction t with
  | nil => cases h
  | cons p t ih =>
    rw [lkA_cons] at h
    by_cases g : p.1 = k
    · rw [if_pos g] at h
      injection h with h
      rw [← g, ← h]
      exact List.mem_cons_self
    · rw [if_neg g] at h
      exact List.mem_cons_of_mem _ (ih h)
theorem lkA_mem {t : List (κ × β)} (nd : (t.map fun p => p.1).Nodup) {k : κ} {v : β} (h : (k, v) ∈ t) : lkA t k = some v := by
  induction t with
  | nil => cases h
  | cons p t ih =>
    rw [List.map_cons, List.nodup_cons] at nd
    rw [lkA_cons]
    rcases List.mem_cons.mp h with rfl | h
    · exact if_pos rfl
    · rw [if_neg (fun z => nd.1 (List.mem_map.mpr ⟨_, h, z.symm⟩))]
      exact ih nd.2 h
theorem puA_any {t : List (κ × β)} {k : κ} : (t.any fun p => decide (p.1 = k)) = (lkA t k).isSome := by
  induction t with
  | nil => rfl
  | cons p t ih =>
    rw [List.any_cons, lkA_cons, ih]
    by_cases g : p.1 = k
    · rw [decide_eq_true g, if_pos g]; rfl
    · rw [decide_eq_false g, if_neg g]; rfl
theorem lkA_map_put (t : List (κ × β)) (k k' : κ) (v : β) : lkA (t.map fun p => if p.1 = k then (p.1, v) else p) k' = if k' = k then (lkA t k).map fun _ => v else lkA t k' := by
  induction t with
  | nil => simp [lkA]
  | cons p t ih =>
    rw [List.map_cons, lkA_cons, ih, lkA_cons, lkA_cons]
    by_cases g : p.1 = k
    · simp only [if_pos g]
      by_cases g2 : k' = k
      · rw [if_pos g2, if_pos g2, if_pos (by rw [g, g2])]; rfl
      · rw [if_neg g2, if_neg (fun z => g2 (by rw [← z, g])), if_neg g2, if_neg (fun z => g2 (by rw [← z, g]))]
    · simp only [if_neg g]
      by_cases g2 : k' = k
      · rw [if_pos g2, if_neg (fun z => g (by rw [z, g2])), if_pos g2]
      · rw [if_neg g2, if_neg g2]
theorem lkA_pu (t : List (κ × β)) (k k' : κ) (v : β) : lkA (puA t k v) k' = if k' = k then some v else lkA t k' := by
  unfold puA
  rw [puA_any]
  cases h : lkA t k with
  | some w =>
    rw [Option.isSome_some, if_pos rfl, lkA_map_put, h]
    rfl
  | none =>
    rw [if_neg (by simp), lkA_app]
    by_cases g : k' = k
    · rw [if_pos g, g, h, lkA_cons, if_pos rfl]
    · rw [if_neg g, lkA_cons, if_neg (fun z => g z.symm), lkA_nil]
      cases lkA t k' <;> rfl
theorem puA_len (t : List (κ × β)) (k : κ) (v : β) : (puA t k v).length ≤ t.length + 1 := by
  unfold puA
  split <;> simp
theorem puA_keys (t : List (κ × β)) (k : κ) (v : β) : (puA t k v).map (fun p => p.1) = if (lkA t k).isSome = true then t.map (fun p => p.1) else t.map (fun p => p.1) ++ [k] := by
  unfold puA
  rw [puA_any]
  split
  · rw [List.map_map]
    refine List.map_congr_left fun p _ => ?_
    simp only [Function.comp]
    split <;> rfl
  · rw [List.map_append]; rfl
theorem puA_nodup {t : List (κ × β)} (h : (t.map fun p => p.1).Nodup) (k : κ) (v : β) : ((puA t k v).map fun p => p.1).Nodup := by
  rw [puA_keys]
  cases e : lkA t k with
  | some w => rw [Option.isSome_some, if_pos rfl]; exact h
  | none =>
    rw [if_neg (by simp)]
    refine List.nodup_append.mpr ⟨h, by simp, fun a ha b hb => ?_⟩
    rw [List.mem_singleton] at hb
    rw [hb]
    exact fun z => lkA_none.mp e (z ▸ ha)
variable {κ' : Type} [DecidableEq κ']
theorem va_tab (key : κ → κ') (inj : ∀ a b, key a = key b → a = b) (f : β → D) (k : κ) : ∀ t : List (κ × β), vaD (t.map fun p => (key p.1, f p.2)) (key k) = (lkA t k).map f
  | [] => rfl
  | p :: t => by
    have ih := va_tab key inj f k t
    rw [lkA_cons]
    unfold vaD at ih ⊢
    rw [List.map_cons, List.find?_cons]
    by_cases g : p.1 = k
    · rw [decide_eq_true (show key p.1 = key k by rw [g]), if_pos g]; rfl
    · rw [decide_eq_false (fun z => g (inj _ _ z)), if_neg g]
      exact ih
theorem pu_tab (key : κ → κ') (inj : ∀ a b, key a = key b → a = b) (f : β → D) (t : List (κ × β)) (k : κ) (v : β) : puD (t.map fun p => (key p.1, f p.2)) (key k) (f v) = (puA t k v).map fun p => (key p.1, f p.2) := by
  have e0 : ((t.map fun p => (key p.1, f p.2)).any fun p => decide (p.1 = key k)) = t.any fun p => decide (p.1 = k) := by
    rw [List.any_map]
    congr 1
    funext p
    exact decide_eq_decide.mpr ⟨fun z => inj _ _ z, fun z => congrArg key z⟩
  unfold puD puA
  rw [e0]
  split
  · rw [List.map_map, List.map_map]
    refine List.map_congr_left fun p _ => ?_
    simp only [Function.comp]
    by_cases g : p.1 = k
    · rw [if_pos g, if_pos (show key p.1 = key k by rw [g])]
    · rw [if_neg g, if_neg (fun z => g (inj _ _ z))]
  · rw [List.map_append]; rfl
end
end DD

set_option Elab.async false
set_option linter.all false
set_option maxRecDepth 100000
set_option maxHeartbeats 4000000
/-! Dicts whose keys are tuples: setdefault, {k: v}. Values handed back whole: what hangs below changes no more. -/
namespace DD
open PySem L2 PyProof.Rows PySem.W

section
variable {X : Cx} {pins : List (Addr × Obj)} {σ : L2.St} {H : Hp} {s : Shared} {a b : Addr} {A : Around} {E : Value → Shared → Prop}
theorem dt_laid {kvs : List (List L2.Key × V)} {ks : List L2.Key} {d : V} {h1 : Heap} {xs : List (List L2.Key × Addr × Value)} {n : Nat} (I : L2.Inv X pins σ H s) (e : H a = some (.dT kvs))
    (sb : Heap.SameBut a s.heap h1) (hd : (a == sysModules) = false) (l : (putK kvs ks d).length ≤ sizeLine) (rel : KT H (putK kvs ks d) xs) (dd : h1.DictOfH (tupleKind (mixKind X.prog X.w)) a xs) :
    L2.Inv X pins σ (upd H a (.dT (putK kvs ks d))) { s with heap := h1, toks := n } := by
  obtain ⟨q, es, ep, g1, g2, g3, g4, _, g5⟩ := dd
  have mu : Mut (H a) := e ▸ True.intro
  exact d_write I mu sb ⟨q, g1⟩ ⟨l, hd, xs, rel.keeps fun c ys ec => (upd_ne (ne_of ec e fun z => by cases z)).trans ec, q, es, ep, g1, g2, g3, g4, g5⟩
theorem d_setT {kvs : List (List L2.Key × V)} {ks : List L2.Key} {d : V} {r : Value} {Q : Value → Shared → Prop} (hu : A.units + 1 < cLine) (I : L2.Inv X pins σ H s) (e : H a = some (.dT kvs)) (eb : H b = some (.tup (ks.map kV)))
    (rd : RelV d r) (hl : kvs.length < sizeLine) (h1 : ∀ x, valV kvs ks = some x → ∀ w' s', L2.Inv X pins σ H s' → RelV x w' → Q w' s') (h2 : valV kvs ks = none → ∀ s', L2.Inv X pins σ (upd H a (.dT (putK kvs ks d))) s' → Q r s') :
    wpAny (model X.prog X.w) A (call (.builtin "dict.setdefault") [.ref a, .ref b, r]) Q E s := by
  obtain ⟨z, hd, xs, rel, dd⟩ := dt_of I.hok e
  have lx : xs.length ≤ sizeLine := (Paired.length rel) ▸ z
  have rv := rel.val ks
  refine call_setdefault_heap (hsz := lx) (tupleKind_room_in1 hu) (key_of I.hok eb) hd dd (fun p hp => ?_) fun hn h' dd' sb => ?_
  · rw [hp] at rv
    cases q : valV kvs ks with
    | none => rw [q] at rv; exact False.elim rv
    | some x => rw [q] at rv; exact h1 x q _ _ (I.tok _) rv
  · rw [hn] at rv
    cases q : valV kvs ks with
    | some x => rw [q] at rv; exact False.elim rv
    | none =>
      have l2 := length_putK kvs ks d
      exact h2 q _ (dt_laid I e sb hd (by omega) (rel.put ks eb rd) dd')
end
/-- x.setdefault(y, z), the keys tuples -/
def tSetT (td ty tx : TE) : TE := fun σ H Q => td σ H fun x H1 => ∃ a, x = .ref a ∧ IsD H1 a ∧ ty σ H1 fun y H2 => tx σ H2 fun z H3 => ∃ kvs ks b, H3 a = some (.dT kvs) ∧ y = .ref b ∧ H3 b = some (.tup (ks.map kV)) ∧ kvs.length < sizeLine ∧
  (∀ v, valV kvs ks = some v → Q v H3) ∧ (valV kvs ks = none → Q z (upd H3 a (.dT (putK kvs ks z))))
def wSetT (o k e : DE) (ρ : DEnv) (C : Cells) (P : DK) (PX : DX) : Prop := o ρ C (fun x C1 => isDic x C1 ∧ k ρ C1 (fun y C2 => e ρ C2 (fun z C3 => match x with
  | .ptr a => match C3 a with
    | some (.dT t) => match keysOf y with
      | some ks => t.length < 100000 ∧ match vaD t ks with
        | some d => P d C3
        | none => P z (cput C3 a (.dT (puD t ks z)))
      | none => False
    | _ => False
  | _ => False) PX) PX) PX
section
variable {X : Cx} {W : WX} {K : PySem.W.Frag} {o i e : Expr} {to ti tx : TE} {wo wi we : DE} {apos pos : Pos} {n : Nat}
theorem pe_setT (hu : X.A.units + 1 < cLine) (ho : PE X o to) (hi : PE X i ti) (he : PE X e tx) (m : M2 X o "setdefault" apos i e pos) : PE X (.Call (.Attribute o "setdefault" apos) [i, e] [] pos) (tSetT to ti tx) := ⟨fun pins s σ H Q I h => by
  refine wpAny_Call_method m.base m.few m.line PySem.F.plainAttrs_dict PySem.F.slot_dict_setdefault PySem.F.type_dict_setdefault (thn (ho.run pins s σ H _ I h) fun u s1 ⟨x, H1, I1, rx, a, ex, d, q1⟩ => ?_)
  cases ex
  cases (show u = Value.ref a from rx)
  have ⟨t1, t2, _⟩ := isD_at I1 d
  refine ⟨t1, t2, ?_⟩
  rw [m.trees]
  exact Calls.callWith_builtin rfl (Calls.evalArgs_plain (Calls.spliced_cons (thn (hi.run pins s1 σ H1 _ I1 q1) fun iv s2 ⟨y, H2, I2, ry, q2⟩ =>
    Calls.spliced_cons (thn (he.run pins s2 σ H2 _ I2 q2) fun ev s3 ⟨z, H3, I3, rz, kvs, ks, b, ea, ey, eb, hl, q3, q4⟩ => Calls.spliced_nil (by
      cases ey
      cases (show iv = Value.ref b from ry)
      exact d_setT hu I3 ea eb rz hl (fun v hv w' s4 I4 rw' => ⟨v, H3, I4, rw', q3 v hv⟩) fun hn s4 I4 => ⟨z, _, I4, rz, q4 hn⟩)))))⟩
theorem d_setdT (hr : Room n X.A) (ho : PE X o (tE X.K W wo)) (hi : PE X i (tE X.K W wi)) (he : PE X e (tE X.K W we)) (m : M2 X o "setdefault" apos i e pos := by exact ⟨rfl, rfl, rfl, rfl⟩) :
    PE X (.Call (.Attribute o "setdefault" apos) [i, e] [] pos) (tE X.K W (wSetT wo wi we)) := PE.imp (pe_setT (hu_of hr) ho hi he m) fun σ H Q ⟨F, C, ρ, P, PX, hs, en, xr, w, k⟩ =>
  ⟨F, C, ρ, _, PX, hs, en, xr, w, fun v F1 H1 x C1 e1 h1 rx q => by
    obtain ⟨qd, q⟩ := q
    obtain ⟨a, rfl, ha⟩ := isDic_rd h1 rx qd
    refine ⟨a, rfl, ha, F1, C1, ρ, _, PX, h1, en.mono e1, xr.mono e1, q, fun u F2 H2 y C2 e2 h2 ry q2 => ⟨F2, C2, ρ, _, PX, h2, en.mono (e1.trans e2), xr.mono (e1.trans e2), q2, fun z F3 H3 dz C3 e3 h3 rz q3 => ?_⟩⟩
    split at q3
    · rename_i a'
      cases rx
      split at q3
      · rename_i t hc
        split at q3
        · rename_i ks hk
          obtain ⟨f0, vs, g1, g2⟩ := h3.cell a _ hc
          obtain ⟨b, rfl, hb⟩ := keys_rep h3 (ry.mono e3) hk
          obtain ⟨hl, q3⟩ := q3
          have ee := (e1.trans e2).trans e3
          refine ⟨vs, ks, b, g1, rfl, hb, by rw [tp_len g2.pair]; exact sz_lt hl, fun v hv => ?_, fun hv => ?_⟩
          · rcases tp_val g2.pair ks with ⟨_, e5⟩ | ⟨v', d, e4, e5, rd⟩
            · rw [hv] at e5; cases e5
            · rw [hv] at e5
              cases e5
              rw [e4] at q3
              exact k v F3 H3 d C3 ee h3 rd q3
          · rcases tp_val g2.pair ks with ⟨e4, _⟩ | ⟨v', d, e4, e5, rd⟩
            · rw [e4] at q3
              exact k z F3 _ dz _ ee (h3.put (c := .dT (puD t ks dz)) f0 ⟨_, upd_same, RepT.of (tp_put g2.pair ks rz)⟩) rz q3
            · rw [hv] at e5; cases e5
        · exact q3.elim
      · exact q3.elim
    · exact q3.elim⟩
end

/-! ### {k: v}, the key a tuple -/
def tOneT (tk tv : TE) : TE := fun σ H Q => ∀ p, H p = none → tk σ (upd H p (.dT [])) fun y H1 => tv σ H1 fun z H2 => H2 p = some (.dT []) ∧ ∃ ks b, y = .ref b ∧ H2 b = some (.tup (ks.map kV)) ∧ Q (.ref p) (upd H2 p (.dT [(ks, z)]))
def wOneT (k v : DE) (ρ : DEnv) (C : Cells) (P : DK) (PX : DX) : Prop := ∀ p, C p = none → k ρ (cput C p (.dT [])) (fun y C1 => v ρ C1 (fun z C2 => C2 p = some (.dT []) ∧ match keysOf y with
  | some ks => P (.ptr p) (cput C2 p (.dT [(ks, z)]))
  | none => False) PX) PX
section
variable {X : Cx} {W : WX} {K : PySem.W.Frag} {k v : Expr} {tk tv : TE} {wk wv : DE} {pos : Pos} {n : Nat}
theorem pe_oneT (hu : X.A.units < cLine) (hk : PE X k tk) (hv : PE X v tv) : PE X (.Dict [some k] [v] pos) (tOneT tk tv) := ⟨fun pins s σ H Q I q => by
  have hn := I.hok.fresh (Nat.le_refl s.heap.objs.size)
  have I1 := I.laid (o := .dT []) (h' := s.heap.push { cls := .type "dict", data := .dict #[] }) (t' := s.toks) (fun _ _ q => Heap.get?_push_of_some _ q) (Nat.le_refl _) (dt_empty s.heap I.big)
  rw [arm_eval_Dict, zip_pairTrees [some k] [v] X.env pos rfl rfl, dictDisplay_pairs _ (fun z => by cases z) (Nat.lt_of_le_of_lt (Nat.le_of_eq (pairTrees_length [some k] [v] X.env pos rfl rfl)) (show 1 < 17 by decide))]
  refine wpAny_bind (wpAny_standAt (wpAny_bind (wpAny_subDictH (knd := tupleKind (mixKind X.prog X.w)) (show (tupleKind (mixKind X.prog X.w)).room X.A from hu) (Nat.le_trans (Nat.le_of_eq (pairTrees_length [some k] [v] X.env pos rfl rfl)) (show 1 ≤ 15 by decide)) ?_)))
  refine pairTrees_cons_walk (thn (hk.run pins _ σ _ _ I1 (q _ hn)) fun u s1 ⟨y, H1, I1, ry, q1⟩ => thn (hv.run pins s1 σ H1 _ I1 q1) fun w2 s2 ⟨z, H2, I2, rz, hp, ks, b, ey, eb, q2⟩ => pairTrees_nil_walk ?_)
  cases ey
  cases (show u = Value.ref b from ry)
  obtain ⟨z0, hd, xs, rel, dd⟩ := dt_of I2.hok hp
  cases rel
  refine ⟨[(ks, b, w2)], ⟨rfl, rfl, key_of I2.hok eb, True.intro⟩, dd, fun h' tk' dd' sb => wpAny_pure ⟨.ref s.heap.objs.size, _, dt_laid (kvs := []) (ks := ks) (d := z) I2 hp sb hd (by rw [sizeLine_eq]; exact (show 1 ≤ 16777216 by decide)) (.cons ⟨rfl, eb, rz⟩ .nil) dd', rfl, q2⟩⟩⟩
theorem d_oneT (hr : Room n X.A) (hk : PE X k (tE X.K W wk)) (hv : PE X v (tE X.K W wv)) : PE X (.Dict [some k] [v] pos) (tE X.K W (wOneT wk wv)) := PE.imp (pe_oneT (Nat.lt_of_succ_lt (hu_of hr)) hk hv) fun σ H Q ⟨F, C, ρ, P, PX, hs, en, xr, w, kk⟩ => fun p hp => by
  obtain ⟨f0, c0⟩ := hs.fresh hp
  refine ⟨F, _, ρ, _, PX, hs.put (c := .dT []) f0 ⟨[], upd_same, .nil⟩, en, xr, w p c0, fun y F1 H1 dy C1 e1 h1 ry q => ⟨F1, C1, ρ, _, PX, h1, en.mono e1, xr.mono e1, q, fun z F2 H2 dz C2 e2 h2 rz q2 => ?_⟩⟩
  obtain ⟨hc, q2⟩ := q2
  obtain ⟨g0, us, g1, g2⟩ := h2.cell p _ hc
  cases g2
  refine ⟨g1, ?_⟩
  split at q2
  · rename_i ks hk
    obtain ⟨b, rfl, hb⟩ := keys_rep h2 (ry.mono e2) hk
    exact ⟨ks, b, rfl, hb, kk _ F2 _ _ _ (e1.trans e2) (h2.put (c := .dT [(ks, dz)]) g0 ⟨_, upd_same, .cons rz .nil⟩) (.ptr p) q2⟩
  · exact q2.elim
end
end DD

set_option Elab.async false
set_option linter.all false
set_option maxRecDepth 100000
set_option maxHeartbeats 4000000
/-! Values handed back whole: the cells below change no more. -/
namespace DD
open PySem L2 PyProof.Rows PySem.W

mutual
/-- d, with the cells of S read as data -/
inductive Deep (S : Addr → Prop) (C : Cells) : D → D → Prop
  | refl (d : D) : Deep S C d d
  | ptrL {a : Addr} {ds es : List D} : S a → C a = some (.lst ds) → DeepL S C ds es → Deep S C (.ptr a) (.lst es)
  | ptrI {a Cl : Addr} {ds es : List (String × D)} : S a → C a = some (.ins Cl ds) → DeepF S C ds es → Deep S C (.ptr a) (.ins Cl es)
  | lst {ds es : List D} : DeepL S C ds es → Deep S C (.lst ds) (.lst es)
  | tup {ds es : List D} : DeepL S C ds es → Deep S C (.tup ds) (.tup es)
  | ins {Cl : Addr} {ds es : List (String × D)} : DeepF S C ds es → Deep S C (.ins Cl ds) (.ins Cl es)
inductive DeepL (S : Addr → Prop) (C : Cells) : List D → List D → Prop
  | nil : DeepL S C [] []
  | cons {d e : D} {ds es : List D} : Deep S C d e → DeepL S C ds es → DeepL S C (d :: ds) (e :: es)
inductive DeepF (S : Addr → Prop) (C : Cells) : List (String × D) → List (String × D) → Prop
  | nil : DeepF S C [] []
  | cons {f : String} {d e : D} {ds es : List (String × D)} : Deep S C d e → DeepF S C ds es → DeepF S C ((f, d) :: ds) ((f, e) :: es)
end
theorem DeepL_refl {S : Addr → Prop} {C : Cells} : ∀ ds : List D, DeepL S C ds ds
  | [] => .nil
  | d :: r => .cons (.refl d) (DeepL_refl r)
theorem DeepF_refl {S : Addr → Prop} {C : Cells} : ∀ ds : List (String × D), DeepF S C ds ds
  | [] => .nil
  | (_, d) :: r => .cons (.refl d) (DeepF_refl r)
inductive DeepT {κ : Type} (S : Addr → Prop) (C : Cells) : List (κ × D) → List (κ × D) → Prop
  | nil : DeepT S C [] []
  | cons {k : κ} {d e : D} {ds es : List (κ × D)} : Deep S C d e → DeepT S C ds es → DeepT S C ((k, d) :: ds) ((k, e) :: es)
inductive DeepC (S : Addr → Prop) (C : Cells) : Cell → Cell → Prop
  | refl (c : Cell) : DeepC S C c c
  | lst {ds es : List D} : DeepL S C ds es → DeepC S C (.lst ds) (.lst es)
  | ins {Cl : Addr} {ds es : List (String × D)} : DeepF S C ds es → DeepC S C (.ins Cl ds) (.ins Cl es)
  | dK {ds es : List (L2.Key × D)} : DeepT S C ds es → DeepC S C (.dK ds) (.dK es)
  | dT {ds es : List (List L2.Key × D)} : DeepT S C ds es → DeepC S C (.dT ds) (.dT es)
open Classical in
/-- what is known of the heap when S is known too -/
noncomputable def deepH (S : Addr → Prop) (F H : Hp) : Hp := fun a => if S a then H a else F a
section
variable {K : PySem.W.Frag} {F H : Hp} {C C2 : Cells} {S : Addr → Prop}
theorem deep_ex (h : Ex F H) : Ex F (deepH S F H) := fun a o q => by
  unfold deepH
  split
  · exact h a o q
  · exact .inl q
theorem deep_in {a : Addr} (s : S a) : deepH S F H a = H a := by unfold deepH; rw [if_pos s]
mutual
theorem Deep.rep (h : Hs K F C H) : ∀ {v : V} {d e : D}, Rep K F v d → Deep S C d e → Rep K (deepH S F H) v e
  | _, _, _, r, .refl _ => r.mono (deep_ex h.ex)
  | _, _, _, r, .ptrL s hc l => by
    cases r
    obtain ⟨_, xs, h1, h2⟩ := h.cell _ _ hc
    exact .lst (.of ((deep_in s).trans h1)) (DeepL.rep h h2 l)
  | _, _, _, r, .ptrI s hc l => by
    cases r
    obtain ⟨_, dx, xs, h1, h2⟩ := h.cell _ _ hc
    exact .ins ((deep_in s).trans h1) (DeepF.rep h h2 l)
  | _, _, _, r, .lst l => by
    cases r with
    | lst q r => exact .lst (ex_l (deep_ex h.ex) q) (DeepL.rep h r l)
  | _, _, _, r, .tup l => by
    cases r with
    | tup q r => exact .tup ((deep_ex h.ex).nd q rfl) (DeepL.rep h r l)
  | _, _, _, r, .ins l => by
    cases r with
    | ins q r => exact .ins ((deep_ex h.ex).nd q rfl) (DeepF.rep h r l)
theorem DeepL.rep (h : Hs K F C H) : ∀ {v : List V} {d e : List D}, RepL K F v d → DeepL S C d e → RepL K (deepH S F H) v e
  | _, _, _, r, .nil => by cases r; exact .nil
  | _, _, _, r, .cons l m => by
    cases r with
    | cons a b => exact .cons (Deep.rep h a l) (DeepL.rep h b m)
theorem DeepF.rep (h : Hs K F C H) : ∀ {v : List (Str × V)} {d e : List (String × D)}, RepF K F v d → DeepF S C d e → RepF K (deepH S F H) v e
  | _, _, _, r, .nil => by cases r; exact .nil
  | _, _, _, r, .cons l m => by
    cases r with
    | cons a b => exact .cons (Deep.rep h a l) (DeepF.rep h b m)
end
theorem DeepT.repK (h : Hs K F C H) {d e : List (L2.Key × D)} (l : DeepT S C d e) : ∀ {v : List (L2.Key × V)}, RepK K F v d → RepK K (deepH S F H) v e := by
  induction l with
  | nil => intro v r; cases r; exact .nil
  | cons l _ ih => intro v r; cases r with
    | cons a b => exact .cons (l.rep h a) (ih b)
theorem DeepT.repT (h : Hs K F C H) {d e : List (List L2.Key × D)} (l : DeepT S C d e) : ∀ {v : List (List L2.Key × V)}, RepT K F v d → RepT K (deepH S F H) v e := by
  induction l with
  | nil => intro v r; cases r; exact .nil
  | cons l _ ih => intro v r; cases r with
    | cons a b => exact .cons (l.rep h a) (ih b)
theorem DeepC.rep (h : Hs K F C H) {a : Addr} {c e : Cell} (r : RepC K F H a c) (l : DeepC S C c e) : RepC K (deepH S F H) H a e := by
  cases l with
  | refl => exact r.ex (deep_ex h.ex)
  | lst l => obtain ⟨xs, h1, h2⟩ := r; exact ⟨xs, h1, l.rep h h2⟩
  | ins l => obtain ⟨dx, xs, h1, h2⟩ := r; exact ⟨dx, xs, h1, l.rep h h2⟩
  | dK l => obtain ⟨xs, h1, h2⟩ := r; exact ⟨xs, h1, l.repK h h2⟩
  | dT l => obtain ⟨xs, h1, h2⟩ := r; exact ⟨xs, h1, l.repT h h2⟩
/-- the cells that stay -/
def Stay (S : Addr → Prop) (C C2 : Cells) : Prop := ∀ a e, C2 a = some e → ¬ S a ∧ ∃ c, C a = some c ∧ DeepC S C c e
theorem Stay.sub (s : Sub C2 C) (n : ∀ a, S a → C2 a = none) : Stay S C C2 := fun a e h => ⟨(fun z => by rw [n a z] at h; cases h), e, s a e h, .refl e⟩
theorem Stay.hs (h : Hs K F C H) (s : Stay S C C2) : Hs K (deepH S F H) C2 H := by
  refine ⟨fun a o q => ?_, fun a e q => ?_⟩
  · unfold deepH at q
    split at q
    · exact .inl q
    · exact h.ex a o q
  · obtain ⟨n, c, hc, l⟩ := s a e q
    obtain ⟨f0, r⟩ := h.cell a c hc
    refine ⟨?_, l.rep h r⟩
    unfold deepH
    rw [if_neg n]
    exact f0
end
/-- what a value handed back becomes -/
def retK (E : DEnds) (d : D) (C : Cells) : Prop := wRetF (fun _ C P _ => P d C) E [] C
def wRetD (e : DE) (E : DEnds) (ρ : DEnv) (C : Cells) : Prop := e ρ C (fun d C1 => ∃ S C2 d', Stay S C1 C2 ∧ Deep S C1 d d' ∧ retK E d' C2) E.ex
section
variable {X : Cx} {W : WX} {K : PySem.W.Frag} {e : Expr} {we : DE} {pos : Pos}
theorem retK_go {F H : Hp} {C : Cells} {DE : DEnds} {Dn : Ends} {v : V} {d : D} (h1 : Hs K F C H) (r : Rep K F v d) (q : retK DE d C) (k : Kont K F DE.rt Dn.rt) : Fz (Dn.rt v) H := by
  revert q
  unfold retK wRetF
  cases r <;> first
    | (exact fun q => .inl (k _ F H _ C (Ex.refl F) h1 (by constructor <;> assumption) q))
    | (rename_i p
       show (match C p with | some (.lst ds) => _ | some (.dK ds) => _ | some (.dT ds) => _ | some (.ins Cl ds) => _ | _ => False) → _
       cases ec : C p with
       | none => exact fun z => z.elim
       | some c =>
         cases c <;> first | exact fun z => z.elim |
         (rintro ⟨C2, s2, n2, q⟩
          exact frz_any h1 ec s2 n2 fun F2 H2 e2 h2 r2 => k _ F2 H2 _ C2 e2 h2 r2 q))
theorem ds_retD (he : PE X e (tE X.K W we)) : PS X (.Return (some e) pos) (tS X.K W (wRetD we)) := PS.imp (ps_fz (ps_ret he)) fun D σ H ⟨F, C, ρ, DE, hs, en, xr, w, er⟩ => ⟨F, C, ρ, _, _, hs, en, xr, w, fun v F1 H1 d C1 e1 h1 r ⟨S, C2, d', st, dp, q⟩ =>
  retK_go (DE := DE) (Dn := D) (st.hs h1) (dp.rep h1 r) q (er.rt.mono (e1.trans (deep_ex h1.ex)))⟩
end
end DD

set_option Elab.async false
set_option linter.all false
set_option maxRecDepth 100000
set_option maxHeartbeats 4000000
/-! Tuples of the module; t.index(text) of a tuple. -/
namespace DD
open PySem L2 PyProof.Rows PySem.W
section
variable {C : Cells} {ds : List D} {i : Int}
theorem itsOf_ktup : itsOf (.ktup ds) C = some ds := rfl
theorem lenOf_ktup : lenOf (.ktup ds) C = some ds.length := rfl
theorem itemOf_ktup : itemOf (.ktup ds) C i = atI ds i := rfl
theorem res_ktup : D.res C (.ktup ds) = .ktup ds := rfl
end
def tupOf : D → Option (List D)
  | .tup ds => some ds
  | .ktup ds => some ds
  | _ => none
/-- a tuple's method -/
def wBMK (r : DRM) (d : D) (a : DA) (ρ : DEnv) (C : Cells) (P : DK) (PX : DX) : Prop := a ρ C (fun ds C2 => r d ds C2 P) PX
/-- t.index(x), the texts of t all told -/
def dTIx (x : D) (ds : List D) (C : Cells) (P : DK) : Prop := match ds with
  | [.str z] => ∃ ys : List Str, tupOf x = some (ys.map D.str) ∧ ∃ j, ys[j]? = some z ∧ (∀ m, m < j → ys[m]? ≠ some z) ∧ P (.int (j : Nat)) C
  | _ => False
section
variable {X : Cx} {W : WX} {K : PySem.W.Frag} {o e : Expr} {wo : DE} {wr : DA} {pos : Pos}
theorem tup_of {F H : Hp} {C : Cells} {v : V} {x : D} {ds : List D} (hs : Hs K F C H) (r : Rep K F v x) (h : tupOf x = some ds) : ∃ a xs, v = .ref a ∧ SqT K H a xs ∧ RepL K F xs ds := by
  cases r <;> first | cases h | skip
  · rename_i a xs hq hr
    exact ⟨a, xs, rfl, .inl (.inl (hs.ex.nd hq rfl)), hr⟩
  · rename_i a xs hq hr
    exact ⟨a, xs, rfl, ex_t hs.ex hq, hr⟩
/-- a method of a tuple of the module -/
theorem d_bmK {es : List Expr} {apos npos : Pos} {x id : String} {name : Str} {d : D} {r : V → List V → Hp → VK → Prop} {rd : DRM} (pa : PlainAttrs "tuple") (slot : Slot "tuple" name id) (hty : typeOf (.builtin id) = pure (.type "method_descriptor")) (hm : MtR X id r) (hr : SimM X.K r rd)
    (hk : ∃ a o, X.mg x = some (.ref a) ∧ X.K.lookup a = some o ∧ o.cls = .type "tuple" ∧ o.dict = none ∧ ∀ F, Rep X.K F (.ref a) d) (ha : PA X (e :: es) (tA X.K W wr)) (hg : Gl X x := by rfl) (hd : ((x : Str) == ("__debug__" : Str)) = false := by decide)
    (hb : attributeBase (.Name x npos) name X.env (eval (.Name x npos) X.env) = eval (.Name x npos) X.env := by rfl)
    (hf : ((backTo pos (starEach (e :: es) X.env)).all (fun x => !x.1) && (backToKw pos (keywordEach [] X.env)).all (fun x => x.1.isSome) && decide ((e :: es).length + ([] : List Keyword).length + (if ([] : List Keyword).isEmpty then 0 else 1) < 30)) = true := by rfl)
    (hl : (apos.endLine == pos.line) = true := by rfl) (hs : starEach (e :: es) X.env = (false, eval e X.env) :: starEach es X.env := by rfl) (hp : (backTo pos (starEach es X.env)).any (·.1) = false := by rfl) :
    PE X (.Call (.Attribute (.Name x npos) name apos) (e :: es) [] pos) (tE X.K W (wBMK rd d wr)) := by
  obtain ⟨a, o, hx, ho, hc, hn, rp⟩ := hk
  exact PE.imp (pe_bm pa slot hty hm (pe_glob hg hx (v := .ref a) rfl hd) ha hb hf hl hs hp) fun σ H Q ⟨F, C, ρ, P, PX, hs, en, xr, w, k⟩ =>
    ⟨.inr (.inl ⟨rfl, o, ho, hc, hn⟩), F, C, ρ, _, PX, hs, en, xr, w, fun vs F2 H2 ds C2 e2 h2 rl q2 => hr F2 C2 H2 _ d vs ds P Q h2 (rp F2) rl q2 (k.mono e2)⟩
theorem s_tupIx : SimM K (fun x xs H Q => ∃ p, ∃ ys : List Str, ∃ z j, x = .ref p ∧ xs = [.str z] ∧ SqT K H p (ys.map V.str) ∧ ys[j]? = some z ∧ (∀ m, m < j → ys[m]? ≠ some z) ∧ Q (.int (j : Nat)) H) dTIx := fun F C H x dx xs ds P Q hs rx rl w k => by
  revert w
  unfold dTIx
  split
  · rename_i z
    rintro ⟨ys, h1, j, h2, h3, w⟩
    obtain ⟨a, us, rfl, h4, h5⟩ := tup_of hs rx h1
    cases rl with
    | cons r1 r2 =>
      cases r1
      cases r2
      rw [h5.of_strs] at h4
      exact ⟨a, ys, z, j, rfl, rfl, h4, h2, h3, k _ F H _ C (Ex.refl F) hs (.int _) w⟩
  · exact fun z => z.elim
end
end DD

set_option Elab.async false
set_option linter.all false
set_option maxRecDepth 100000
set_option maxHeartbeats 4000000
/-! Dicts whose keys are nested tuples, and dicts whose keys are numbers, texts and None. -/
namespace DD
open PySem L2 PySem.Spec PyProof.Rows

/-! ### keys -/
def keysNf (f : D → Option NestedKey) : List D → Option (List NestedKey)
  | [] => some []
  | d :: r => (f d).bind fun k => (keysNf f r).map fun ks => k :: ks
def keyN : Nat → D → Option NestedKey
  | _, .non => some .none
  | _, .int i => some (.num i)
  | _, .str x => some (.text x)
  | n + 1, .tup ds => (keysNf (keyN n) ds).map .tup
  | _, _ => none
/-- tuples (true), or numbers, texts and None -/
def keyB : Bool → D → Option NestedKey
  | true, .tup ds => (keysNf (keyN 7) ds).map .tup
  | false, .non => some .none
  | false, .int i => some (.num i)
  | false, .str x => some (.text x)
  | _, _ => none
def leafOf : D → Option Leaf
  | .non => some .none
  | .int i => some (.num i)
  | .str x => some (.text x)
  | _ => none
theorem keyB_leaf {y : D} {k : NestedKey} (h : keyB false y = some k) : ∃ l : Leaf, l.key = k ∧ leafOf y = some l := by
  cases y <;> simp only [keyB, Option.some.injEq, reduceCtorEq] at h
  · exact ⟨.none, h, rfl⟩
  · exact ⟨.num _, h, rfl⟩
  · exact ⟨.text _, h, rfl⟩
theorem leaf_is {K : PySem.W.Frag} {F : Hp} {v : V} {y : D} {l : Leaf} {u : Value} (r : Rep K F v y) (h : leafOf y = some l) (ru : RelV v u) : Leaf.isOf l u = true := by
  cases r <;> simp only [leafOf, Option.some.injEq, reduceCtorEq] at h
  · subst h
    obtain rfl : u = .none := ru
    rfl
  · subst h
    obtain ⟨t, rfl⟩ := ru
    exact decide_eq_true rfl
  · subst h
    obtain ⟨t, rfl⟩ := ru
    simp [Leaf.isOf, Value.isStrOf]
section
variable {P : Program} {w : World} {K : PySem.W.Frag} {F H : Hp} {h : Heap}
theorem keysN_is {f : D → Option NestedKey} {n : Nat} (hf : ∀ {v : V} {d : D} {k : NestedKey} {u : Value}, Rep K F v d → f d = some k → RelV v u → NestedIs h k u ∧ k.depth ≤ n) :
    ∀ {vs : List V} {ds : List D} {ks : List NestedKey} {us : List Value}, RepL K F vs ds → keysNf f ds = some ks → Vals vs us → NestedAll h ks us ∧ NestedKey.depthAll ks ≤ n
  | _, _, ks, _, .nil, e, .nil => by
    simp only [keysNf, Option.some.injEq] at e
    subst e
    exact ⟨.nil, Nat.zero_le _⟩
  | _, _, ks, _, .cons (d := d) (ds := ds) a b, e, .cons r s => by
    simp only [keysNf, Option.bind_eq_some_iff, Option.map_eq_some_iff] at e
    obtain ⟨k, hk, ks', hks, rfl⟩ := e
    obtain ⟨h1, h2⟩ := hf a hk r
    obtain ⟨h3, h4⟩ := keysN_is hf b hks s
    exact ⟨.cons h1 h3, by simp only [NestedKey.depthAll]; omega⟩
theorem tup_is (ok : HOk P w H h) {a : Addr} {xs : List V} (e : H a = some (.tup xs)) : ∃ o its n, h.get? a = some o ∧ o.cls = .type "tuple" ∧ o.data = .seq its n ∧ Vals xs its.toList := by
  obtain ⟨_, its, r, o, h1, h2, n, h3⟩ := (show ObjOk P w H h a (.tup xs) from ok a _ e)
  exact ⟨o, its.toArray, n, h1, h2, h3, by simpa using r⟩
theorem keyN_is (ok : HOk P w H h) (ex : Ex F H) : ∀ (n : Nat) {v : V} {d : D} {k : NestedKey} {u : Value}, Rep K F v d → keyN n d = some k → RelV v u → NestedIs h k u ∧ k.depth ≤ n := by
  intro n
  induction n with
  | zero =>
    intro v d k u r e ru
    cases r <;> simp only [keyN, Option.some.injEq, reduceCtorEq] at e
    · subst e; obtain rfl : u = .none := ru; exact ⟨.none, Nat.le_refl _⟩
    · subst e; obtain ⟨t, rfl⟩ := ru; exact ⟨.int _ _, Nat.le_refl _⟩
    · subst e; obtain ⟨t, rfl⟩ := ru; exact ⟨.text _ _, Nat.le_refl _⟩
  | succ n ih =>
    intro v d k u r e ru
    cases r <;> simp only [keyN, Option.some.injEq, Option.map_eq_some_iff, reduceCtorEq] at e
    · subst e; obtain rfl : u = .none := ru; exact ⟨.none, Nat.zero_le _⟩
    · subst e; obtain ⟨t, rfl⟩ := ru; exact ⟨.int _ _, Nat.zero_le _⟩
    · subst e; obtain ⟨t, rfl⟩ := ru; exact ⟨.text _ _, Nat.zero_le _⟩
    · obtain ⟨ks, hks, rfl⟩ := e
      rename_i a xs ds hF hr
      obtain rfl : u = .ref a := ru
      obtain ⟨o, its, m, h1, h2, h3, h4⟩ := tup_is ok (ex.nd hF rfl)
      obtain ⟨g1, g2⟩ := keysN_is (fun a b c => ih a b c) hr hks h4
      exact ⟨.tup h1 h2 h3 g1, by simp only [NestedKey.depth]; omega⟩
theorem keyB_is (ok : HOk P w H h) (ex : Ex F H) {v : V} {d : D} {k : NestedKey} {u : Value} (r : Rep K F v d) (e : keyB true d = some k) (ru : RelV v u) : ∃ b, v = .ref b ∧ u = .ref b ∧ (nestedKind P w).is h k b ∧ Rep K F (.ref b) d := by
  have e' : keyN 8 d = some k := by
    cases d <;> simp only [keyB, Option.map_eq_some_iff, reduceCtorEq] at e ⊢
    simp only [keyN, Option.map_eq_some_iff]
    exact e
  obtain ⟨h1, h2⟩ := keyN_is ok ex 8 r e' ru
  cases r <;> simp only [keyB, reduceCtorEq] at e
  rename_i a xs ds hF hr
  obtain rfl : u = .ref a := ru
  exact ⟨a, rfl, rfl, ⟨h1, h2⟩, .tup hF hr⟩
mutual
theorem nkD_keyN : ∀ (k : NestedKey) (n : Nat), k.depth ≤ n → keyN n (nkD k) = some k
  | .none, n, _ => by cases n <;> rfl
  | .num _, n, _ => by cases n <;> rfl
  | .text _, n, _ => by cases n <;> rfl
  | .tup ks, 0, h => by simp only [NestedKey.depth] at h; omega
  | .tup ks, n + 1, h => by
    simp only [NestedKey.depth] at h
    simp only [nkD, keyN, nkDs_keysN ks n (by omega), Option.map_some]
theorem nkDs_keysN : ∀ (ks : List NestedKey) (n : Nat), NestedKey.depthAll ks ≤ n → keysNf (keyN n) (nkDs ks) = some ks
  | [], n, _ => rfl
  | k :: ks, n, h => by
    simp only [NestedKey.depthAll] at h
    simp only [nkDs, keysNf, nkD_keyN k n (by omega), nkDs_keysN ks n (by omega), Option.bind_some, Option.map_some]
end
end
mutual
theorem keyN_nkD : ∀ (n : Nat) (d : D) (k : NestedKey), keyN n d = some k → d = nkD k
  | 0, d, k, e => by
    cases d <;> simp only [keyN, Option.some.injEq, reduceCtorEq] at e <;> (subst e; rfl)
  | n + 1, d, k, e => by
    cases d <;> simp only [keyN, Option.some.injEq, Option.map_eq_some_iff, reduceCtorEq] at e
    · subst e; rfl
    · subst e; rfl
    · subst e; rfl
    · obtain ⟨ks, hks, rfl⟩ := e
      rw [keysN_nkD n _ ks hks]; rfl
theorem keysN_nkD : ∀ (n : Nat) (ds : List D) (ks : List NestedKey), keysNf (keyN n) ds = some ks → ds = nkDs ks
  | n, [], ks, e => by
    simp only [keysNf, Option.some.injEq] at e
    subst e; rfl
  | n, d :: ds, ks, e => by
    simp only [keysNf, Option.bind_eq_some_iff, Option.map_eq_some_iff] at e
    obtain ⟨k, hk, ks', hks, rfl⟩ := e
    rw [keyN_nkD n d k hk, keysN_nkD n ds ks' hks]; rfl
end
theorem keyB_nkD {b : Bool} {d : D} {k : NestedKey} (e : keyB b d = some k) : d = nkD k := by
  cases b
  · cases d <;> simp only [keyB, Option.some.injEq, reduceCtorEq] at e <;> (subst e; rfl)
  · cases d <;> simp only [keyB, Option.map_eq_some_iff, reduceCtorEq] at e
    obtain ⟨ks, hks, rfl⟩ := e
    rw [keysN_nkD 7 _ ks hks]; rfl

/-! ### a dict that is a cell -/
/-- which kind, what it holds -/
def withN (q : Pgw) (x : D) (C : Cells) (P : Bool → List (NestedKey × D) → Prop) : Prop := match x with
  | .ptr a => match C a with
    | some (.dN q' t) => q' = q ∧ P true t
    | some (.lN q' t _ _) => q' = q ∧ P true t
    | some (.dO q' t) => q' = q ∧ P false t
    | some (.lO q' t _ _) => q' = q ∧ P false t
    | _ => False
  | _ => False
section
variable {X : Cx} {pins : List (Addr × Obj)} {σ : L2.St} {H F : Hp} {C : Cells} {s : Shared} {a : Addr} {t : List (NestedKey × D)}
abbrev NdV (K : PySem.W.Frag) (F : Hp) : List (NestedKey × D) → List (NestedKey × Addr × Value) → Prop := Paired fun p y => p.1 = y.1 ∧ p.1.depth ≤ 8 ∧ Rep K F (.ref y.2.1) (nkD p.1) ∧ ∃ v, RelV v y.2.2 ∧ Rep K F v p.2
abbrev LdV (K : PySem.W.Frag) (F : Hp) : List (NestedKey × D) → List (Leaf × Value) → Prop := Paired fun p y => p.1 = y.1.key ∧ ∃ v, RelV v y.2 ∧ Rep K F v p.2
theorem paired_comp {α β γ : Type} {f : α → β → Prop} {g : α → γ → Prop} {h : β → γ → Prop} (hc : ∀ a b c, f a b → g a c → h b c) : ∀ {as : List α} {bs : List β} {cs : List γ}, Paired f as bs → Paired g as cs → Paired h bs cs
  | _, _, _, .nil, .nil => .nil
  | _, _, _, .cons x xs, .cons y ys => .cons (hc _ _ _ x y) (paired_comp hc xs ys)
theorem paired_left {α β : Type} {f : α → β → Prop} {p : α → Prop} (hp : ∀ a b, f a b → p a) : ∀ {as : List α} {bs : List β}, Paired f as bs → ∀ a ∈ as, p a
  | _, _, .nil, a, h => by cases h
  | _, _, .cons x xs, a, h => by
    rcases List.mem_cons.mp h with rfl | h
    · exact hp _ _ x
    · exact paired_left hp xs a h
theorem paired_right {α β : Type} {f : α → β → Prop} {p : β → Prop} (hp : ∀ a b, f a b → p b) : ∀ {as : List α} {bs : List β}, Paired f as bs → ∀ b ∈ bs, p b
  | _, _, .nil, a, h => by cases h
  | _, _, .cons x xs, b, h => by
    rcases List.mem_cons.mp h with rfl | h
    · exact hp _ _ x
    · exact paired_right hp xs b h
theorem nd_open {w : World} {xs : List (NestedKey × Addr × V)} (h : NdAt w a xs s.heap) (r : NdR X.K F xs t) (hw : w = X.w) (hs : Hs X.K F C H) (ok : HOk X.prog X.w H s.heap) :
    t.length ≤ sizeLine ∧ (a == sysModules) = false ∧ ∃ ys, s.heap.DictOfH (nestedKind X.prog X.w) a ys ∧ NdV X.K F t ys := by
  subst hw
  obtain ⟨z, sm, ys, pr, o, es, ep, ho, hx, hd, he, hn⟩ := h
  have l1 : xs.length = t.length := Paired.length r
  have nv : NdV X.K F t ys := paired_comp (fun x p y (h1 : x.1 = p.1 ∧ p.1.depth ≤ 8 ∧ Rep X.K F (.ref x.2.1) (nkD p.1) ∧ Rep X.K F x.2.2 p.2) (h2 : x.1 = y.1 ∧ x.2.1 = y.2.1 ∧ RelV x.2.2 y.2.2) =>
    ⟨h1.1.symm.trans h2.1, h1.2.1, by rw [← h2.2.1]; exact h1.2.2.1, x.2.2, h2.2.2, h1.2.2.2⟩) r pr
  refine ⟨by omega, sm, ys, ⟨o, es, ep, ho, hx, hd, he, fun y hy => ?_, hn⟩, nv⟩
  refine paired_right (p := fun y => (nestedKind X.prog X.w).is s.heap y.1 y.2.1) (fun p y hz => ?_) nv y hy
  obtain ⟨h1, h2, h3, _⟩ := hz
  have := keyN_is ok hs.ex 8 h3 (nkD_keyN p.1 8 h2) (u := .ref y.2.1) rfl
  rw [h1] at this
  exact this
theorem nd_at {q : Pgw} (I : Inv X pins σ H s) (hs : Hs X.K F C H) (hq : q = ⟨X.prog, X.w⟩) (hc : C a = some (.dN q t) ∨ ∃ od xs, C a = some (.lN q t od xs)) :
    t.length ≤ sizeLine ∧ (a == sysModules) = false ∧ ∃ ys, s.heap.DictOfH (nestedKind X.prog X.w) a ys ∧ NdV X.K F t ys := by
  rcases hc with hc | ⟨od, xs, hc⟩
  · obtain ⟨_, xs, h1, h2⟩ := hs.cell a _ hc
    exact nd_open (show ObjOk X.prog X.w H s.heap a (ndO q.w a xs) from I.hok a _ h1).1 h2 (by rw [hq]) hs I.hok
  · obtain ⟨_, h1, h2⟩ := hs.cell a _ hc
    obtain ⟨_, h3⟩ := (show ObjOk X.prog X.w H s.heap a (.frz od (ndO q.w a xs)) from I.hok a _ h1)
    exact nd_open (show ObjOk X.prog X.w H s.heap a (ndO q.w a xs) from h3).1 h2 (by rw [hq]) hs I.hok
theorem ld_open {q : Pgw} {xs : List (Leaf × V)} (h : LdAt q a xs s.heap) (r : LdR X.K F xs t) (hq : q = ⟨X.prog, X.w⟩) :
    t.length ≤ sizeLine ∧ (a == sysModules) = false ∧ ∃ vs, s.heap.DictOf (leafKind X.prog X.w) a vs ∧ LdV X.K F t vs := by
  subst hq
  obtain ⟨z, sm, vs, pr, hd⟩ := h
  have l1 : xs.length = t.length := Paired.length r
  exact ⟨by omega, sm, vs, hd, paired_comp (fun x p y (h1 : x.1.key = p.1 ∧ Rep X.K F x.2 p.2) (h2 : x.1 = y.1 ∧ RelV x.2 y.2) => ⟨by rw [← h1.1, h2.1], x.2, h2.2, h1.2⟩) r pr⟩
theorem ld_at {q : Pgw} (I : Inv X pins σ H s) (hs : Hs X.K F C H) (hq : q = ⟨X.prog, X.w⟩) (hc : C a = some (.dO q t) ∨ ∃ od xs, C a = some (.lO q t od xs)) :
    t.length ≤ sizeLine ∧ (a == sysModules) = false ∧ ∃ vs, s.heap.DictOf (leafKind X.prog X.w) a vs ∧ LdV X.K F t vs := by
  rcases hc with hc | ⟨od, xs, hc⟩
  · obtain ⟨_, xs, h1, h2⟩ := hs.cell a _ hc
    exact ld_open (show ObjOk X.prog X.w H s.heap a (ldO q a xs) from I.hok a _ h1).1 h2 hq
  · obtain ⟨_, h1, h2⟩ := hs.cell a _ hc
    obtain ⟨_, h3⟩ := (show ObjOk X.prog X.w H s.heap a (.frz od (ldO q a xs)) from I.hok a _ h1)
    exact ld_open (show ObjOk X.prog X.w H s.heap a (ldO q a xs) from h3).1 h2 hq
theorem withN_dict {q : Pgw} {x : D} {v : V} {u : Value} {P : Bool → List (NestedKey × D) → Prop} (I : Inv X pins σ H s) (hs : Hs X.K F C H) (hq : q = ⟨X.prog, X.w⟩) (r : Rep X.K F v x) (ru : RelV v u) (h : withN q x C P) :
    ∃ a, v = .ref a ∧ u = .ref a ∧ x = .ptr a ∧ (a == sysModules) = false ∧ s.TypeIs (.ref a) "dict" ∧ (∀ b, Value.ref a = .ref b → ∃ ob, s.heap.get? b = some ob ∧ ob.dict = none) ∧
      ((∃ t ys, P true t ∧ t.length ≤ sizeLine ∧ s.heap.DictOfH (nestedKind X.prog X.w) a ys ∧ NdV X.K F t ys) ∨ ∃ t vs, P false t ∧ t.length ≤ sizeLine ∧ s.heap.DictOf (leafKind X.prog X.w) a vs ∧ LdV X.K F t vs) := by
  unfold withN at h
  split at h
  · rename_i a
    cases r
    obtain rfl : u = .ref a := ru
    refine ⟨a, rfl, rfl, rfl, ?_⟩
    have tN : ∀ {ys}, s.heap.DictOfH (nestedKind X.prog X.w) a ys → s.TypeIs (.ref a) "dict" ∧ (∀ b, Value.ref a = .ref b → ∃ ob, s.heap.get? b = some ob ∧ ob.dict = none) := fun hd => by
      refine ⟨hd.typeIs, fun b e => ?_⟩
      cases e
      obtain ⟨o, _, _, h1, h2, _⟩ := hd
      exact ⟨o, h1, h2.2.1⟩
    have tL : ∀ {vs}, s.heap.DictOf (leafKind X.prog X.w) a vs → s.TypeIs (.ref a) "dict" ∧ (∀ b, Value.ref a = .ref b → ∃ ob, s.heap.get? b = some ob ∧ ob.dict = none) := fun hd => by
      refine ⟨hd.typeIs, fun b e => ?_⟩
      cases e
      obtain ⟨o, _, _, h1, h2, _⟩ := hd
      exact ⟨o, h1, h2.2.1⟩
    split at h
    · rename_i q' t hc
      obtain ⟨rfl, h⟩ := h
      obtain ⟨z, sm, ys, hd, nv⟩ := nd_at I hs hq (.inl hc)
      exact ⟨sm, (tN hd).1, (tN hd).2, .inl ⟨t, ys, h, z, hd, nv⟩⟩
    · rename_i q' t od xs hc
      obtain ⟨rfl, h⟩ := h
      obtain ⟨z, sm, ys, hd, nv⟩ := nd_at I hs hq (.inr ⟨_, _, hc⟩)
      exact ⟨sm, (tN hd).1, (tN hd).2, .inl ⟨t, ys, h, z, hd, nv⟩⟩
    · rename_i q' t hc
      obtain ⟨rfl, h⟩ := h
      obtain ⟨z, sm, ys, hd, nv⟩ := ld_at I hs hq (.inl hc)
      exact ⟨sm, (tL hd).1, (tL hd).2, .inr ⟨t, ys, h, z, hd, nv⟩⟩
    · rename_i q' t od xs hc
      obtain ⟨rfl, h⟩ := h
      obtain ⟨z, sm, ys, hd, nv⟩ := ld_at I hs hq (.inr ⟨_, _, hc⟩)
      exact ⟨sm, (tL hd).1, (tL hd).2, .inr ⟨t, ys, h, z, hd, nv⟩⟩
    · exact h.elim
  · exact h.elim
/-- what is found -/
theorem nv_val {K : PySem.W.Frag} {ys : List (NestedKey × Addr × Value)} (r : NdV K F t ys) (k : NestedKey) : (vaD t k = none ∧ atKey ys k = none) ∨ ∃ d p v, vaD t k = some d ∧ atKey ys k = some p ∧ RelV v p.2 ∧ Rep K F v d := by
  induction r with
  | nil => exact .inl ⟨rfl, rfl⟩
  | @cons p y ps qs hz _ ih =>
    obtain ⟨h1, _, _, v, h3, h4⟩ := hz
    by_cases e : p.1 = k
    · have e' : y.1 = k := h1 ▸ e
      refine .inr ⟨p.2, y.2, v, vaD_hit e, ?_, h3, h4⟩
      simp [atKey, List.find?_cons, e']
    · have e' : ¬ y.1 = k := h1 ▸ e
      rw [vaD_miss e, show atKey (y :: qs) k = atKey qs k by simp [atKey, List.find?_cons, e']]
      exact ih
theorem lv_val {K : PySem.W.Frag} {vs : List (Leaf × Value)} (r : LdV K F t vs) (l : Leaf) : (vaD t l.key = none ∧ valueAt vs l = none) ∨ ∃ d u v, vaD t l.key = some d ∧ valueAt vs l = some u ∧ RelV v u ∧ Rep K F v d := by
  induction r with
  | nil => exact .inl ⟨rfl, rfl⟩
  | @cons p y ps qs hz _ ih =>
    obtain ⟨h1, v, h3, h4⟩ := hz
    by_cases e : y.1 = l
    · have e' : p.1 = l.key := by rw [h1, e]
      refine .inr ⟨p.2, y.2, v, vaD_hit e', ?_, h3, h4⟩
      simp [valueAt, List.find?_cons, e]
    · have e' : ¬ p.1 = l.key := fun z => e (Leaf.key_inj (h1.symm.trans z))
      rw [vaD_miss e', show valueAt (y :: qs) l = valueAt qs l by simp [valueAt, List.find?_cons, e]]
      exact ih
end
end DD

set_option Elab.async false
set_option linter.all false
set_option maxRecDepth 100000
set_option maxHeartbeats 4000000
/-! Rules for dicts whose keys are nested tuples, or numbers, texts and None. -/
namespace DD
open PySem L2 PySem.Spec PyProof.Rows

/-- a reading as an operation of its own -/
def rdR (K : PySem.W.Frag) (rd : DR2) : R2 := fun x y H Q => ∃ F C dx dy P, Hs K F C H ∧ Rep K F x dx ∧ Rep K F y dy ∧ rd dx dy C P ∧ Kont K F P Q
theorem s_rd {K : PySem.W.Frag} {rd : DR2} : SimR K (rdR K rd) rd := fun F C H x y dx dy P Q hs rx ry w k => ⟨F, C, dx, dy, P, hs, rx, ry, w, k⟩
def rdA (K : PySem.W.Frag) (rd : DRA) : List V → Hp → VK → Prop := fun xs H Q => ∃ F C ds P, Hs K F C H ∧ RepL K F xs ds ∧ rd ds C P ∧ Kont K F P Q
theorem s_rdA {K : PySem.W.Frag} {rd : DRA} : SimA K (rdA K rd) rd := fun F C H xs ds P Q hs r w k => ⟨F, C, ds, P, hs, r, w, k⟩

def dNGet (q : Pgw) (x : D) (y : D) (C : Cells) (P : DK) : Prop := withN q x C fun b t => match keyB b y with
  | some k => match vaD t k with
    | some d => P d C
    | none => False
  | none => False
def dNIn (q : Pgw) (neg : Bool) (y : D) (x : D) (C : Cells) (P : DK) : Prop := withN q x C fun b t => match keyB b y with
  | some k => P (.bl (neg ^^ (vaD t k).isSome)) C
  | none => False
def isN (q : Pgw) (x : D) (C : Cells) : Prop := withN q x C fun _ _ => True
def wNGet1 (q : Pgw) (o k : DE) (ρ : DEnv) (C : Cells) (P : DK) (PX : DX) : Prop := o ρ C (fun x C1 => isN q x C1 ∧ k ρ C1 (fun y C2 => withN q x C2 fun b t => match keyB b y with
  | some k => P ((vaD t k).getD .non) C2
  | none => False) PX) PX
def wNGet2 (q : Pgw) (o k e : DE) (ρ : DEnv) (C : Cells) (P : DK) (PX : DX) : Prop := o ρ C (fun x C1 => isN q x C1 ∧ k ρ C1 (fun y C2 => e ρ C2 (fun z C3 => withN q x C3 fun b t => match keyB b y with
  | some k => P ((vaD t k).getD z) C3
  | none => False) PX) PX) PX
section
variable {X : Cx} {W : WX} {K : PySem.W.Frag} {o i e : Expr} {wo wi we : DE} {pos apos tpos : Pos} {n : Nat} {q : Pgw}
theorem room_N (hu : X.A.units + 64 < cLine) : (nestedKind X.prog X.w).room X.A.in1 := by
  show X.A.units + 1 + 8 < cLine
  omega
theorem room_N2 (hu : X.A.units + 64 < cLine) : (nestedKind X.prog X.w).room X.A.in1.in1 := by
  show X.A.units + 1 + 1 + 8 < cLine
  omega
/-- the value at a key -/
theorem withN_key {pins : List (Addr × Obj)} {σ : L2.St} {H F : Hp} {C : Cells} {s : Shared} {x y : D} {v z : V} {u r : Value} {R : Bool → NestedKey → Option D → Prop} (I : Inv X pins σ H s) (hs : Hs X.K F C H) (hq : q = ⟨X.prog, X.w⟩)
    (rx : Rep X.K F v x) (rv : RelV v u) (ry : Rep X.K F z y) (rz : RelV z r) (h : withN q x C fun b t => match keyB b y with | some k => R b k (vaD t k) | none => False) :
    ∃ a, u = .ref a ∧ (a == sysModules) = false ∧ s.TypeIs (.ref a) "dict" ∧ (∀ b, Value.ref a = .ref b → ∃ ob, s.heap.get? b = some ob ∧ ob.dict = none) ∧ ∃ (b : Bool) (k : NestedKey) (o : Option D), R b k o ∧ ∃ (w : Option Value), ((o = none ∧ w = none) ∨ ∃ d v' u', o = some d ∧ w = some u' ∧ RelV v' u' ∧ Rep X.K F v' d) ∧
      ((∃ c ys, r = .ref c ∧ (nestedKind X.prog X.w).is s.heap k c ∧ s.heap.DictOfH (nestedKind X.prog X.w) a ys ∧ (atKey ys k).map (·.2) = w) ∨ ∃ l : Leaf, ∃ vs, l.key = k ∧ (leafKind X.prog X.w).is l r = true ∧ s.heap.DictOf (leafKind X.prog X.w) a vs ∧ valueAt vs l = w) := by
  obtain ⟨a, rfl, rfl, rfl, sm, ty, nd, h⟩ := withN_dict I hs hq rx rv h
  refine ⟨a, rfl, sm, ty, nd, ?_⟩
  rcases h with ⟨t, ys, h, hl, hd, nv⟩ | ⟨t, vs, h, hl, hd, nv⟩
  · split at h
    · rename_i k hk
      obtain ⟨c, rfl, rfl, hkc, _⟩ := keyB_is I.hok hs.ex ry hk rz
      refine ⟨true, k, _, h, (atKey ys k).map (·.2), ?_, .inl ⟨c, ys, rfl, hkc, hd, rfl⟩⟩
      rcases nv_val nv k with ⟨h1, h2⟩ | ⟨d, p, v', h1, h2, h3, h4⟩
      · exact .inl ⟨h1, by rw [h2]; rfl⟩
      · exact .inr ⟨d, v', p.2, h1, by rw [h2]; rfl, h3, h4⟩
    · exact h.elim
  · split at h
    · rename_i k hk
      obtain ⟨l, rfl, hl2⟩ := keyB_leaf hk
      have hkl : (leafKind X.prog X.w).is l r = true := leaf_is ry hl2 rz
      refine ⟨false, _, _, h, valueAt vs l, ?_, .inr ⟨l, vs, rfl, hkl, hd, rfl⟩⟩
      rcases lv_val nv l with ⟨h1, h2⟩ | ⟨d, u', v', h1, h2, h3, h4⟩
      · exact .inl ⟨h1, h2⟩
      · exact .inr ⟨d, v', u', h1, h2, h3, h4⟩
    · exact h.elim
/-- x[y] -/
theorem ix_N (hu : X.A.units + 64 < cLine) (hq : q = ⟨X.prog, X.w⟩) : IxR X (rdR X.K (dNGet q)) := by
  intro value slice pins s σ H x y v u Q I rx ry ⟨F, C, dx, dy, P, hs, r1, r2, w, k⟩ hsl
  obtain ⟨a, rfl, sm, hT, nd, b, kk, o, hR, w', hw, hkk⟩ := withN_key (R := fun _ _ o => match o with | some d => P d C | none => False) I hs hq r1 rx r2 ry w
  unfold subscriptTail
  refine wpAny_bind ?_
  rw [getitemInPython_of_ne hT.not_modules]
  refine wpAny_bind (wpAny_specialOf hT PySem.F.slot_dict_getitem.lookup ?_)
  have fin : wpAny (model X.prog X.w) X.A (subscripted slice false (.ref a) u) (fun r s₃ => wpAny (model X.prog X.w) X.A (letTemporaryGo value (.ref a) r >>= fun _ => pure r) (EP X pins σ Q) X.xe s₃) X.xe s := by
    rw [hsl]
    refine wpAny_operating (wpAny_mono (Q := EP X pins σ Q) (E := X.xe) ?_ (fun r s₃ h₃ => wpAny_bind (wpAny_letTemporaryGo (wpAny_pure h₃))) fun _ _ x => x)
    rcases hw with ⟨rfl, rfl⟩ | ⟨d, v', u', rfl, rfl, h3, h4⟩
    · exact hR.elim
    · rcases hkk with ⟨c, ys, rfl, hc, hd, hv⟩ | ⟨l, vs, _, hl, hd, hv⟩
      · obtain ⟨p, hp, hp2⟩ := Option.map_eq_some_iff.mp hv
        refine wpAny_getItem_heap (room_N hu) hc hd hp ?_
        rw [hp2]
        exact ⟨v', H, I.tok _, h3, k v' F H d C (Ex.refl F) hs h4 hR⟩
      · exact wpAny_getItem_of hl hd.mapOf hv ⟨v', H, I.tok _, h3, k v' F H d C (Ex.refl F) hs h4 hR⟩
  first
    | exact wpAny_pure (wpAny_bind fin)
    | exact wpAny_bind (wpAny_pure (wpAny_bind fin))
    | exact wpAny_bind fin
/-- y in x, y not in x -/
theorem op_inN (hu : X.A.units + 64 < cLine) (hq : q = ⟨X.prog, X.w⟩) : OpR X (compareOp .In) (rdR X.K (dNIn q false)) := by
  intro pins s σ H y x v u Q I ry rx ⟨F, C, dy, dx, P, hs, r1, r2, w, k⟩
  obtain ⟨a, rfl, sm, hT, nd, b, kk, o, hR, w', hw, hkk⟩ := withN_key (R := fun _ _ o => P (.bl (false ^^ o.isSome)) C) I hs hq r2 rx r1 ry w
  have e : w'.isSome = o.isSome := by rcases hw with ⟨rfl, rfl⟩ | ⟨_, _, _, rfl, rfl, _, _⟩ <;> rfl
  rw [Bool.false_xor] at hR
  rcases hkk with ⟨c, ys, rfl, hc, hd, hv⟩ | ⟨l, vs, _, hl, hd, hv⟩
  · refine wpAny_in_heap (room_N hu) hc sm hd ?_
    have e2 : (atKey ys kk).isSome = o.isSome := by rw [← e, ← hv, Option.isSome_map]
    rw [e2]
    exact ⟨.bl o.isSome, H, I.tok _, rfl, k _ F H _ C (Ex.refl F) hs (.bl _) hR⟩
  · refine wpAny_in_of hl sm hd.mapOf ?_
    rw [hv, e]
    exact ⟨.bl o.isSome, H, I.tok _, rfl, k _ F H _ C (Ex.refl F) hs (.bl _) hR⟩
theorem op_notInN (hu : X.A.units + 64 < cLine) (hq : q = ⟨X.prog, X.w⟩) : OpR X (compareOp .NotIn) (rdR X.K (dNIn q true)) := by
  intro pins s σ H y x v u Q I ry rx ⟨F, C, dy, dx, P, hs, r1, r2, w, k⟩
  obtain ⟨a, rfl, sm, hT, nd, b, kk, o, hR, w', hw, hkk⟩ := withN_key (R := fun _ _ o => P (.bl (true ^^ o.isSome)) C) I hs hq r2 rx r1 ry w
  have e : w'.isSome = o.isSome := by rcases hw with ⟨rfl, rfl⟩ | ⟨_, _, _, rfl, rfl, _, _⟩ <;> rfl
  rw [Bool.true_xor] at hR
  rcases hkk with ⟨c, ys, rfl, hc, hd, hv⟩ | ⟨l, vs, _, hl, hd, hv⟩
  · refine wpAny_notIn_heap (room_N hu) hc sm hd ?_
    have e2 : (atKey ys kk).isSome = o.isSome := by rw [← e, ← hv, Option.isSome_map]
    rw [e2]
    exact ⟨.bl (!o.isSome), H, I.tok _, rfl, k _ F H _ C (Ex.refl F) hs (.bl _) hR⟩
  · refine wpAny_notIn_of hl sm hd.mapOf ?_
    rw [hv, e]
    exact ⟨.bl (!o.isSome), H, I.tok _, rfl, k _ F H _ C (Ex.refl F) hs (.bl _) hR⟩
/-- x.get(y), x.get(y, z) -/
theorem d_nget1 (hu : X.A.units + 64 < cLine) (hq : q = ⟨X.prog, X.w⟩) (ho : PE X o (tE X.K W wo)) (hi : PE X i (tE X.K W wi)) (m : M1 X o "get" apos i pos := by exact ⟨rfl, rfl, rfl, rfl⟩) : PE X (.Call (.Attribute o "get" apos) [i] [] pos) (tE X.K W (wNGet1 q wo wi)) := by
  refine ⟨fun pins s σ H Q I ⟨F, C, ρ, P, PX, hs, en, xr, w, k⟩ => ?_⟩
  refine wpAny_Call_method m.base m.few m.line PySem.F.plainAttrs_dict PySem.F.slot_dict_get PySem.F.type_dict_get (thn (ho.run pins s σ H (fun v H1 => ∃ F1 C1 x, Ex F F1 ∧ Hs X.K F1 C1 H1 ∧ Rep X.K F1 v x ∧ isN q x C1 ∧ wi ρ C1 (fun y C2 => withN q x C2 fun b t => match keyB b y with
    | some k => P ((vaD t k).getD .non) C2
    | none => False) PX) I ⟨F, C, ρ, _, PX, hs, en, xr, w, fun v F1 H1 x C1 e1 h1 rx q => ⟨F1, C1, x, e1, h1, rx, q.1, q.2⟩⟩) fun u s1 ⟨v, H1, I1, rv, F1, C1, x, e1, h1, rx, hn, w1⟩ => ?_)
  obtain ⟨a, _, rfl, _, sm, hT, nd, _⟩ := withN_dict I1 h1 hq rx rv hn
  refine ⟨hT, nd, ?_⟩
  rw [m.trees]
  refine Calls.callWith_builtin rfl (Calls.evalArgs_plain (Calls.spliced_cons (thn (hi.run pins s1 σ H1 (fun z H2 => ∃ F2 C2 y, Ex F1 F2 ∧ Hs X.K F2 C2 H2 ∧ Rep X.K F2 z y ∧ withN q x C2 fun b t => match keyB b y with
    | some k => P ((vaD t k).getD .non) C2
    | none => False) I1 ⟨F1, C1, ρ, _, PX, h1, en.mono e1, xr.mono e1, w1, fun z F2 H2 y C2 e2 h2 ry q2 => ⟨F2, C2, y, e2, h2, ry, q2⟩⟩) fun r s2 ⟨z, H2, I2, rz, F2, C2, y, e2, h2, ry, w2⟩ => Calls.spliced_nil ?_)))
  obtain ⟨a', ea, sm, hT, nd, b, kk, o, hR, w', hw, hkk⟩ := withN_key (R := fun _ _ o => P (o.getD .non) C2) I2 h2 hq (rx.mono e2) rv ry rz w2
  cases ea
  have fin : ∀ (w'' : Option Value), w'' = w' → ∀ s', Inv X pins σ H2 s' → EP X pins σ Q (w''.getD .none) s' := fun w'' ew s' I3 => by
    subst ew
    rcases hw with ⟨rfl, rfl⟩ | ⟨d, v', u', rfl, rfl, h3, h4⟩
    · exact ⟨.non, H2, I3, rfl, k _ F2 H2 _ C2 (e1.trans e2) h2 .non hR⟩
    · exact ⟨v', H2, I3, h3, k v' F2 H2 d C2 (e1.trans e2) h2 h4 hR⟩
  rcases hkk with ⟨c, ys, rfl, hc, hd, hv⟩ | ⟨l, vs, _, hl, hd, hv⟩
  · exact call_meetsIn PySem.F.slot_dict_get hd.typeIs PySem.F.entry_dict_get (PySem.F.args_dict_get_2 _ _) (meetsH_dict_get (nestedKind X.prog X.w) a c sm) ⟨room_N hu, kk, ys, hc, hd, fin _ hv _ (I2.tok _)⟩
  · exact call_meetsIn PySem.F.slot_dict_get hd.typeIs PySem.F.entry_dict_get (PySem.F.args_dict_get_2 _ _) (meets_dict_get (leafKind X.prog X.w) a hl sm) ⟨_, hd.mapOf, fin _ hv _ (I2.tok _)⟩
theorem d_nget2 (hu : X.A.units + 64 < cLine) (hq : q = ⟨X.prog, X.w⟩) (ho : PE X o (tE X.K W wo)) (hi : PE X i (tE X.K W wi)) (he : PE X e (tE X.K W we)) (m : M2 X o "get" apos i e pos := by exact ⟨rfl, rfl, rfl, rfl⟩) : PE X (.Call (.Attribute o "get" apos) [i, e] [] pos) (tE X.K W (wNGet2 q wo wi we)) := by
  refine ⟨fun pins s σ H Q I ⟨F, C, ρ, P, PX, hs, en, xr, w, k⟩ => ?_⟩
  refine wpAny_Call_method m.base m.few m.line PySem.F.plainAttrs_dict PySem.F.slot_dict_get PySem.F.type_dict_get (thn (ho.run pins s σ H (fun v H1 => ∃ F1 C1 x, Ex F F1 ∧ Hs X.K F1 C1 H1 ∧ Rep X.K F1 v x ∧ isN q x C1 ∧ wi ρ C1 (fun y C2 => we ρ C2 (fun z C3 => withN q x C3 fun b t => match keyB b y with
    | some k => P ((vaD t k).getD z) C3
    | none => False) PX) PX) I ⟨F, C, ρ, _, PX, hs, en, xr, w, fun v F1 H1 x C1 e1 h1 rx q => ⟨F1, C1, x, e1, h1, rx, q.1, q.2⟩⟩) fun u s1 ⟨v, H1, I1, rv, F1, C1, x, e1, h1, rx, hn, w1⟩ => ?_)
  obtain ⟨a, _, rfl, _, sm, hT, nd, _⟩ := withN_dict I1 h1 hq rx rv hn
  refine ⟨hT, nd, ?_⟩
  rw [m.trees]
  refine Calls.callWith_builtin rfl (Calls.evalArgs_plain (Calls.spliced_cons (thn (hi.run pins s1 σ H1 (fun z H2 => ∃ F2 C2 y, Ex F1 F2 ∧ Hs X.K F2 C2 H2 ∧ Rep X.K F2 z y ∧ we ρ C2 (fun z C3 => withN q x C3 fun b t => match keyB b y with
    | some k => P ((vaD t k).getD z) C3
    | none => False) PX) I1 ⟨F1, C1, ρ, _, PX, h1, en.mono e1, xr.mono e1, w1, fun z F2 H2 y C2 e2 h2 ry q2 => ⟨F2, C2, y, e2, h2, ry, q2⟩⟩) fun r s2 ⟨z, H2, I2, rz, F2, C2, y, e2, h2, ry, w2⟩ =>
    Calls.spliced_cons (thn (he.run pins s2 σ H2 (fun g H3 => ∃ F3 C3 dg, Ex F2 F3 ∧ Hs X.K F3 C3 H3 ∧ Rep X.K F3 g dg ∧ withN q x C3 fun b t => match keyB b y with
    | some k => P ((vaD t k).getD dg) C3
    | none => False) I2 ⟨F2, C2, ρ, _, PX, h2, en.mono (e1.trans e2), xr.mono (e1.trans e2), w2, fun g F3 H3 dg C3 e3 h3 rg q3 => ⟨F3, C3, dg, e3, h3, rg, q3⟩⟩) fun gr s3 ⟨g, H3, I3, rg, F3, C3, dg, e3, h3, rdg, w3⟩ => Calls.spliced_nil ?_))))
  obtain ⟨a', ea, sm, hT, nd, b, kk, o, hR, w', hw, hkk⟩ := withN_key (R := fun _ _ o => P (o.getD dg) C3) I3 h3 hq (rx.mono (e2.trans e3)) rv (ry.mono e3) rz w3
  cases ea
  have fin : ∀ (w'' : Option Value), w'' = w' → ∀ s', Inv X pins σ H3 s' → EP X pins σ Q (w''.getD gr) s' := fun w'' ew s' I4 => by
    subst ew
    rcases hw with ⟨rfl, rfl⟩ | ⟨d, v', u', rfl, rfl, g3, g4⟩
    · exact ⟨g, H3, I4, rg, k _ F3 H3 _ C3 ((e1.trans e2).trans e3) h3 rdg hR⟩
    · exact ⟨v', H3, I4, g3, k v' F3 H3 d C3 ((e1.trans e2).trans e3) h3 g4 hR⟩
  rcases hkk with ⟨c, ys, rfl, hc, hd, hv⟩ | ⟨l, vs, _, hl, hd, hv⟩
  · exact call_meetsIn PySem.F.slot_dict_get hd.typeIs PySem.F.entry_dict_get (PySem.F.args_dict_get_3 _ _ _) (meetsH_dict_get_default (nestedKind X.prog X.w) a c sm gr) ⟨room_N hu, kk, ys, hc, hd, fin _ hv _ (I3.tok _)⟩
  · exact call_meetsIn PySem.F.slot_dict_get hd.typeIs PySem.F.entry_dict_get (PySem.F.args_dict_get_3 _ _ _) (meets_dict_get_default (leafKind X.prog X.w) a hl sm gr) ⟨_, hd.mapOf, fin _ hv _ (I3.tok _)⟩
end

/-! ### {} -/
def wNewN (q : Pgw) (_ : DEnv) (C : Cells) (P : DK) (_ : DX) : Prop := ∀ p, C p = none → P (.ptr p) (cput C p (.dN q []))
def wNewO (q : Pgw) (_ : DEnv) (C : Cells) (P : DK) (_ : DX) : Prop := ∀ p, C p = none → P (.ptr p) (cput C p (.dO q []))
theorem ndO_ok {P : Program} {w : World} {H : Hp} {h : Heap} {a : Addr} {w0 : World} {xs : List (NestedKey × Addr × V)} (x : NdAt w0 a xs h) : ObjOk P w H h a (ndO w0 a xs) := by
  refine ⟨x, ?_, fun h1 h2 g1 k => ?_⟩
  · obtain ⟨_, _, _, _, o, _, _, ho, _⟩ := x
    exact ⟨o, ho⟩
  · obtain ⟨z, sm, ys, pr, o, es, ep, ho, r⟩ := g1
    exact ⟨z, sm, ys, pr, o, es, ep, k o ho, r⟩
theorem ldO_ok {P : Program} {w : World} {H : Hp} {h : Heap} {a : Addr} {q : Pgw} {xs : List (Leaf × V)} (x : LdAt q a xs h) : ObjOk P w H h a (ldO q a xs) := by
  refine ⟨x, ?_, fun h1 h2 g1 k => ?_⟩
  · obtain ⟨_, _, _, _, o, _, _, ho, _⟩ := x
    exact ⟨o, ho⟩
  · obtain ⟨z, sm, vs, pr, o, es, ep, ho, r⟩ := g1
    exact ⟨z, sm, vs, pr, o, es, ep, k o ho, r⟩
section
variable {X : Cx} {W : WX} {pos : Pos} {q : Pgw}
theorem d_newN : PE X (.Dict [] [] pos) (tE X.K W (wNewN q)) := ⟨fun pins s σ H Q I ⟨F, C, ρ, P, PX, hs, en, xr, w, k⟩ => by
  have hp : H s.heap.objs.size = none := I.hok.fresh (Nat.le_refl _)
  have sm : (s.heap.objs.size == sysModules) = false := beq_eq_false_iff_ne.mpr (Ne.symm (Nat.ne_of_lt I.big))
  refine wpAny_Dict_empty ⟨.ref s.heap.objs.size, _, I.laid (a := s.heap.objs.size) (o := ndO q.w s.heap.objs.size []) (t' := s.toks) (fun _ _ q => Heap.get?_push_of_some _ q) (Nat.le_refl _) (ndO_ok ⟨Nat.zero_le _, sm, [], .nil, _, #[], 0, Heap.get?_push_size _ rfl, ⟨rfl, rfl, rfl⟩, rfl, rfl, List.nodup_nil⟩), rfl, ?_⟩
  exact k _ F _ _ _ (Ex.refl F) (hs.put (c := .dN q []) (hs.fresh hp).1 ⟨[], upd_same, .nil⟩) (.ptr _) (w _ (hs.fresh hp).2)⟩
theorem d_newO : PE X (.Dict [] [] pos) (tE X.K W (wNewO q)) := ⟨fun pins s σ H Q I ⟨F, C, ρ, P, PX, hs, en, xr, w, k⟩ => by
  have hp : H s.heap.objs.size = none := I.hok.fresh (Nat.le_refl _)
  have sm : (s.heap.objs.size == sysModules) = false := beq_eq_false_iff_ne.mpr (Ne.symm (Nat.ne_of_lt I.big))
  refine wpAny_Dict_empty ⟨.ref s.heap.objs.size, _, I.laid (a := s.heap.objs.size) (o := ldO q s.heap.objs.size []) (t' := s.toks) (fun _ _ q => Heap.get?_push_of_some _ q) (Nat.le_refl _) (ldO_ok ⟨Nat.zero_le _, sm, [], .nil, Heap.DictOf.new s.heap⟩), rfl, ?_⟩
  exact k _ F _ _ _ (Ex.refl F) (hs.put (c := .dO q []) (hs.fresh hp).1 ⟨[], upd_same, .nil⟩) (.ptr _) (w _ (hs.fresh hp).2)⟩
end

/-! ### x[y] = z, del x[y] -/
def nPut (q : Pgw) (x y d : D) (C : Cells) (P : Cells → Prop) : Prop := match x with
  | .ptr a => match C a with
    | some (.dN q' t) => q' = q ∧ match keyB true y with
      | some k => t.length < 100000 ∧ P (cput C a (.dN q (puD t k d)))
      | none => False
    | some (.dO q' t) => q' = q ∧ match keyB false y with
      | some k => t.length < 100000 ∧ P (cput C a (.dO q (puD t k d)))
      | none => False
    | _ => False
  | _ => False
def nDel (q : Pgw) (x y : D) (C : Cells) (P : Cells → Prop) : Prop := match x with
  | .ptr a => match C a with
    | some (.dN q' t) => q' = q ∧ match keyB true y with
      | some k => (vaD t k).isSome = true ∧ P (cput C a (.dN q (drD t k)))
      | none => False
    | _ => False
  | _ => False
def wSetN (q : Pgw) (o i e : DE) (E : DEnds) (ρ : DEnv) (C : Cells) : Prop := e ρ C (fun d C1 => o ρ C1 (fun x C2 => i ρ C2 (fun y C3 => nPut q x y d C3 fun C4 => E.nx ρ C4) E.ex) E.ex) E.ex
def wDelN (q : Pgw) (o i : DE) (E : DEnds) (ρ : DEnv) (C : Cells) : Prop := o ρ C (fun x C1 => i ρ C1 (fun y C2 => nDel q x y C2 fun C3 => E.nx ρ C3) E.ex) E.ex
def stoX (xs : List (NestedKey × Addr × V)) (k : NestedKey) (b : Addr) (v : V) : List (NestedKey × Addr × V) := if (xs.any fun x => decide (x.1 = k)) = true then xs.map (fun x => if x.1 = k then (x.1, x.2.1, v) else x) else xs ++ [(k, b, v)]
theorem stoX_len (xs : List (NestedKey × Addr × V)) (k : NestedKey) (b : Addr) (v : V) : (stoX xs k b v).length ≤ xs.length + 1 := by
  unfold stoX
  split
  · rw [List.length_map]; omega
  · rw [List.length_append]; exact Nat.le_refl _
theorem paired_map {α β γ δ : Type} {f : α → β → Prop} {g : γ → δ → Prop} {m : α → γ} {n : β → δ} (h : ∀ a b, f a b → g (m a) (n b)) : ∀ {as : List α} {bs : List β}, Paired f as bs → Paired g (as.map m) (bs.map n)
  | _, _, .nil => .nil
  | _, _, .cons x xs => .cons (h _ _ x) (paired_map h xs)
theorem paired_any {α β : Type} {f : α → β → Prop} {p : α → Bool} {q : β → Bool} (h : ∀ a b, f a b → p a = q b) : ∀ {as : List α} {bs : List β}, Paired f as bs → as.any p = bs.any q
  | _, _, .nil => rfl
  | _, _, .cons x xs => by rw [List.any_cons, List.any_cons, h _ _ x, paired_any h xs]
theorem paired_filter {α β : Type} {f : α → β → Prop} {p : α → Bool} {q : β → Bool} (h : ∀ a b, f a b → p a = q b) : ∀ {as : List α} {bs : List β}, Paired f as bs → Paired f (as.filter p) (bs.filter q)
  | _, _, .nil => .nil
  | _, _, .cons (a := a) (b := b) x xs => by
    rw [List.filter_cons, List.filter_cons, ← h _ _ x]
    cases p a with
    | true => exact .cons x (paired_filter h xs)
    | false => exact paired_filter h xs
theorem paired_snoc {α β : Type} {f : α → β → Prop} {a : α} {b : β} (x : f a b) : ∀ {as : List α} {bs : List β}, Paired f as bs → Paired f (as ++ [a]) (bs ++ [b])
  | _, _, .nil => .cons x .nil
  | _, _, .cons y ys => .cons y (paired_snoc x ys)
theorem sto_ys {xs : List (NestedKey × Addr × V)} {ys : List (NestedKey × Addr × Value)} (r : Paired (fun (x : NestedKey × Addr × V) (y : NestedKey × Addr × Value) => x.1 = y.1 ∧ x.2.1 = y.2.1 ∧ RelV x.2.2 y.2.2) xs ys) (k : NestedKey) (b : Addr) {v : V} {u : Value} (rv : RelV v u) :
    Paired (fun (x : NestedKey × Addr × V) (y : NestedKey × Addr × Value) => x.1 = y.1 ∧ x.2.1 = y.2.1 ∧ RelV x.2.2 y.2.2) (stoX xs k b v) (storedH ys k b u) := by
  have ha : (xs.any fun x => decide (x.1 = k)) = (atKey ys k).isSome := by
    rw [paired_any (q := fun y => decide (y.1 = k)) (fun x y z => by rw [z.1]) r, ← any_pairsH]
    unfold pairsH
    rw [List.any_map]
    rfl
  unfold stoX storedH
  rw [ha]
  by_cases g : (atKey ys k).isSome = true
  · rw [if_pos g, if_pos g]
    refine paired_map (fun x y z => ?_) r
    unfold putAt
    by_cases e : x.1 = k
    · rw [if_pos e, if_pos (z.1.symm.trans e)]
      exact ⟨z.1, z.2.1, rv⟩
    · rw [if_neg e, if_neg (fun w => e (z.1.trans w))]
      exact z
  · rw [if_neg g, if_neg g]
    exact paired_snoc ⟨rfl, rfl, rv⟩ r
theorem sto_t {K : PySem.W.Frag} {F : Hp} {xs : List (NestedKey × Addr × V)} {t : List (NestedKey × D)} (r : NdR K F xs t) {k : NestedKey} {b : Addr} {v : V} {d : D} (hk : k.depth ≤ 8) (hb : Rep K F (.ref b) (nkD k)) (rv : Rep K F v d) : NdR K F (stoX xs k b v) (puD t k d) := by
  have ha : (xs.any fun x => decide (x.1 = k)) = t.any fun p => decide (p.1 = k) := paired_any (fun x p z => by rw [z.1]) r
  unfold stoX puD
  rw [ha]
  by_cases g : (t.any fun p => decide (p.1 = k)) = true
  · rw [if_pos g, if_pos g]
    refine paired_map (fun x p z => ?_) r
    by_cases e : x.1 = k
    · rw [if_pos e, if_pos (z.1.symm.trans e)]
      exact ⟨z.1, z.2.1, z.2.2.1, rv⟩
    · rw [if_neg e, if_neg (fun w => e (z.1.trans w))]
      exact z
  · rw [if_neg g, if_neg g]
    exact paired_snoc ⟨rfl, hk, hb, rv⟩ r
section
variable {X : Cx} {W : WX} {K : PySem.W.Frag} {o i e : Expr} {wo wi we : DE} {pos pos' tpos : Pos} {q : Pgw}
variable {pins : List (Addr × Obj)} {σ : L2.St} {H F : Hp} {C : Cells} {s : Shared}
theorem nPut_go {x y d : D} {v z g : V} {u r gr : Value} {P : Cells → Prop} {Q : Unit → Shared → Prop} {E : Value → Shared → Prop} (hu : X.A.units + 64 < cLine) (hq : q = ⟨X.prog, X.w⟩) (I : Inv X pins σ H s) (hs : Hs X.K F C H)
    (rx : Rep X.K F v x) (rv : RelV v u) (ry : Rep X.K F z y) (rz : RelV z r) (rd : Rep X.K F g d) (rg : RelV g gr) (h : nPut q x y d C P)
    (fin : ∀ H' C' s', Inv X pins σ H' s' → Hs X.K F C' H' → P C' → Q () s') : wpAny (model X.prog X.w) X.A (setItem u r gr) Q E s := by
  unfold nPut at h
  split at h
  · rename_i a
    cases rx
    obtain rfl : u = .ref a := rv
    split at h
    · rename_i q' t hc
      obtain ⟨rfl, h⟩ := h
      split at h
      · rename_i k hk
        obtain ⟨f0, xs, h1, h2⟩ := hs.cell a _ hc
        obtain ⟨c, rfl, rfl, hkc, rcd⟩ := keyB_is I.hok hs.ex ry hk rz
        obtain ⟨z, sm, ys, pr, ob, es, ep, ho, hx, hd, he, hn⟩ := (show ObjOk X.prog X.w H s.heap a (ndO q'.w a xs) from I.hok a _ h1).1
        obtain ⟨_, _, ys2, hdo, _⟩ := nd_open ⟨z, sm, ys, pr, ob, es, ep, ho, hx, hd, he, hn⟩ h2 (by rw [hq]) hs I.hok
        have hdo : s.heap.DictOfH (nestedKind X.prog X.w) a ys := by
          have hw : q'.w = X.w := by rw [hq]
          refine ⟨ob, es, ep, ho, hx, hd, by rw [he, hw]; rfl, fun y hy => ?_, hn⟩
          have nv : NdV X.K F t ys := paired_comp (fun x p y (h1 : x.1 = p.1 ∧ p.1.depth ≤ 8 ∧ Rep X.K F (.ref x.2.1) (nkD p.1) ∧ Rep X.K F x.2.2 p.2) (h2 : x.1 = y.1 ∧ x.2.1 = y.2.1 ∧ RelV x.2.2 y.2.2) =>
            ⟨h1.1.symm.trans h2.1, h1.2.1, by rw [← h2.2.1]; exact h1.2.2.1, x.2.2, h2.2.2, h1.2.2.2⟩) h2 pr
          refine paired_right (p := fun y => (nestedKind X.prog X.w).is s.heap y.1 y.2.1) (fun p y hz => ?_) nv y hy
          obtain ⟨g1, g2, g3, _⟩ := hz
          have := keyN_is I.hok hs.ex 8 g3 (nkD_keyN p.1 8 g2) (u := .ref y.2.1) rfl
          rw [g1] at this
          exact this
        have l1 : xs.length = t.length := Paired.length h2
        have l2 : xs.length = ys.length := Paired.length pr
        have l3 := sz_lt h.1
        refine wpAny_setItem_heap (hsz := by omega) (room_N hu) hkc hdo fun h' hd' hsb => ?_
        obtain ⟨ob', es', ep', ho', hx', hdd', he', _, hn'⟩ := hd'
        have hnd : NdAt q'.w a (stoX xs k c g) h' := by
          refine ⟨by have := stoX_len xs k c g; omega, sm, _, sto_ys pr k c rg, ob', es', ep', ho', hx', hdd', ?_, hn'⟩
          rw [he', show q'.w = X.w by rw [hq]]
          rfl
        have I2 := d_write (t' := s.toks + (nestedKind X.prog X.w).draws k) I (by rw [h1]; exact True.intro) hsb ⟨ob', ho'⟩ (ndO_ok (P := X.prog) (w := X.w) (H := upd H a (ndO q'.w a (stoX xs k c g))) hnd)
        refine fin _ _ _ I2 (hs.put (c := .dN q' (puD t k d)) f0 ⟨_, upd_same, sto_t h2 hkc.2 ?_ rd⟩) h.2
        rw [← keyB_nkD hk]
        exact rcd
      · exact h.elim
    · rename_i q' t hc
      obtain ⟨rfl, h⟩ := h
      split at h
      · rename_i k hk
        obtain ⟨f0, xs, h1, h2⟩ := hs.cell a _ hc
        obtain ⟨l, rfl, hl2⟩ := keyB_leaf hk
        obtain ⟨z, sm, vs, pr, hd⟩ := (show ObjOk X.prog X.w H s.heap a (ldO q' a xs) from I.hok a _ h1).1
        have l1 : xs.length = t.length := Paired.length h2
        have l2 : xs.length = vs.length := Paired.length pr
        have l3 := sz_lt h.1
        have hkl : (leafKind X.prog X.w).is l r = true := leaf_is ry hl2 rz
        have hd2 : s.heap.DictOf (leafKind X.prog X.w) a vs := by rw [hq] at hd; exact hd
        refine wpAny_setItem_pairs (hsz := by omega) hkl hd2 fun h' hd' hsb => ?_
        obtain ⟨ob', es', ep', ho', r'⟩ := id hd'
        have hnd : LdAt q' a (putK xs l g) h' := ⟨by have := length_putK xs l g; omega, sm, _, KV.put pr l rg, by rw [hq]; exact hd'⟩
        have I2 := d_write (t' := s.toks + 1) I (by rw [h1]; exact True.intro) hsb ⟨ob', ho'⟩ (ldO_ok (P := X.prog) (w := X.w) (H := upd H a (ldO q' a (putK xs l g))) hnd)
        refine fin _ _ _ I2 (hs.put (c := .dO q' (puD t l.key d)) f0 ⟨_, upd_same, ?_⟩) h.2
        have ha : (xs.any fun x => decide (x.1 = l)) = t.any fun p => decide (p.1 = l.key) := paired_any (fun x p z => by
          rw [← z.1]
          exact decide_eq_decide.mpr ⟨fun e => by rw [e], fun e => Leaf.key_inj e⟩) h2
        unfold putK puD
        rw [ha]
        by_cases gg : (t.any fun p => decide (p.1 = l.key)) = true
        · rw [if_pos gg, if_pos gg]
          refine paired_map (fun x p z => ?_) h2
          by_cases e : x.1 = l
          · rw [if_pos e, if_pos (by rw [← z.1, e])]
            exact ⟨z.1, rd⟩
          · rw [if_neg e, if_neg (fun w => e (Leaf.key_inj (z.1.trans w)))]
            exact z
        · rw [if_neg gg, if_neg gg]
          exact paired_snoc ⟨rfl, rd⟩ h2
      · exact h.elim
    · exact h.elim
  · exact h.elim
theorem ds_setN (hu : X.A.units + 64 < cLine) (hq : q = ⟨X.prog, X.w⟩) (ho : PE X o (tE X.K W wo)) (hi : PE X i (tE X.K W wi)) (he : PE X e (tE X.K W we)) (hsw : swapsWith e (some (.Subscript o i pos')) pos.line X.env = pure false := by rfl) :
    PS X (.Assign [.Subscript o i pos'] e pos) (tS X.K W (wSetN q wo wi we)) := by
  refine ⟨fun pins s σ H Dn I ⟨F, C, ρ, DE, hs, en, xr, w, er⟩ => ?_⟩
  refine wpAny_Assign_Subscript (thn (he.run pins s σ H (fun g H1 => ∃ F1 C1 d, Ex F F1 ∧ Hs X.K F1 C1 H1 ∧ Rep X.K F1 g d ∧ wo ρ C1 (fun x C2 => wi ρ C2 (fun y C3 => nPut q x y d C3 fun C4 => DE.nx ρ C4) DE.ex) DE.ex) I
    ⟨F, C, ρ, _, _, hs, en, xr, w, fun g F1 H1 d C1 e1 h1 rd q => ⟨F1, C1, d, e1, h1, rd, q⟩⟩) fun gr s1 ⟨g, H1, I1, rg, F1, C1, d, e1, h1, rd, w1⟩ =>
    thn (ho.run pins s1 σ H1 (fun v H2 => ∃ F2 C2 x, Ex F1 F2 ∧ Hs X.K F2 C2 H2 ∧ Rep X.K F2 v x ∧ wi ρ C2 (fun y C3 => nPut q x y d C3 fun C4 => DE.nx ρ C4) DE.ex) I1
    ⟨F1, C1, ρ, _, _, h1, en.mono e1, xr.mono e1, w1, fun v F2 H2 x C2 e2 h2 rx q => ⟨F2, C2, x, e2, h2, rx, q⟩⟩) fun u s2 ⟨v, H2, I2, rv, F2, C2, x, e2, h2, rx, w2⟩ =>
    thn (hi.run pins s2 σ H2 (fun z H3 => ∃ F3 C3 y, Ex F2 F3 ∧ Hs X.K F3 C3 H3 ∧ Rep X.K F3 z y ∧ nPut q x y d C3 fun C4 => DE.nx ρ C4) I2
    ⟨F2, C2, ρ, _, _, h2, en.mono (e1.trans e2), xr.mono (e1.trans e2), w2, fun z F3 H3 y C3 e3 h3 ry q => ⟨F3, C3, y, e3, h3, ry, q⟩⟩) fun r s3 ⟨z, H3, I3, rz, F3, C3, y, e3, h3, ry, w3⟩ => ?_) hsw
  have ee := (e1.trans e2).trans e3
  exact nPut_go hu hq I3 h3 (rx.mono e3) rv ry rz (rd.mono (e2.trans e3)) rg w3 fun H' C' s' I' h' p => ⟨σ, H', I', er.nx σ F3 H' ρ C' ee h' (en.mono ee) p⟩
theorem nDel_go {x y : D} {v z : V} {u r : Value} {P : Cells → Prop} {Q : Unit → Shared → Prop} {E : Value → Shared → Prop} (hu : X.A.units + 64 < cLine) (hq : q = ⟨X.prog, X.w⟩) (I : Inv X pins σ H s) (hs : Hs X.K F C H)
    (rx : Rep X.K F v x) (rv : RelV v u) (ry : Rep X.K F z y) (rz : RelV z r) (h : nDel q x y C P)
    (fin : ∀ H' C' s', Inv X pins σ H' s' → Hs X.K F C' H' → P C' → Q () s') : wpAny (model X.prog X.w) X.A (delItem u r) Q E s := by
  unfold nDel at h
  split at h
  · rename_i a
    cases rx
    obtain rfl : u = .ref a := rv
    split at h
    · rename_i q' t hc
      obtain ⟨rfl, h⟩ := h
      split at h
      · rename_i k hk
        obtain ⟨f0, xs, h1, h2⟩ := hs.cell a _ hc
        obtain ⟨c, rfl, rfl, hkc, rcd⟩ := keyB_is I.hok hs.ex ry hk rz
        obtain ⟨z, sm, ys, pr, ob, es, ep, ho, hx, hd, he, hn⟩ := (show ObjOk X.prog X.w H s.heap a (ndO q'.w a xs) from I.hok a _ h1).1
        have hw : q'.w = X.w := by rw [hq]
        have nv : NdV X.K F t ys := paired_comp (fun x p y (h1 : x.1 = p.1 ∧ p.1.depth ≤ 8 ∧ Rep X.K F (.ref x.2.1) (nkD p.1) ∧ Rep X.K F x.2.2 p.2) (h2 : x.1 = y.1 ∧ x.2.1 = y.2.1 ∧ RelV x.2.2 y.2.2) =>
          ⟨h1.1.symm.trans h2.1, h1.2.1, by rw [← h2.2.1]; exact h1.2.2.1, x.2.2, h2.2.2, h1.2.2.2⟩) h2 pr
        have hdo : s.heap.DictOfH (nestedKind X.prog X.w) a ys := by
          refine ⟨ob, es, ep, ho, hx, hd, by rw [he, hw]; rfl, fun y hy => ?_, hn⟩
          refine paired_right (p := fun y => (nestedKind X.prog X.w).is s.heap y.1 y.2.1) (fun p y hz => ?_) nv y hy
          obtain ⟨g1, g2, g3, _⟩ := hz
          have := keyN_is I.hok hs.ex 8 g3 (nkD_keyN p.1 8 g2) (u := .ref y.2.1) rfl
          rw [g1] at this
          exact this
        have l2 : xs.length = ys.length := Paired.length pr
        obtain ⟨p, hp⟩ : ∃ p, atKey ys k = some p := by
          rcases nv_val nv k with ⟨g1, _⟩ | ⟨_, p, _, _, g2, _⟩
          · have := h.1
            rw [g1] at this
            cases this
          · exact ⟨p, g2⟩
        refine wpAny_delItem_heap (hsz := by omega) (room_N hu) hkc sm hdo hp fun h' hd' hsb => ?_
        obtain ⟨ob', es', ep', ho', hx', hdd', he', _, hn'⟩ := hd'
        have hnd : NdAt q'.w a (xs.filter fun x => decide (x.1 ≠ k)) h' := by
          refine ⟨by have := List.length_filter_le (fun x : NestedKey × Addr × V => decide (x.1 ≠ k)) xs; omega, sm, _, paired_filter (p := fun x : NestedKey × Addr × V => decide (x.1 ≠ k)) (q := fun y : NestedKey × Addr × Value => decide (y.1 ≠ k)) (fun x y z => by rw [z.1]) pr, ob', es', ep', ho', hx', hdd', ?_, hn'⟩
          rw [he', hw]
          rfl
        have I2 := d_write (t' := s.toks + (nestedKind X.prog X.w).draws k) I (by rw [h1]; exact True.intro) hsb ⟨ob', ho'⟩ (ndO_ok (P := X.prog) (w := X.w) (H := upd H a (ndO q'.w a (xs.filter fun x => decide (x.1 ≠ k)))) hnd)
        exact fin _ _ _ I2 (hs.put (c := .dN q' (drD t k)) f0 ⟨_, upd_same, paired_filter (fun x p z => by rw [z.1]) h2⟩) h.2
      · exact h.elim
    · exact h.elim
  · exact h.elim
theorem ds_delN (hu : X.A.units + 64 < cLine) (hq : q = ⟨X.prog, X.w⟩) (ho : PE X o (tE X.K W wo)) (hi : PE X i (tE X.K W wi)) : PS X (.Delete [.Subscript o i tpos] pos) (tS X.K W (wDelN q wo wi)) := by
  refine ⟨fun pins s σ H Dn I ⟨F, C, ρ, DE, hs, en, xr, w, er⟩ => ?_⟩
  refine wpAny_Delete (wpAny_deleteEach_cons (wpAny_delete_Subscript (thn (ho.run pins s σ H (fun v H2 => ∃ F2 C2 x, Ex F F2 ∧ Hs X.K F2 C2 H2 ∧ Rep X.K F2 v x ∧ wi ρ C2 (fun y C3 => nDel q x y C3 fun C4 => DE.nx ρ C4) DE.ex) I
    ⟨F, C, ρ, _, _, hs, en, xr, w, fun v F2 H2 x C2 e2 h2 rx q => ⟨F2, C2, x, e2, h2, rx, q⟩⟩) fun u s2 ⟨v, H2, I2, rv, F2, C2, x, e2, h2, rx, w2⟩ =>
    thn (hi.run pins s2 σ H2 (fun z H3 => ∃ F3 C3 y, Ex F2 F3 ∧ Hs X.K F3 C3 H3 ∧ Rep X.K F3 z y ∧ nDel q x y C3 fun C4 => DE.nx ρ C4) I2
    ⟨F2, C2, ρ, _, _, h2, en.mono e2, xr.mono e2, w2, fun z F3 H3 y C3 e3 h3 ry q => ⟨F3, C3, y, e3, h3, ry, q⟩⟩) fun r s3 ⟨z, H3, I3, rz, F3, C3, y, e3, h3, ry, w3⟩ => ?_)))
  have ee := e2.trans e3
  exact nDel_go hu hq I3 h3 (rx.mono e3) rv ry rz w3 fun H' C' s' I' h' p => wpAny_deleteEach_nil ⟨σ, H', I', er.nx σ F3 H' ρ C' ee h' (en.mono ee) p⟩
end
end DD

set_option Elab.async false
set_option linter.all false
set_option maxRecDepth 100000
set_option maxHeartbeats 4000000
/-! Walks over the keys of such dicts; sorted(..) and len(..) of them. -/
namespace DD
open PySem L2 PySem.Spec PyProof.Rows PySem.W

theorem keyB_T (ds : List D) : keyB true (.tup ds) = (keysNf (keyN 7) ds).map .tup := rfl
theorem keyB_0 : keyB false .non = some .none := rfl
theorem keyB_S (x : Str) : keyB false (.str x) = some (.text x) := rfl
theorem keyB_I (i : Int) : keyB false (.int i) = some (.num i) := rfl
section
variable {X : Cx} {pins : List (Addr × Obj)} {σ : L2.St} {H : Hp} {s : Shared} {d : Addr} {o : Obj}
theorem frzN {w : World} {xs : List (NestedKey × Addr × V)} (I : Inv X pins σ H s) (h : H d = some (.frz o (ndO w d xs))) :
    (d == sysModules) = false ∧ s.heap.get? d = some o ∧ o.ExactDict ∧ xs.length ≤ sizeLine ∧ ∃ (es : Array DictEntry) (ep : Nat), o.data = .dict es ep ∧ es.size = xs.length ∧
      ∀ (i : Nat) (k : NestedKey) (b : Addr) (v : V), xs[i]? = some (k, b, v) → ∃ en, es[i]? = some en ∧ en.key = .ref b := by
  obtain ⟨hd, h2⟩ := (show ObjOk X.prog X.w H s.heap d (.frz o (ndO w d xs)) from I.hok d _ h)
  obtain ⟨z, sm, ys, pr, ob, es, ep, ho, hx, hdt, he, hn⟩ := (show ObjOk X.prog X.w H s.heap d (ndO w d xs) from h2).1
  rw [hd] at ho
  cases ho
  have l1 : es.size = ys.length := by rw [← Array.length_toList, he, List.length_map]
  refine ⟨sm, hd, hx, z, es, ep, hdt, by rw [l1, Paired.length pr], fun i k b v e => ?_⟩
  obtain ⟨y, hy, e1, e2, _⟩ := paired_get pr e
  refine ⟨ndEnt w y, by rw [← Array.getElem?_toList, he, List.getElem?_map, hy]; rfl, ?_⟩
  show Value.ref y.2.1 = .ref b
  rw [← e2]
theorem frzO {q : Pgw} {xs : List (Leaf × V)} (I : Inv X pins σ H s) (h : H d = some (.frz o (ldO q d xs))) :
    (d == sysModules) = false ∧ s.heap.get? d = some o ∧ o.ExactDict ∧ xs.length ≤ sizeLine ∧ ∃ (es : Array DictEntry) (ep : Nat), o.data = .dict es ep ∧ es.size = xs.length ∧
      ∀ (i : Nat) (k : Leaf) (v : V), xs[i]? = some (k, v) → ∃ en, es[i]? = some en ∧ Leaf.isOf k en.key = true := by
  obtain ⟨hd, h2⟩ := (show ObjOk X.prog X.w H s.heap d (.frz o (ldO q d xs)) from I.hok d _ h)
  obtain ⟨z, sm, vs, pr, ob, es, ep, ho, hx, hdt, hk, hp, hn⟩ := (show ObjOk X.prog X.w H s.heap d (ldO q d xs) from h2).1
  rw [hd] at ho
  cases ho
  have l1 : es.size = vs.length := by rw [← Array.length_toList]; exact hp.length
  refine ⟨sm, hd, hx, z, es, ep, hdt, by rw [l1]; exact (Paired.length pr).symm, fun i k v e => ?_⟩
  obtain ⟨y, hy, e1, e2⟩ := paired_get pr e
  have hi : i < es.size := by
    rw [l1]
    exact (List.getElem?_eq_some_iff.mp hy).1
  obtain ⟨y1, y2⟩ := y
  have hen : es.toList[i]? = some es[i] := by rw [Array.getElem?_toList]; exact Array.getElem?_eq_getElem hi
  have := hp.get? hen hy
  refine ⟨es[i], Array.getElem?_eq_getElem hi, ?_⟩
  have e1' : k = y1 := e1
  rw [e1']
  exact this.1
end
/-- the keys of a locked dict, in their order -/
def Itn (w : World) (d : Addr) (o : Obj) (xs : List (NestedKey × Addr × V)) : It :=
  ⟨fun i H => H d = some (.frz o (ndO w d xs)) ∧ i < xs.length, fun i H x H' => H' = H ∧ ∃ k b v, xs[i]? = some (k, b, v) ∧ x = .ref b, fun i H => H d = some (.frz o (ndO w d xs)) ∧ xs.length ≤ i⟩
/-- None and texts -/
def lfV : Leaf → V
  | .none => .non
  | .num i => .int i
  | .text x => .str x
def noNum : Leaf → Bool
  | .num _ => false
  | _ => true
def Itz (q : Pgw) (d : Addr) (o : Obj) (xs : List (Leaf × V)) : It :=
  ⟨fun i H => H d = some (.frz o (ldO q d xs)) ∧ i < xs.length ∧ (xs.all fun x => noNum x.1) = true, fun i H x H' => H' = H ∧ ∃ k v, xs[i]? = some (k, v) ∧ x = lfV k, fun i H => H d = some (.frz o (ldO q d xs)) ∧ xs.length ≤ i⟩
theorem lf_rel {k : Leaf} {u : Value} (h : Leaf.isOf k u = true) (n : noNum k = true) : RelV (lfV k) u := by
  cases k with
  | none => cases u <;> first | rfl | cases h
  | num i => cases n
  | text x =>
    obtain ⟨t, rfl⟩ := Value.isStrOf_shape (show Value.isStrOf x u = true from h)
    exact ⟨t, rfl⟩
section
variable {P : Program} {w : World} {K : PySem.W.Frag} {tg : Expr} {d : Addr} {o : Obj} {es : Array DictEntry} {ep : Nat}
theorem turn_keysN {w0 : World} {xs : List (NestedKey × Addr × V)} (it : Addr) (hod : o.data = .dict es ep) : Turn P w K tg (Itn w0 d o xs) [it] it (fun i h => h.IsKeyIter it d i xs.length ep) where
  mem := by simp
  obj := fun i h st b hb => by
    have e : b = it := by simpa using hb
    subst e
    obtain ⟨oi, e, c, dd⟩ := st
    exact ⟨oi, e, fun v z => by rw [dd] at z; cases z⟩
  keep := fun i h h' st k => st.at fun oi e => k it (by simp) oi e
  item := by
    intro X hP hw hK hc i pins s σ H E I hf st hg
    subst hP hw hK
    obtain ⟨hd, hi⟩ := hg
    obtain ⟨f0, f1, f2, f3, f4, f5⟩ := hf it (by simp)
    obtain ⟨hs, hgd, hx, _, es', ep', hdt, hsz, ent⟩ := frzN I hd
    obtain ⟨rfl, rfl⟩ := dict_ep hod hdt
    obtain ⟨⟨k, b, v⟩, hkv⟩ : ∃ p, xs[i]? = some p := ⟨xs[i], List.getElem?_eq_getElem hi⟩
    obtain ⟨en, hen, hkey⟩ := ent i k b v hkv
    refine next_key_item st hgd hdt hsz hen fun h' st' sb => ?_
    have I1 : Inv X pins σ H { s with heap := h' } := I.turned (t' := s.toks) (fun b ob hb e => (sb.2 b hb).trans e) f0 f1 f3 f4 f5
    obtain ⟨oi, e, c, dd⟩ := id st'
    exact ⟨en.key, rfl, go_of (s := { s with heap := h' }) e c dd (by decide) ⟨.ref b, H, I1, hkey, ⟨rfl, k, b, v, hkv, rfl⟩, st', fun b hb => (hf b hb).1⟩⟩
  done := by
    intro X hP hw hK hc i pins s σ H E I hf st hg
    subst hP hw hK
    obtain ⟨hd, hi⟩ := hg
    obtain ⟨f0, f1, f2, f3, f4, f5⟩ := hf it (by simp)
    obtain ⟨hs, hgd, hx, _, es', ep', hdt, hsz, ent⟩ := frzN I hd
    obtain ⟨rfl, rfl⟩ := dict_ep hod hdt
    exact next_key_end (I.ok.hd hc) st hgd hdt hsz hi fun h' eb => ⟨rfl, I.turned (t' := s.toks) (fun b ob hb e => eb b ob hb e) f0 f1 f3 f4 f5⟩
  self := fun A i s Q E st h => by
    refine wpAny_pyIter_slot st.typeIs F.slot_dict_keyiterator_iter (wpAny_call_entry F.slot_dict_keyiterator_iter st.typeIs F.entry_dict_keyiterator_iter ?_ (F.args_dict_keyiterator_iter_1 _))
    show wpAny _ _ (ret (.ref it)) _ _ s
    exact wpAny_pure ⟨_, rfl, "dict_keyiterator", _, st.typeIs, F.slot_dict_keyiterator_next.lookup, h⟩
theorem turn_keysO {q : Pgw} {xs : List (Leaf × V)} (it : Addr) (hod : o.data = .dict es ep) : Turn P w K tg (Itz q d o xs) [it] it (fun i h => h.IsKeyIter it d i xs.length ep) where
  mem := by simp
  obj := fun i h st b hb => by
    have e : b = it := by simpa using hb
    subst e
    obtain ⟨oi, e, c, dd⟩ := st
    exact ⟨oi, e, fun v z => by rw [dd] at z; cases z⟩
  keep := fun i h h' st k => st.at fun oi e => k it (by simp) oi e
  item := by
    intro X hP hw hK hc i pins s σ H E I hf st hg
    subst hP hw hK
    obtain ⟨hd, hi, hnn⟩ := hg
    obtain ⟨f0, f1, f2, f3, f4, f5⟩ := hf it (by simp)
    obtain ⟨hs, hgd, hx, _, es', ep', hdt, hsz, ent⟩ := frzO I hd
    obtain ⟨rfl, rfl⟩ := dict_ep hod hdt
    obtain ⟨⟨k, v⟩, hkv⟩ : ∃ p, xs[i]? = some p := ⟨xs[i], List.getElem?_eq_getElem hi⟩
    obtain ⟨en, hen, hkey⟩ := ent i k v hkv
    have hnk : noNum k = true := List.all_eq_true.mp hnn _ (List.mem_of_getElem? hkv)
    refine next_key_item st hgd hdt hsz hen fun h' st' sb => ?_
    have I1 : Inv X pins σ H { s with heap := h' } := I.turned (t' := s.toks) (fun b ob hb e => (sb.2 b hb).trans e) f0 f1 f3 f4 f5
    obtain ⟨oi, e, c, dd⟩ := id st'
    exact ⟨en.key, rfl, go_of (s := { s with heap := h' }) e c dd (by decide) ⟨lfV k, H, I1, lf_rel hkey hnk, ⟨rfl, k, v, hkv, rfl⟩, st', fun b hb => (hf b hb).1⟩⟩
  done := by
    intro X hP hw hK hc i pins s σ H E I hf st hg
    subst hP hw hK
    obtain ⟨hd, hi⟩ := hg
    obtain ⟨f0, f1, f2, f3, f4, f5⟩ := hf it (by simp)
    obtain ⟨hs, hgd, hx, _, es', ep', hdt, hsz, ent⟩ := frzO I hd
    obtain ⟨rfl, rfl⟩ := dict_ep hod hdt
    exact next_key_end (I.ok.hd hc) st hgd hdt hsz hi fun h' eb => ⟨rfl, I.turned (t' := s.toks) (fun b ob hb e => eb b ob hb e) f0 f1 f3 f4 f5⟩
  self := fun A i s Q E st h => by
    refine wpAny_pyIter_slot st.typeIs F.slot_dict_keyiterator_iter (wpAny_call_entry F.slot_dict_keyiterator_iter st.typeIs F.entry_dict_keyiterator_iter ?_ (F.args_dict_keyiterator_iter_1 _))
    show wpAny _ _ (ret (.ref it)) _ _ s
    exact wpAny_pure ⟨_, rfl, "dict_keyiterator", _, st.typeIs, F.slot_dict_keyiterator_next.lookup, h⟩
end
/-- no number among the keys -/
def noNumK : NestedKey → Bool
  | .num _ => false
  | _ => true
def wItN (e : DE) (ρ : DEnv) (C : Cells) (P : DIt → Cells → Prop) (PX : DX) : Prop := e ρ C (fun d C1 => match d with
  | .ptr a => match C1 a with
    | some (.lN q t od xs) => P ⟨t.map fun p => nkD p.1, fun C' => C' a = some (.lN q t od xs)⟩ C1
    | some (.lO q t od xs) => (t.all fun p => noNumK p.1) = true ∧ P ⟨t.map fun p => nkD p.1, fun C' => C' a = some (.lO q t od xs)⟩ C1
    | _ => False
  | _ => False) PX
section
variable {K : PySem.W.Frag} {F : Hp} {a : Addr} {od : Obj}
theorem itr_N {q : Pgw} {t : List (NestedKey × D)} {xs : List (NestedKey × Addr × V)} : ItR K F (Itn q.w a od xs) ⟨t.map fun p => nkD p.1, fun C' => C' a = some (.lN q t od xs)⟩ := fun F' H C e hs hc => by
  obtain ⟨_, h1, h2⟩ := hs.cell a _ hc
  have l1 : xs.length = t.length := Paired.length h2
  refine ⟨fun i d hd => ?_, h1, by rw [List.length_map]; omega⟩
  rw [List.getElem?_map] at hd
  cases ht : t[i]? with
  | none => rw [ht] at hd; cases hd
  | some p =>
    rw [ht] at hd
    cases hd
    have hit := (List.getElem?_eq_some_iff.mp ht).1
    refine ⟨⟨h1, by omega⟩, fun x H' y => ?_⟩
    obtain ⟨rfl, k, b, v, hx, rfl⟩ := y
    obtain ⟨p', hp', e1, e2, e3, _⟩ := paired_get h2 hx
    rw [ht] at hp'
    cases hp'
    exact ⟨F', Ex.refl _, hs, e3⟩
theorem itr_O {q : Pgw} {t : List (NestedKey × D)} {xs : List (Leaf × V)} (hn : (t.all fun p => noNumK p.1) = true) : ItR K F (Itz q a od xs) ⟨t.map fun p => nkD p.1, fun C' => C' a = some (.lO q t od xs)⟩ := fun F' H C e hs hc => by
  obtain ⟨_, h1, h2⟩ := hs.cell a _ hc
  have l1 : xs.length = t.length := Paired.length h2
  have hn2 : (xs.all fun x => noNum x.1) = true := by
    rw [List.all_eq_true] at hn ⊢
    intro x hx
    obtain ⟨i, hi⟩ := List.getElem?_of_mem hx
    obtain ⟨p, hp, e1, _⟩ := paired_get h2 hi
    have := hn p (List.mem_of_getElem? hp)
    rw [← e1] at this
    cases hk : x.1 with
    | num j => rw [hk] at this; cases this
    | none => rfl
    | text z => rfl
  refine ⟨fun i d hd => ?_, h1, by rw [List.length_map]; omega⟩
  rw [List.getElem?_map] at hd
  cases ht : t[i]? with
  | none => rw [ht] at hd; cases hd
  | some p =>
    rw [ht] at hd
    cases hd
    have hit := (List.getElem?_eq_some_iff.mp ht).1
    refine ⟨⟨h1, by omega, hn2⟩, fun x H' y => ?_⟩
    obtain ⟨rfl, k, v, hx, rfl⟩ := y
    obtain ⟨p', hp', e1, _⟩ := paired_get h2 hx
    rw [ht] at hp'
    cases hp'
    refine ⟨F', Ex.refl _, hs, ?_⟩
    have e1' : k.key = p.1 := e1
    show Rep K F' (lfV k) (nkD p.1)
    rw [← e1']
    cases k
    · exact .non
    · exact .int _
    · exact .str _
end
section
variable {X : Cx} {W : WX} {e tg : Expr} {we : DE}
theorem di_keysN (he : PE X e (tE X.K W we)) : PI X tg e (tI X.K W (wItN we)) := by
  refine ⟨fun pins s σ H R I ⟨F, C, ρ, P, PX, hs, en, xr, w, k⟩ => ?_⟩
  refine thn (he.run pins s σ H (fun v H1 => ∃ F1 C1 d, Ex F F1 ∧ Hs X.K F1 C1 H1 ∧ Rep X.K F1 v d ∧ (match d with
    | .ptr a => match C1 a with
      | some (.lN q t od xs) => P ⟨t.map fun p => nkD p.1, fun C' => C' a = some (.lN q t od xs)⟩ C1
      | some (.lO q t od xs) => (t.all fun p => noNumK p.1) = true ∧ P ⟨t.map fun p => nkD p.1, fun C' => C' a = some (.lO q t od xs)⟩ C1
      | _ => False
    | _ => False)) I ⟨F, C, ρ, _, PX, hs, en, xr, w, fun v F1 H1 d C1 e1 h1 r q => ⟨F1, C1, d, e1, h1, r, q⟩⟩) fun u s1 ⟨v, H1, I1, rv, F1, C1, d, e1, h1, r, q⟩ => ?_
  split at q
  · rename_i a
    cases r
    obtain rfl : u = .ref a := rv
    split at q
    · rename_i qq t od xs hc
      obtain ⟨_, g1, g2⟩ := h1.cell a _ hc
      obtain ⟨hs', hgd, hx, hz, es, ep, hdt, hsz, ent⟩ := frzN I1 g1
      refine iter_keys hs' hgd hx hdt (pi_one (tk := s1.toks) I1 _ (turn_keysN _ hdt) ⟨_, Heap.get?_push_size _ rfl, rfl, ?_⟩ (k _ F1 H1 _ C1 e1 h1 itr_N q))
      rw [hsz] <;> rfl
    · rename_i qq t od xs hc
      obtain ⟨_, g1, g2⟩ := h1.cell a _ hc
      obtain ⟨hs', hgd, hx, hz, es, ep, hdt, hsz, ent⟩ := frzO I1 g1
      refine iter_keys hs' hgd hx hdt (pi_one (tk := s1.toks) I1 _ (turn_keysO _ hdt) ⟨_, Heap.get?_push_size _ rfl, rfl, ?_⟩ (k _ F1 H1 _ C1 e1 h1 (itr_O q.1) q.2))
      rw [hsz] <;> rfl
    · exact q.elim
  · exact q.elim
end

/-! ### sorted(x), of nested keys -/
mutual
theorem nk_reads {P : Program} {w : World} {K : PySem.W.Frag} {F H : Hp} {h : Heap} (ok : HOk P w H h) (ex : Ex F H) : ∀ (k : NestedKey) {v : V} {u : Value}, Rep K F v (nkD k) → RelV v u → Reads h u (nkD k).py []
  | .none, v, u, r, ru => by
    simp only [nkD] at r
    cases r
    obtain rfl : u = .none := ru
    simp only [nkD, D.py]
    exact .none
  | .num i, v, u, r, ru => by
    simp only [nkD] at r
    cases r
    obtain ⟨t, rfl⟩ := ru
    simp only [nkD, D.py]
    exact .int i t
  | .text x, v, u, r, ru => by
    simp only [nkD] at r
    cases r
    obtain ⟨t, rfl⟩ := ru
    simp only [nkD, D.py]
    exact .str x t
  | .tup ks, v, u, r, ru => by
    simp only [nkD] at r
    cases r with
    | tup hF hr =>
      rename_i a xs
      obtain rfl : u = .ref a := ru
      obtain ⟨o, its, m, h1, h2, h3, h4⟩ := tup_is ok (ex.nd hF rfl)
      simp only [nkD, D.py]
      exact .tuple h1 h2 h3 (nks_reads ok ex ks hr h4)
theorem nks_reads {P : Program} {w : World} {K : PySem.W.Frag} {F H : Hp} {h : Heap} (ok : HOk P w H h) (ex : Ex F H) : ∀ (ks : List NestedKey) {vs : List V} {us : List Value}, RepL K F vs (nkDs ks) → Vals vs us → ReadsAll h us (pys (nkDs ks)) []
  | [], vs, us, r, ru => by
    simp only [nkDs] at r
    cases r
    cases ru
    simp only [nkDs, pys]
    exact .nil
  | k :: ks, vs, us, r, ru => by
    simp only [nkDs] at r
    cases r with
    | cons a b =>
      cases ru with
      | cons c d =>
        simp only [nkDs, pys]
        exact .cons (nk_reads ok ex k a c) (nks_reads ok ex ks b d)
end
def dSortN (q : Pgw) (ds : List D) (C : Cells) (P : DK) : Prop := match ds with
  | [x] => withN q x C fun b t => b = true ∧ SortsD (t.map fun p => nkD p.1) ∧ P (.lst ((t.map fun p => nkD p.1).mergeSort leD)) C
  | _ => False
def dLenN (q : Pgw) (ds : List D) (C : Cells) (P : DK) : Prop := match ds with
  | [x] => withN q x C fun _ t => P (.int (t.length : Int)) C
  | _ => False
section
variable {X : Cx} {q : Pgw}
theorem cr_sortedN (hc : X.calm = true) (hu : X.A.units + 64 < cLine) (hq : q = ⟨X.prog, X.w⟩) : CallR X (.builtin "sorted") (rdA X.K (dSortN q)) := by
  intro pins s σ H xs us Q I r ⟨F, C, ds, P, hs, rl, w, k⟩
  unfold dSortN at w
  split at w
  · rename_i x
    obtain ⟨v, rfl, r1⟩ := rl.one
    cases r with
    | cons ru rr =>
      cases rr
      rename_i u
      obtain ⟨a, rfl, rfl, rfl, sm, ty, nd, h⟩ := withN_dict I hs hq r1 ru w
      rcases h with ⟨t, ys, ⟨_, ⟨⟨n, hn, hd⟩, hal, hok⟩, w⟩, hl, hdo, nv⟩ | ⟨t, vs, ⟨hb, _⟩, _⟩
      · refine Calls.call_function_entry PyProof.Rows.kind_sorted PyProof.Rows.plain_sorted PyProof.Rows.entry_sorted (PyProof.Rows.args_sorted1 _) ?_
        unfold Builtin.«sorted»
        refine wpAny_bind (m := checkCount "sorted" 1 1 _) (wpAny_pure ?_)
        obtain ⟨o, es, ep, ho, hx, hdt, he, hkn, hnd⟩ := hdo
        have l1 : es.size = ys.length := size_of_entries he
        have l2 : t.length = ys.length := Paired.length nv
        refine wpAny_bind (PySem.W.kdu_collect (A := X.A.in1) (kdl_raw sm hx hdt) (I.ok.hd hc) ho (by omega) fun h' tk acc hkp hacc => ?_)
        have I1 : Inv X pins σ H { s with heap := h', toks := tk } := I.kept hkp
        have ea : acc.toList = ys.map fun y => Value.ref y.2.1 := by
          have hl : acc.toList.length = ys.length := by rw [Array.length_toList, hacc.1]; exact l1
          refine List.ext_getElem? fun j => ?_
          rw [List.getElem?_map]
          cases hj : acc.toList[j]? with
          | none =>
            have := List.getElem?_eq_none_iff.mp hj
            rw [List.getElem?_eq_none (show ys.length ≤ j by omega)]
            rfl
          | some v =>
            obtain ⟨en, hen, hv⟩ := hacc.2 j v (by rw [← Array.getElem?_toList]; exact hj)
            have qe := entry_at he j
            rw [hen] at qe
            cases hb : ys[j]? with
            | none => rw [hb] at qe; cases qe
            | some b =>
              rw [hb] at qe
              have e2 : en = entryOfKey (nestedKind X.prog X.w) b := Option.some.inj qe
              rw [hv, e2]
              rfl
        have rr : RepL X.K F (ys.map fun y => V.ref y.2.1) (t.map fun p => nkD p.1) := by
          clear l1 l2 hl he ea hd hal hok w hacc hkn hnd
          induction nv with
          | nil => exact .nil
          | cons z _ ih => exact .cons z.2.2.1 ih
        have kk : Keys h' (ys.map fun y => V.ref y.2.1) (pys (t.map fun p => nkD p.1)) (ys.map fun y => Value.ref y.2.1) := by
          clear l1 l2 hl he ea hd hal hok w rr hacc hkn hnd
          induction nv with
          | nil => exact .nil
          | cons z _ ih => exact .cons rfl (nk_reads I1.hok hs.ex _ z.2.2.1 rfl) ih
        rw [← ea] at kk
        have e1 : pys (t.map fun p => nkD p.1) = (t.map fun p => nkD p.1).map D.py := pys_map _
        refine sort_new (E := fun a b => X.xe a b) hu I1 kk (by rw [e1]; exact hal) (by rw [e1]; exact hok) (fun d hd' => ?_) (by rw [e1, List.length_map, List.length_map]; exact hl) fun p hp => ?_
        · rw [e1] at hd'
          obtain ⟨d', hm, rfl⟩ := List.mem_map.mp hd'
          have := (dat_lay (hd d' hm)).2
          omega
        · obtain ⟨e4, h4, r4⟩ := hs.newL rr.sort hp
          exact k _ _ _ _ C e4 h4 r4 w
      · cases hb
  · exact w.elim
end
end DD

set_option Elab.async false
set_option linter.all false
set_option maxRecDepth 100000
set_option maxHeartbeats 4000000
/-! x < y of data that are alike; {k: v} with a key that is None, a number or a text. -/
namespace DD
open PySem L2 PySem.Spec PyProof.Rows PySem.W

/-! ### x < y -/
def dLtD (x : D) (y : D) (C : Cells) (P : DK) : Prop := ∃ n, n ≤ 60 ∧ Dat n x ∧ Dat n y ∧ PySem.W.alike x.py y.py = true ∧ x.py ≠ .none ∧ P (.bl (PySem.W.dataLt x.py y.py)) C
section
variable {X : Cx}
theorem op_ltG (hu : X.A.units + 64 < cLine) : OpR X (compareOp .Lt) (rdR X.K dLtD) := by
  intro pins s σ H x y v u Q I rx ry ⟨F, C, dx, dy, P, hs, r1, r2, ⟨n, hn, h1, h2, ha, hz, w⟩, k⟩
  obtain ⟨as, g1⟩ := Dp.reads I _ x v (rep_dp hs.ex h1 _ r1) rx
  obtain ⟨bs, g2⟩ := Dp.reads I _ y u (rep_dp hs.ex h2 _ r2) ry
  refine rcLt_alike _ _ X.A s v u _ _ g1 g2 ha hz ?_ X.prog X.w _ _ ?_
  · have l1 := (dat_lay h1).2
    have := Nat.min_le_left dx.py.depth dy.py.depth
    omega
  · exact ⟨.bl _, H, I, rfl, k _ F H _ C (Ex.refl F) hs (.bl _) w⟩
end

/-! ### {k: v} -/
def wOneO (q : Pgw) (k v : DE) (ρ : DEnv) (C : Cells) (P : DK) (PX : DX) : Prop := ∀ p, C p = none → k ρ (cput C p (.dO q [])) (fun y C1 => v ρ C1 (fun z C2 => C2 p = some (.dO q []) ∧ match keyB false y with
  | some k => P (.ptr p) (cput C2 p (.dO q [(k, z)]))
  | none => False) PX) PX
section
variable {X : Cx} {q : Pgw} {W : WX} {k v : Expr} {wk wv : DE} {pos : Pos}
theorem d_oneO (hq : q = ⟨X.prog, X.w⟩) (hk : PE X k (tE X.K W wk)) (hv : PE X v (tE X.K W wv)) : PE X (.Dict [some k] [v] pos) (tE X.K W (wOneO q wk wv)) := ⟨fun pins s σ H Q I ⟨F, C, ρ, P, PX, hs, en, xr, w, kk⟩ => by
  have hn := I.hok.fresh (Nat.le_refl s.heap.objs.size)
  have sm : (s.heap.objs.size == sysModules) = false := beq_eq_false_iff_ne.mpr (Ne.symm (Nat.ne_of_lt I.big))
  have I1 := I.laid (a := s.heap.objs.size) (o := ldO q s.heap.objs.size []) (h' := s.heap.push { cls := .type "dict", data := .dict #[] }) (t' := s.toks) (fun _ _ q => Heap.get?_push_of_some _ q) (Nat.le_refl _) (ldO_ok ⟨Nat.zero_le _, sm, [], .nil, Heap.DictOf.new s.heap⟩)
  have h0 := hs.put (c := .dO q []) (hs.fresh hn).1 ⟨[], upd_same, .nil⟩
  have w := w _ (hs.fresh hn).2
  rw [arm_eval_Dict, zip_pairTrees [some k] [v] X.env pos rfl rfl, dictDisplay_pairs _ (fun z => by cases z) (Nat.lt_of_le_of_lt (Nat.le_of_eq (pairTrees_length [some k] [v] X.env pos rfl rfl)) (show 1 < 17 by decide))]
  refine wpAny_bind (wpAny_standAt (wpAny_bind (wpAny_subDict (knd := leafKind X.prog X.w) (Nat.le_trans (Nat.le_of_eq (pairTrees_length [some k] [v] X.env pos rfl rfl)) (show 1 ≤ 15 by decide)) ?_)))
  refine pairTrees_cons_walk (thn (hk.run pins _ σ _ (fun y H1 => ∃ F1 C1 dy, Ex F F1 ∧ Hs X.K F1 C1 H1 ∧ Rep X.K F1 y dy ∧ wv ρ C1 (fun z C2 => C2 s.heap.objs.size = some (.dO q []) ∧ match keyB false dy with
    | some k => P (.ptr s.heap.objs.size) (cput C2 s.heap.objs.size (.dO q [(k, z)]))
    | none => False) PX) I1 ⟨F, _, ρ, _, PX, h0, en, xr, w, fun y F1 H1 dy C1 e1 h1 ry q => ⟨F1, C1, dy, e1, h1, ry, q⟩⟩) fun u s1 ⟨y, H1, I1, ry, F1, C1, dy, e1, h1, rdy, w1⟩ =>
    thn (hv.run pins s1 σ H1 (fun z H2 => ∃ F2 C2 dz, Ex F1 F2 ∧ Hs X.K F2 C2 H2 ∧ Rep X.K F2 z dz ∧ (C2 s.heap.objs.size = some (.dO q []) ∧ match keyB false dy with
    | some k => P (.ptr s.heap.objs.size) (cput C2 s.heap.objs.size (.dO q [(k, dz)]))
    | none => False)) I1 ⟨F1, C1, ρ, _, PX, h1, en.mono e1, xr.mono e1, w1, fun z F2 H2 dz C2 e2 h2 rz q => ⟨F2, C2, dz, e2, h2, rz, q⟩⟩) fun w2 s2 ⟨z, H2, I2, rz, F2, C2, dz, e2, h2, rdz, hc, w2'⟩ => pairTrees_nil_walk ?_)
  split at w2'
  · rename_i kk' hkk
    obtain ⟨f0, xs, g1, g2⟩ := h2.cell _ _ hc
    cases g2
    obtain ⟨l, rfl, hl2⟩ := keyB_leaf hkk
    obtain ⟨z0, sm2, vs, pr, hd⟩ := (show ObjOk X.prog X.w H2 s2.heap s.heap.objs.size (ldO q s.heap.objs.size []) from I2.hok _ _ g1).1
    cases pr
    have hkl : (leafKind X.prog X.w).is l u = true := leaf_is (rdy.mono e2) hl2 ry
    have hd2 : s2.heap.DictOf (leafKind X.prog X.w) s.heap.objs.size [] := by rw [hq] at hd; exact hd
    refine ⟨[(l, w2)], ⟨hkl, rfl, True.intro⟩, hd2, fun h' dd' sb => wpAny_pure ?_⟩
    obtain ⟨ob', es', ep', ho', r'⟩ := id dd'
    have hnd : LdAt q s.heap.objs.size [(l, z)] h' := ⟨by rw [sizeLine_eq]; exact (show 1 ≤ 16777216 by decide), sm, [(l, w2)], .cons ⟨rfl, rz⟩ .nil, by rw [hq]; exact dd'⟩
    have I3 := d_write (t' := s2.toks + 1) I2 (by rw [g1]; exact True.intro) sb ⟨ob', ho'⟩ (ldO_ok (P := X.prog) (w := X.w) (H := upd H2 s.heap.objs.size (ldO q s.heap.objs.size [(l, z)])) hnd)
    exact ⟨.ref s.heap.objs.size, _, I3, rfl, kk _ F2 _ _ _ (e1.trans e2) (h2.put (c := .dO q [(l.key, dz)]) f0 ⟨_, upd_same, .cons ⟨rfl, rdz⟩ .nil⟩) (.ptr _) w2'⟩
  · exact w2'.elim⟩
end
end DD

set_option Elab.async false
set_option linter.all false
set_option maxRecDepth 100000
set_option maxHeartbeats 4000000
/-! list(d) of a dict with nested keys. -/
namespace DD
open PySem L2 PySem.Spec PyProof.Rows
def dListN (q : Pgw) (ds : List D) (C : Cells) (P : DK) : Prop := match ds with
  | [x] => withN q x C fun b t => b = true ∧ P (.lst (t.map fun p => nkD p.1)) C
  | _ => False
theorem vals_refs : ∀ {ys : List (NestedKey × Addr × Value)} {us : List Value}, us = ys.map (fun y => Value.ref y.2.1) → Vals (ys.map fun y => V.ref y.2.1) us
  | [], us, h => by subst h; exact .nil
  | y :: ys, us, h => by subst h; exact .cons rfl (vals_refs rfl)
section
variable {X : Cx} {q : Pgw}
theorem cr_listN (hc : X.calm = true) (hq : q = ⟨X.prog, X.w⟩) : CallR X (.type "list") (rdA X.K (dListN q)) := by
  intro pins s σ H xs us Q I r ⟨F, C, ds, P, hs, rl, w, k⟩
  unfold dListN at w
  split at w
  · rename_i x
    obtain ⟨v, rfl, r1⟩ := rl.one
    cases r with
    | cons ru rr =>
      cases rr
      rename_i u
      obtain ⟨a, rfl, rfl, rfl, sm, ty, nd, h⟩ := withN_dict I hs hq r1 ru w
      rcases h with ⟨t, ys, ⟨_, w⟩, hl, hdo, nv⟩ | ⟨t, vs, ⟨hb, _⟩, _⟩
      · obtain ⟨o, es, ep, ho, hx, hdt, he, hkn, hnd⟩ := hdo
        have l1 : es.size = ys.length := size_of_entries he
        have l2 : t.length = ys.length := Paired.length nv
        refine PySem.W.kdl_call (kdl_raw sm hx hdt) (I.ok.hd hc) ho (by omega) fun h' tk acc c' hk hD hacc => ?_
        have ea : acc.toList = ys.map fun y => Value.ref y.2.1 := by
          have hl : acc.toList.length = ys.length := by rw [Array.length_toList, hacc.1]; exact l1
          refine List.ext_getElem? fun j => ?_
          rw [List.getElem?_map]
          cases hj : acc.toList[j]? with
          | none =>
            have := List.getElem?_eq_none_iff.mp hj
            rw [List.getElem?_eq_none (show ys.length ≤ j by omega)]
            rfl
          | some v =>
            obtain ⟨en, hen, hv⟩ := hacc.2 j v (by rw [← Array.getElem?_toList]; exact hj)
            have qe := entry_at he j
            rw [hen] at qe
            cases hb : ys[j]? with
            | none => rw [hb] at qe; cases qe
            | some b =>
              rw [hb] at qe
              have e2 : en = entryOfKey (nestedKind X.prog X.w) b := Option.some.inj qe
              rw [hv, e2]
              rfl
        have rr : RepL X.K F (ys.map fun y => V.ref y.2.1) (t.map fun p => nkD p.1) := by
          clear l1 l2 hl he ea w hacc hkn hnd
          induction nv with
          | nil => exact .nil
          | cons z _ ih => exact .cons z.2.2.1 ih
        have hp : H s.heap.objs.size = none := I.hok.fresh (Nat.le_refl _)
        obtain ⟨e4, h4, r4⟩ := hs.newL rr hp
        refine ⟨.ref s.heap.objs.size, upd H s.heap.objs.size (.lst (ys.map fun y => V.ref y.2.1)), I.laid (t' := tk) hk (Nat.le_refl _)
          (show ObjOk X.prog X.w _ _ _ (.lst (ys.map fun y => V.ref y.2.1)) from ⟨by rw [List.length_map]; omega, acc.toList, c', vals_refs ea, by rw [Array.toArray_toList]; exact hD⟩), rfl, ?_⟩
        exact k _ _ _ _ C e4 h4 r4 w
      · cases hb
  · exact w.elim
end
end DD

set_option Elab.async false
set_option linter.all false
set_option maxRecDepth 100000
set_option maxHeartbeats 4000000
namespace Law
open PySem L2 DD
local macro_rules | `(tactic| walk_at "dd") => `(tactic| simp only [wFor, wLc, wYes, wSeq, wRaise, wTry, wSet, wNext, wBreak, wCont, wDrop, wRet, wRetN, wIfS, wRetF, wFrz, wAsg, wAug, wPar, wVar, wC, wNil, wCons, wOp, wUn, wCB, wTest, wAnd, wOr, wNot, wIf, wAndV, wOrV, wNotV, wChain, wTup, wLst, wLstC, wItL, wItT, wRng1, wRng2, wRng3,
  dI, dI0, dU, dEqv, dIsN, dLen, dIx, dMax2, dMin2, dAbs, dInt, dList, dListC, dTupleOf, wCall, wCallX, wMeth, wMethX, wMake, wMakeF, wMakeX, wMakeXF, frzP, wFld, wFldSet, wSetL, wAugL, wBML, dAppend, dPop, dCat, wRep, wRepC, wNoPart, wPart, wSl, wSlX, dCatX, dCmpX, dRepX, wCallV, wSortK, wTru, truOf, dStarts, wSetT, wOneT, wRetD, retK, wBMK, dTIx, tupOf, withN, keyB_T, keyB_0, keyB_S, keyB_I, keyN, keysNf, dNGet, dNIn, isN, wNGet1, wNGet2, wNewN, wNewO, wOneO, nPut, nDel, wSetN, wDelN, wItN, dSortN, dListN, noNumK, itsOf_ktup, lenOf_ktup, itemOf_ktup, res_ktup,
  endsD, endsX, startD, dput, Tgt.dg, dgs, dwipe, List.map_cons, List.map_nil, List.cons_append, List.nil_append, List.append_nil, List.length_cons, List.length_nil, List.replicate_succ, List.replicate_zero, List.getElem?_cons_zero, List.getElem?_cons_succ, List.getElem?_nil, List.set_cons_zero, List.set_cons_succ, List.set_nil, List.lookup,
  Nat.reduceAdd, Nat.reduceSub, Nat.reduceLeDiff, Option.map_some, Option.map_none, Option.bind_some, Option.bind_none, Option.isSome_some, Bool.false_xor, Bool.true_xor, Bool.not_true, Bool.not_false, decide_true, decide_false, decide_eq_true_eq, decide_eq_false_iff_not, Bool.not_eq_true, Bool.false_eq_true, reduceCtorEq, if_true, if_false, ite_true, ite_false, true_and, and_true, String.reduceBEq, String.reduceEq, ofString_eq_iff, cput_same, cput_cput, reduceIte, ↓reduceIte, atI_zero, atI_nat', atI_lit, atI_succ, atI_snoc, seqOf_lst, seqOf_ptr, itsOf_lst, itsOf_tup, itsOf_ptr, lenOf_lst, lenOf_tup, lenOf_ptr, itemOf_lst, itemOf_tup, itemOf_ptr, isSeq_ptr, isSeq_lst, fldOf_ins, fldOf_ptr, isIns_ins, isIns_ptr, dEqD, res_lst, res_tup, res_ptr, dIn, dInD, inItems, dIndex, dCatT, dExtend, wItS, dOrd, dChr, dAny, dAll, wBMS, dJoin, wDead, dMax3, dDGet, dDIn, dEmp,  wGet1, wGet2, dicGet, kvsK, kvsT, DD.keyOf, keysOf, keysAll, isDic, dicPut, wSetD, wDelD, wNewK, wNewT, wNew0, wItK, wLockS, pVar, pFld, unl, dLenDic, dDictC, dKeyList, dSortDic, dEqDic, wPairs, wDisp, wDispF, pairsK, mergeD, Option.getD_some, Option.getD_none, or_true, true_or, Option.isSome_none, List.isEmpty_nil, List.isEmpty_cons,  List.getElem?_map, List.length_map, Int.zero_add, *])
abbrev prg : PySem.Program := PySem.Challenge.pw_copperhouse_k29_differences_of_charges
def topS (i : Nat) : Stmt := prg.main.body.getD i (.Pass ⟨0, 0, 0, 0⟩)
abbrev s_law_state : Stmt := topS 35
abbrev s_law_cell : Stmt := topS 34
abbrev s_law_digit : Stmt := topS 36
abbrev s_Section_init : Stmt := inClass (topS 32) 0
abbrev s_law_sections : Stmt := topS 37
abbrev s_Ledger_init : Stmt := inClass (topS 30) 0
abbrev s_Tariff_init : Stmt := inClass (topS 12) 0
abbrev s_Band_init : Stmt := inClass (topS 11) 0
abbrev s_law_tariffs : Stmt := topS 38
abbrev s_ChargeRun_init : Stmt := inClass (topS 20) 0
abbrev s_section_place : Stmt := topS 21
abbrev s_Section_is_free : Stmt := inClass (topS 32) 1
abbrev s_Contracts_in_force : Stmt := inClass (topS 27) 2
abbrev s_ChargeRun_reason_against : Stmt := inClass (topS 20) 2
abbrev s_Band_holds : Stmt := inClass (topS 11) 1
abbrev s_Tariff_band_at : Stmt := inClass (topS 12) 1
abbrev s_stretches : Stmt := topS 15
abbrev s_price_lines : Stmt := topS 16
abbrev s_ChargeRun_lines_of : Stmt := inClass (topS 20) 3
abbrev s_ChargeRun_free_left : Stmt := inClass (topS 20) 1
abbrev s_Charge_init : Stmt := inClass (topS 19) 0
abbrev s_ChargeRun_take : Stmt := inClass (topS 20) 4
abbrev s_charge_sections : Stmt := topS 22
abbrev s_Ledger_standing_keys : Stmt := inClass (topS 30) 3
abbrev s_Posting_init : Stmt := inClass (topS 29) 0
abbrev s_Ledger_post : Stmt := inClass (topS 30) 1
abbrev s_Ledger_standing : Stmt := inClass (topS 30) 2
abbrev s_law_book : Stmt := topS 40
abbrev s_account_sums : Stmt := topS 6
abbrev s_charge_table : Stmt := topS 2
abbrev s_differences : Stmt := topS 3
abbrev s_changes_of_accounts : Stmt := topS 4
abbrev s_Contracts_init : Stmt := inClass (topS 27) 0
abbrev s_Contracts_set_history : Stmt := inClass (topS 27) 1
abbrev s_law_contracts : Stmt := topS 39
abbrev s_Ledger_postings : Stmt := inClass (topS 30) 4
abbrev s_Ledger_balance : Stmt := inClass (topS 30) 5
abbrev s_sections_changed : Stmt := topS 5
abbrev s_label_sums : Stmt := topS 7
abbrev s_law_labels : Stmt := topS 41
abbrev s_law : Stmt := topS 42
theorem sc_law_state : FnScope ["cell", "k", "prime", "first", "second", "third", "fourth"] ["cell", "k"] (defScope s_law_state) := ⟨rfl, rfl, rfl, by decide +kernel, rfl, by decide +kernel, by decide +kernel⟩
theorem sc_law_cell : FnScope ["script", "k"] ["script", "k"] (defScope s_law_cell) := ⟨rfl, rfl, rfl, by decide +kernel, rfl, by decide +kernel, by decide +kernel⟩
theorem sc_law_digit : FnScope ["state", "many", "digit"] ["state", "many"] (defScope s_law_digit) := ⟨rfl, rfl, rfl, by decide +kernel, rfl, by decide +kernel, by decide +kernel⟩
theorem sc_Section_init : FnScope ["self", "owner", "payer", "called", "opened", "start", "seconds"] ["self", "owner", "payer", "called", "opened", "start", "seconds"] (defScope s_Section_init) := ⟨rfl, rfl, rfl, by decide +kernel, rfl, by decide +kernel, by decide +kernel⟩
theorem sc_law_sections : FnScope ["script", "many", "found", "k", "state", "opened", "payer", "called", "seconds"] ["script", "many"] (defScope s_law_sections) := ⟨rfl, rfl, rfl, by decide +kernel, rfl, by decide +kernel, by decide +kernel⟩
theorem sc_Ledger_init : FnScope ["self"] ["self"] (defScope s_Ledger_init) := ⟨rfl, rfl, rfl, by decide +kernel, rfl, by decide +kernel, by decide +kernel⟩
theorem sc_Tariff_init : FnScope ["self", "setup_price", "bands"] ["self", "setup_price", "bands"] (defScope s_Tariff_init) := ⟨rfl, rfl, rfl, by decide +kernel, rfl, by decide +kernel, by decide +kernel⟩
theorem sc_Band_init : FnScope ["self", "label", "prefix", "from_hour", "to_hour", "price"] ["self", "label", "prefix", "from_hour", "to_hour", "price"] (defScope s_Band_init) := ⟨rfl, rfl, rfl, by decide +kernel, rfl, by decide +kernel, by decide +kernel⟩
theorem sc_law_tariffs : FnScope ["state", "tariffs", "name", "bands"] ["state"] (defScope s_law_tariffs) := ⟨rfl, rfl, rfl, by decide +kernel, rfl, by decide +kernel, by decide +kernel⟩
theorem sc_ChargeRun_init : FnScope ["self", "contracts", "tariffs", "allowances"] ["self", "contracts", "tariffs", "allowances"] (defScope s_ChargeRun_init) := ⟨rfl, rfl, rfl, by decide +kernel, rfl, by decide +kernel, by decide +kernel⟩
theorem sc_section_place : FnScope ["section"] ["section"] (defScope s_section_place) := ⟨rfl, rfl, rfl, by decide +kernel, rfl, by decide +kernel, by decide +kernel⟩
theorem sc_Section_is_free : FnScope ["self"] ["self"] (defScope s_Section_is_free) := ⟨rfl, rfl, rfl, by decide +kernel, rfl, by decide +kernel, by decide +kernel⟩
theorem sc_Contracts_in_force : FnScope ["self", "line", "clock", "found", "since", "account", "name"] ["self", "line", "clock"] (defScope s_Contracts_in_force) := ⟨rfl, rfl, rfl, by decide +kernel, rfl, by decide +kernel, by decide +kernel⟩
theorem sc_ChargeRun_reason_against : FnScope ["self", "section", "contract"] ["self", "section", "contract"] (defScope s_ChargeRun_reason_against) := ⟨rfl, rfl, rfl, by decide +kernel, rfl, by decide +kernel, by decide +kernel⟩
theorem sc_Band_holds : FnScope ["self", "called", "clock", "hour"] ["self", "called", "clock"] (defScope s_Band_holds) := ⟨rfl, rfl, rfl, by decide +kernel, rfl, by decide +kernel, by decide +kernel⟩
theorem sc_Tariff_band_at : FnScope ["self", "called", "clock", "best", "band"] ["self", "called", "clock"] (defScope s_Tariff_band_at) := ⟨rfl, rfl, rfl, by decide +kernel, rfl, by decide +kernel, by decide +kernel⟩
theorem sc_stretches : FnScope ["tariff", "called", "start", "begin", "till", "found", "place", "band", "after"] ["tariff", "called", "start", "begin", "till"] (defScope s_stretches) := ⟨rfl, rfl, rfl, by decide +kernel, rfl, by decide +kernel, by decide +kernel⟩
theorem sc_price_lines : FnScope ["tariff", "called", "start", "begin", "till", "pieces", "lines", "band", "low", "high", "minutes"] ["tariff", "called", "start", "begin", "till"] (defScope s_price_lines) := ⟨rfl, rfl, rfl, by decide +kernel, rfl, by decide +kernel, by decide +kernel⟩
theorem sc_ChargeRun_lines_of : FnScope ["self", "section", "name", "free", "lines", "tariff"] ["self", "section", "name", "free"] (defScope s_ChargeRun_lines_of) := ⟨rfl, rfl, rfl, by decide +kernel, rfl, by decide +kernel, by decide +kernel⟩
theorem sc_ChargeRun_free_left : FnScope ["self", "account", "month"] ["self", "account", "month"] (defScope s_ChargeRun_free_left) := ⟨rfl, rfl, rfl, by decide +kernel, rfl, by decide +kernel, by decide +kernel⟩
theorem sc_Charge_init : FnScope ["self", "key", "account", "till", "mills"] ["self", "key", "account", "till", "mills"] (defScope s_Charge_init) := ⟨rfl, rfl, rfl, by decide +kernel, rfl, by decide +kernel, by decide +kernel⟩
theorem sc_ChargeRun_take : FnScope ["self", "section", "contract", "reason", "account", "name", "month", "free", "lines", "label", "low", "high", "mills"] ["self", "section"] (defScope s_ChargeRun_take) := ⟨rfl, rfl, rfl, by decide +kernel, rfl, by decide +kernel, by decide +kernel⟩
theorem sc_charge_sections : FnScope ["sections", "contracts", "tariffs", "allowances", "run", "section"] ["sections", "contracts", "tariffs", "allowances"] (defScope s_charge_sections) := ⟨rfl, rfl, rfl, by decide +kernel, rfl, by decide +kernel, by decide +kernel⟩
theorem sc_Ledger_standing_keys : FnScope ["self"] ["self"] (defScope s_Ledger_standing_keys) := ⟨rfl, rfl, rfl, by decide +kernel, rfl, by decide +kernel, by decide +kernel⟩
theorem sc_Posting_init : FnScope ["self", "account", "key", "amount", "written"] ["self", "account", "key", "amount", "written"] (defScope s_Posting_init) := ⟨rfl, rfl, rfl, by decide +kernel, rfl, by decide +kernel, by decide +kernel⟩
theorem sc_Ledger_post : FnScope ["self", "key", "account", "amount", "clock", "before", "found", "change"] ["self", "key", "account", "amount", "clock"] (defScope s_Ledger_post) := ⟨rfl, rfl, rfl, by decide +kernel, rfl, by decide +kernel, by decide +kernel⟩
theorem sc_Ledger_standing : FnScope ["self", "key"] ["self", "key"] (defScope s_Ledger_standing) := ⟨rfl, rfl, rfl, by decide +kernel, rfl, by decide +kernel, by decide +kernel⟩
theorem sc_law_book : FnScope ["ledger", "charges", "clock", "keys", "charge", "key"] ["ledger", "charges", "clock"] (defScope s_law_book) := ⟨rfl, rfl, rfl, by decide +kernel, rfl, by decide +kernel, by decide +kernel⟩
theorem sc_account_sums : FnScope ["charges", "sums", "charge"] ["charges"] (defScope s_account_sums) := ⟨rfl, rfl, rfl, by decide +kernel, rfl, by decide +kernel, by decide +kernel⟩
theorem sc_charge_table : FnScope ["charges", "table", "charge"] ["charges"] (defScope s_charge_table) := ⟨rfl, rfl, rfl, by decide +kernel, rfl, by decide +kernel, by decide +kernel⟩
theorem sc_differences : FnScope ["before", "after", "old", "new", "keys", "key"] ["before", "after"] (defScope s_differences) := ⟨rfl, rfl, rfl, by decide +kernel, rfl, by decide +kernel, by decide +kernel⟩
theorem sc_changes_of_accounts : FnScope ["found", "sums", "_", "was", "now", "changes", "account"] ["found"] (defScope s_changes_of_accounts) := ⟨rfl, rfl, rfl, by decide +kernel, rfl, by decide +kernel, by decide +kernel⟩
theorem sc_Contracts_init : FnScope ["self"] ["self"] (defScope s_Contracts_init) := ⟨rfl, rfl, rfl, by decide +kernel, rfl, by decide +kernel, by decide +kernel⟩
theorem sc_Contracts_set_history : FnScope ["self", "line", "rows", "place"] ["self", "line", "rows"] (defScope s_Contracts_set_history) := ⟨rfl, rfl, rfl, by decide +kernel, rfl, by decide +kernel, by decide +kernel⟩
theorem sc_law_contracts : FnScope ["state", "contracts", "payer", "rows"] ["state"] (defScope s_law_contracts) := ⟨rfl, rfl, rfl, by decide +kernel, rfl, by decide +kernel, by decide +kernel⟩
theorem sc_Ledger_postings : FnScope ["self", "account", "posting"] ["self", "account"] (defScope s_Ledger_postings) := ⟨rfl, rfl, rfl, by decide +kernel, rfl, by decide +kernel, by decide +kernel⟩
theorem sc_Ledger_balance : FnScope ["self", "account", "total", "posting"] ["self", "account"] (defScope s_Ledger_balance) := ⟨rfl, rfl, rfl, by decide +kernel, rfl, by decide +kernel, by decide +kernel⟩
theorem sc_sections_changed : FnScope ["found", "owners", "key", "_"] ["found"] (defScope s_sections_changed) := ⟨rfl, rfl, rfl, by decide +kernel, rfl, by decide +kernel, by decide +kernel⟩
theorem sc_label_sums : FnScope ["charges", "account", "table", "charge", "label", "count", "seconds", "mills"] ["charges", "account"] (defScope s_label_sums) := ⟨rfl, rfl, rfl, by decide +kernel, rfl, by decide +kernel, by decide +kernel⟩
theorem sc_law_labels : FnScope ["charges", "account", "found", "label", "rows", "seconds", "charge"] ["charges", "account"] (defScope s_law_labels) := ⟨rfl, rfl, rfl, by decide +kernel, rfl, by decide +kernel, by decide +kernel⟩
theorem sc_law : FnScope ["script", "sections", "runs", "ledger", "balances", "k", "state", "tariffs", "free", "charges", "spare", "sums", "place", "account", "old", "new", "keys", "found", "changes", "owners", "key"] ["script"] (defScope s_law) := ⟨rfl, rfl, rfl, by decide +kernel, rfl, by decide +kernel, by decide +kernel⟩
/-- where things stand -/
structure Ad where
  a_law_state : Addr
  d_law_state : FuncData
  a_law_cell : Addr
  d_law_cell : FuncData
  a_law_digit : Addr
  d_law_digit : FuncData
  a_Section_init : Addr
  d_Section_init : FuncData
  a_law_sections : Addr
  d_law_sections : FuncData
  a_Ledger_init : Addr
  d_Ledger_init : FuncData
  a_Tariff_init : Addr
  d_Tariff_init : FuncData
  a_Band_init : Addr
  d_Band_init : FuncData
  a_law_tariffs : Addr
  d_law_tariffs : FuncData
  a_ChargeRun_init : Addr
  d_ChargeRun_init : FuncData
  a_section_place : Addr
  d_section_place : FuncData
  a_Section_is_free : Addr
  d_Section_is_free : FuncData
  a_Contracts_in_force : Addr
  d_Contracts_in_force : FuncData
  a_ChargeRun_reason_against : Addr
  d_ChargeRun_reason_against : FuncData
  a_Band_holds : Addr
  d_Band_holds : FuncData
  a_Tariff_band_at : Addr
  d_Tariff_band_at : FuncData
  a_stretches : Addr
  d_stretches : FuncData
  a_price_lines : Addr
  d_price_lines : FuncData
  a_ChargeRun_lines_of : Addr
  d_ChargeRun_lines_of : FuncData
  a_ChargeRun_free_left : Addr
  d_ChargeRun_free_left : FuncData
  a_Charge_init : Addr
  d_Charge_init : FuncData
  a_ChargeRun_take : Addr
  d_ChargeRun_take : FuncData
  a_charge_sections : Addr
  d_charge_sections : FuncData
  a_Ledger_standing_keys : Addr
  d_Ledger_standing_keys : FuncData
  a_Posting_init : Addr
  d_Posting_init : FuncData
  a_Ledger_post : Addr
  d_Ledger_post : FuncData
  a_Ledger_standing : Addr
  d_Ledger_standing : FuncData
  a_law_book : Addr
  d_law_book : FuncData
  a_account_sums : Addr
  d_account_sums : FuncData
  a_charge_table : Addr
  d_charge_table : FuncData
  a_differences : Addr
  d_differences : FuncData
  a_changes_of_accounts : Addr
  d_changes_of_accounts : FuncData
  a_Contracts_init : Addr
  d_Contracts_init : FuncData
  a_Contracts_set_history : Addr
  d_Contracts_set_history : FuncData
  a_law_contracts : Addr
  d_law_contracts : FuncData
  a_Ledger_postings : Addr
  d_Ledger_postings : FuncData
  a_Ledger_balance : Addr
  d_Ledger_balance : FuncData
  a_sections_changed : Addr
  d_sections_changed : FuncData
  a_label_sums : Addr
  d_label_sums : FuncData
  a_law_labels : Addr
  d_law_labels : FuncData
  a_law : Addr
  d_law : FuncData
  C_Band : Addr
  C_Tariff : Addr
  C_Charge : Addr
  C_ChargeRun : Addr
  C_Contracts : Addr
  C_Posting : Addr
  C_Ledger : Addr
  C_Section : Addr
  pw : Pgw
structure Txt (K : PySem.W.Frag) (mg : Str → Option Value) (A : Ad) (P : Program) (w : World) : Prop where
  hq : A.pw = ⟨P, w⟩
  F_law_state : Fun K "_law_state" "_law_state" s_law_state A.a_law_state A.d_law_state
  b_law_state : Binds K A.d_law_state ["cell", "k"] []
  g_law_state : mg "_law_state" = some (.ref A.a_law_state)
  F_law_cell : Fun K "_law_cell" "_law_cell" s_law_cell A.a_law_cell A.d_law_cell
  b_law_cell : Binds K A.d_law_cell ["script", "k"] []
  g_law_cell : mg "_law_cell" = some (.ref A.a_law_cell)
  F_law_digit : Fun K "_law_digit" "_law_digit" s_law_digit A.a_law_digit A.d_law_digit
  b_law_digit : Binds K A.d_law_digit ["state", "many"] []
  g_law_digit : mg "_law_digit" = some (.ref A.a_law_digit)
  F_Section_init : Fun K "__init__" "Section.__init__" s_Section_init A.a_Section_init A.d_Section_init
  b_Section_init : Binds K A.d_Section_init ["self", "owner", "payer", "called", "opened", "start", "seconds"] []
  m_Section_init : Mk K A.C_Section A.a_Section_init
  F_law_sections : Fun K "_law_sections" "_law_sections" s_law_sections A.a_law_sections A.d_law_sections
  b_law_sections : Binds K A.d_law_sections ["script", "many"] []
  g_law_sections : mg "_law_sections" = some (.ref A.a_law_sections)
  F_Ledger_init : Fun K "__init__" "Ledger.__init__" s_Ledger_init A.a_Ledger_init A.d_Ledger_init
  b_Ledger_init : Binds K A.d_Ledger_init ["self"] []
  m_Ledger_init : Mk K A.C_Ledger A.a_Ledger_init
  F_Tariff_init : Fun K "__init__" "Tariff.__init__" s_Tariff_init A.a_Tariff_init A.d_Tariff_init
  b_Tariff_init : Binds K A.d_Tariff_init ["self", "setup_price", "bands"] []
  m_Tariff_init : Mk K A.C_Tariff A.a_Tariff_init
  F_Band_init : Fun K "__init__" "Band.__init__" s_Band_init A.a_Band_init A.d_Band_init
  b_Band_init : Binds K A.d_Band_init ["self", "label", "prefix", "from_hour", "to_hour", "price"] []
  m_Band_init : Mk K A.C_Band A.a_Band_init
  F_law_tariffs : Fun K "_law_tariffs" "_law_tariffs" s_law_tariffs A.a_law_tariffs A.d_law_tariffs
  b_law_tariffs : Binds K A.d_law_tariffs ["state"] []
  g_law_tariffs : mg "_law_tariffs" = some (.ref A.a_law_tariffs)
  F_ChargeRun_init : Fun K "__init__" "ChargeRun.__init__" s_ChargeRun_init A.a_ChargeRun_init A.d_ChargeRun_init
  b_ChargeRun_init : Binds K A.d_ChargeRun_init ["self", "contracts", "tariffs", "allowances"] []
  m_ChargeRun_init : Mk K A.C_ChargeRun A.a_ChargeRun_init
  F_section_place : Fun K "section_place" "section_place" s_section_place A.a_section_place A.d_section_place
  b_section_place : Binds K A.d_section_place ["section"] []
  g_section_place : mg "section_place" = some (.ref A.a_section_place)
  F_Section_is_free : Fun K "is_free" "Section.is_free" s_Section_is_free A.a_Section_is_free A.d_Section_is_free
  b_Section_is_free : Binds K A.d_Section_is_free ["self"] []
  m_Section_is_free : Meth K A.C_Section (Str.ofString "is_free") A.a_Section_is_free
  F_Contracts_in_force : Fun K "in_force" "Contracts.in_force" s_Contracts_in_force A.a_Contracts_in_force A.d_Contracts_in_force
  b_Contracts_in_force : Binds K A.d_Contracts_in_force ["self", "line", "clock"] []
  m_Contracts_in_force : Meth K A.C_Contracts (Str.ofString "in_force") A.a_Contracts_in_force
  F_ChargeRun_reason_against : Fun K "reason_against" "ChargeRun.reason_against" s_ChargeRun_reason_against A.a_ChargeRun_reason_against A.d_ChargeRun_reason_against
  b_ChargeRun_reason_against : Binds K A.d_ChargeRun_reason_against ["self", "section", "contract"] []
  m_ChargeRun_reason_against : Meth K A.C_ChargeRun (Str.ofString "reason_against") A.a_ChargeRun_reason_against
  F_Band_holds : Fun K "holds" "Band.holds" s_Band_holds A.a_Band_holds A.d_Band_holds
  b_Band_holds : Binds K A.d_Band_holds ["self", "called", "clock"] []
  m_Band_holds : Meth K A.C_Band (Str.ofString "holds") A.a_Band_holds
  F_Tariff_band_at : Fun K "band_at" "Tariff.band_at" s_Tariff_band_at A.a_Tariff_band_at A.d_Tariff_band_at
  b_Tariff_band_at : Binds K A.d_Tariff_band_at ["self", "called", "clock"] []
  m_Tariff_band_at : Meth K A.C_Tariff (Str.ofString "band_at") A.a_Tariff_band_at
  F_stretches : Fun K "stretches" "stretches" s_stretches A.a_stretches A.d_stretches
  b_stretches : Binds K A.d_stretches ["tariff", "called", "start", "begin", "till"] []
  g_stretches : mg "stretches" = some (.ref A.a_stretches)
  F_price_lines : Fun K "price_lines" "price_lines" s_price_lines A.a_price_lines A.d_price_lines
  b_price_lines : Binds K A.d_price_lines ["tariff", "called", "start", "begin", "till"] []
  g_price_lines : mg "price_lines" = some (.ref A.a_price_lines)
  F_ChargeRun_lines_of : Fun K "lines_of" "ChargeRun.lines_of" s_ChargeRun_lines_of A.a_ChargeRun_lines_of A.d_ChargeRun_lines_of
  b_ChargeRun_lines_of : Binds K A.d_ChargeRun_lines_of ["self", "section", "name", "free"] []
  m_ChargeRun_lines_of : Meth K A.C_ChargeRun (Str.ofString "lines_of") A.a_ChargeRun_lines_of
  F_ChargeRun_free_left : Fun K "free_left" "ChargeRun.free_left" s_ChargeRun_free_left A.a_ChargeRun_free_left A.d_ChargeRun_free_left
  b_ChargeRun_free_left : Binds K A.d_ChargeRun_free_left ["self", "account", "month"] []
  m_ChargeRun_free_left : Meth K A.C_ChargeRun (Str.ofString "free_left") A.a_ChargeRun_free_left
  F_Charge_init : Fun K "__init__" "Charge.__init__" s_Charge_init A.a_Charge_init A.d_Charge_init
  b_Charge_init : Binds K A.d_Charge_init ["self", "key", "account", "till", "mills"] []
  m_Charge_init : Mk K A.C_Charge A.a_Charge_init
  F_ChargeRun_take : Fun K "take" "ChargeRun.take" s_ChargeRun_take A.a_ChargeRun_take A.d_ChargeRun_take
  b_ChargeRun_take : Binds K A.d_ChargeRun_take ["self", "section"] []
  m_ChargeRun_take : Meth K A.C_ChargeRun (Str.ofString "take") A.a_ChargeRun_take
  F_charge_sections : Fun K "charge_sections" "charge_sections" s_charge_sections A.a_charge_sections A.d_charge_sections
  b_charge_sections : Binds K A.d_charge_sections ["sections", "contracts", "tariffs", "allowances"] []
  g_charge_sections : mg "charge_sections" = some (.ref A.a_charge_sections)
  F_Ledger_standing_keys : Fun K "standing_keys" "Ledger.standing_keys" s_Ledger_standing_keys A.a_Ledger_standing_keys A.d_Ledger_standing_keys
  b_Ledger_standing_keys : Binds K A.d_Ledger_standing_keys ["self"] []
  m_Ledger_standing_keys : Meth K A.C_Ledger (Str.ofString "standing_keys") A.a_Ledger_standing_keys
  F_Posting_init : Fun K "__init__" "Posting.__init__" s_Posting_init A.a_Posting_init A.d_Posting_init
  b_Posting_init : Binds K A.d_Posting_init ["self", "account", "key", "amount", "written"] []
  m_Posting_init : Mk K A.C_Posting A.a_Posting_init
  F_Ledger_post : Fun K "post" "Ledger.post" s_Ledger_post A.a_Ledger_post A.d_Ledger_post
  b_Ledger_post : Binds K A.d_Ledger_post ["self", "key", "account", "amount", "clock"] []
  m_Ledger_post : Meth K A.C_Ledger (Str.ofString "post") A.a_Ledger_post
  F_Ledger_standing : Fun K "standing" "Ledger.standing" s_Ledger_standing A.a_Ledger_standing A.d_Ledger_standing
  b_Ledger_standing : Binds K A.d_Ledger_standing ["self", "key"] []
  m_Ledger_standing : Meth K A.C_Ledger (Str.ofString "standing") A.a_Ledger_standing
  F_law_book : Fun K "_law_book" "_law_book" s_law_book A.a_law_book A.d_law_book
  b_law_book : Binds K A.d_law_book ["ledger", "charges", "clock"] []
  g_law_book : mg "_law_book" = some (.ref A.a_law_book)
  F_account_sums : Fun K "account_sums" "account_sums" s_account_sums A.a_account_sums A.d_account_sums
  b_account_sums : Binds K A.d_account_sums ["charges"] []
  g_account_sums : mg "account_sums" = some (.ref A.a_account_sums)
  F_charge_table : Fun K "charge_table" "charge_table" s_charge_table A.a_charge_table A.d_charge_table
  b_charge_table : Binds K A.d_charge_table ["charges"] []
  g_charge_table : mg "charge_table" = some (.ref A.a_charge_table)
  F_differences : Fun K "differences" "differences" s_differences A.a_differences A.d_differences
  b_differences : Binds K A.d_differences ["before", "after"] []
  g_differences : mg "differences" = some (.ref A.a_differences)
  F_changes_of_accounts : Fun K "changes_of_accounts" "changes_of_accounts" s_changes_of_accounts A.a_changes_of_accounts A.d_changes_of_accounts
  b_changes_of_accounts : Binds K A.d_changes_of_accounts ["found"] []
  g_changes_of_accounts : mg "changes_of_accounts" = some (.ref A.a_changes_of_accounts)
  F_Contracts_init : Fun K "__init__" "Contracts.__init__" s_Contracts_init A.a_Contracts_init A.d_Contracts_init
  b_Contracts_init : Binds K A.d_Contracts_init ["self"] []
  m_Contracts_init : Mk K A.C_Contracts A.a_Contracts_init
  F_Contracts_set_history : Fun K "set_history" "Contracts.set_history" s_Contracts_set_history A.a_Contracts_set_history A.d_Contracts_set_history
  b_Contracts_set_history : Binds K A.d_Contracts_set_history ["self", "line", "rows"] []
  m_Contracts_set_history : Meth K A.C_Contracts (Str.ofString "set_history") A.a_Contracts_set_history
  F_law_contracts : Fun K "_law_contracts" "_law_contracts" s_law_contracts A.a_law_contracts A.d_law_contracts
  b_law_contracts : Binds K A.d_law_contracts ["state"] []
  g_law_contracts : mg "_law_contracts" = some (.ref A.a_law_contracts)
  F_Ledger_postings : Fun K "postings" "Ledger.postings" s_Ledger_postings A.a_Ledger_postings A.d_Ledger_postings
  b_Ledger_postings : Binds K A.d_Ledger_postings ["self", "account"] []
  m_Ledger_postings : Meth K A.C_Ledger (Str.ofString "postings") A.a_Ledger_postings
  F_Ledger_balance : Fun K "balance" "Ledger.balance" s_Ledger_balance A.a_Ledger_balance A.d_Ledger_balance
  b_Ledger_balance : Binds K A.d_Ledger_balance ["self", "account"] []
  m_Ledger_balance : Meth K A.C_Ledger (Str.ofString "balance") A.a_Ledger_balance
  F_sections_changed : Fun K "sections_changed" "sections_changed" s_sections_changed A.a_sections_changed A.d_sections_changed
  b_sections_changed : Binds K A.d_sections_changed ["found"] []
  g_sections_changed : mg "sections_changed" = some (.ref A.a_sections_changed)
  F_label_sums : Fun K "label_sums" "label_sums" s_label_sums A.a_label_sums A.d_label_sums
  b_label_sums : Binds K A.d_label_sums ["charges", "account"] []
  g_label_sums : mg "label_sums" = some (.ref A.a_label_sums)
  F_law_labels : Fun K "_law_labels" "_law_labels" s_law_labels A.a_law_labels A.d_law_labels
  b_law_labels : Binds K A.d_law_labels ["charges", "account"] []
  g_law_labels : mg "_law_labels" = some (.ref A.a_law_labels)
  F_law : Fun K "law" "law" s_law A.a_law A.d_law
  b_law : Binds K A.d_law ["script"] []
  g_law : mg "law" = some (.ref A.a_law)
  g_Band : mg "Band" = some (.ref A.C_Band)
  c_Band : Cls K A.C_Band
  g_Tariff : mg "Tariff" = some (.ref A.C_Tariff)
  c_Tariff : Cls K A.C_Tariff
  g_Charge : mg "Charge" = some (.ref A.C_Charge)
  c_Charge : Cls K A.C_Charge
  g_ChargeRun : mg "ChargeRun" = some (.ref A.C_ChargeRun)
  c_ChargeRun : Cls K A.C_ChargeRun
  g_Contracts : mg "Contracts" = some (.ref A.C_Contracts)
  c_Contracts : Cls K A.C_Contracts
  g_Posting : mg "Posting" = some (.ref A.C_Posting)
  c_Posting : Cls K A.C_Posting
  g_Ledger : mg "Ledger" = some (.ref A.C_Ledger)
  c_Ledger : Cls K A.C_Ledger
  g_Section : mg "Section" = some (.ref A.C_Section)
  c_Section : Cls K A.C_Section
  n_Band_from_hour : NoAttr K A.C_Band (Str.ofString "from_hour")
  n_Band_label : NoAttr K A.C_Band (Str.ofString "label")
  n_Band_prefix : NoAttr K A.C_Band (Str.ofString "prefix")
  n_Band_price : NoAttr K A.C_Band (Str.ofString "price")
  n_Band_to_hour : NoAttr K A.C_Band (Str.ofString "to_hour")
  n_Charge_account : NoAttr K A.C_Charge (Str.ofString "account")
  n_Charge_key : NoAttr K A.C_Charge (Str.ofString "key")
  n_Charge_mills : NoAttr K A.C_Charge (Str.ofString "mills")
  n_Charge_till : NoAttr K A.C_Charge (Str.ofString "till")
  n_ChargeRun_allowances : NoAttr K A.C_ChargeRun (Str.ofString "allowances")
  n_ChargeRun_charges : NoAttr K A.C_ChargeRun (Str.ofString "charges")
  n_ChargeRun_contracts : NoAttr K A.C_ChargeRun (Str.ofString "contracts")
  n_ChargeRun_left_out : NoAttr K A.C_ChargeRun (Str.ofString "left_out")
  n_ChargeRun_tariffs : NoAttr K A.C_ChargeRun (Str.ofString "tariffs")
  n_ChargeRun_used : NoAttr K A.C_ChargeRun (Str.ofString "used")
  n_Contracts_histories : NoAttr K A.C_Contracts (Str.ofString "histories")
  n_Ledger_lines : NoAttr K A.C_Ledger (Str.ofString "lines")
  n_Ledger_stands : NoAttr K A.C_Ledger (Str.ofString "stands")
  n_Ledger_stated : NoAttr K A.C_Ledger (Str.ofString "stated")
  n_Posting_account : NoAttr K A.C_Posting (Str.ofString "account")
  n_Posting_amount : NoAttr K A.C_Posting (Str.ofString "amount")
  n_Posting_key : NoAttr K A.C_Posting (Str.ofString "key")
  n_Posting_written : NoAttr K A.C_Posting (Str.ofString "written")
  n_Section_called : NoAttr K A.C_Section (Str.ofString "called")
  n_Section_opened : NoAttr K A.C_Section (Str.ofString "opened")
  n_Section_owner : NoAttr K A.C_Section (Str.ofString "owner")
  n_Section_payer : NoAttr K A.C_Section (Str.ofString "payer")
  n_Section_seconds : NoAttr K A.C_Section (Str.ofString "seconds")
  n_Section_start : NoAttr K A.C_Section (Str.ofString "start")
  n_Tariff_bands : NoAttr K A.C_Tariff (Str.ofString "bands")
  n_Tariff_setup_price : NoAttr K A.C_Tariff (Str.ofString "setup_price")
  z_int : mg "int" = none
  z_len : mg "len" = none
  z_list : mg "list" = none
  z_min : mg "min" = none
  z_range : mg "range" = none
  z_sorted : mg "sorted" = none
  z_sum : mg "sum" = none
  z_tuple : mg "tuple" = none
  k_DAY : ∃ t, mg "DAY" = some (.int 86400 t)
  k_HOUR : ∃ t, mg "HOUR" = some (.int 3600 t)
  k_MINUTE : ∃ t, mg "MINUTE" = some (.int 60 t)
  k_MONTH : ∃ t, mg "MONTH" = some (.int 2592000 t)
section
variable {P : Program} {w : World} {K : PySem.W.Frag} {mg : Str → Option Value} {base : Heap} {A : Ad}
/-! charges of sections -/
def nmsT : List Str := ["big", "day", "std"]
/-- a fact put out of simp's sight -/
def Hid (p : Prop) : Prop := p
/-- a band -/
structure Bd where
  lab : Str
  pre : Str
  fh : Int
  th : Int
  pr : Int
  ok : 0 ≤ pr ∧ pr ≤ 1000 ∧ pre.length ≤ 1000
structure Tf where
  su : Int
  bs : List Bd
/-- a section -/
structure Sc where
  k : Int
  pay : Option Str
  cal : Str
  op : Int
  st : Int
  sec : Int
  ok : 0 ≤ sec ∧ sec ≤ 5000 ∧ 0 ≤ op ∧ op < 10368000
def optS : Option Str → D
  | none => .non
  | some s => .str s
def ownD (k : Int) : D := .tup [.int 0, .int 1, .int k]
def bdF (b : Bd) : List (String × D) := [("label", .str b.lab), ("prefix", .str b.pre), ("from_hour", .int b.fh), ("to_hour", .int b.th), ("price", .int b.pr)]
def bdD (A : Ad) (b : Bd) : D := .ins A.C_Band (bdF b)
def tfD (A : Ad) (t : Tf) : D := .ins A.C_Tariff [("setup_price", .int t.su), ("bands", .tup (t.bs.map (bdD A)))]
def scD (A : Ad) (s : Sc) : D := .ins A.C_Section [("owner", ownD s.k), ("payer", optS s.pay), ("called", .str s.cal), ("opened", .int s.op), ("start", .int s.st), ("seconds", .int s.sec)]
def holdsF (b : Bd) (cal : Str) (t : Int) : Bool := Txt.startswith cal b.pre && decide (b.fh ≤ t % 86400 / 3600 ∧ t % 86400 / 3600 < b.th)
def lessP : Option Bd → Bd → Bool
  | none, _ => true
  | some x, b => decide (x.pre.length < b.pre.length)
def bestS (cal : Str) (t : Int) (r : Option Bd) (b : Bd) : Option Bd := if holdsF b cal t = true ∧ lessP r b = true then some b else r
def bestF (cal : Str) (t : Int) (bs : List Bd) : Option Bd := bs.foldl (bestS cal t) none
def optB (A : Ad) : Option Bd → D
  | none => .non
  | some b => bdD A b
/-- a piece: its band, from, to -/
abbrev Pc := Bd × Int × Int
def pcD (A : Ad) (p : Pc) : D := .tup [bdD A p.1, .int p.2.1, .int p.2.2]
def putP (b : Bd) (p a : Int) (L : List Pc) : List Pc := match L.getLast? with
  | some x => if x.1.lab = b.lab then L.dropLast ++ [(b, x.2.1, a)] else L ++ [(b, p, a)]
  | none => L ++ [(b, p, a)]
def stF (bs : List Bd) (cal : Str) (st till : Int) : Nat → Int → List Pc → Option (List Pc)
  | 0, _, L => some L
  | n + 1, p, L => if p < till then
      match bestF cal (st + p) bs with
      | none => none
      | some b => stF bs cal st till n (min till (p + 3600 - (st + p) % 3600)) (putP b p (min till (p + 3600 - (st + p) % 3600)) L)
    else some L
def stretchF (bs : List Bd) (cal : Str) (st b till : Int) : Option (List Pc) := stF bs cal st till (till - b).toNat b []
def optL {α : Type} (f : α → D) : Option (List α) → D
  | none => .non
  | some L => .lst (L.map f)
theorem putP_nil (b : Bd) (p a : Int) : putP b p a [] = [(b, p, a)] := rfl
theorem putP_snoc (b : Bd) (p a : Int) (L : List Pc) (x : Pc) : putP b p a (L ++ [x]) = if x.1.lab = b.lab then L ++ [(b, x.2.1, a)] else L ++ [x] ++ [(b, p, a)] := by
  unfold putP
  rw [List.getLast?_concat]
  simp only [List.dropLast_concat]
theorem putP_len (b : Bd) (p a : Int) (L : List Pc) : (putP b p a L).length ≤ L.length + 1 := by
  rcases List.eq_nil_or_concat L with rfl | ⟨M, x, rfl⟩
  · simp [putP_nil]
  · rw [List.concat_eq_append, putP_snoc]
    split <;> simp
theorem stF_done {bs : List Bd} {cal : Str} {st till : Int} {p : Int} {L : List Pc} (h : ¬ p < till) (n : Nat) : stF bs cal st till n p L = some L := by
  cases n with
  | zero => rfl
  | succ n => exact if_neg h
theorem stF_go {bs : List Bd} {cal : Str} {st till : Int} {p : Int} {L : List Pc} (h : p < till) (n : Nat) : stF bs cal st till (n + 1) p L = match bestF cal (st + p) bs with
      | none => none
      | some b => stF bs cal st till n (min till (p + 3600 - (st + p) % 3600)) (putP b p (min till (p + 3600 - (st + p) % 3600)) L) := if_pos h
theorem stF_len {bs : List Bd} {cal : Str} {st till b0 : Int} : ∀ (n : Nat) (p : Int) (L R : List Pc), stF bs cal st till n p L = some R → b0 ≤ p → 3600 * ((L.length : Int) - 2) ≤ p - b0 →
    (p < till → L.length = 0 ∨ ((st + p) % 3600 = 0 ∧ 3600 * ((L.length : Int) - 1) ≤ p - b0)) → b0 ≤ till → p ≤ till → 3600 * ((R.length : Int) - 2) ≤ till - b0
  | 0, p, L, R, h, _, h1, _, _, h3 => by
    injection h with h
    subst h
    omega
  | n + 1, p, L, R, h, hb, h1, h2, h3, h4 => by
    by_cases g : p < till
    · rw [stF_go g] at h
      split at h
      · cases h
      · rename_i b _
        have hl := putP_len b p (min till (p + 3600 - (st + p) % 3600)) L
        refine stF_len n _ _ R h (by omega) ?_ (fun g2 => .inr ?_) h3 (by omega)
        · rcases h2 g with h2 | ⟨h2, h5⟩
          · omega
          · omega
        · rcases h2 g with h2 | ⟨h2, h5⟩
          · omega
          · omega
    · rw [stF_done g] at h
      injection h with h
      subst h
      omega
theorem stretch_len {bs : List Bd} {cal : Str} {st b till : Int} {R : List Pc} (h : stretchF bs cal st b till = some R) (hb : b ≤ till) (hl : till - b ≤ 5000) : R.length ≤ 3 := by
  have := stF_len (b0 := b) _ _ _ _ h (by omega) (by simp) (fun _ => .inl rfl) hb hb
  omega
theorem ixN_last (n : Nat) : ixN (n + 1) (-1) = some n := by
  unfold ixN
  rw [if_neg (by decide), if_pos (by omega)]
  congr 1
  omega
theorem set_last {α : Type} (L : List α) (x y : α) : (L ++ [x]).set L.length y = L ++ [y] := by
  induction L with
  | nil => rfl
  | cons a L ih => rw [List.cons_append, List.length_cons, List.set_cons_succ, ih]; rfl
/-- a line of prices -/
structure Ln where
  lab : Str
  lo : Int
  hi : Int
  mi : Int
def lnD (l : Ln) : D := .tup [.str l.lab, .int l.lo, .int l.hi, .int l.mi]
def lnP (p : Pc) : Ln := ⟨p.1.lab, p.2.1, p.2.2, p.1.pr * ((p.2.2 - p.2.1 + 60 - 1) / 60)⟩
def plF (t : Tf) (cal : Str) (st b till : Int) : Option (List Ln) := (stretchF t.bs cal st b till).map fun L => (⟨"setup", b, b, t.su⟩ : Ln) :: L.map lnP
theorem plF_len {t : Tf} {cal : Str} {st b till : Int} {R : List Ln} (h : plF t cal st b till = some R) (hb : b ≤ till) (hl : till - b ≤ 5000) : R.length ≤ 4 := by
  unfold plF at h
  cases e : stretchF t.bs cal st b till with
  | none => rw [e] at h; cases h
  | some L =>
    rw [e] at h
    injection h with h
    have := stretch_len e hb hl
    rw [← h, List.length_cons, List.length_map]
    omega
def linesF (t : Tf) (s : Sc) (free : Int) : Option (List Ln) := (if free < s.sec then plF t s.cal s.st free s.sec else some []).map fun L => if free > 0 then (⟨"free", 0, free, 0⟩ : Ln) :: L else L
theorem linesF_len {t : Tf} {s : Sc} {free : Int} {R : List Ln} (h : linesF t s free = some R) (h0 : 0 ≤ free) : R.length ≤ 5 := by
  unfold linesF at h
  have hs := s.ok
  by_cases g : free < s.sec
  · rw [if_pos g] at h
    cases e : plF t s.cal s.st free s.sec with
    | none => rw [e] at h; cases h
    | some L =>
      rw [e] at h
      injection h with h
      have := plF_len e (by omega) (by omega)
      rw [← h]
      dsimp only
      split
      · rw [List.length_cons]; omega
      · omega
  · rw [if_neg g] at h
    injection h with h
    rw [← h]
    split <;> simp
/-- a row of a history -/
structure Rh where
  since : Int
  acc : Option Str
  nm : Str
def rhD (r : Rh) : D := .tup [.int r.since, optS r.acc, .str r.nm]
abbrev Hist := List (Str × List Rh)
def hiK (h : Hist) : List (L2.Key × D) := h.map fun p => (Sum.inr p.1, .tup (p.2.map rhD))
def rowOf (rs : List Rh) (c : Int) : Option Rh := rs.foldl (fun f r => if r.since ≤ c then some r else f) none
def fndD : Option Rh → D
  | none => .non
  | some r => .tup [optS r.acc, .str r.nm]
def conOf : Option Rh → Option (Str × Str)
  | none => none
  | some r => match r.acc with
    | none => none
    | some a => some (a, r.nm)
def inForceF (h : Hist) (p : Str) (c : Int) : Option (Str × Str) := conOf (rowOf ((lkA h p).getD []) c)
def conD : Option (Str × Str) → D
  | none => .non
  | some (a, n) => .tup [.str a, .str n]
abbrev Tab := List (Str × Tf)
def tsK (A : Ad) (ts : Tab) : List (L2.Key × D) := ts.map fun p => (Sum.inr p.1, tfD A p.2)
abbrev Alw := List (Str × Int)
def alK (al : Alw) : List (L2.Key × D) := al.map fun p => (Sum.inr p.1, .int p.2)
def alF (al : Alw) (a : Str) : Int := (lkA al a).getD 0
/-- free seconds that were used -/
abbrev Us := List ((Str × Int) × Int)
def usK (u : Us) : List (List L2.Key × D) := u.map fun e => ([Sum.inr e.1.1, Sum.inl e.1.2], .int e.2)
def usKey (k : Str × Int) : List L2.Key := [Sum.inr k.1, Sum.inl k.2]
theorem usKey_inj (a b : Str × Int) (h : usKey a = usKey b) : a = b := by
  obtain ⟨a1, a2⟩ := a
  obtain ⟨b1, b2⟩ := b
  simp only [usKey, List.cons.injEq, Sum.inr.injEq, Sum.inl.injEq, and_true] at h
  rw [h.1, h.2]
def getU (u : Us) (k : Str × Int) : Int := (lkA u k).getD 0
theorem us_get (u : Us) (k : Str × Int) : (vaD (usK u) (usKey k)).getD (.int 0) = .int (getU u k) := by
  have := va_tab usKey usKey_inj D.int k u
  unfold usK getU
  rw [show (fun e : (Str × Int) × Int => (([Sum.inr e.1.1, Sum.inl e.1.2] : List L2.Key), D.int e.2)) = fun p => (usKey p.1, D.int p.2) from rfl, this]
  cases lkA u k <;> rfl
theorem us_put (u : Us) (k : Str × Int) (v : Int) : puD (usK u) (usKey k) (.int v) = usK (puA u k v) := pu_tab usKey usKey_inj D.int u k v
theorem getU_put (u : Us) (k k' : Str × Int) (v : Int) : getU (puA u k v) k' = if k' = k then v else getU u k' := by
  unfold getU
  rw [lkA_pu]
  split <;> rfl
theorem inr_inj (a b : Str) (h : (Sum.inr a : L2.Key) = Sum.inr b) : a = b := Sum.inr.inj h
/-- a charge -/
structure Cg where
  k : Int
  lo : Int
  lab : Str
  acc : Str
  hi : Int
  mi : Int
def cgKey (c : Cg) : D := .tup [ownD c.k, .int c.lo, .str c.lab]
def cgD (A : Ad) (c : Cg) : D := .ins A.C_Charge [("key", cgKey c), ("account", .str c.acc), ("till", .int c.hi), ("mills", .int c.mi)]
def lfD (e : Int × Str) : D := .tup [ownD e.1, .str e.2]
structure Rs where
  u : Us
  ch : List Cg
  lf : List (Int × Str)
def mkCg (k : Int) (a : Str) (l : Ln) : Cg := ⟨k, l.lo, l.lab, a, l.hi, l.mi⟩
def reasonF (ts : Tab) : Option (Str × Str) → Option Str
  | none => some "no contract"
  | some (_, n) => if (lkA ts n).isSome = true then none else some "no tariff"
def takeT (t : Tf) (a : Str) (f : Int) (s : Sc) (rs : Rs) : Rs := match linesF t s f with
  | none => { rs with lf := rs.lf ++ [(s.k, ("no band" : Str))] }
  | some L => ⟨puA rs.u (a, s.op / 2592000) (getU rs.u (a, s.op / 2592000) + f), rs.ch ++ L.map (mkCg s.k a), rs.lf⟩
def takeC (ts : Tab) (al : Alw) (c : Option (Str × Str)) (s : Sc) (rs : Rs) : Rs := match c with
  | none => { rs with lf := rs.lf ++ [(s.k, ("no contract" : Str))] }
  | some (a, n) => match lkA ts n with
    | none => { rs with lf := rs.lf ++ [(s.k, ("no tariff" : Str))] }
    | some t => takeT t a (min s.sec (alF al a - getU rs.u (a, s.op / 2592000))) s rs
def takeF (h : Hist) (ts : Tab) (al : Alw) (s : Sc) (rs : Rs) : Rs := match s.pay with
  | none => rs
  | some p => takeC ts al (inForceF h p s.op) s rs
def freeS (s : Sc) : Bool := s.pay.isNone || decide (s.sec = 0)
def stepF (h : Hist) (ts : Tab) (al : Alw) (rs : Rs) (s : Sc) : Rs := if freeS s = true then rs else takeF h ts al s rs
def leS (a b : Sc) : Bool := decide (a.op < b.op ∨ (a.op = b.op ∧ a.k ≤ b.k))
def runF (h : Hist) (ts : Tab) (al : Alw) (ss : List Sc) : Rs := (ss.mergeSort leS).foldl (stepF h ts al) ⟨[], [], []⟩
/-- never more free seconds than there are -/
def UOk (al : Alw) (u : Us) : Prop := ∀ k, 0 ≤ getU u k ∧ getU u k ≤ alF al k.1
structure ROk (al : Alw) (n : Nat) (rs : Rs) : Prop where
  u : UOk al rs.u
  lu : rs.u.length ≤ n
  lc : rs.ch.length ≤ 5 * n
  ll : rs.lf.length ≤ n
theorem takeC_ok {ts : Tab} {al : Alw} {c : Option (Str × Str)} {s : Sc} {rs : Rs} {n : Nat} (h : ROk al n rs) : ROk al (n + 1) (takeC ts al c s rs) := by
  have hl : ∀ r : Int × Str, ROk al (n + 1) { rs with lf := rs.lf ++ [r] } := fun r => ⟨h.u, Nat.le_succ_of_le h.lu, by have := h.lc; show rs.ch.length ≤ _; omega, by have := h.ll; show (rs.lf ++ [r]).length ≤ _; rw [List.length_append]; simp; omega⟩
  unfold takeC
  split
  · exact hl _
  · rename_i a n'
    split
    · exact hl _
    · rename_i t ht
      have hu := h.u (a, s.op / 2592000)
      dsimp only at hu
      have hs := s.ok
      unfold takeT
      split
      · exact hl _
      · rename_i L hL
        have := linesF_len hL (by omega)
        refine ⟨fun k => ?_, ?_, ?_, ?_⟩
        · rw [getU_put]
          by_cases g : k = (a, s.op / 2592000)
          · rw [if_pos g, g]; dsimp only; omega
          · rw [if_neg g]; exact h.u k
        · have := puA_len rs.u (a, s.op / 2592000) (getU rs.u (a, s.op / 2592000) + min s.sec (alF al a - getU rs.u (a, s.op / 2592000)))
          have := h.lu
          dsimp only
          omega
        · have := h.lc
          dsimp only
          rw [List.length_append, List.length_map]
          omega
        · have := h.ll
          dsimp only
          omega
theorem stepF_ok {hi : Hist} {ts : Tab} {al : Alw} {s : Sc} {rs : Rs} {n : Nat} (h : ROk al n rs) : ROk al (n + 1) (stepF hi ts al rs s) := by
  have h0 : ROk al (n + 1) rs := ⟨h.u, Nat.le_succ_of_le h.lu, by have := h.lc; omega, Nat.le_succ_of_le h.ll⟩
  unfold stepF
  split
  · exact h0
  · unfold takeF
    split
    · exact h0
    · exact takeC_ok h
def NnA (al : Alw) : Prop := ∀ a, 0 ≤ alF al a
theorem ROk.start {al : Alw} (h : NnA al) : ROk al 0 ⟨[], [], []⟩ := ⟨fun k => ⟨Int.le_refl _, h k.1⟩, Nat.le_refl _, Nat.le_refl _, Nat.le_refl _⟩
theorem runF_ok {hi : Hist} {ts : Tab} {al : Alw} (h : NnA al) : ∀ ss : List Sc, ROk al ss.length (ss.foldl (stepF hi ts al) ⟨[], [], []⟩) := fun ss => by
  have go : ∀ (ss : List Sc) (rs : Rs) (n : Nat), ROk al n rs → ROk al (n + ss.length) (ss.foldl (stepF hi ts al) rs) := fun ss => by
    induction ss with
    | nil => exact fun rs n h => h
    | cons s ss ih =>
      intro rs n h
      rw [List.foldl_cons, List.length_cons]
      have := ih (stepF hi ts al rs s) (n + 1) (stepF_ok h)
      rw [show n + (ss.length + 1) = n + 1 + ss.length by omega]
      exact this
  have := go ss _ 0 (ROk.start h)
  rw [Nat.zero_add] at this
  exact this
/-- sections sorted -/
def keyS (s : Sc) : D := .tup [.int s.op, ownD s.k]
theorem dataLt_own (o k o' k' : Int) : PySem.W.dataLt (.tuple [.int o, .tuple [.int 0, .int 1, .int k]]) (.tuple [.int o', .tuple [.int 0, .int 1, .int k']]) = decide (o < o' ∨ (o = o' ∧ k < k')) := by
  rw [PySem.W.dataLt_pair (by simp [PySem.W.alike]) (by simp [PySem.W.alike, PySem.W.alikeAll]), PySem.W.dataLt_int, PySem.W.dataLt_tuple, PySem.W.dataLt_cons (by simp [PySem.W.alike]), PySem.W.dataLt_cons (by simp [PySem.W.alike]), PySem.W.dataLt_cons (by simp [PySem.W.alike]), PySem.W.dataLt_int, PySem.W.dataLt_int, PySem.W.dataLt_int]
  have e : PyProof.Rows.lexLt PyProof.Rows.itemOrd (PySem.W.keyToksAll []) (PySem.W.keyToksAll []) = false := PyProof.Rows.lex_irrefl _
  rw [e]
  simp only [PyData.eqv, beq_iff_eq]
  by_cases h1 : o = o' <;> by_cases h2 : k = k' <;> simp [h1, h2, PyData.eqvAll, PyData.eqv]
theorem leD_keyS (a b : Sc) : leD (keyS a) (keyS b) = leS a b := by
  have h : PySem.W.dataLt (keyS b).py (keyS a).py = decide (b.op < a.op ∨ (b.op = a.op ∧ b.k < a.k)) := by
    rw [← dataLt_own]
    simp only [keyS, ownD, D.py, pys]
  show (!PySem.W.dataLt (keyS b).py (keyS a).py) = _
  rw [h]
  unfold leS
  by_cases g : b.op < a.op ∨ (b.op = a.op ∧ b.k < a.k)
  · rw [decide_eq_true g, decide_eq_false (by omega)]; rfl
  · rw [decide_eq_false g, decide_eq_true (by omega)]; rfl
theorem sorts_keyS (ss : List Sc) : SortsD (ss.map keyS) := by
  refine ⟨⟨2, by decide, fun d hd => ?_⟩, ?_, ?_⟩
  · obtain ⟨s, _, rfl⟩ := List.mem_map.mp hd
    refine .tup fun e he => ?_
    simp only [List.mem_cons, List.not_mem_nil, or_false] at he
    rcases he with rfl | rfl
    · exact .int _
    · refine .tup fun e he => ?_
      simp only [List.mem_cons, List.not_mem_nil, or_false] at he
      rcases he with rfl | rfl | rfl <;> exact .int _
  · rw [List.map_map]
    exact PySem.W.AllAlike.of fun b b' => by simp [keyS, ownD, D.py, pys, PySem.W.alike, PySem.W.alikeAll]
  · rw [List.map_map]
    exact PySem.W.Sortable.tuples fun b => ⟨.int b.op, [.tuple [.int 0, .int 1, .int b.k]], by simp [keyS, ownD, D.py, pys]⟩
/-- the key of a section's data -/
def keyD' (d : D) : D := match d with
  | .ins _ fs => .tup [(fs.lookup "opened").getD .non, (fs.lookup "owner").getD .non]
  | _ => .non
theorem keyD_sc (A : Ad) (s : Sc) : keyD' (scD A s) = keyS s := rfl
theorem sort_sc (A : Ad) (ss : List Sc) : (ss.map (scD A)).mergeSort (leK keyD') = (ss.mergeSort leS).map (scD A) :=
  (List.map_mergeSort (r := leS) (s := leK keyD') (f := scD A) fun a _ b _ => by unfold leK; rw [keyD_sc, keyD_sc, leD_keyS]).symm
/-! keys of charges and postings -/
abbrev Ky := Int × Int × Str
def kyD (k : Ky) : D := .tup [.tup [.int 0, .int 1, .int k.1], .int k.2.1, .str k.2.2]
def kyN (k : Ky) : NestedKey := .tup [.tup [.num 0, .num 1, .num k.1], .num k.2.1, .text k.2.2]
theorem nkD_kyN (k : Ky) : nkD (kyN k) = kyD k := by simp only [kyN, kyD, nkD, nkDs]
theorem keyB_kyD (k : Ky) : keyB true (kyD k) = some (kyN k) := by simp [kyN, kyD, keyB, keysNf, keyN]
theorem kyN_inj (a b : Ky) (h : kyN a = kyN b) : a = b := by
  simp only [kyN, NestedKey.tup.injEq, List.cons.injEq, NestedKey.num.injEq, NestedKey.text.injEq, and_true, true_and] at h
  exact Prod.ext h.1 (Prod.ext h.2.1 h.2.2)
def TxOk (s : Str) : Prop := PyData.canLay0 (.str s) = true
theorem dat_kyD (k : Ky) (h : TxOk k.2.2) : Dat 2 (kyD k) := .tup fun d hd => by
  simp only [List.mem_cons, List.not_mem_nil, or_false] at hd
  rcases hd with rfl | rfl | rfl
  · exact .tup fun e he => by
      simp only [List.mem_cons, List.not_mem_nil, or_false] at he
      rcases he with rfl | rfl | rfl <;> exact .int _
  · exact .int _
  · exact .str h
theorem kyD_py (k : Ky) : (kyD k).py = .tuple [.tuple [.int 0, .int 1, .int k.1], .int k.2.1, .str k.2.2] := by simp [kyD, D.py, pys]
theorem kyD_eqb (a b : Ky) : (kyD a).eqb (kyD b) = decide (a = b) := by
  show PyData.eqv (kyD a).py (kyD b).py = _
  rw [kyD_py, kyD_py, Bool.eq_iff_iff, decide_eq_true_eq]
  simp only [PyData.eqv, PyData.eqvAll, Bool.and_true, Bool.and_eq_true, beq_iff_eq, beq_self_eq_true, true_and]
  exact ⟨fun h => Prod.ext h.1 (Prod.ext h.2.1 h.2.2), fun h => by rw [h]; exact ⟨rfl, rfl, rfl⟩⟩
def toksK (k : Ky) : List (Int ⊕ List Nat) := PySem.W.keyToks (kyD k).py
theorem toksK_inj (a b : Ky) (h : toksK a = toksK b) : a = b := by
  unfold toksK at h
  rw [kyD_py, kyD_py] at h
  simp only [PySem.W.keyToks, PySem.W.keyToksAll, List.cons_append, List.nil_append, List.cons.injEq, Sum.inl.injEq, Sum.inr.injEq, true_and, and_true] at h
  exact Prod.ext h.1 (Prod.ext h.2.1 (PySem.W.str_of_cps h.2.2))
def leKy (a b : Ky) : Bool := leD (kyD a) (kyD b)
theorem leKy_eq (a b : Ky) : leKy a b = !PyProof.Rows.lexLt PyProof.Rows.itemOrd (toksK b) (toksK a) := rfl
theorem leKy_trans (a b c : Ky) (h1 : leKy a b = true) (h2 : leKy b c = true) : leKy a c = true := by
  rw [leKy_eq, Bool.not_eq_true'] at *
  cases h : PyProof.Rows.lexLt PyProof.Rows.itemOrd (toksK c) (toksK a) with
  | false => rfl
  | true =>
    rcases PyProof.Rows.lex_negTrans _ (toksK b) _ h with z | z
    · rw [h2] at z; cases z
    · rw [h1] at z; cases z
theorem leKy_total (a b : Ky) : (leKy a b || leKy b a) = true := by
  rw [leKy_eq, leKy_eq]
  cases h : PyProof.Rows.lexLt PyProof.Rows.itemOrd (toksK b) (toksK a) with
  | false => rfl
  | true =>
    cases g : PyProof.Rows.lexLt PyProof.Rows.itemOrd (toksK a) (toksK b) with
    | false => rfl
    | true =>
      have := PyProof.Rows.lex_trans _ _ _ h g
      rw [PyProof.Rows.lex_irrefl] at this; cases this
theorem leKy_anti (a b : Ky) (h1 : leKy a b = true) (h2 : leKy b a = true) : a = b := by
  rw [leKy_eq, Bool.not_eq_true'] at *
  exact toksK_inj a b (PyProof.Rows.lex_total _ _ h2 h1)
theorem sorts_ky (o : List Ky) (h : ∀ k ∈ o, TxOk k.2.2) : SortsD (o.map kyD) := by
  refine ⟨⟨2, by decide, fun d hd => ?_⟩, ?_, ?_⟩
  · obtain ⟨b, hb, rfl⟩ := List.mem_map.mp hd
    exact dat_kyD b (h b hb)
  · rw [List.map_map]
    exact PySem.W.AllAlike.of fun b b' => by simp [kyD, D.py, pys, PySem.W.alike, PySem.W.alikeAll]
  · rw [List.map_map]
    exact PySem.W.Sortable.tuples fun b => ⟨(D.tup [.int 0, .int 1, .int b.1]).py, [.int b.2.1, .str b.2.2], by simp [kyD, D.py, pys]⟩
def srtK (o : List Ky) : List Ky := o.mergeSort leKy
theorem sort_ky (o : List Ky) : (o.map kyD).mergeSort leD = (srtK o).map kyD := by
  have h : ∀ a ∈ o, ∀ b ∈ o, leKy a b = leD (kyD a) (kyD b) := fun _ _ _ _ => rfl
  exact (List.map_mergeSort h).symm
theorem srtK_perm (o : List Ky) : (srtK o).Perm o := List.mergeSort_perm _ _
theorem srtK_le (o : List Ky) : (srtK o).Pairwise fun a b => leKy a b = true := List.pairwise_mergeSort leKy_trans leKy_total o
theorem srtK_eq {o u : List Ky} (h : o.Perm u) : srtK o = srtK u :=
  (((srtK_perm o).trans h).trans (srtK_perm u).symm).eq_of_pairwise (fun a b _ _ h h' => leKy_anti a b h h') (srtK_le o) (srtK_le u)
theorem srtK_filter (p : Ky → Bool) (o : List Ky) : srtK (o.filter p) = (srtK o).filter p :=
  ((srtK_perm _).trans ((srtK_perm o).filter p).symm).eq_of_pairwise (fun a b _ _ h h' => leKy_anti a b h h') (srtK_le _) ((srtK_le o).filter p)
/-! postings and what stands -/
structure Po where
  a : Str
  k : Ky
  am : Int
  wr : Int
abbrev Tb := List (Ky × (Str × Int))
def drA {κ β : Type} [DecidableEq κ] (t : List (κ × β)) (k : κ) : List (κ × β) := t.filter fun p => decide (p.1 ≠ k)
theorem lkA_dr {κ β : Type} [DecidableEq κ] (t : List (κ × β)) (k j : κ) : lkA (drA t k) j = if j = k then none else lkA t j := by
  unfold drA
  induction t with
  | nil => simp [lkA]
  | cons p t ih =>
    rw [List.filter_cons]
    by_cases h : p.1 = k
    · rw [if_neg (by simp [h]), ih, lkA_cons]
      by_cases g : j = k
      · rw [if_pos g, if_pos g]
      · rw [if_neg g, if_neg g, if_neg (fun z => g (by rw [← z, h]))]
    · rw [if_pos (by simp [h]), lkA_cons, lkA_cons, ih]
      by_cases g : p.1 = j
      · rw [if_pos g, if_pos g, if_neg (fun z => h (by rw [g, z]))]
      · rw [if_neg g, if_neg g]
theorem drA_nodup {κ β : Type} [DecidableEq κ] {t : List (κ × β)} (h : (t.map fun p => p.1).Nodup) (k : κ) : ((drA t k).map fun p => p.1).Nodup :=
  List.Nodup.sublist (List.Sublist.map _ List.filter_sublist) h
def vlD (x : Str × Int) : D := .tup [.str x.1, .int x.2]
def stD (t : Tb) : List (NestedKey × D) := t.map fun p => (kyN p.1, vlD p.2)
theorem st_va (t : Tb) (k : Ky) : vaD (stD t) (kyN k) = (lkA t k).map vlD := va_tab kyN kyN_inj vlD k t
theorem st_pu (t : Tb) (k : Ky) (v : Str × Int) : puD (stD t) (kyN k) (vlD v) = stD (puA t k v) := pu_tab kyN kyN_inj vlD t k v
theorem st_dr (t : Tb) (k : Ky) : drD (stD t) (kyN k) = stD (drA t k) := by
  unfold drD stD drA
  rw [List.filter_map]
  congr 1
  refine List.filter_congr fun p _ => ?_
  show decide (kyN p.1 ≠ kyN k) = decide (p.1 ≠ k)
  exact decide_eq_decide.mpr ⟨fun h z => h (by rw [z]), fun h z => h (kyN_inj _ _ z)⟩
theorem st_len (t : Tb) : (stD t).length = t.length := by unfold stD; rw [List.length_map]
theorem st_keys (t : Tb) : ((stD t).map fun p => nkD p.1) = (t.map fun p => p.1).map kyD := by
  unfold stD
  rw [List.map_map, List.map_map]
  exact List.map_congr_left fun p _ => nkD_kyN p.1
def chgF (b : Option (Str × Int)) (a : Str) (am : Int) : Int := match b with
  | some (c, x) => if c = a then am - x else am
  | none => am
def fndF (b : Option (Str × Int)) (k : Ky) (a : Str) (am clk : Int) : List Po :=
  (match b with | some (c, x) => if c = a then [] else [⟨c, k, -x, clk⟩] | none => []) ++ if chgF b a am = 0 then [] else [⟨a, k, chgF b a am, clk⟩]
def tabF (t : Tb) (k : Ky) (a : Str) (am : Int) : Tb := if am = 0 then (match lkA t k with | some _ => drA t k | none => t) else puA t k (a, am)
theorem fnd_len (b : Option (Str × Int)) (k : Ky) (a : Str) (am clk : Int) : (fndF b k a am clk).length ≤ 2 := by
  unfold fndF
  rw [List.length_append]
  have h1 : (match b with | some (c, x) => if c = a then ([] : List Po) else [⟨c, k, -x, clk⟩] | none => []).length ≤ 1 := by
    split
    · split
      · exact Nat.zero_le _
      · exact Nat.le_refl _
    · exact Nat.zero_le _
  have h2 : (if chgF b a am = 0 then ([] : List Po) else [⟨a, k, chgF b a am, clk⟩]).length ≤ 1 := by
    split
    · exact Nat.zero_le _
    · exact Nat.le_refl _
  omega
/-! sums of accounts -/
def accF (L : List Po) (s : Str) : List Int := (L.filter fun p => decide (p.a = s)).map fun p => p.am
def valS (s : Str) (v : Str × Int) : Int := if v.1 = s then v.2 else 0
def sumT (t : Tb) (s : Str) : Int := (t.map fun p => valS s p.2).sum
def oldS (b : Option (Str × Int)) (s : Str) : Int := (b.map (valS s)).getD 0
theorem acc_app (L M : List Po) (s : Str) : (accF (L ++ M) s).sum = (accF L s).sum + (accF M s).sum := by
  unfold accF
  rw [List.filter_append, List.map_append, List.sum_append]
theorem acc_one (p : Po) (s : Str) : (accF [p] s).sum = if p.a = s then p.am else 0 := by
  unfold accF
  by_cases h : p.a = s <;> simp [h]
theorem fnd_sum (b : Option (Str × Int)) (k : Ky) (a : Str) (am clk : Int) (s : Str) : (accF (fndF b k a am clk) s).sum = (if a = s then am else 0) - oldS b s := by
  unfold fndF
  rw [acc_app]
  have e : ∀ c : Int, (accF (if c = 0 then [] else [(⟨a, k, c, clk⟩ : Po)]) s).sum = if a = s then c else 0 := fun c => by
    by_cases z : c = 0
    · rw [if_pos z, z]; simp [accF]
    · rw [if_neg z, acc_one]
  rw [e]
  cases b with
  | none => simp [accF, chgF, oldS]
  | some cx =>
    obtain ⟨c, x⟩ := cx
    simp only [chgF, oldS, Option.map_some, Option.getD_some, valS]
    by_cases g : c = a
    · subst g
      simp only [if_true]
      by_cases h : c = s
      · simp [h, accF]
      · simp [h, accF]
    · simp only [if_neg g]
      rw [acc_one]
      dsimp only
      by_cases h : c = s
      · have h2 : ¬ a = s := fun z => g (h.trans z.symm)
        rw [if_pos h, if_neg h2, if_pos h]; omega
      · rw [if_neg h, if_neg h]; omega
theorem sum_dr {t : Tb} (nd : (t.map fun p => p.1).Nodup) (k : Ky) (s : Str) : sumT (drA t k) s = sumT t s - oldS (lkA t k) s := by
  induction t with
  | nil => rfl
  | cons p t ih =>
    rw [List.map_cons, List.nodup_cons] at nd
    have ih := ih nd.2
    unfold drA sumT at ih ⊢
    rw [List.filter_cons, lkA_cons]
    by_cases h : p.1 = k
    · have hn : lkA t k = none := lkA_none.mpr (by rw [← h]; exact nd.1)
      rw [hn] at ih
      rw [if_neg (by simp [h]), if_pos h, ih]
      simp [oldS]; omega
    · rw [if_pos (by simp [h]), if_neg h, List.map_cons, List.sum_cons, ih, List.map_cons, List.sum_cons]; omega
theorem sum_pu {t : Tb} (nd : (t.map fun p => p.1).Nodup) (k : Ky) (v : Str × Int) (s : Str) : sumT (puA t k v) s = sumT t s - oldS (lkA t k) s + valS s v := by
  unfold puA
  by_cases h : (t.any fun p => decide (p.1 = k)) = true
  · rw [if_pos h]
    have go : ∀ t : Tb, (t.map fun p => p.1).Nodup → (lkA t k).isSome = true → sumT (t.map fun p => if p.1 = k then (p.1, v) else p) s = sumT t s - oldS (lkA t k) s + valS s v := by
      intro t
      induction t with
      | nil => intro _ h; cases h
      | cons p t ih =>
        intro nd h
        rw [List.map_cons, List.nodup_cons] at nd
        unfold sumT at ih ⊢
        rw [lkA_cons] at h ⊢
        by_cases g : p.1 = k
        · have hno : t.map (fun p => if p.1 = k then (p.1, v) else p) = t := by
            refine (List.map_congr_left fun q hq => ?_).trans (List.map_id _)
            have : ¬ q.1 = k := fun z => nd.1 (by rw [g, ← z]; exact List.mem_map.mpr ⟨q, hq, rfl⟩)
            rw [if_neg this]; rfl
          rw [if_pos g, List.map_cons, if_pos g, hno, List.map_cons, List.sum_cons, List.map_cons, List.sum_cons]
          simp [oldS]; omega
        · rw [if_neg g] at h ⊢
          rw [List.map_cons, if_neg g, List.map_cons, List.sum_cons, ih nd.2 h, List.map_cons, List.sum_cons]; omega
    exact go t nd (by rw [← puA_any]; exact h)
  · rw [if_neg h]
    have hn : lkA t k = none := by
      cases g : lkA t k with
      | none => rfl
      | some x => exact absurd (by rw [puA_any, g]; rfl) h
    unfold sumT
    rw [List.map_append, List.sum_append, hn]
    simp [oldS]
theorem tab_sum {t : Tb} (nd : (t.map fun p => p.1).Nodup) (k : Ky) (a : Str) (am : Int) (s : Str) : sumT (tabF t k a am) s = sumT t s - oldS (lkA t k) s + (if a = s then am else 0) := by
  unfold tabF
  by_cases z : am = 0
  · rw [if_pos z, z]
    cases h : lkA t k with
    | none => simp [oldS]
    | some x =>
      dsimp only
      rw [sum_dr nd, h]; simp
  · rw [if_neg z, sum_pu nd]; rfl
theorem tab_nd {t : Tb} (nd : (t.map fun p => p.1).Nodup) (k : Ky) (a : Str) (am : Int) : ((tabF t k a am).map fun p => p.1).Nodup := by
  unfold tabF
  split
  · split
    · exact drA_nodup nd k
    · exact nd
  · exact puA_nodup nd _ _
theorem tab_len (t : Tb) (k : Ky) (a : Str) (am : Int) : (tabF t k a am).length ≤ t.length + 1 := by
  unfold tabF
  split
  · split
    · exact Nat.le_trans (List.length_filter_le _ _) (Nat.le_succ _)
    · exact Nat.le_succ _
  · exact puA_len _ _ _
theorem tab_tx {t : Tb} (h : ∀ p ∈ t, TxOk p.1.2.2) {k : Ky} (hk : TxOk k.2.2) (a : Str) (am : Int) : ∀ p ∈ tabF t k a am, TxOk p.1.2.2 := fun p hp => by
  unfold tabF at hp
  split at hp
  · split at hp
    · exact h p (List.mem_filter.mp hp).1
    · exact h p hp
  · have : p.1 ∈ (puA t k (a, am)).map fun p => p.1 := List.mem_map.mpr ⟨p, hp, rfl⟩
    rw [puA_keys] at this
    split at this
    · obtain ⟨q, hq, e⟩ := List.mem_map.mp this
      rw [← e]; exact h q hq
    · rcases List.mem_append.mp this with this | this
      · obtain ⟨q, hq, e⟩ := List.mem_map.mp this
        rw [← e]; exact h q hq
      · simp only [List.mem_cons, List.not_mem_nil, or_false] at this
        rw [this]; exact hk
theorem tab_lk (t : Tb) (k : Ky) (a : Str) (am : Int) (j : Ky) : lkA (tabF t k a am) j = if j = k then (if am = 0 then none else some (a, am)) else lkA t j := by
  unfold tabF
  by_cases z : am = 0
  · rw [if_pos z, if_pos z]
    cases h : lkA t k with
    | none =>
      dsimp only
      by_cases g : j = k
      · rw [if_pos g, g, h]
      · rw [if_neg g]
    | some x =>
      dsimp only
      rw [lkA_dr]
  · rw [if_neg z, if_neg z, lkA_pu]
/-! the program's data -/
def poD (A : Ad) (p : Po) : D := .ins A.C_Posting [("account", .str p.a), ("key", kyD p.k), ("amount", .int p.am), ("written", .int p.wr)]
theorem fp_a (A : Ad) (p : Po) (C : Cells) : fldOf A.C_Posting "account" (poD A p) C = some (.str p.a) := by rw [poD, fldOf_ins]; rfl
theorem fp_m (A : Ad) (p : Po) (C : Cells) : fldOf A.C_Posting "amount" (poD A p) C = some (.int p.am) := by rw [poD, fldOf_ins]; rfl
structure LdS (A : Ad) (C : Cells) (pl ps : Addr) (T : Tb) (L : List Po) : Prop where
  obj : ∃ pz, C pl = some (.ins A.C_Ledger [("lines", .lst (L.map (poD A))), ("stands", .ptr ps), ("stated", pz)])
  tab : C ps = some (.dN A.pw (stD T))
  nd : (T.map fun p => p.1).Nodup
  tx : ∀ p ∈ T, TxOk p.1.2.2
  bal : ∀ s, (accF L s).sum = sumT T s
theorem LdS.sub {A : Ad} {C C' : Cells} {pl ps : Addr} {T : Tb} {L : List Po} (h : LdS A C pl ps T L) (u : DD.Sub C C') : LdS A C' pl ps T L := by
  obtain ⟨pz, h1⟩ := h.obj
  exact ⟨⟨pz, u _ _ h1⟩, u _ _ h.tab, h.nd, h.tx, h.bal⟩
theorem LdS.put {A : Ad} {C : Cells} {pl ps : Addr} {T : Tb} {L : List Po} (h : LdS A C pl ps T L) {b : Addr} (n1 : pl ≠ b) (n2 : ps ≠ b) (c : Cell) : LdS A (cput C b c) pl ps T L := by
  obtain ⟨pz, h1⟩ := h.obj
  exact ⟨⟨pz, (cput_ne n1).trans h1⟩, (cput_ne n2).trans h.tab, h.nd, h.tx, h.bal⟩
theorem LdS.oth {A : Ad} {C : Cells} {pl ps : Addr} {T : Tb} {L : List Po} (h : LdS A C pl ps T L) {b : Addr} (hb : C b = none) (c : Cell) : LdS A (cput C b c) pl ps T L := by
  obtain ⟨pz, h1⟩ := h.obj
  exact h.put (cell_ne h1 hb) (cell_ne h.tab hb) c
theorem post_bal {T : Tb} {L : List Po} (nd : (T.map fun p => p.1).Nodup) (h : ∀ s, (accF L s).sum = sumT T s) (k : Ky) (a : Str) (am clk : Int) (s : Str) : (accF (L ++ fndF (lkA T k) k a am clk) s).sum = sumT (tabF T k a am) s := by
  rw [acc_app, fnd_sum, tab_sum nd, h]; omega
theorem fm_sel {β : Type} (p : Po → Bool) (f : Po → β) : ∀ L : List Po, L.filterMap (fun x => if p x = true then some (f x) else none) = (L.filter p).map f
  | [] => rfl
  | x :: L => by
    rw [List.filterMap_cons, List.filter_cons]
    cases h : p x with
    | true => simp [fm_sel p f L]
    | false => simp [fm_sel p f L]
theorem nodup_len {α : Type} [DecidableEq α] : ∀ {L M : List α}, L.Nodup → (∀ x ∈ L, x ∈ M) → L.length ≤ M.length
  | [], M, _, _ => Nat.zero_le _
  | x :: L, M, nd, h => by
    rw [List.nodup_cons] at nd
    have := nodup_len (M := M.erase x) nd.2 fun y hy => (List.mem_erase_of_ne (fun e => nd.1 (by rw [← e]; exact hy))).mpr (h y (List.mem_cons_of_mem _ hy))
    have h2 := List.length_erase_of_mem (h x List.mem_cons_self)
    have h3 := List.length_pos_of_mem (h x List.mem_cons_self)
    rw [List.length_cons]; omega
/-! lines of a section: labels, and no two alike -/
def LabOk (s : Str) : Prop := s = "free" ∨ s = "setup" ∨ s = "low" ∨ s = "far"
def BdOk (bs : List Bd) : Prop := ∀ b ∈ bs, b.lab = "low" ∨ b.lab = "far"
def TabOk (ts : Tab) : Prop := ∀ p ∈ ts, BdOk p.2.bs
theorem best_mem {cal : Str} {t : Int} {bs : List Bd} {b : Bd} (h : bestF cal t bs = some b) : b ∈ bs := by
  unfold bestF at h
  have go : ∀ (bs : List Bd) (r : Option Bd), bs.foldl (bestS cal t) r = some b → r = some b ∨ b ∈ bs := by
    intro bs
    induction bs with
    | nil => intro r h; exact .inl h
    | cons x bs ih =>
      intro r h
      rcases ih _ h with h | h
      · unfold bestS at h
        split at h
        · cases h; exact .inr List.mem_cons_self
        · exact .inl h
      · exact .inr (List.mem_cons_of_mem _ h)
  rcases go bs none h with h | h
  · cases h
  · exact h
structure PcOk (bs : List Bd) (p : Int) (L : List Pc) : Prop where
  lab : ∀ x ∈ L, x.1 ∈ bs
  lt : ∀ x ∈ L, x.2.1 < p
  pw : L.Pairwise fun x y => x.2.1 < y.2.1
theorem put_pc {bs : List Bd} {p p' a : Int} {L : List Pc} {b : Bd} (h : PcOk bs p L) (hb : b ∈ bs) (hp : p < p') : PcOk bs p' (putP b p a L) := by
  rcases List.eq_nil_or_concat L with rfl | ⟨M, x, rfl⟩
  · rw [putP_nil]
    refine ⟨fun y hy => ?_, fun y hy => ?_, List.pairwise_singleton _ _⟩ <;> simp only [List.mem_cons, List.not_mem_nil, or_false] at hy <;> subst hy
    · exact hb
    · exact hp
  · rw [List.concat_eq_append] at h ⊢
    rw [putP_snoc]
    have hx := h.lt x (by simp)
    have pw := List.pairwise_append.mp h.pw
    split
    · refine ⟨fun y hy => ?_, fun y hy => ?_, List.pairwise_append.mpr ⟨pw.1, List.pairwise_singleton _ _, fun y hy z hz => ?_⟩⟩
      · rcases List.mem_append.mp hy with hy | hy
        · exact h.lab y (List.mem_append_left _ hy)
        · simp only [List.mem_cons, List.not_mem_nil, or_false] at hy
          subst hy; exact hb
      · rcases List.mem_append.mp hy with hy | hy
        · have := h.lt y (List.mem_append_left _ hy); omega
        · simp only [List.mem_cons, List.not_mem_nil, or_false] at hy
          subst hy
          show x.2.1 < p'
          omega
      · simp only [List.mem_cons, List.not_mem_nil, or_false] at hz
        subst hz
        exact pw.2.2 y hy x (by simp)
    · refine ⟨fun y hy => ?_, fun y hy => ?_, List.pairwise_append.mpr ⟨h.pw, List.pairwise_singleton _ _, fun y hy z hz => ?_⟩⟩
      · rcases List.mem_append.mp hy with hy | hy
        · exact h.lab y hy
        · simp only [List.mem_cons, List.not_mem_nil, or_false] at hy
          subst hy; exact hb
      · rcases List.mem_append.mp hy with hy | hy
        · have := h.lt y hy; omega
        · simp only [List.mem_cons, List.not_mem_nil, or_false] at hy
          subst hy; exact hp
      · simp only [List.mem_cons, List.not_mem_nil, or_false] at hz
        subst hz
        exact h.lt y hy
theorem stF_pc {bs : List Bd} {cal : Str} {st till : Int} : ∀ (n : Nat) (p : Int) (L R : List Pc), stF bs cal st till n p L = some R → PcOk bs p L → (∀ x ∈ R, x.1 ∈ bs) ∧ R.Pairwise fun x y => x.2.1 < y.2.1
  | 0, p, L, R, h, hp => by cases h; exact ⟨hp.lab, hp.pw⟩
  | n + 1, p, L, R, h, hp => by
    by_cases z : p < till
    · rw [stF_go z] at h
      cases hb : bestF cal (st + p) bs with
      | none => rw [hb] at h; cases h
      | some b =>
        rw [hb] at h
        exact stF_pc n _ _ R h (put_pc hp (best_mem hb) (by omega))
    · rw [stF_done z] at h
      cases h
      exact ⟨hp.lab, hp.pw⟩
def lnKey (l : Ln) : Int × Str := (l.lo, l.lab)
theorem pl_ok {t : Tf} {cal : Str} {st b till : Int} {R : List Ln} (ht : BdOk t.bs) (h : plF t cal st b till = some R) : (R.map lnKey).Nodup ∧ ∀ l ∈ R, l.lab = "setup" ∨ l.lab = "low" ∨ l.lab = "far" := by
  unfold plF at h
  obtain ⟨L, hL, rfl⟩ := Option.map_eq_some_iff.mp h
  obtain ⟨h1, h2⟩ := stF_pc _ _ _ _ hL ⟨(fun x hx => by cases hx), (fun x hx => by cases hx), List.Pairwise.nil⟩
  have hl : ∀ l ∈ L.map lnP, l.lab = "low" ∨ l.lab = "far" := fun l hl => by
    obtain ⟨x, hx, rfl⟩ := List.mem_map.mp hl
    exact ht _ (h1 x hx)
  refine ⟨?_, fun l hl' => ?_⟩
  · rw [List.map_cons, List.nodup_cons]
    refine ⟨fun hm => ?_, ?_⟩
    · obtain ⟨l, hlm, e⟩ := List.mem_map.mp hm
      have e : l.lab = "setup" := congrArg Prod.snd e
      rcases hl l hlm with g | g <;> (rw [g] at e; exact absurd e (by decide))
    · rw [List.map_map, List.nodup_iff_pairwise_ne, List.pairwise_map]
      refine h2.imp fun {x y} hxy e => ?_
      have e : (x.2.1, x.1.lab) = (y.2.1, y.1.lab) := e
      have e := (Prod.mk.inj e).1
      omega
  · rcases List.mem_cons.mp hl' with rfl | hl'
    · exact .inl rfl
    · exact .inr (hl l hl')
theorem lines_ok {t : Tf} {s : Sc} {f : Int} {R : List Ln} (ht : BdOk t.bs) (h : linesF t s f = some R) : (R.map lnKey).Nodup ∧ ∀ l ∈ R, LabOk l.lab := by
  unfold linesF at h
  obtain ⟨L, hL, rfl⟩ := Option.map_eq_some_iff.mp h
  have base : (L.map lnKey).Nodup ∧ ∀ l ∈ L, l.lab = "setup" ∨ l.lab = "low" ∨ l.lab = "far" := by
    split at hL
    · exact pl_ok ht hL
    · cases hL; exact ⟨List.nodup_nil, fun l hl => by cases hl⟩
  split
  · refine ⟨?_, fun l hl => ?_⟩
    · rw [List.map_cons, List.nodup_cons]
      refine ⟨fun hm => ?_, base.1⟩
      obtain ⟨l, hlm, e⟩ := List.mem_map.mp hm
      have e : l.lab = "free" := congrArg Prod.snd e
      rcases base.2 l hlm with g | g | g <;> (rw [g] at e; exact absurd e (by decide))
    · rcases List.mem_cons.mp hl with rfl | hl
      · exact .inl rfl
      · exact .inr (base.2 l hl)
  · exact ⟨base.1, fun l hl => .inr (base.2 l hl)⟩
/-! charges: labels, accounts, keys -/
def ckey (c : Cg) : Ky := (c.k, c.lo, c.lab)
theorem cgKey_ky (c : Cg) : cgKey c = kyD (ckey c) := rfl
def AcOk (s : Str) : Prop := s = "ann" ∨ s = "bo" ∨ s = "cy"
structure ChOk (L : List Cg) : Prop where
  lab : ∀ c ∈ L, LabOk c.lab
  acc : ∀ c ∈ L, AcOk c.acc
  nd : (L.map ckey).Nodup
def HiOk (hi : Hist) : Prop := ∀ p rs, lkA hi p = some rs → ∀ r ∈ rs, ∀ a, r.acc = some a → AcOk a
theorem force_ok {hi : Hist} (h : HiOk hi) {p : Str} {c : Int} {a n : Str} (e : inForceF hi p c = some (a, n)) : AcOk a := by
  unfold inForceF at e
  have go : ∀ (rs : List Rh) (f : Option Rh) (r : Rh), rs.foldl (fun f r => if r.since ≤ c then some r else f) f = some r → f = some r ∨ r ∈ rs := by
    intro rs
    induction rs with
    | nil => intro f r h; exact .inl h
    | cons x rs ih =>
      intro f r h
      rcases ih _ _ h with h | h
      · dsimp only at h
        split at h
        · cases h; exact .inr List.mem_cons_self
        · exact .inl h
      · exact .inr (List.mem_cons_of_mem _ h)
  cases hl : lkA hi p with
  | none =>
    rw [hl] at e
    cases e
  | some rs =>
    rw [hl, Option.getD_some] at e
    cases hr : rowOf rs c with
    | none => rw [hr] at e; cases e
    | some r =>
      rw [hr] at e
      have hm : r ∈ rs := by
        rcases go rs none r hr with z | z
        · cases z
        · exact z
      unfold conOf at e
      split at e
      · cases e
      · rename_i r' hrr
        cases hrr
        cases hra : r.acc with
        | none => rw [hra] at e; cases e
        | some a' =>
          rw [hra] at e
          cases e
          exact h p rs hl r hm _ hra
theorem step_ch {hi : Hist} {ts : Tab} {al : Alw} {rs : Rs} {s : Sc} (ht : TabOk ts) (hh : HiOk hi) (h : ChOk rs.ch) (hs : ∀ c ∈ rs.ch, c.k ≠ s.k) : ChOk (stepF hi ts al rs s).ch ∧ ∀ c ∈ (stepF hi ts al rs s).ch, c ∈ rs.ch ∨ c.k = s.k := by
  have same : ∀ rs' : Rs, rs'.ch = rs.ch → ChOk rs'.ch ∧ ∀ c ∈ rs'.ch, c ∈ rs.ch ∨ c.k = s.k := fun rs' e => by
    rw [e]; exact ⟨h, fun c hc => .inl hc⟩
  unfold stepF
  split
  · exact same _ rfl
  · unfold takeF
    cases hp : s.pay with
    | none => exact same _ rfl
    | some p =>
      dsimp only
      cases hf : inForceF hi p s.op with
      | none => exact same _ rfl
      | some an =>
        obtain ⟨a, n⟩ := an
        have ha := force_ok hh hf
        unfold takeC
        dsimp only
        cases hl : lkA ts n with
        | none => exact same _ rfl
        | some t =>
          have htb := ht _ (lkA_some_mem hl)
          dsimp only at htb ⊢
          unfold takeT
          cases hL : linesF t s (min s.sec (alF al a - getU rs.u (a, s.op / 2592000))) with
          | none => exact same _ rfl
          | some L =>
            obtain ⟨l1, l2⟩ := lines_ok htb hL
            dsimp only
            refine ⟨⟨fun c hc => ?_, fun c hc => ?_, ?_⟩, fun c hc => ?_⟩
            · rcases List.mem_append.mp hc with hc | hc
              · exact h.lab c hc
              · obtain ⟨l, hl, rfl⟩ := List.mem_map.mp hc
                exact l2 l hl
            · rcases List.mem_append.mp hc with hc | hc
              · exact h.acc c hc
              · obtain ⟨l, hl, rfl⟩ := List.mem_map.mp hc
                exact ha
            · rw [List.map_append, List.nodup_append]
              refine ⟨h.nd, ?_, fun x hx y hy e => ?_⟩
              · rw [List.map_map]
                rw [List.nodup_iff_pairwise_ne, List.pairwise_map] at l1 ⊢
                refine l1.imp fun {x y} hxy e => hxy ?_
                exact congrArg Prod.snd e
              · obtain ⟨c, hc, rfl⟩ := List.mem_map.mp hx
                obtain ⟨d, hd, rfl⟩ := List.mem_map.mp hy
                obtain ⟨l, hl, rfl⟩ := List.mem_map.mp hd
                exact hs c hc (congrArg Prod.fst e)
            · rcases List.mem_append.mp hc with hc | hc
              · exact .inl hc
              · obtain ⟨l, hl, rfl⟩ := List.mem_map.mp hc
                exact .inr rfl
theorem run_ch {hi : Hist} {ts : Tab} {al : Alw} (ht : TabOk ts) (hh : HiOk hi) : ∀ (T : List Sc) (rs : Rs), ChOk rs.ch → (T.map fun s => s.k).Nodup → (∀ s ∈ T, ∀ c ∈ rs.ch, c.k ≠ s.k) → ChOk (T.foldl (stepF hi ts al) rs).ch
  | [], rs, h, _, _ => h
  | s :: T, rs, h, nd, hs => by
    rw [List.map_cons, List.nodup_cons] at nd
    obtain ⟨h1, h2⟩ := step_ch (al := al) ht hh h (hs s List.mem_cons_self)
    refine run_ch ht hh T _ h1 nd.2 fun s' hs' c hc => ?_
    rcases h2 c hc with g | g
    · exact hs s' (List.mem_cons_of_mem _ hs') c g
    · rw [g]
      exact fun e => nd.1 (by rw [e]; exact List.mem_map.mpr ⟨s', hs', rfl⟩)
theorem runF_ch {hi : Hist} {ts : Tab} {al : Alw} (ht : TabOk ts) (hh : HiOk hi) {ss : List Sc} (nd : (ss.map fun s => s.k).Nodup) : ChOk (runF hi ts al ss).ch :=
  run_ch ht hh _ _ ⟨(fun c hc => by cases hc), (fun c hc => by cases hc), List.nodup_nil⟩ ((((List.mergeSort_perm ss leS).map fun s => s.k).nodup_iff).mpr nd) (fun s hs c hc => by cases hc)
/-! tables of charges -/
def ctM (L : List Cg) : Tb := L.map fun c => (ckey c, (c.acc, c.mi))
theorem ctM_keys (L : List Cg) : (ctM L).map (fun p => p.1) = L.map ckey := by unfold ctM; rw [List.map_map]; rfl
theorem ctM_snoc {L : List Cg} {c : Cg} (h : ckey c ∉ L.map ckey) : puA (ctM L) (ckey c) (c.acc, c.mi) = ctM (L ++ [c]) := by
  have hn : lkA (ctM L) (ckey c) = none := lkA_none.mpr (by rw [ctM_keys]; exact h)
  unfold puA
  rw [puA_any, hn, if_neg (by decide)]
  unfold ctM
  rw [List.map_append]; rfl
def chS (L : List Cg) (s : Str) : Int := ((L.filter fun c => decide (c.acc = s)).map fun c => c.mi).sum
theorem ctM_sum (s : Str) : ∀ L : List Cg, sumT (ctM L) s = chS L s
  | [] => rfl
  | c :: L => by
    have ih := ctM_sum s L
    unfold sumT ctM chS at ih ⊢
    rw [List.map_cons, List.map_cons, List.sum_cons, ih, List.filter_cons]
    unfold valS
    by_cases h : c.acc = s
    · rw [if_pos h, if_pos (by simpa using h), List.map_cons, List.sum_cons]
    · rw [if_neg h, if_neg (by simpa using h), Int.zero_add]
theorem perm_sum {L M : List Int} (h : L.Perm M) : L.sum = M.sum := by
  induction h with
  | nil => rfl
  | cons x _ ih => rw [List.sum_cons, List.sum_cons, ih]
  | swap x y l => simp only [List.sum_cons]; omega
  | trans _ _ a b => exact a.trans b
def nzO (v : Str × Int) : Option (Str × Int) := if v.2 = 0 then none else some v
theorem sum_same {T U : Tb} (nT : (T.map fun p => p.1).Nodup) (nU : (U.map fun p => p.1).Nodup) (h : ∀ j, lkA T j = (lkA U j).bind nzO) (s : Str) : sumT T s = sumT U s := by
  have nd : ∀ T : Tb, (T.map fun p => p.1).Nodup → T.Nodup := fun T h => List.Pairwise.of_map (fun p : Ky × (Str × Int) => p.1) (fun a b h z => h (by rw [z])) h
  have hp : T.Perm (U.filter fun p => decide (p.2.2 ≠ 0)) := (List.perm_ext_iff_of_nodup (nd T nT) ((nd U nU).sublist List.filter_sublist)).mpr fun x => by
    obtain ⟨k, v⟩ := x
    rw [List.mem_filter]
    constructor
    · intro hx
      have e := lkA_mem nT hx
      rw [h] at e
      obtain ⟨w, hw, e⟩ := Option.bind_eq_some_iff.mp e
      unfold nzO at e
      split at e
      · cases e
      · cases e
        exact ⟨lkA_some_mem hw, by simpa using ‹_›⟩
    · rintro ⟨hx, hz⟩
      refine lkA_some_mem ?_
      rw [h, lkA_mem nU hx]
      show nzO v = some v
      unfold nzO
      rw [if_neg (by simpa using hz)]
  have e1 : sumT T s = sumT (U.filter fun p => decide (p.2.2 ≠ 0)) s := by
    unfold sumT
    exact perm_sum (hp.map _)
  rw [e1]
  unfold sumT
  clear e1 hp h nT nU
  induction U with
  | nil => rfl
  | cons p U ih =>
    rw [List.filter_cons]
    by_cases z : p.2.2 = 0
    · rw [if_neg (by simp [z]), ih, List.map_cons, List.sum_cons]
      unfold valS
      rw [z]; simp
    · rw [if_pos (by simpa using z), List.map_cons, List.sum_cons, ih, List.map_cons, List.sum_cons]
/-! sums by accounts, as a table of the program -/
abbrev Bl := List (Str × Int)
def inS : Str → L2.Key := Sum.inr
theorem inS_inj (a b : Str) (h : inS a = inS b) : a = b := Sum.inr.inj h
def balD (t : Bl) : List (L2.Key × D) := t.map fun p => (inS p.1, .int p.2)
theorem bal_va (t : Bl) (s : Str) : vaD (balD t) (.inr s) = (lkA t s).map D.int := va_tab inS inS_inj D.int s t
theorem bal_pu (t : Bl) (s : Str) (x : Int) : puD (balD t) (.inr s) (.int x) = balD (puA t s x) := pu_tab inS inS_inj D.int t s x
theorem bal_len (t : Bl) : (balD t).length = t.length := by unfold balD; rw [List.length_map]
def acS (t : Bl) (c : Cg) : Bl := puA t c.acc ((lkA t c.acc).getD 0 + c.mi)
def acT (L : List Cg) : Bl := L.foldl acS []
theorem acT_snoc (L : List Cg) (c : Cg) : acT (L ++ [c]) = acS (acT L) c := by unfold acT; rw [List.foldl_append]; rfl
theorem chS_snoc (L : List Cg) (c : Cg) (s : Str) : chS (L ++ [c]) s = chS L s + if c.acc = s then c.mi else 0 := by
  unfold chS
  rw [List.filter_append, List.map_append, List.sum_append, List.filter_cons]
  by_cases h : c.acc = s <;> simp [h]
theorem acT_lk (L : List Cg) (s : Str) : (lkA (acT L) s).getD 0 = chS L s := by
  suffices h : ∀ k, k ≤ L.length → (lkA (acT (L.take k)) s).getD 0 = chS (L.take k) s by
    have := h L.length (Nat.le_refl _)
    rwa [List.take_length] at this
  intro k
  induction k with
  | zero => intro _; rfl
  | succ k ih =>
    intro hk
    have e : L[k]? = some L[k] := List.getElem?_eq_getElem (by omega)
    have ih := ih (by omega)
    rw [take_snoc e, acT_snoc, chS_snoc, ← ih]
    unfold acS
    rw [lkA_pu]
    by_cases g : s = L[k].acc
    · have g' : L[k].acc = s := g.symm
      rw [if_pos g, if_pos g', g]; rfl
    · have g' : ¬ L[k].acc = s := fun z => g z.symm
      rw [if_neg g, if_neg g', Int.add_zero]
theorem acT_len (L : List Cg) : (acT L).length ≤ L.length := by
  suffices h : ∀ k, k ≤ L.length → (acT (L.take k)).length ≤ k by
    have := h L.length (Nat.le_refl _)
    rwa [List.take_length] at this
  intro k
  induction k with
  | zero => intro _; exact Nat.le_refl _
  | succ k ih =>
    intro hk
    have e : L[k]? = some L[k] := List.getElem?_eq_getElem (by omega)
    rw [take_snoc e, acT_snoc]
    exact Nat.le_trans (puA_len _ _ _) (Nat.succ_le_succ (ih (by omega)))
theorem lk_nz {z : Bl} (nd : (z.map fun p => p.1).Nodup) (s : Str) : (lkA (z.filter fun p => decide (p.2 ≠ 0)) s).getD 0 = (lkA z s).getD 0 := by
  induction z with
  | nil => rfl
  | cons p z ih =>
    rw [List.map_cons, List.nodup_cons] at nd
    have ih := ih nd.2
    rw [List.filter_cons, lkA_cons]
    by_cases h : p.2 = 0
    · rw [if_neg (by simp [h]), ih]
      by_cases g : p.1 = s
      · rw [if_pos g, lkA_none.mpr (by rw [← g]; exact nd.1), h]; rfl
      · rw [if_neg g]
    · rw [if_pos (by simpa using h), lkA_cons]
      by_cases g : p.1 = s
      · rw [if_pos g, if_pos g]
      · rw [if_neg g, if_neg g, ih]
/-! what differs -/
def opD (o : Option (Str × Int)) : D := (o.map vlD).getD .non
def allK (t u : Tb) : List Ky := t.map (fun p => p.1) ++ (u.map fun p => p.1).filter fun k => decide (k ∉ t.map fun p => p.1)
def difK (t u : Tb) : List Ky := (srtK (allK t u)).filter fun k => decide (lkA t k ≠ lkA u k)
def rowD (t u : Tb) (k : Ky) : D := .tup [kyD k, opD (lkA t k), opD (lkA u k)]
def difD (t u : Tb) : List D := (difK t u).map (rowD t u)
theorem allK_nd {t u : Tb} (ht : (t.map fun p => p.1).Nodup) (hu : (u.map fun p => p.1).Nodup) : (allK t u).Nodup := by
  unfold allK
  refine List.nodup_append.mpr ⟨ht, hu.sublist List.filter_sublist, fun a ha b hb e => ?_⟩
  subst e
  have := (List.mem_filter.mp hb).2
  exact (of_decide_eq_true this) ha
theorem difK_two {t u : Tb} (hu : (u.map fun p => p.1).Nodup) : difK t u = srtK ((t.map fun p => p.1).filter (fun k => decide (lkA u k ≠ lkA t k)) ++ (u.map fun p => p.1).filter fun k => decide (k ∉ t.map fun p => p.1)) := by
  unfold difK
  rw [← srtK_filter]
  congr 1
  unfold allK
  rw [List.filter_append, List.filter_filter]
  congr 1
  · refine List.filter_congr fun k _ => decide_eq_decide.mpr ⟨fun h z => h z.symm, fun h z => h z.symm⟩
  · refine List.filter_congr fun k hk => ?_
    by_cases g : k ∈ t.map fun p => p.1
    · simp [g]
    · have h1 := lkA_none.mpr g
      have h2 : lkA u k ≠ none := fun z => lkA_none.mp z hk
      rw [h1]
      simp only [decide_eq_true g, Bool.and_true]
      exact decide_eq_true (fun z => h2 z.symm)
theorem difK_same (t : Tb) : difK t t = [] := by
  unfold difK
  exact List.filter_eq_nil_iff.mpr fun k _ => by simp
/-- a sum over all keys is the sum of the table -/
theorem sum_over {t : Tb} (ht : (t.map fun p => p.1).Nodup) (s : Str) : ∀ {K : List Ky}, K.Nodup → (∀ k ∈ t.map (fun p => p.1), k ∈ K) → (K.map fun k => oldS (lkA t k) s).sum = sumT t s := by
  intro K nK hK
  have hp : K.Perm (t.map (fun p => p.1) ++ K.filter fun k => decide (k ∉ t.map fun p => p.1)) :=
    (List.perm_ext_iff_of_nodup nK (List.nodup_append.mpr ⟨ht, nK.sublist List.filter_sublist, fun a ha b hb e => by
      subst e
      exact (of_decide_eq_true (List.mem_filter.mp hb).2) ha⟩)).mpr fun k => by
    rw [List.mem_append, List.mem_filter, decide_eq_true_eq]
    constructor
    · intro h
      by_cases g : k ∈ t.map fun p => p.1
      · exact .inl g
      · exact .inr ⟨h, g⟩
    · rintro (h | h)
      · exact hK k h
      · exact h.1
  rw [perm_sum (hp.map _), List.map_append, List.sum_append]
  have e1 : ((t.map fun p => p.1).map fun k => oldS (lkA t k) s).sum = sumT t s := by
    rw [List.map_map]
    unfold sumT
    congr 1
    refine List.map_congr_left fun p hp => ?_
    show oldS (lkA t p.1) s = valS s p.2
    rw [show lkA t p.1 = some p.2 from lkA_mem ht (by cases p; exact hp)]; rfl
  have e2 : ∀ M : List Ky, (∀ k ∈ M, lkA t k = none) → (M.map fun k => oldS (lkA t k) s).sum = 0 := by
    intro M
    induction M with
    | nil => intro _; rfl
    | cons x M ih =>
      intro h
      rw [List.map_cons, List.sum_cons, ih fun k hk => h k (List.mem_cons_of_mem _ hk), h x List.mem_cons_self]; rfl
  rw [e1, e2 _ fun k hk => lkA_none.mpr (of_decide_eq_true (List.mem_filter.mp hk).2)]; omega
def difS (t u : Tb) (K : List Ky) (s : Str) : Int := (K.map fun k => oldS (lkA u k) s - oldS (lkA t k) s).sum
theorem sum_sub' (f g : Ky → Int) : ∀ K : List Ky, (K.map fun k => f k - g k).sum = (K.map f).sum - (K.map g).sum
  | [] => rfl
  | k :: K => by simp only [List.map_cons, List.sum_cons, sum_sub' f g K]; omega
theorem dif_sum {t u : Tb} (ht : (t.map fun p => p.1).Nodup) (hu : (u.map fun p => p.1).Nodup) (s : Str) : difS t u (difK t u) s = sumT u s - sumT t s := by
  have e : difS t u (difK t u) s = difS t u (srtK (allK t u)) s := by
    unfold difK difS
    generalize srtK (allK t u) = K
    induction K with
    | nil => rfl
    | cons k K ih =>
      rw [List.filter_cons]
      by_cases g : lkA t k = lkA u k
      · rw [if_neg (by simp [g]), ih, List.map_cons, List.sum_cons, g]; omega
      · rw [if_pos (by simpa using g), List.map_cons, List.sum_cons, ih, List.map_cons, List.sum_cons]
  have hm : ∀ k, k ∈ srtK (allK t u) ↔ k ∈ allK t u := fun k => (srtK_perm _).mem_iff
  have nd : (srtK (allK t u)).Nodup := ((srtK_perm _).nodup_iff).mpr (allK_nd ht hu)
  rw [e]
  unfold difS
  rw [sum_sub', sum_over hu s nd (fun k hk => (hm k).mpr ?_), sum_over ht s nd (fun k hk => (hm k).mpr (List.mem_append_left _ hk))]
  by_cases g : k ∈ t.map fun p => p.1
  · exact List.mem_append_left _ g
  · exact List.mem_append_right _ (List.mem_filter.mpr ⟨hk, decide_eq_true g⟩)
/-! sums of labels -/
def rowsL (L : List Cg) (a l : Str) : List Cg := L.filter fun c => decide (c.acc = a) && decide (c.lab = l)
def lbE (R : List Cg) : List D := [.int (R.length : Int), .int ((R.map fun c => c.hi - c.lo).sum), .int ((R.map fun c => c.mi).sum)]
def lab4 : List Str := ["far", "free", "low", "setup"]
def lbD (L : List Cg) (a : Str) : List D := (lab4.filter fun l => !(rowsL L a l).isEmpty).map fun l => .tup (.str l :: lbE (rowsL L a l))
abbrev Lt3 := List (Str × (Int × Int × Int))
def v3 (x : Int × Int × Int) : D := .tup [.int x.1, .int x.2.1, .int x.2.2]
def l3D (t : Lt3) : List (L2.Key × D) := t.map fun p => (inS p.1, v3 p.2)
theorem l3_va (t : Lt3) (s : Str) : vaD (l3D t) (.inr s) = (lkA t s).map v3 := va_tab inS inS_inj v3 s t
theorem l3_pu (t : Lt3) (s : Str) (x : Int × Int × Int) : puD (l3D t) (.inr s) (v3 x) = l3D (puA t s x) := pu_tab inS inS_inj v3 t s x
theorem l3_len (t : Lt3) : (l3D t).length = t.length := by unfold l3D; rw [List.length_map]
def sm3 (R : List Cg) : Int × Int × Int := ((R.length : Int), (R.map fun c => c.hi - c.lo).sum, (R.map fun c => c.mi).sum)
theorem sm3_snoc (R : List Cg) (c : Cg) : sm3 (R ++ [c]) = ((sm3 R).1 + 1, (sm3 R).2.1 + c.hi - c.lo, (sm3 R).2.2 + c.mi) := by
  unfold sm3
  simp only [List.length_append, List.map_append, List.sum_append, List.length_cons, List.length_nil, List.map_cons, List.map_nil, List.sum_cons, List.sum_nil]
  refine Prod.ext (by simp) (Prod.ext ?_ ?_) <;> (simp; try omega)
theorem rows_snoc (L : List Cg) (c : Cg) (a l : Str) : rowsL (L ++ [c]) a l = if c.acc = a ∧ c.lab = l then rowsL L a l ++ [c] else rowsL L a l := by
  unfold rowsL
  rw [List.filter_append, List.filter_cons]
  by_cases h : c.acc = a ∧ c.lab = l
  · rw [if_pos h, if_pos (by simp [h.1, h.2])]; rfl
  · rw [if_neg h, if_neg (by simpa using h)]; simp
def Lb3 (L : List Cg) (a : Str) (z : Lt3) : Prop := ∀ l, lkA z l = if rowsL L a l = [] then none else some (sm3 (rowsL L a l))
theorem lb_lk {L : List Cg} {a : Str} {z : Lt3} (h : Lb3 L a z) (l : Str) : (lkA z l).getD (0, 0, 0) = sm3 (rowsL L a l) := by
  rw [h]
  by_cases g : rowsL L a l = []
  · rw [if_pos g, g]; rfl
  · rw [if_neg g]; rfl
theorem leD_lab : ∀ a ∈ lab4, ∀ b ∈ lab4, leD (.str a) (.str b) = true → leD (.str b) (.str a) = true → a = b := by decide +kernel
theorem lab4_pw : lab4.Pairwise fun a b => leD (.str a) (.str b) = true := by decide +kernel
theorem lab4_mem {s : Str} (h : LabOk s) : s ∈ lab4 := by
  unfold lab4
  rcases h with rfl | rfl | rfl | rfl <;> simp
theorem sorts_str (ks : List Str) (h : ∀ k ∈ ks, TxOk k) : SortsD (ks.map D.str) := by
  refine ⟨⟨0, by decide, fun d hd => ?_⟩, ?_, ?_⟩
  · obtain ⟨n, hn, rfl⟩ := List.mem_map.mp hd
    exact .str (h n hn)
  · rw [List.map_map]
    exact PySem.W.AllAlike.of fun b b' => by simp [D.py, PySem.W.alike]
  · rw [List.map_map]
    exact PySem.W.Sortable.others fun b => by simp [D.py]
theorem leD_eq' (a b : D) : leD a b = !PyProof.Rows.lexLt PyProof.Rows.itemOrd (PySem.W.keyToks b.py) (PySem.W.keyToks a.py) := rfl
theorem leD_tr (a b c : D) (h1 : leD a b = true) (h2 : leD b c = true) : leD a c = true := by
  rw [leD_eq', Bool.not_eq_true'] at *
  cases h : PyProof.Rows.lexLt PyProof.Rows.itemOrd (PySem.W.keyToks c.py) (PySem.W.keyToks a.py) with
  | false => rfl
  | true =>
    rcases PyProof.Rows.lex_negTrans _ (PySem.W.keyToks b.py) _ h with z | z
    · rw [h2] at z; cases z
    · rw [h1] at z; cases z
theorem leD_tot (a b : D) : (leD a b || leD b a) = true := by
  rw [leD_eq', leD_eq']
  cases h : PyProof.Rows.lexLt PyProof.Rows.itemOrd (PySem.W.keyToks b.py) (PySem.W.keyToks a.py) with
  | false => rfl
  | true =>
    cases g : PyProof.Rows.lexLt PyProof.Rows.itemOrd (PySem.W.keyToks a.py) (PySem.W.keyToks b.py) with
    | false => rfl
    | true =>
      have := PyProof.Rows.lex_trans _ _ _ h g
      rw [PyProof.Rows.lex_irrefl] at this; cases this
theorem sort4 {ks : List Str} (nd : ks.Nodup) (h : ∀ k ∈ ks, LabOk k) : (ks.map D.str).mergeSort leD = (lab4.filter fun l => decide (l ∈ ks)).map D.str := by
  have hp : ks.Perm (lab4.filter fun l => decide (l ∈ ks)) := (List.perm_ext_iff_of_nodup nd ((show lab4.Nodup by decide).sublist List.filter_sublist)).mpr fun k => by
    rw [List.mem_filter, decide_eq_true_eq]
    exact ⟨fun hk => ⟨lab4_mem (h k hk), hk⟩, fun hk => hk.2⟩
  have e : (ks.map D.str).mergeSort leD = (ks.mergeSort fun a b => leD (.str a) (.str b)).map D.str := (List.map_mergeSort (fun a _ b _ => (rfl : leD (.str a) (.str b) = leD (.str a) (.str b)))).symm
  have hs : (ks.mergeSort fun a b => leD (.str a) (.str b)).Pairwise fun a b => leD (.str a) (.str b) = true := List.pairwise_mergeSort (le := fun a b : Str => leD (.str a) (.str b)) (fun a b c => leD_tr (.str a) (.str b) (.str c)) (fun a b => leD_tot (.str a) (.str b)) ks
  rw [e]
  congr 1
  exact ((List.mergeSort_perm _ _).trans hp).eq_of_pairwise (fun a b ha hb h1 h2 => leD_lab a (lab4_mem (h a ((List.mergeSort_perm _ _).mem_iff.mp ha))) b (List.mem_filter.mp hb).1 h1 h2) hs (lab4_pw.filter _)
theorem fm_selc {β : Type} (p : Cg → Bool) (f : Cg → β) : ∀ L : List Cg, L.filterMap (fun x => if p x = true then some (f x) else none) = (L.filter p).map f
  | [] => rfl
  | x :: L => by
    rw [List.filterMap_cons, List.filter_cons]
    cases h : p x with
    | true => simp [fm_selc p f L]
    | false => simp [fm_selc p f L]
def acs3 : List Str := ["ann", "bo", "cy"]
theorem inD_int (d : Int) (xs : List Int) : inD (.int d) (xs.map D.int) = decide (d ∈ xs) := by
  unfold inD
  rw [List.any_map, Bool.eq_iff_iff, List.any_eq_true, decide_eq_true_eq]
  constructor
  · rintro ⟨a, ha, h⟩
    have h : (a == d) = true := h
    rw [beq_iff_eq] at h
    rw [← h]; exact ha
  · exact fun h => ⟨d, h, beq_self_eq_true d⟩
theorem flat_ints (xs : List Int) : (xs.map D.int).all flatD = true := by
  rw [List.all_map, List.all_eq_true]
  exact fun _ _ => rfl
/-! owners in order -/
def ddS (L : List Int) (x : Int) : List Int := if x ∈ L then L else L ++ [x]
def ddF (L : List Int) : List Int := L.foldl ddS []
def ownS (K : List Ky) : List D := ((ddF (K.map fun k => k.1)).map ownD).mergeSort leD
theorem ownD_eqb (a b : Int) : (ownD a).eqb (ownD b) = decide (a = b) := by
  show PyData.eqv (ownD a).py (ownD b).py = _
  rw [Bool.eq_iff_iff, decide_eq_true_eq]
  simp [ownD, D.py, pys, PyData.eqv, PyData.eqvAll]
theorem dat_own (a : Int) : Dat 1 (ownD a) := .tup fun e he => by
  simp only [List.mem_cons, List.not_mem_nil, or_false] at he
  rcases he with rfl | rfl | rfl <;> exact .int _
theorem sorts_own (o : List Int) : SortsD (o.map ownD) := by
  refine ⟨⟨1, by decide, fun d hd => ?_⟩, ?_, ?_⟩
  · obtain ⟨b, hb, rfl⟩ := List.mem_map.mp hd
    exact dat_own b
  · rw [List.map_map]
    exact PySem.W.AllAlike.of fun b b' => by simp [ownD, D.py, pys, PySem.W.alike, PySem.W.alikeAll]
  · rw [List.map_map]
    exact PySem.W.Sortable.tuples fun b => ⟨.int 0, [.int 1, .int b], by simp [ownD, D.py, pys]⟩
theorem dd_len : ∀ (L M : List Int), (L.foldl ddS M).length ≤ M.length + L.length
  | [], M => Nat.le_refl _
  | x :: L, M => by
    rw [List.foldl_cons]
    have := dd_len L (ddS M x)
    have h2 : (ddS M x).length ≤ M.length + 1 := by unfold ddS; split <;> simp
    rw [List.length_cons]; omega
theorem lab_tx {s : Str} (h : LabOk s) : TxOk s := by
  unfold TxOk
  rcases h with rfl | rfl | rfl | rfl <;> decide +kernel
theorem acc_tx {s : Str} (h : AcOk s) : TxOk s := by
  unfold TxOk
  rcases h with rfl | rfl | rfl <;> decide +kernel
theorem fc_k (A : Ad) (c : Cg) (C : Cells) : fldOf A.C_Charge "key" (cgD A c) C = some (kyD (ckey c)) := by rw [cgD, fldOf_ins]; rfl
theorem fc_a (A : Ad) (c : Cg) (C : Cells) : fldOf A.C_Charge "account" (cgD A c) C = some (.str c.acc) := by rw [cgD, fldOf_ins]; rfl
theorem fc_t (A : Ad) (c : Cg) (C : Cells) : fldOf A.C_Charge "till" (cgD A c) C = some (.int c.hi) := by rw [cgD, fldOf_ins]; rfl
theorem fc_m (A : Ad) (c : Cg) (C : Cells) : fldOf A.C_Charge "mills" (cgD A c) C = some (.int c.mi) := by rw [cgD, fldOf_ins]; rfl
theorem opD_dat {o : Option (Str × Int)} (h : ∀ v, o = some v → TxOk v.1) : Dat 1 (opD o) := by
  cases o with
  | none => exact .non
  | some v =>
    exact .tup fun d hd => by
      simp only [List.mem_cons, List.not_mem_nil, or_false] at hd
      rcases hd with rfl | rfl
      · exact .str (h v rfl)
      · exact .int _
theorem opD_eqb {o u : Option (Str × Int)} : (opD o).eqb (opD u) = decide (o = u) := by
  show PyData.eqv (opD o).py (opD u).py = _
  cases o with
  | none => cases u with
    | none => rfl
    | some v => simp [opD, vlD, D.py, PyData.eqv]
  | some v => cases u with
    | none => simp [opD, vlD, D.py, PyData.eqv]
    | some w =>
      rw [Bool.eq_iff_iff, decide_eq_true_eq]
      simp [opD, vlD, D.py, pys, PyData.eqv, PyData.eqvAll]
      exact ⟨fun h => Prod.ext h.1 h.2, fun h => by rw [h]; exact ⟨rfl, rfl⟩⟩
theorem lckN {q : Pgw} {T : Tb} {a : Addr} {C : Cells} {ρ : DEnv} {P : DK} {PX : DX} {i j : Nat} {wt : DT} {we : DE} {vs : List Nat} (ha : C a = some (.dN q (stD T))) (hi : ρ[i]? = some (some (.ptr a))) (p : Ky → Bool) (val : Ky → D) (hn : T.length ≤ 100000)
    (hwt : ∀ k ∈ T.map (fun p => p.1), ∀ C' (Q : Bool → Cells → Prop), (∃ od ws, Sub (cput C a (.lN q (stD T) od ws)) C') → Q (p k) C' → wt ((dwipe ρ vs).set j (some (kyD k))) C' Q noX)
    (hwe : ∀ k ∈ T.map (fun p => p.1), ∀ C' (Q : DK), (∃ od ws, Sub (cput C a (.lN q (stD T) od ws)) C') → Q (val k) C' → we ((dwipe ρ vs).set j (some (kyD k))) C' Q noX)
    (hP : P (.lst (((T.map fun p => p.1).filter p).map val)) C) : wLockE (pVar i) (wLc (wItN (wVar i)) (.name j) wt we vs) ρ C P PX := by
  unfold wLockE
  rw [pVar_of hi]
  dsimp only
  rw [ha]
  intro od ws
  unfold wLc wItN
  rw [wVar_of hi]
  dsimp only
  rw [cput_same]
  dsimp only
  rw [st_keys]
  refine lc_map (L := T.map fun p => p.1) (enc := kyD) (fun k => if p k = true then some (val k) else none) (fun C' s => s a _ cput_same) (by rw [List.length_map]; exact hn) (fun m k C' Q hk hs hQ => ?_) ?_
  · have he := List.mem_of_getElem? hk
    simp only [Tgt.dg]
    refine hwt k he C' _ ⟨od, ws, hs⟩ ?_
    cases hp : p k with
    | true =>
      rw [if_pos rfl]
      refine hwe k he C' _ ⟨od, ws, hs⟩ ?_
      rw [hp, if_pos rfl] at hQ
      exact hQ
    | false =>
      rw [if_neg (by decide)]
      rw [hp, if_neg (by decide)] at hQ
      exact hQ
  · have : ((T.map fun p => p.1).filterMap fun k => if p k = true then some (val k) else none) = ((T.map fun p => p.1).filter p).map val := by
      generalize (T.map fun p => p.1) = t
      induction t with
      | nil => rfl
      | cons e t ih =>
        rw [List.filterMap_cons, List.filter_cons, ih]
        cases hp : p e <;> simp
    rw [this]
    refine ⟨cput_same, ?_⟩
    rw [cput_cput, cput_self ha]
    exact hP
theorem in_st (T : Tb) (k : Ky) : (vaD (stD T) (kyN k)).isSome = decide (k ∈ T.map fun p => p.1) := by
  rw [st_va]
  by_cases g : k ∈ T.map fun p => p.1
  · rw [decide_eq_true g]
    cases h : lkA T k with
    | none => exact absurd g (lkA_none.mp h)
    | some v => rfl
  · rw [decide_eq_false g, lkA_none.mpr g]; rfl
theorem ctM_tx {L : List Cg} (h : ChOk L) : ∀ k v, lkA (ctM L) k = some v → TxOk v.1 := fun k v e => by
  obtain ⟨c, hc, e'⟩ := List.mem_map.mp (lkA_some_mem e)
  cases e'
  exact acc_tx (h.acc c hc)
theorem ctM_ktx {L : List Cg} (h : ChOk L) : ∀ k ∈ (ctM L).map (fun p => p.1), TxOk k.2.2 := fun k hk => by
  rw [ctM_keys] at hk
  obtain ⟨c, hc, rfl⟩ := List.mem_map.mp hk
  exact lab_tx (h.lab c hc)
def R_law_state (A : Ad) : DSp := fun ds C P => ∃ (c k : Int), ds = [.int c, .int k] ∧ 0 ≤ k ∧ k ≤ 100 ∧ ∀ p s, 0 ≤ s → C p = none → P (.ptr p) (cput C p (.lst [.int s]))
theorem len_law_state (A : Ad) : ∀ ds C P, R_law_state A ds C P → ds.length = 2 := by rintro _ _ _ ⟨c, k, rfl, _⟩; rfl
theorem ok_law_state (T : Txt K mg A P w) : FnOk P w K mg base CX0 1 A.a_law_state A.d_law_state ["cell", "k"] (spD K (R_law_state A)) :=
  ok_D T.F_law_state sc_law_state (len_law_state A) (fun cdv Ar outer s H E hr =>
    ds_cons (ds_set 2 sc_law_state.nd (d_int))
    (ds_cons (ds_set 3 sc_law_state.nd (d_op op_mod s_mod (d_callTy call_int1 s_int (by rfl) T.z_int (by decide +kernel) (d_cons (d_op op_add s_add (d_op op_add s_add (d_op op_mul s_mul (d_op op_mod s_mod (d_callTy call_int1 s_int (by rfl) T.z_int (by decide +kernel) (d_cons (d_var 0) (d_nil))) (d_var 2)) (d_int)) (d_op op_mul s_mul (d_op op_add s_add (d_var 1) (d_int)) (d_int))) (d_int)) (d_nil))) (d_var 2)))
    (ds_cons (ds_set 4 sc_law_state.nd (d_op op_mod s_mod (d_callTy call_int1 s_int (by rfl) T.z_int (by decide +kernel) (d_cons (d_op op_add s_add (d_op op_add s_add (d_op op_mul s_mul (d_var 3) (d_var 3)) (d_op op_mul s_mul (d_int) (d_var 3))) (d_var 1)) (d_nil))) (d_var 2)))
    (ds_cons (ds_set 5 sc_law_state.nd (d_op op_mod s_mod (d_callTy call_int1 s_int (by rfl) T.z_int (by decide +kernel) (d_cons (d_op op_add s_add (d_op op_add s_add (d_op op_mul s_mul (d_var 4) (d_int)) (d_op op_mul s_mul (d_var 3) (d_int))) (d_int)) (d_nil))) (d_var 2)))
    (ds_cons (ds_set 6 sc_law_state.nd (d_op op_mod s_mod (d_callTy call_int1 s_int (by rfl) T.z_int (by decide +kernel) (d_cons (d_op op_add s_add (d_op op_mul s_mul (d_var 5) (d_var 5)) (d_var 4)) (d_nil))) (d_var 2)))
    (ds_one (ds_ret (d_lstC (d_cons (d_op op_add s_add (d_op op_mul s_mul (d_op op_add s_add (d_op op_mul s_mul (d_op op_add s_add (d_op op_mul s_mul (d_var 6) (d_var 2)) (d_var 5)) (d_var 2)) (d_var 4)) (d_var 2)) (d_var 3)) (d_nil)))))))))) (fun ds C Pk h => by
    obtain ⟨c, k, rfl, h0, h1, q⟩ := h
    walk_at "dd"
    have e1 := mod_lo c (m := 2305843009213693951) (by decide)
    have e2 := mod_hi c (m := 2305843009213693951) (by decide)
    generalize c % 2305843009213693951 = x1 at *
    have f1 := mod_lo (x1 * 6364136223 + (k + 1) * 104729 + 77) (m := 2305843009213693951) (by decide)
    have f2 := mod_hi (x1 * 6364136223 + (k + 1) * 104729 + 77) (m := 2305843009213693951) (by decide)
    generalize (x1 * 6364136223 + (k + 1) * 104729 + 77) % 2305843009213693951 = x2 at *
    have g1 := mod_lo (x2 * x2 + 1013 * x2 + k) (m := 2305843009213693951) (by decide)
    have g2 := mod_hi (x2 * x2 + 1013 * x2 + k) (m := 2305843009213693951) (by decide)
    generalize (x2 * x2 + 1013 * x2 + k) % 2305843009213693951 = x3 at *
    have i1 := mod_lo (x3 * 48271 + x2 * 31 + 9) (m := 2305843009213693951) (by decide)
    have i2 := mod_hi (x3 * 48271 + x2 * 31 + 9) (m := 2305843009213693951) (by decide)
    generalize (x3 * 48271 + x2 * 31 + 9) % 2305843009213693951 = x4 at *
    have j1 := mod_lo (x4 * x4 + x3) (m := 2305843009213693951) (by decide)
    have j2 := mod_hi (x4 * x4 + x3) (m := 2305843009213693951) (by decide)
    generalize (x4 * x4 + x3) % 2305843009213693951 = x5 at *
    refine ⟨by decide, cmul_l (by omega) (by omega), cmul_l (by omega) (by omega), by decide, cmul_l (by omega) (by omega), cmul_l (by omega) (by omega), by decide, cmul_l (by omega) (by omega), cmul_l (by omega) (by omega), by decide, cmul_l (by omega) (by omega), by decide,
      cmul_l (by omega) (by omega), cmul_r (by omega) (by omega), cmul_r (by omega) (by omega), fun p hp => ⟨_, Sub.refl _, q p _ ?_ hp⟩⟩
    omega)

def R_law_cell (A : Ad) : DSp := fun ds C P => ∃ (ns : List Int) (k : Int), ds = [.lst (ns.map D.int), .int k] ∧ ns.length ≤ 63 ∧ 0 ≤ k ∧ ∀ v, P (.int v) C
theorem len_law_cell (A : Ad) : ∀ ds C P, R_law_cell A ds C P → ds.length = 2 := by rintro _ _ _ ⟨ns, k, rfl, _⟩; rfl
theorem ok_law_cell (T : Txt K mg A P w) : FnOk P w K mg base CX0 1 A.a_law_cell A.d_law_cell ["script", "k"] (spD K (R_law_cell A)) :=
  ok_D T.F_law_cell sc_law_cell (len_law_cell A) (fun cdv Ar outer s H E hr =>
    ds_cons (ds_if (d_tcmp op_lt s_lt (d_var 1) (d_callB call_len s_len (by rfl) T.z_len (by decide +kernel) (d_cons (d_var 0) (d_nil))))
      (ds_one (ds_ret (d_ix ix_seq s_ix (d_var 0) (d_var 1))))
      (ds_nil))
    (ds_one (ds_ret (d_int)))) (fun ds C Pk h => by
    obtain ⟨ns, k, rfl, hl, hk, q⟩ := h
    walk_at "dd"
    split
    · rename_i hc
      rw [atI_at hk, List.getElem?_map, List.getElem?_eq_getElem (by omega)]
      exact ⟨C, Sub.refl _, q _⟩
    · exact ⟨C, Sub.refl _, q _⟩)

def R_law_digit (A : Ad) : DSp := fun ds C P => ∃ p s m, ds = [.ptr p, .int m] ∧ C p = some (.lst [.int s]) ∧ 0 ≤ s ∧ 0 < m ∧ m < 18446744073709551616 ∧ ∀ d s', 0 ≤ d → d < m → 0 ≤ s' → P (.int d) (cput C p (.lst [.int s']))
theorem len_law_digit (A : Ad) : ∀ ds C P, R_law_digit A ds C P → ds.length = 2 := by rintro _ _ _ ⟨p, s, m, rfl, _⟩; rfl
theorem ok_law_digit (T : Txt K mg A P w) : FnOk P w K mg base CX0 1 A.a_law_digit A.d_law_digit ["state", "many"] (spD K (R_law_digit A)) :=
  ok_D T.F_law_digit sc_law_digit (len_law_digit A) (fun cdv Ar outer s H E hr =>
    ds_cons (ds_set 2 sc_law_digit.nd (d_op op_mod s_mod (d_callTy call_int1 s_int (by rfl) T.z_int (by decide +kernel) (d_cons (d_ix ix_seq s_ix (d_var 0) (d_int)) (d_nil))) (d_var 1)))
    (ds_cons (ds_setL (d_var 0) (d_int) (d_op op_fdivW s_divW (d_ix ix_seq s_ix (d_var 0) (d_int)) (d_var 1)))
    (ds_one (ds_ret (d_var 2))))) (fun ds C Pk h => by
    obtain ⟨p, s, m, rfl, hp, hs, h0, h1, q⟩ := h
    walk_at "dd"
    rw [ixN_at (by omega) (by omega)]
    exact ⟨_, Sub.refl _, q _ _ (mod_lo s h0) (mod_hi s h0) (Int.ediv_nonneg hs (by omega))⟩)

def R_Section_init (A : Ad) : DSp := fun ds C P => ∃ p a b c d e f, ds = [.ptr p, a, b, c, d, e, f] ∧ C p = some (.ins A.C_Section []) ∧ P .non (cput C p (.ins A.C_Section [("owner", a), ("payer", b), ("called", c), ("opened", d), ("start", e), ("seconds", f)]))
theorem len_Section_init (A : Ad) : ∀ ds C P, R_Section_init A ds C P → ds.length = 7 := by rintro _ _ _ ⟨p, a, b, c, d, e, f, rfl, _⟩; rfl
theorem ok_Section_init (T : Txt K mg A P w) : FnOk P w K mg base CX0 1 A.a_Section_init A.d_Section_init ["self", "owner", "payer", "called", "opened", "start", "seconds"] (spD K (R_Section_init A)) :=
  ok_D T.F_Section_init sc_Section_init (len_Section_init A) (fun cdv Ar outer s H E hr =>
    ds_cons (ds_fld T.c_Section T.n_Section_owner (d_var 0) (d_var 1))
    (ds_cons (ds_fld T.c_Section T.n_Section_payer (d_var 0) (d_var 2))
    (ds_cons (ds_fld T.c_Section T.n_Section_called (d_var 0) (d_var 3))
    (ds_cons (ds_fld T.c_Section T.n_Section_opened (d_var 0) (d_var 4))
    (ds_cons (ds_fld T.c_Section T.n_Section_start (d_var 0) (d_var 5))
    (ds_one (ds_fld T.c_Section T.n_Section_seconds (d_var 0) (d_var 6)))))))) (fun ds C Pk h => by
    obtain ⟨p, a, b, c, d, e, f, rfl, hp, q⟩ := h
    walk_at "dd"
    exact ⟨by decide, by decide, by decide, by decide, by decide, by decide, _, Sub.refl _, q⟩)

def R_law_sections (A : Ad) : DSp := fun ds C P => ∃ (ns : List Int) (m : Nat), ds = [.lst (ns.map D.int), .int (m : Int)] ∧ ns.length ≤ 63 ∧ m ≤ 40 ∧ ∀ (ss : List Sc) C', ss.map (fun s => s.k) = (List.range m).map (fun (i : Nat) => (i : Int)) → Sub C C' → P (.lst (ss.map (scD A))) C'
theorem len_law_sections (A : Ad) : ∀ ds C P, R_law_sections A ds C P → ds.length = 2 := by rintro _ _ _ ⟨ns, m, rfl, _⟩; rfl
theorem ok_law_sections (T : Txt K mg A P w) : FnOk P w K mg base CX0 3 A.a_law_sections A.d_law_sections ["script", "many"] (spD K (R_law_sections A)) :=
  ok_D T.F_law_sections sc_law_sections (len_law_sections A) (fun cdv Ar outer s H E hr =>
    ds_consL (ds_set 2 sc_law_sections.nd (d_lstC (d_nil)))
    (ds_consL (ds_for PassesOwn.never rfl (di_rng1 (by rfl) T.z_range (d_cons (d_var 1) (d_nil))) (dg_name 3 sc_law_sections.nd)
      (ds_consL (ds_set 4 sc_law_sections.nd (d_call (ok_law_state T) (hr.mono (by decide)) T.g_law_state T.F_law_state.kp T.b_law_state (d_cons (d_call (ok_law_cell T) (hr.mono (by decide)) T.g_law_cell T.F_law_cell.kp T.b_law_cell (d_cons (d_var 0) (d_cons (d_var 3) (d_nil)))) (d_cons (d_var 3) (d_nil)))))
      (ds_consL (ds_set 5 sc_law_sections.nd (d_op op_add s_add (d_op op_mul s_mul (d_int) (d_call (ok_law_digit T) (hr.mono (by decide)) T.g_law_digit T.F_law_digit.kp T.b_law_digit (d_cons (d_var 4) (d_cons (d_int) (d_nil))))) (d_op op_mul s_mul (d_int) (d_call (ok_law_digit T) (hr.mono (by decide)) T.g_law_digit T.F_law_digit.kp T.b_law_digit (d_cons (d_var 4) (d_cons (d_int) (d_nil)))))))
      (ds_consL (ds_set 6 sc_law_sections.nd (d_ix ix_seq s_ix (d_tup (d_cons (d_str) (d_cons (d_str) (d_cons (d_str) (d_cons (d_non) (d_nil)))))) (d_call (ok_law_digit T) (hr.mono (by decide)) T.g_law_digit T.F_law_digit.kp T.b_law_digit (d_cons (d_var 4) (d_cons (d_int) (d_nil))))))
      (ds_consL (ds_set 7 sc_law_sections.nd (d_ix ix_seq s_ix (d_tup (d_cons (d_str) (d_cons (d_str) (d_cons (d_str) (d_nil))))) (d_call (ok_law_digit T) (hr.mono (by decide)) T.g_law_digit T.F_law_digit.kp T.b_law_digit (d_cons (d_var 4) (d_cons (d_int) (d_nil))))))
      (ds_consL (ds_set 8 sc_law_sections.nd (d_ix ix_seq s_ix (d_tup (d_cons (d_int) (d_cons (d_int) (d_cons (d_int) (d_cons (d_int) (d_cons (d_int) (d_cons (d_int) (d_nil)))))))) (d_call (ok_law_digit T) (hr.mono (by decide)) T.g_law_digit T.F_law_digit.kp T.b_law_digit (d_cons (d_var 4) (d_cons (d_int) (d_nil))))))
      (ds_one (ds_expr (d_bmL PySem.F.plainAttrs_list PySem.F.slot_list_append PySem.F.type_list_append mt_append s_append (d_var 2) (d_cons (d_makeF T.m_Section_init (ok_Section_init T) (hr.mono (by decide)) T.g_Section T.b_Section_init (d_cons (d_tup (d_cons (d_int) (d_cons (d_int) (d_cons (d_var 3) (d_nil))))) (d_cons (d_var 6) (d_cons (d_var 7) (d_cons (d_var 5) (d_cons (d_var 5) (d_cons (d_var 8) (d_nil)))))))) (d_nil)))))))))))
    (ds_one (ds_retF (d_var 2))))) (fun ds C Pk h => by
    obtain ⟨ns, m, rfl, hl, hm, q⟩ := h
    refine seq_hide fun E' hE => ?_
    walk_at "dd"
    intro p hp
    subst hE
    dsimp only [List.set_cons_succ, List.set_cons_zero]
    refine seq_hide fun E' hE => ?_
    walk_at "dd"
    refine ⟨by omega, for_rng (fun k ρ' C' => ∃ ss : List Sc, ss.map (fun s => s.k) = (List.range k).map (fun (i : Nat) => (i : Int)) ∧ C' p = some (.lst (ss.map (scD A))) ∧ Sub C C' ∧ ∃ o1 o2 o3 o4 o5 o6, ρ' = [some (.lst (ns.map D.int)), some (.int (m : Int)), some (.ptr p), o1, o2, o3, o4, o5, o6]) ⟨[], rfl, cput_same, Sub.new hp, _, _, _, _, _, _, rfl⟩ ?_ ?_⟩
    · rintro k ρ' C' hk ⟨ss, hss, hc, hS, o1, o2, o3, o4, o5, o6, rfl⟩
      rw [Int.zero_add]
      have lss : ss.length = k := by have := congrArg List.length hss; simpa using this
      have hss' : Hid (ss.map (fun s => s.k) = (List.range k).map (fun (i : Nat) => (i : Int))) := hss
      have lss' : Hid (ss.length = k) := lss
      clear hss lss
      refine seq_hide fun E2 hE2 => ?_
      walk_at "dd"
      refine ⟨ns, k, rfl, hl, by omega, fun v => ?_⟩
      walk_at "dd"
      refine ⟨v, k, rfl, by omega, by omega, fun ps s hs0 hps => ?_⟩
      subst hE2
      dsimp only [List.set_cons_succ, List.set_cons_zero]
      refine seq_hide fun E2 hE2 => ?_
      walk_at "dd"
      refine ⟨ps, s, 4, rfl, cput_same, hs0, by decide, by decide, fun d1 s1 a1 b1 c1 => ?_⟩
      walk_at "dd"
      refine ⟨cmul_l (by decide) (by decide), ps, s1, 24, rfl, cput_same, c1, by decide, by decide, fun d2 s2 a2 b2 c2 => ?_⟩
      walk_at "dd"
      refine ⟨cmul_l (by decide) (by decide), ?_⟩
      subst hE2
      dsimp only [List.set_cons_succ, List.set_cons_zero]
      refine seq_hide fun E2 hE2 => ?_
      walk_at "dd"
      refine ⟨ps, s2, 4, rfl, cput_same, c2, by decide, by decide, fun d3 s3 a3 b3 c3 => ?_⟩
      obtain ⟨x, hx⟩ : ∃ x : Option Str, atI (α := D) [.str "41", .str "42", .str "51", .non] d3 = some (optS x) := by
        have : d3 = 0 ∨ d3 = 1 ∨ d3 = 2 ∨ d3 = 3 := by omega
        rcases this with rfl | rfl | rfl | rfl
        · exact ⟨some "41", rfl⟩
        · exact ⟨some "42", rfl⟩
        · exact ⟨some "51", rfl⟩
        · exact ⟨none, rfl⟩
      clear a3 b3
      subst hE2
      walk_at "dd"
      refine seq_hide fun E2 hE2 => ?_
      walk_at "dd"
      refine ⟨ps, s3, 3, rfl, cput_same, c3, by decide, by decide, fun d4 s4 a4 b4 c4 => ?_⟩
      obtain ⟨y, hy⟩ : ∃ y : Str, atI (α := D) [.str "52", .str "61", .str "7"] d4 = some (.str y) := by
        have : d4 = 0 ∨ d4 = 1 ∨ d4 = 2 := by omega
        rcases this with rfl | rfl | rfl <;> exact ⟨_, rfl⟩
      clear a4 b4
      subst hE2
      walk_at "dd"
      refine seq_hide fun E2 hE2 => ?_
      walk_at "dd"
      refine ⟨ps, s4, 6, rfl, cput_same, c4, by decide, by decide, fun d5 s5 a5 b5 c5 => ?_⟩
      obtain ⟨z, hz, hz0⟩ : ∃ z : Int, atI (α := D) [.int 0, .int 1, .int 59, .int 60, .int 61, .int 4000] d5 = some (.int z) ∧ 0 ≤ z ∧ z ≤ 5000 := by
        have : d5 = 0 ∨ d5 = 1 ∨ d5 = 2 ∨ d5 = 3 ∨ d5 = 4 ∨ d5 = 5 := by omega
        rcases this with rfl | rfl | rfl | rfl | rfl | rfl <;> exact ⟨_, rfl, by decide, by decide⟩
      clear a5 b5
      subst hE2
      have hpp : p ≠ ps := cell_ne hc hps
      walk_at "dd"
      have hc2 : cput C' ps (.lst [.int s5]) p = some (.lst (ss.map (scD A))) := (cput_ne hpp).trans hc
      rw [hc2]
      refine ⟨trivial, fun pn hpn => ?_⟩
      refine ⟨pn, _, _, _, _, _, _, rfl, cput_same, rfl, ?_⟩
      rw [cput_cput, cput_same]
      refine ⟨_, Sub.new hpn, hpn, ?_⟩
      rw [hc2]
      have hss : ss.map (fun s => s.k) = (List.range k).map (fun (i : Nat) => (i : Int)) := hss'
      have lss : ss.length = k := lss'
      refine ⟨by rw [List.length_map]; omega, ss ++ [⟨k, x, y, 2592000 * d1 + 3600 * d2, 2592000 * d1 + 3600 * d2, z, by omega⟩], ?_, by rw [List.map_append]; rfl, ?_, _, _, _, _, _, _, rfl⟩
      · rw [List.map_append, hss, List.range_succ, List.map_append]; rfl
      · exact (hS.trans (Sub.new hps)).put hp
    · rintro ρ' C' ⟨ss, hss, hc, hS, o1, o2, o3, o4, o5, o6, rfl⟩
      subst hE
      walk_at "dd"
      exact ⟨C, hS, hp, C, Sub.refl _, q ss C hss (Sub.refl _)⟩)

def R_Ledger_init (A : Ad) : DSp := fun ds C P => ∃ p, ds = [.ptr p] ∧ C p = some (.ins A.C_Ledger []) ∧ ∀ C' ps, (∀ x c, C x = some c → x ≠ p → C' x = some c) → LdS A C' p ps [] [] → P .non C'
theorem len_Ledger_init (A : Ad) : ∀ ds C P, R_Ledger_init A ds C P → ds.length = 1 := by rintro _ _ _ ⟨p, rfl, _⟩; rfl
theorem ok_Ledger_init (T : Txt K mg A P w) : FnOk P w K mg base CX0 1 A.a_Ledger_init A.d_Ledger_init ["self"] (spD K (R_Ledger_init A)) :=
  ok_D T.F_Ledger_init sc_Ledger_init (len_Ledger_init A) (fun cdv Ar outer s H E hr =>
    ds_cons (ds_fld T.c_Ledger T.n_Ledger_lines (d_var 0) (d_lst (d_nil)))
    (ds_cons (ds_fld T.c_Ledger T.n_Ledger_stands (d_var 0) (d_newN (q := A.pw)))
    (ds_one (ds_fld T.c_Ledger T.n_Ledger_stated (d_var 0) (d_newK))))) (fun ds C Pk h => by
    obtain ⟨p, rfl, hp, q⟩ := h
    walk_at "dd"
    refine ⟨by decide, fun x hx => ?_⟩
    have hpx : p ≠ x := cell_ne cput_same hx
    rw [cput_ne hpx, cput_same]
    dsimp only
    refine ⟨rfl, by simp [dput], fun y hy => ?_⟩
    have hpy : p ≠ y := cell_ne cput_same hy
    have hxy : x ≠ y := fun z => by
      rw [← z, cput_ne hpx.symm, cput_same] at hy
      cases hy
    rw [cput_ne hpy, cput_same]
    dsimp only
    refine ⟨rfl, by simp [dput], _, Sub.refl _, q _ x (fun z c hz hzp => ?_) ⟨⟨_, cput_same⟩, ?_, List.nodup_nil, (fun p hp => by cases hp), (fun s => rfl)⟩⟩
    · have hCx : C x = none := by rw [cput_ne hpx.symm] at hx; exact hx
      have hCy : C y = none := by
        rw [cput_ne hpy.symm, cput_ne hxy.symm, cput_ne hpy.symm] at hy; exact hy
      have nx : z ≠ x := cell_ne hz hCx
      have ny : z ≠ y := cell_ne hz hCy
      rw [cput_ne hzp, cput_ne ny, cput_ne hzp, cput_ne nx, cput_ne hzp]
      exact hz
    rw [cput_ne hpx.symm, cput_ne hxy, cput_ne hpx.symm, cput_same]
    rfl)

def R_Tariff_init (A : Ad) : DSp := fun ds C P => ∃ p a L, ds = [.ptr p, a, .tup L] ∧ L.length ≤ 1000 ∧ C p = some (.ins A.C_Tariff []) ∧ P .non (cput C p (.ins A.C_Tariff [("setup_price", a), ("bands", .tup L)]))
theorem len_Tariff_init (A : Ad) : ∀ ds C P, R_Tariff_init A ds C P → ds.length = 3 := by rintro _ _ _ ⟨p, a, L, rfl, _⟩; rfl
theorem ok_Tariff_init (T : Txt K mg A P w) : FnOk P w K mg base CX0 1 A.a_Tariff_init A.d_Tariff_init ["self", "setup_price", "bands"] (spD K (R_Tariff_init A)) :=
  ok_D T.F_Tariff_init sc_Tariff_init (len_Tariff_init A) (fun cdv Ar outer s H E hr =>
    ds_cons (ds_fld T.c_Tariff T.n_Tariff_setup_price (d_var 0) (d_var 1))
    (ds_one (ds_fld T.c_Tariff T.n_Tariff_bands (d_var 0) (d_callTy call_tuple_of s_tupleOf (by rfl) T.z_tuple (by decide +kernel) (d_cons (d_var 2) (d_nil)))))) (fun ds C Pk h => by
    obtain ⟨p, a, L, rfl, hl, hp, q⟩ := h
    walk_at "dd"
    exact ⟨by decide, by decide, _, Sub.refl _, q⟩)

def R_Band_init (A : Ad) : DSp := fun ds C P => ∃ p a b c d e, ds = [.ptr p, a, b, c, d, e] ∧ C p = some (.ins A.C_Band []) ∧ P .non (cput C p (.ins A.C_Band [("label", a), ("prefix", b), ("from_hour", c), ("to_hour", d), ("price", e)]))
theorem len_Band_init (A : Ad) : ∀ ds C P, R_Band_init A ds C P → ds.length = 6 := by rintro _ _ _ ⟨p, a, b, c, d, e, rfl, _⟩; rfl
theorem ok_Band_init (T : Txt K mg A P w) : FnOk P w K mg base CX0 1 A.a_Band_init A.d_Band_init ["self", "label", "prefix", "from_hour", "to_hour", "price"] (spD K (R_Band_init A)) :=
  ok_D T.F_Band_init sc_Band_init (len_Band_init A) (fun cdv Ar outer s H E hr =>
    ds_cons (ds_fld T.c_Band T.n_Band_label (d_var 0) (d_var 1))
    (ds_cons (ds_fld T.c_Band T.n_Band_prefix (d_var 0) (d_var 2))
    (ds_cons (ds_fld T.c_Band T.n_Band_from_hour (d_var 0) (d_var 3))
    (ds_cons (ds_fld T.c_Band T.n_Band_to_hour (d_var 0) (d_var 4))
    (ds_one (ds_fld T.c_Band T.n_Band_price (d_var 0) (d_var 5))))))) (fun ds C Pk h => by
    obtain ⟨p, a, b, c, d, e, rfl, hp, q⟩ := h
    walk_at "dd"
    exact ⟨by decide, by decide, by decide, by decide, by decide, _, Sub.refl _, q⟩)

def R_law_tariffs (A : Ad) : DSp := fun ds C P => ∃ p s, ds = [.ptr p] ∧ C p = some (.lst [.int s]) ∧ 0 ≤ s ∧ ∀ (ts : Tab) s' C', ts.map (fun p => p.1) = nmsT → TabOk ts → 0 ≤ s' → Sub (cput C p (.lst [.int s'])) C' → P (.dK (tsK A ts)) C'
theorem len_law_tariffs (A : Ad) : ∀ ds C P, R_law_tariffs A ds C P → ds.length = 1 := by rintro _ _ _ ⟨p, s, rfl, _⟩; rfl
theorem ok_law_tariffs (T : Txt K mg A P w) : FnOk P w K mg base CX0 3 A.a_law_tariffs A.d_law_tariffs ["state"] (spD K (R_law_tariffs A)) :=
  ok_D T.F_law_tariffs sc_law_tariffs (len_law_tariffs A) (fun cdv Ar outer s H E hr =>
    ds_consL (ds_set 1 sc_law_tariffs.nd (d_newK))
    (ds_consL (ds_for PassesOwn.never rfl (di_tup (d_tup (d_cons (d_str) (d_cons (d_str) (d_cons (d_str) (d_nil)))))) (dg_name 2 sc_law_tariffs.nd)
      (ds_consL (ds_set 3 sc_law_tariffs.nd (d_lst (d_cons (d_makeF T.m_Band_init (ok_Band_init T) (hr.mono (by decide)) T.g_Band T.b_Band_init (d_cons (d_str) (d_cons (d_str) (d_cons (d_int) (d_cons (d_int) (d_cons (d_call (ok_law_digit T) (hr.mono (by decide)) T.g_law_digit T.F_law_digit.kp T.b_law_digit (d_cons (d_var 0) (d_cons (d_int) (d_nil)))) (d_nil))))))) (d_cons (d_makeF T.m_Band_init (ok_Band_init T) (hr.mono (by decide)) T.g_Band T.b_Band_init (d_cons (d_str) (d_cons (d_str) (d_cons (d_int) (d_cons (d_int) (d_cons (d_call (ok_law_digit T) (hr.mono (by decide)) T.g_law_digit T.F_law_digit.kp T.b_law_digit (d_cons (d_var 0) (d_cons (d_int) (d_nil)))) (d_nil))))))) (d_nil)))))
      (ds_consL (ds_if (d_tcmp op_eq s_eq (d_call (ok_law_digit T) (hr.mono (by decide)) T.g_law_digit T.F_law_digit.kp T.b_law_digit (d_cons (d_var 0) (d_cons (d_int) (d_nil)))) (d_int))
        (ds_one (ds_set 3 sc_law_tariffs.nd (d_lst (d_cons (d_makeF T.m_Band_init (ok_Band_init T) (hr.mono (by decide)) T.g_Band T.b_Band_init (d_cons (d_str) (d_cons (d_str) (d_cons (d_int) (d_cons (d_int) (d_cons (d_call (ok_law_digit T) (hr.mono (by decide)) T.g_law_digit T.F_law_digit.kp T.b_law_digit (d_cons (d_var 0) (d_cons (d_int) (d_nil)))) (d_nil))))))) (d_cons (d_makeF T.m_Band_init (ok_Band_init T) (hr.mono (by decide)) T.g_Band T.b_Band_init (d_cons (d_str) (d_cons (d_str) (d_cons (d_int) (d_cons (d_int) (d_cons (d_int) (d_nil))))))) (d_nil))))))
        (ds_nil))
      (ds_one (ds_setD hr (d_var 1) (d_var 2) (d_makeF T.m_Tariff_init (ok_Tariff_init T) (hr.mono (by decide)) T.g_Tariff T.b_Tariff_init (d_cons (d_call (ok_law_digit T) (hr.mono (by decide)) T.g_law_digit T.F_law_digit.kp T.b_law_digit (d_cons (d_var 0) (d_cons (d_int) (d_nil)))) (d_cons (d_callTy call_tuple_of s_tupleOf (by rfl) T.z_tuple (by decide +kernel) (d_cons (d_var 3) (d_nil))) (d_nil)))))))))
    (ds_one (ds_retF (d_var 1))))) (fun ds C Pk h => by
    obtain ⟨p, s, rfl, hp, hs, q⟩ := h
    refine seq_hide fun E' hE => ?_
    walk_at "dd"
    intro pd hpd
    subst hE
    dsimp only [List.set_cons_succ, List.set_cons_zero]
    have hne : p ≠ pd := cell_ne hp hpd
    refine seq_hide fun E' hE => ?_
    walk_at "dd"
    refine for_map (enc := D.str) (L := nmsT) (fun k ρ' C' => ∃ (ts : Tab) (s' : Int), ts.map (fun p => p.1) = nmsT.take k ∧ TabOk ts ∧ 0 ≤ s' ∧ C' pd = some (.dK (tsK A ts)) ∧ C' p = some (.lst [.int s']) ∧ (∀ x c, C x = some c → x ≠ p → C' x = some c) ∧ ∃ o1 o2, ρ' = [some (.ptr p), some (.ptr pd), o1, o2]) ⟨[], s, rfl, (fun p hp => by cases hp), hs, cput_same, (cput_ne hne).trans hp, fun x c hx h => (cput_ne (cell_ne hx hpd)).trans hx, _, _, rfl⟩ ?_ ?_
    · rintro k n ρ' C' hk ⟨ts, s', hts, hto, hs', hd, hc, hS, o1, o2, rfl⟩
      have hn2 : ∀ x (s2 : Int), x = pd → cput C' p (.lst [.int s2]) x = some (.dK (tsK A ts)) := fun x s2 e => by rw [e, cput_ne hne.symm]; exact hd
      refine seq_hide fun E2 hE2 => ?_
      walk_at "dd"
      refine ⟨p, s', 30, rfl, hc, hs', by decide, by decide, fun d1 s1 a1 b1 c1 pb1 hb1 => ?_⟩
      refine ⟨pb1, _, _, _, _, _, rfl, cput_same, rfl, ?_⟩
      rw [cput_cput, cput_same]
      refine ⟨cput C' p (.lst [.int s1]), Sub.new hb1, hb1, ?_⟩
      refine ⟨p, s1, 90, rfl, cput_same, c1, by decide, by decide, fun d2 s2 a2 b2 c2 pb2 hb2 => ?_⟩
      rw [cput_cput] at hb2 ⊢
      refine ⟨pb2, _, _, _, _, _, rfl, cput_same, rfl, ?_⟩
      rw [cput_cput, cput_same]
      refine ⟨cput C' p (.lst [.int s2]), Sub.new hb2, hb2, ?_⟩
      subst hE2
      dsimp only [List.set_cons_succ, List.set_cons_zero]
      refine seq_hide fun E2 hE2 => ?_
      have fin : ∀ (b1 b2 : Bd) (s : Int), b1.lab = "low" → b2.lab = "far" → 0 ≤ s → E2.nx [some (.ptr p), some (.ptr pd), some (.str n), some (.lst [bdD A b1, bdD A b2])] (cput C' p (.lst [.int s])) := fun b1 b2 s hb1 hb2 hs => by
        subst hE2
        dsimp only
        walk_at "dd"
        refine ⟨p, s, 40, rfl, cput_same, hs, by decide, by decide, fun d4 s4 a4 b4 c4 pt hpt => ?_⟩
        rw [cput_cput] at hpt ⊢
        refine ⟨pt, _, _, rfl, by show 2 ≤ 1000; decide, cput_same, rfl, ?_⟩
        rw [cput_cput, cput_same]
        refine ⟨cput C' p (.lst [.int s4]), Sub.new hpt, hpt, ?_⟩
        rw [cput_ne hne.symm, hd]
        have hpu : puD (tsK A ts) (Sum.inr n) (tfD A ⟨d4, [b1, b2]⟩) = tsK A (puA ts n ⟨d4, [b1, b2]⟩) := pu_tab (fun x : Str => (Sum.inr x : L2.Key)) inr_inj (tfD A) ts n _
        have hlt : ts.length ≤ 3 := by
          have := congrArg List.length hts
          rw [List.length_map, List.length_take] at this
          have : nmsT.length = 3 := rfl
          omega
        refine ⟨by unfold tsK; rw [List.length_map]; omega, puA ts n ⟨d4, [b1, b2]⟩, s4, ?_, ?_, c4, congrArg (fun t => some (Cell.dK t)) hpu, (cput_ne hne).trans cput_same, fun x c hx hxp => ?_, _, _, rfl⟩
        · rw [puA_keys, take_snoc hk, hts]
          have hno : lkA ts n = none := lkA_none.mpr (by
            rw [hts]
            have hkl : k < 3 := (List.getElem?_eq_some_iff.mp hk).1
            have : k = 0 ∨ k = 1 ∨ k = 2 := by omega
            rcases this with rfl | rfl | rfl <;> (injection hk with hk; subst hk; decide))
          rw [hno]; rfl
        · intro e he
          unfold puA at he
          have two : BdOk [b1, b2] := fun b hb => by
            simp only [List.mem_cons, List.not_mem_nil, or_false] at hb
            rcases hb with rfl | rfl
            · exact .inl hb1
            · exact .inr hb2
          split at he
          · obtain ⟨e', he', rfl⟩ := List.mem_map.mp he
            split
            · exact two
            · exact hto e' he'
          · rcases List.mem_append.mp he with he | he
            · exact hto e he
            · simp only [List.mem_cons, List.not_mem_nil, or_false] at he
              subst he; exact two
        · rw [cput_ne (cell_ne hx hpd), cput_ne hxp]
          exact hS x c hx hxp
      walk_at "dd"
      refine ⟨p, s2, 6, rfl, cput_same, c2, by decide, by decide, fun d3 s3 a3 b3 c3 => ?_⟩
      rw [cput_cput]
      by_cases g : d3 = 0
      · have e0 : D.eqb (.int d3) (.int 0) = true := by rw [g]; decide
        walk_at "dd"
        refine ⟨p, s3, 30, rfl, cput_same, c3, by decide, by decide, fun d5 s5 a5 b5 c5 pb3 hb3 => ?_⟩
        rw [cput_cput] at hb3 ⊢
        refine ⟨pb3, _, _, _, _, _, rfl, cput_same, rfl, ?_⟩
        rw [cput_cput, cput_same]
        refine ⟨cput C' p (.lst [.int s5]), Sub.new hb3, hb3, fun pb4 hb4 => ?_⟩
        refine ⟨pb4, _, _, _, _, _, rfl, cput_same, rfl, ?_⟩
        rw [cput_cput, cput_same]
        refine ⟨cput C' p (.lst [.int s5]), Sub.new hb4, hb4, ?_⟩
        exact fin ⟨"low", "5", 0, 24, d5, by omega, by omega, by decide⟩ ⟨"far", "6", 0, 24, 1, by decide, by decide, by decide⟩ s5 rfl rfl c5
      · walk_at "dd"
        exact fin ⟨"low", "", 0, 24, d1, by omega, by omega, by decide⟩ ⟨"far", "6", 8, 20, d2, by omega, by omega, by decide⟩ s3 rfl rfl c3
    · rintro ρ' C' ⟨ts, s', hts, hto, hs', hd, hc, hS, o1, o2, rfl⟩
      subst hE
      walk_at "dd"
      refine ⟨cput C p (.lst [.int s']), fun x c hx => ?_, (cput_ne hne.symm).trans hpd, _, Sub.refl _, q ts s' _ (by rw [hts]; rfl) hto hs' (Sub.refl _)⟩
      by_cases e : x = p
      · subst e; rw [cput_same] at hx; cases hx; exact hc
      · rw [cput_ne e] at hx; exact hS x c hx e)

def R_ChargeRun_init (A : Ad) : DSp := fun ds C P => ∃ p c t a, ds = [.ptr p, c, t, a] ∧ C p = some (.ins A.C_ChargeRun []) ∧ ∀ C' pu p1 p2, C' p = some (.ins A.C_ChargeRun [("contracts", c), ("tariffs", t), ("allowances", a), ("used", .ptr pu), ("charges", .ptr p1), ("left_out", .ptr p2)]) →
  C' pu = some (.dT []) → C' p1 = some (.lst []) → C' p2 = some (.lst []) → C pu = none → C p1 = none → C p2 = none → p1 ≠ p2 → (∀ x c, C x = some c → x ≠ p → C' x = some c) → P .non C'
theorem len_ChargeRun_init (A : Ad) : ∀ ds C P, R_ChargeRun_init A ds C P → ds.length = 4 := by rintro _ _ _ ⟨p, c, t, a, rfl, _⟩; rfl
theorem ok_ChargeRun_init (T : Txt K mg A P w) : FnOk P w K mg base CX0 1 A.a_ChargeRun_init A.d_ChargeRun_init ["self", "contracts", "tariffs", "allowances"] (spD K (R_ChargeRun_init A)) :=
  ok_D T.F_ChargeRun_init sc_ChargeRun_init (len_ChargeRun_init A) (fun cdv Ar outer s H E hr =>
    ds_cons (ds_fld T.c_ChargeRun T.n_ChargeRun_contracts (d_var 0) (d_var 1))
    (ds_cons (ds_fld T.c_ChargeRun T.n_ChargeRun_tariffs (d_var 0) (d_var 2))
    (ds_cons (ds_fld T.c_ChargeRun T.n_ChargeRun_allowances (d_var 0) (d_var 3))
    (ds_cons (ds_fld T.c_ChargeRun T.n_ChargeRun_used (d_var 0) (d_newT))
    (ds_cons (ds_fld T.c_ChargeRun T.n_ChargeRun_charges (d_var 0) (d_lstC (d_nil)))
    (ds_one (ds_fld T.c_ChargeRun T.n_ChargeRun_left_out (d_var 0) (d_lstC (d_nil))))))))) (fun ds C Pk h => by
    obtain ⟨p, c, t, a, rfl, hp, q⟩ := h
    walk_at "dd"
    refine ⟨by decide, by decide, by decide, fun pu h1 => ?_⟩
    have n1 : p ≠ pu := cell_ne (C := cput C p _) cput_same h1
    rw [cput_ne n1, cput_same]
    refine ⟨rfl, by simp, fun p1 h2 => ?_⟩
    have n2 : p ≠ p1 := cell_ne (C := cput _ p _) cput_same h2
    rw [cput_ne n2, cput_same]
    refine ⟨rfl, by simp [dput], fun p2 h3 => ?_⟩
    have n3 : p ≠ p2 := cell_ne (C := cput _ p _) cput_same h3
    rw [cput_ne n3, cput_same]
    refine ⟨rfl, by simp [dput], _, Sub.refl _, ?_⟩
    rw [cput_ne n3.symm] at h3
    have m1 : p1 ≠ p2 := cell_ne (C := cput _ p1 _) cput_same h3
    rw [cput_ne m1.symm, cput_ne n3.symm] at h3
    have m2 : pu ≠ p2 := cell_ne (C := cput _ pu _) cput_same h3
    rw [cput_ne m2.symm, cput_ne n3.symm] at h3
    rw [cput_ne n2.symm] at h2
    have m3 : pu ≠ p1 := cell_ne (C := cput _ pu _) cput_same h2
    rw [cput_ne m3.symm, cput_ne n2.symm] at h2
    rw [cput_ne n1.symm] at h1
    refine q _ pu p1 p2 cput_same ?_ ?_ ?_ h1 h2 h3 m1 fun x c hx hxp => ?_
    · rw [cput_ne n1.symm, cput_ne m2, cput_ne n1.symm, cput_ne m3, cput_ne n1.symm, cput_same]
    · rw [cput_ne n2.symm, cput_ne m1, cput_ne n2.symm, cput_same]
    · rw [cput_ne n3.symm, cput_same]
    · rw [cput_ne hxp, cput_ne (cell_ne hx h3), cput_ne hxp, cput_ne (cell_ne hx h2), cput_ne hxp, cput_ne (cell_ne hx h1), cput_ne hxp]
      exact hx)

def R_section_place (A : Ad) : DSp := fun ds C P => ∃ s, ds = [scD A s] ∧ P (keyS s) C
theorem len_section_place (A : Ad) : ∀ ds C P, R_section_place A ds C P → ds.length = 1 := by rintro _ _ _ ⟨s, rfl, _⟩; rfl
theorem ok_section_place (T : Txt K mg A P w) : FnOk P w K mg base CX0 1 A.a_section_place A.d_section_place ["section"] (spD K (R_section_place A)) :=
  ok_D T.F_section_place sc_section_place (len_section_place A) (fun cdv Ar outer s H E hr =>
    ds_one (ds_ret (d_tup (d_cons (d_fld T.c_Section T.n_Section_opened (d_var 0)) (d_cons (d_fld T.c_Section T.n_Section_owner (d_var 0)) (d_nil)))))) (fun ds C Pk h => by
    obtain ⟨s, rfl, q⟩ := h
    simp only [scD]
    walk_at "dd"
    exact ⟨_, Sub.refl _, q⟩)

def R_Section_is_free (A : Ad) : DSp := fun ds C P => ∃ s, ds = [scD A s] ∧ P (.bl (freeS s)) C
theorem len_Section_is_free (A : Ad) : ∀ ds C P, R_Section_is_free A ds C P → ds.length = 1 := by rintro _ _ _ ⟨s, rfl, _⟩; rfl
theorem ok_Section_is_free (T : Txt K mg A P w) : FnOk P w K mg base CX0 1 A.a_Section_is_free A.d_Section_is_free ["self"] (spD K (R_Section_is_free A)) :=
  ok_D T.F_Section_is_free sc_Section_is_free (len_Section_is_free A) (fun cdv Ar outer s H E hr =>
    ds_one (ds_ret (d_orV (d_cmp op_isN s_isN (d_fld T.c_Section T.n_Section_payer (d_var 0)) (d_non)) (d_one (d_cmp op_eq s_eq (d_fld T.c_Section T.n_Section_seconds (d_var 0)) (d_int)))))) (fun ds C Pk h => by
    obtain ⟨s, rfl, q⟩ := h
    simp only [scD]
    unfold freeS at q
    cases hp : s.pay with
    | none =>
      rw [hp] at q
      have e : optS none = .non := rfl
      walk_at "dd"
      exact ⟨_, Sub.refl _, q⟩
    | some l =>
      rw [hp] at q
      have e : optS (some l) = .str l := rfl
      walk_at "dd"
      exact ⟨_, Sub.refl _, q⟩)

def R_Contracts_in_force (A : Ad) : DSp := fun ds C P => ∃ p l c ph hi, ds = [.ptr p, .str l, .int c] ∧ C p = some (.ins A.C_Contracts [("histories", .ptr ph)]) ∧ C ph = some (.dK (hiK hi)) ∧ P (conD (inForceF hi l c)) C
theorem len_Contracts_in_force (A : Ad) : ∀ ds C P, R_Contracts_in_force A ds C P → ds.length = 3 := by rintro _ _ _ ⟨p, l, c, ph, hi, rfl, _⟩; rfl
theorem ok_Contracts_in_force (T : Txt K mg A P w) : FnOk P w K mg base CX0 1 A.a_Contracts_in_force A.d_Contracts_in_force ["self", "line", "clock"] (spD K (R_Contracts_in_force A)) :=
  ok_D T.F_Contracts_in_force sc_Contracts_in_force (len_Contracts_in_force A) (fun cdv Ar outer s H E hr =>
    ds_cons (ds_set 3 sc_Contracts_in_force.nd (d_non))
    (ds_consL (ds_for PassesOwn.never rfl (di_tup (dd_get2 hr (d_fld T.c_Contracts T.n_Contracts_histories (d_var 0)) (d_var 1) (d_tup (d_nil)))) (dg_tup rfl (dgs_cons (dg_name 4 sc_Contracts_in_force.nd) (dgs_cons (dg_name 5 sc_Contracts_in_force.nd) (dgs_cons (dg_name 6 sc_Contracts_in_force.nd) (dgs_nil)))))
      (ds_one (ds_if (d_tcmp op_le s_le (d_var 4) (d_var 2))
        (ds_one (ds_set 3 sc_Contracts_in_force.nd (d_tup (d_cons (d_var 5) (d_cons (d_var 6) (d_nil))))))
        (ds_nil))))
    (ds_cons (ds_if ((d_or (d_tcmp op_isN s_isN (d_var 3) (d_non)) (d_or1 (d_tcmp op_isN s_isN (d_ix ix_seq s_ix (d_var 3) (d_int)) (d_non)))).pt)
      (ds_one (ds_ret (d_non)))
      (ds_nil))
    (ds_one (ds_ret (d_var 3)))))) (fun ds C Pk h => by
    obtain ⟨p, l, c, ph, hi, rfl, hp, hh, q⟩ := h
    have hv : vaD (hiK hi) (Sum.inr l) = (lkA hi l).map fun rs => D.tup (rs.map rhD) := va_tab (fun x : Str => (Sum.inr x : L2.Key)) inr_inj (fun rs : List Rh => D.tup (rs.map rhD)) l hi
    have hd : (vaD (hiK hi) (Sum.inr l)).getD (.tup []) = .tup (((lkA hi l).getD []).map rhD) := by
      rw [hv]
      cases lkA hi l <;> rfl
    clear hv
    unfold inForceF at q
    generalize (lkA hi l).getD [] = rs at hd q
    refine seq_hide fun E' hE => ?_
    walk_at "dd"
    subst hE
    dsimp only [List.set_cons_succ, List.set_cons_zero]
    refine seq_hide fun E' hE => ?_
    walk_at "dd"
    refine for_map (enc := rhD) (L := rs) (fun k ρ' C' => C' = C ∧ ∃ o1 o2 o3, ρ' = [some (.ptr p), some (.str l), some (.int c), some (fndD (rowOf (rs.take k) c)), o1, o2, o3]) ⟨rfl, _, _, _, rfl⟩ ?_ ?_
    · rintro k r ρ' C' hk ⟨rfl, o1, o2, o3, rfl⟩
      have e1 : rowOf (rs.take (k + 1)) c = if r.since ≤ c then some r else rowOf (rs.take k) c := by
        rw [take_snoc hk]
        unfold rowOf
        rw [List.foldl_append]; rfl
      rw [e1]
      clear hk e1
      simp only [rhD]
      by_cases g : r.since ≤ c
      · rw [if_pos g]
        walk_at "dd"
        exact ⟨_, _, _, rfl⟩
      · rw [if_neg g]
        walk_at "dd"
        exact ⟨_, _, _, rfl⟩
    · rintro ρ' C' ⟨rfl, o1, o2, o3, rfl⟩
      rw [List.take_length]
      subst hE
      dsimp only
      cases hr : rowOf rs c with
      | none =>
        rw [hr] at q
        have e : fndD none = .non := rfl
        rw [e]
        walk_at "dd"
        exact ⟨_, Sub.refl _, q⟩
      | some r =>
        rw [hr] at q
        have e : fndD (some r) = .tup [optS r.acc, .str r.nm] := rfl
        rw [e]
        unfold conOf at q
        dsimp only at q
        cases ha : r.acc with
        | none =>
          rw [ha] at q
          have e : optS none = .non := rfl
          rw [e]
          walk_at "dd"
          exact ⟨_, Sub.refl _, q⟩
        | some a =>
          rw [ha] at q
          have e : optS (some a) = .str a := rfl
          rw [e]
          walk_at "dd"
          exact ⟨_, Sub.refl _, q⟩)

def R_ChargeRun_reason_against (A : Ad) : DSp := fun ds C P => ∃ p s o c ts a p0 p1 p2, ds = [.ptr p, s, conD o] ∧ C p = some (.ins A.C_ChargeRun [("contracts", c), ("tariffs", .dK (tsK A ts)), ("allowances", a), ("used", p0), ("charges", p1), ("left_out", p2)]) ∧
  P (optS (reasonF ts o)) C
theorem len_ChargeRun_reason_against (A : Ad) : ∀ ds C P, R_ChargeRun_reason_against A ds C P → ds.length = 3 := by rintro _ _ _ ⟨p, s, o, c, ts, a, p0, p1, p2, rfl, _⟩; rfl
theorem ok_ChargeRun_reason_against (T : Txt K mg A P w) : FnOk P w K mg base CX0 1 A.a_ChargeRun_reason_against A.d_ChargeRun_reason_against ["self", "section", "contract"] (spD K (R_ChargeRun_reason_against A)) :=
  ok_D T.F_ChargeRun_reason_against sc_ChargeRun_reason_against (len_ChargeRun_reason_against A) (fun cdv Ar outer s H E hr =>
    ds_cons (ds_if (d_tcmp op_isN s_isN (d_var 2) (d_non))
      (ds_one (ds_ret (d_str)))
      (ds_nil))
    (ds_cons (ds_if (d_tdnotin hr (d_ix ix_seq s_ix (d_var 2) (d_int)) (d_fld T.c_ChargeRun T.n_ChargeRun_tariffs (d_var 0)))
      (ds_one (ds_ret (d_str)))
      (ds_nil))
    (ds_one (ds_ret (d_non))))) (fun ds C Pk h => by
    obtain ⟨p, s, o, c, ts, a, p0, p1, p2, rfl, hp, q⟩ := h
    cases o with
    | none =>
      have e : conD none = .non := rfl
      walk_at "dd"
      exact ⟨_, Sub.refl _, q⟩
    | some x =>
      obtain ⟨x, n⟩ := x
      have e : conD (some (x, n)) = .tup [.str x, .str n] := rfl
      have hv : vaD (tsK A ts) (Sum.inr n) = (lkA ts n).map (tfD A) := va_tab (fun x : Str => (Sum.inr x : L2.Key)) inr_inj (tfD A) n ts
      unfold reasonF at q
      dsimp only at q
      cases hl : lkA ts n with
      | none =>
        rw [hl] at q hv
        simp only [Option.map_none] at hv
        clear hl
        walk_at "dd"
        exact ⟨_, Sub.refl _, q⟩
      | some t =>
        rw [hl] at q hv
        simp only [Option.map_some] at hv
        clear hl
        walk_at "dd"
        exact ⟨_, Sub.refl _, q⟩)

def R_Band_holds (A : Ad) : DSp := fun ds C P => ∃ b cal t, ds = [bdD A b, .str cal, .int t] ∧ P (.bl (holdsF b cal t)) C
theorem len_Band_holds (A : Ad) : ∀ ds C P, R_Band_holds A ds C P → ds.length = 3 := by rintro _ _ _ ⟨b, cal, t, rfl, _⟩; rfl
theorem ok_Band_holds (T : Txt K mg A P w) : FnOk P w K mg base CX0 1 A.a_Band_holds A.d_Band_holds ["self", "called", "clock"] (spD K (R_Band_holds A)) :=
  ok_D T.F_Band_holds sc_Band_holds (len_Band_holds A) (fun cdv Ar outer s H E hr =>
    ds_cons (ds_set 3 sc_Band_holds.nd (d_op op_fdivW s_divW (d_op op_mod s_mod (d_var 2) (d_kint T.k_DAY)) (d_kint T.k_HOUR)))
    (ds_one (ds_ret (d_andV (d_bmS PySem.F.plainAttrs_str PySem.F.slot_str_startswith PySem.F.type_str_startswith mt_startswith s_starts (d_var 1) (d_cons (d_fld T.c_Band T.n_Band_prefix (d_var 0)) (d_nil))) (d_andV (d_cmp op_le s_le (d_fld T.c_Band T.n_Band_from_hour (d_var 0)) (d_var 3)) (d_one (d_cmp op_lt s_lt (d_var 3) (d_fld T.c_Band T.n_Band_to_hour (d_var 0))))))))) (fun ds C Pk h => by
    obtain ⟨b, cal, t, rfl, q⟩ := h
    simp only [bdD, bdF]
    unfold holdsF at q
    walk_at "dd"
    refine ⟨by decide, by decide, ?_⟩
    cases h1 : Txt.startswith cal b.pre with
    | false =>
      rw [h1] at q
      rw [if_neg Bool.false_ne_true]
      exact ⟨_, Sub.refl _, q⟩
    | true =>
      rw [h1, Bool.true_and] at q
      rw [if_pos rfl]
      by_cases h2 : b.fh ≤ t % 86400 / 3600
      · rw [if_pos h2]
        have e : decide (b.fh ≤ t % 86400 / 3600 ∧ t % 86400 / 3600 < b.th) = decide (t % 86400 / 3600 < b.th) := decide_eq_decide.mpr ⟨fun z => z.2, fun z => ⟨h2, z⟩⟩
        rw [e] at q
        exact ⟨_, Sub.refl _, q⟩
      · rw [if_neg h2]
        rw [decide_eq_false (fun z => h2 z.1)] at q
        exact ⟨_, Sub.refl _, q⟩)

def R_Tariff_band_at (A : Ad) : DSp := fun ds C P => ∃ t cal c, ds = [tfD A t, .str cal, .int c] ∧ P (optB A (bestF cal c t.bs)) C
theorem len_Tariff_band_at (A : Ad) : ∀ ds C P, R_Tariff_band_at A ds C P → ds.length = 3 := by rintro _ _ _ ⟨t, cal, c, rfl, _⟩; rfl
theorem ok_Tariff_band_at (T : Txt K mg A P w) : FnOk P w K mg base CX0 2 A.a_Tariff_band_at A.d_Tariff_band_at ["self", "called", "clock"] (spD K (R_Tariff_band_at A)) :=
  ok_D T.F_Tariff_band_at sc_Tariff_band_at (len_Tariff_band_at A) (fun cdv Ar outer s H E hr =>
    ds_cons (ds_set 3 sc_Tariff_band_at.nd (d_non))
    (ds_consL (ds_for PassesOwn.never rfl (di_tup (d_fld T.c_Tariff T.n_Tariff_bands (d_var 0))) (dg_name 4 sc_Tariff_band_at.nd)
      (ds_one (ds_if ((d_and (d_tval (d_meth T.c_Band T.m_Band_holds (ok_Band_holds T) (hr.mono (by decide)) T.b_Band_holds (d_var 4) (d_cons (d_var 1) (d_cons (d_var 2) (d_nil))))) (d_and1 ((d_or (d_tcmp op_isN s_isN (d_var 3) (d_non)) (d_or1 (d_tcmp op_gt s_gt (d_callB call_len s_len (by rfl) T.z_len (by decide +kernel) (d_cons (d_fld T.c_Band T.n_Band_prefix (d_var 4)) (d_nil))) (d_callB call_len s_len (by rfl) T.z_len (by decide +kernel) (d_cons (d_fld T.c_Band T.n_Band_prefix (d_var 3)) (d_nil)))))).pt))).pt)
        (ds_one (ds_set 3 sc_Tariff_band_at.nd (d_var 4)))
        (ds_nil))))
    (ds_one (ds_ret (d_var 3))))) (fun ds C Pk h => by
    obtain ⟨t, cal, c, rfl, q⟩ := h
    simp only [tfD]
    refine seq_hide fun E' hE => ?_
    walk_at "dd"
    subst hE
    dsimp only [List.set_cons_succ, List.set_cons_zero]
    refine seq_hide fun E' hE => ?_
    walk_at "dd"
    refine for_map (enc := bdD A) (L := t.bs) (fun k ρ' C' => C' = C ∧ ∃ o1, ρ' = [some (tfD A t), some (.str cal), some (.int c), some (optB A (bestF cal c (t.bs.take k))), o1]) ⟨rfl, _, rfl⟩ ?_ ?_
    · rintro k b ρ' C' hk ⟨rfl, o1, rfl⟩
      have e1 : bestF cal c (t.bs.take (k + 1)) = bestS cal c (bestF cal c (t.bs.take k)) b := by
        rw [take_snoc hk]
        unfold bestF
        rw [List.foldl_append]; rfl
      rw [e1]
      clear hk e1
      generalize bestF cal c (t.bs.take k) = r
      have hb := b.ok
      unfold bestS
      walk_at "dd"
      refine ⟨⟨rfl, rfl⟩, b, cal, c, rfl, ?_⟩
      dsimp only
      cases hh : holdsF b cal c with
      | false =>
        rw [if_neg Bool.false_ne_true, if_neg (fun z => Bool.false_ne_true z.1)]
        exact ⟨rfl, _, rfl⟩
      | true =>
        rw [if_pos rfl]
        cases r with
        | none =>
          rw [if_pos ⟨rfl, rfl⟩]
          exact ⟨rfl, _, rfl⟩
        | some r =>
          have hr := r.ok
          have e1 : optB A (some r) = bdD A r := rfl
          have l1 : lenOf (.str b.pre) C' = some b.pre.length := if_pos (by omega)
          have l2 : lenOf (.str r.pre) C' = some r.pre.length := if_pos (by omega)
          have f1 : ∀ y : Bd, fldOf A.C_Band "prefix" (bdD A y) C' = some (.str y.pre) := fun y => by
            simp only [bdD, bdF, fldOf_ins, List.lookup]
            rfl
          rw [e1]
          simp only [bdD, bdF] at f1 ⊢
          rw [f1 b]
          dsimp only
          rw [l1]
          dsimp only
          rw [f1 r]
          dsimp only
          rw [l2]
          dsimp only
          unfold lessP
          by_cases g : r.pre.length < b.pre.length
          · rw [if_pos (by omega), if_pos ⟨trivial, decide_eq_true g⟩]
            exact ⟨trivial, _, rfl⟩
          · rw [if_neg (by omega), if_neg (fun z => g (of_decide_eq_true z.2))]
            exact ⟨trivial, _, rfl⟩
    · rintro ρ' C' ⟨rfl, o1, rfl⟩
      rw [List.take_length]
      subst hE
      dsimp only
      walk_at "dd"
      exact ⟨_, Sub.refl _, q⟩)

def R_stretches (A : Ad) : DSp := fun ds C P => ∃ t cal st b e, ds = [tfD A t, .str cal, .int st, .int b, .int e] ∧ e - b ≤ 5000 ∧ P (optL (pcD A) (stretchF t.bs cal st b e)) C
theorem len_stretches (A : Ad) : ∀ ds C P, R_stretches A ds C P → ds.length = 5 := by rintro _ _ _ ⟨t, cal, st, b, e, rfl, _⟩; rfl
theorem ok_stretches (T : Txt K mg A P w) : FnOk P w K mg base CX0 3 A.a_stretches A.d_stretches ["tariff", "called", "start", "begin", "till"] (spD K (R_stretches A)) :=
  ok_D T.F_stretches sc_stretches (len_stretches A) (fun cdv Ar outer s H E hr =>
    ds_consL (ds_set 5 sc_stretches.nd (d_lstC (d_nil)))
    (ds_cons (ds_set 6 sc_stretches.nd (d_var 3))
    (ds_consL (ds_while PassesOwn.never (d_tcmp op_lt s_lt (d_var 6) (d_var 4))
      (ds_consL (ds_set 7 sc_stretches.nd (d_meth T.c_Tariff T.m_Tariff_band_at (ok_Tariff_band_at T) (hr.mono (by decide)) T.b_Tariff_band_at (d_var 0) (d_cons (d_var 1) (d_cons (d_op op_add s_add (d_var 2) (d_var 6)) (d_nil)))))
      (ds_cons (ds_if (d_tcmp op_isN s_isN (d_var 7) (d_non))
        (ds_one (ds_ret (d_non)))
        (ds_nil))
      (ds_cons (ds_set 8 sc_stretches.nd (d_callB (call_min2 rfl) s_min2 (by rfl) T.z_min (by decide +kernel) (d_cons (d_var 4) (d_cons (d_op op_sub s_sub (d_op op_add s_add (d_var 6) (d_kint T.k_HOUR)) (d_op op_mod s_mod (d_op op_add s_add (d_var 2) (d_var 6)) (d_kint T.k_HOUR))) (d_nil)))))
      (ds_cons (ds_if ((d_and (d_tru (d_var 5)) (d_and1 (d_tcmp op_eq s_eq (d_fld T.c_Band T.n_Band_label (d_ix ix_seq s_ix (d_ix ix_seq s_ix (d_var 5) (d_un un_neg s_neg (d_int))) (d_int))) (d_fld T.c_Band T.n_Band_label (d_var 7))))).pt)
        (ds_one (ds_setL (d_var 5) (d_un un_neg s_neg (d_int)) (d_tup (d_cons (d_var 7) (d_cons (d_ix ix_seq s_ix (d_ix ix_seq s_ix (d_var 5) (d_un un_neg s_neg (d_int))) (d_int)) (d_cons (d_var 8) (d_nil)))))))
        (ds_one (ds_expr (d_bmL PySem.F.plainAttrs_list PySem.F.slot_list_append PySem.F.type_list_append mt_append s_append (d_var 5) (d_cons (d_tup (d_cons (d_var 7) (d_cons (d_var 6) (d_cons (d_var 8) (d_nil))))) (d_nil))))))
      (ds_one (ds_set 6 sc_stretches.nd (d_var 8))))))))
    (ds_one (ds_retF (d_var 5)))))) (fun ds C Pk h => by
    obtain ⟨t, cal, st, b, e, rfl, hl, q⟩ := h
    refine seq_hide fun E' hE => ?_
    walk_at "dd"
    intro p hp
    subst hE
    dsimp only [List.set_cons_succ, List.set_cons_zero]
    refine seq_hide fun E' hE => ?_
    walk_at "dd"
    subst hE
    dsimp only [List.set_cons_succ, List.set_cons_zero]
    refine seq_hide fun E' hE => ?_
    refine while_hide fun b' hb => ?_
    refine ⟨fun m ρ' C' => ∃ (n : Nat) (x : Int) (L : List Pc) (o1 o2 : Option D), m = n ∧ b ≤ x ∧ (e - x).toNat ≤ n ∧ (L.length : Int) ≤ x - b ∧ stF t.bs cal st e n x L = stretchF t.bs cal st b e ∧ ρ' = [some (tfD A t), some (.str cal), some (.int st), some (.int b), some (.int e), some (.ptr p), some (.int x), o1, o2] ∧ C' = cput C p (.lst (L.map (pcD A))), ⟨_, (e - b).toNat, b, [], none, none, rfl, Int.le_refl _, Nat.le_refl _, by simp, rfl, rfl, rfl⟩, ?_⟩
    rintro m ρ' C' ⟨n, x, L, o1, o2, rfl, hbx, hn, hL, hF, rfl, rfl⟩
    walk_at "dd"
    by_cases h1 : x < e
    · obtain ⟨n', rfl⟩ : ∃ n', m = n' + 1 := ⟨m - 1, by omega⟩
      rw [stF_go h1] at hF
      rw [if_pos h1]
      subst hb
      refine seq_hide fun E2 hE2 => ?_
      walk_at "dd"
      refine ⟨?_, ?_⟩
      · simp only [tfD]
        walk_at "dd"
      refine ⟨t, cal, st + x, rfl, ?_⟩
      subst hE2
      dsimp only [List.set_cons_succ, List.set_cons_zero]
      cases hB : bestF cal (st + x) t.bs with
      | none =>
        rw [hB] at hF
        dsimp only at hF
        rw [← hF] at q
        have e0 : optB A none = .non := rfl
        subst hE
        walk_at "dd"
        exact ⟨C, Sub.new hp, q⟩
      | some y =>
        rw [hB] at hF
        dsimp only at hF
        have e0 : optB A (some y) = bdD A y := rfl
        rw [e0]
        have hbx2 : x < min e (x + 3600 - (st + x) % 3600) := by
          have := mod_hi (st + x) (m := 3600) (by decide)
          omega
        have hpl := putP_len y x (min e (x + 3600 - (st + x) % 3600)) L
        generalize hz : min e (x + 3600 - (st + x) % 3600) = z at hF hbx2 hpl
        have fin : ∀ (L' : List Pc) u1 u2, L' = putP y x z L → (∃ m', m' < n' + 1 ∧ ∃ (n : Nat) (x : Int) (L : List Pc) (o1 o2 : Option D), m' = n ∧ b ≤ x ∧ (e - x).toNat ≤ n ∧ (L.length : Int) ≤ x - b ∧ stF t.bs cal st e n x L = stretchF t.bs cal st b e ∧ ([some (tfD A t), some (.str cal), some (.int st), some (.int b), some (.int e), some (.ptr p), some (.int z), u1, u2] : DEnv) = [some (tfD A t), some (.str cal), some (.int st), some (.int b), some (.int e), some (.ptr p), some (.int x), o1, o2] ∧ cput C p (.lst (L'.map (pcD A))) = cput C p (.lst (L.map (pcD A)))) := fun L' u1 u2 hL' =>
          ⟨n', by omega, n', z, L', u1, u2, rfl, by omega, by omega, by rw [hL']; omega, by rw [hL']; exact hF, rfl, rfl⟩
        rcases List.eq_nil_or_concat L with rfl | ⟨M, w, rfl⟩
        · simp only [bdD, bdF]
          walk_at "dd"
          exact ⟨by decide, by decide, fin [(y, x, z)] _ _ rfl⟩
        · have e3 : pcD A w = .tup [.ins A.C_Band [("label", .str w.1.lab), ("prefix", .str w.1.pre), ("from_hour", .int w.1.fh), ("to_hour", .int w.1.th), ("price", .int w.1.pr)], .int w.2.1, .int w.2.2] := rfl
          have e4 : ∀ d, (List.map (pcD A) M ++ [d]).isEmpty = false := fun d => by cases List.map (pcD A) M <;> rfl
          have e5 : ∀ d, ixN (List.map (pcD A) M ++ [d]).length (-1) = some (List.map (pcD A) M).length := fun d => by
            rw [List.length_append]
            exact ixN_last _
          have e6 : ∀ d d', (List.map (pcD A) M ++ [d]).set M.length d' = List.map (pcD A) M ++ [d'] := fun d d' => by
            have h := set_last (List.map (pcD A) M) d d'
            rw [List.length_map] at h
            exact h
          rw [List.concat_eq_append] at fin hL hpl
          rw [putP_snoc] at fin
          have ll : (List.map (pcD A) M ++ [pcD A w]).length < 100000 := by
            have : (List.map (pcD A) M ++ [pcD A w]).length = (M ++ [w]).length := by simp
            rw [this]; omega
          rw [e3] at ll
          simp only [bdD, bdF, List.concat_eq_append, List.map_append, List.map_cons, List.map_nil]
          clear hF hB e0 hpl
          by_cases g : w.1.lab = y.lab
          · rw [if_pos g] at fin
            have fin2 := fin (M ++ [(y, w.2.1, z)]) (some (bdD A y)) (some (.int z)) rfl
            rw [List.map_append, List.map_cons, List.map_nil] at fin2
            clear fin
            simp only [bdD, bdF, pcD] at fin2
            walk_at "dd"
            decide
          · rw [if_neg g] at fin
            have fin2 := fin (M ++ [w] ++ [(y, x, z)]) (some (bdD A y)) (some (.int z)) rfl
            rw [List.map_append, List.map_append, List.map_cons, List.map_nil, List.map_cons, List.map_nil, e3] at fin2
            clear fin
            simp only [bdD, bdF, pcD] at fin2
            walk_at "dd"
            decide
    · rw [stF_done h1] at hF
      rw [← hF] at q
      subst hE
      rw [if_neg h1]
      walk_at "dd"
      exact ⟨C, Sub.new hp, hp, C, Sub.refl _, q⟩)

def R_price_lines (A : Ad) : DSp := fun ds C P => ∃ t cal st b e, ds = [tfD A t, .str cal, .int st, .int b, .int e] ∧ b ≤ e ∧ e - b ≤ 5000 ∧ P (optL lnD (plF t cal st b e)) C
theorem len_price_lines (A : Ad) : ∀ ds C P, R_price_lines A ds C P → ds.length = 5 := by rintro _ _ _ ⟨t, cal, st, b, e, rfl, _⟩; rfl
theorem ok_price_lines (T : Txt K mg A P w) : FnOk P w K mg base CX0 4 A.a_price_lines A.d_price_lines ["tariff", "called", "start", "begin", "till"] (spD K (R_price_lines A)) :=
  ok_D T.F_price_lines sc_price_lines (len_price_lines A) (fun cdv Ar outer s H E hr =>
    ds_consL (ds_set 5 sc_price_lines.nd (d_call (ok_stretches T) (hr.mono (by decide)) T.g_stretches T.F_stretches.kp T.b_stretches (d_cons (d_var 0) (d_cons (d_var 1) (d_cons (d_var 2) (d_cons (d_var 3) (d_cons (d_var 4) (d_nil))))))))
    (ds_cons (ds_if (d_tcmp op_isN s_isN (d_var 5) (d_non))
      (ds_one (ds_ret (d_non)))
      (ds_nil))
    (ds_consL (ds_set 6 sc_price_lines.nd (d_lstC (d_cons (d_tup (d_cons (d_str) (d_cons (d_var 3) (d_cons (d_var 3) (d_cons (d_fld T.c_Tariff T.n_Tariff_setup_price (d_var 0)) (d_nil)))))) (d_nil))))
    (ds_consL (ds_for PassesOwn.never rfl (di_list (d_var 5)) (dg_tup rfl (dgs_cons (dg_name 7 sc_price_lines.nd) (dgs_cons (dg_name 8 sc_price_lines.nd) (dgs_cons (dg_name 9 sc_price_lines.nd) (dgs_nil)))))
      (ds_cons (ds_set 10 sc_price_lines.nd (d_op op_fdivW s_divW (d_op op_sub s_sub (d_op op_add s_add (d_op op_sub s_sub (d_var 9) (d_var 8)) (d_kint T.k_MINUTE)) (d_int)) (d_kint T.k_MINUTE)))
      (ds_one (ds_expr (d_bmL PySem.F.plainAttrs_list PySem.F.slot_list_append PySem.F.type_list_append mt_append s_append (d_var 6) (d_cons (d_tup (d_cons (d_fld T.c_Band T.n_Band_label (d_var 7)) (d_cons (d_var 8) (d_cons (d_var 9) (d_cons (d_op op_mul s_mul (d_fld T.c_Band T.n_Band_price (d_var 7)) (d_var 10)) (d_nil)))))) (d_nil)))))))
    (ds_one (ds_retF (d_var 6))))))) (fun ds C Pk h => by
    obtain ⟨t, cal, st, b, e, rfl, hbe, hl, q⟩ := h
    refine seq_hide fun E' hE => ?_
    walk_at "dd"
    refine ⟨t, cal, st, b, e, rfl, hl, ?_⟩
    subst hE
    dsimp only [List.set_cons_succ, List.set_cons_zero]
    unfold plF at q
    cases hS : stretchF t.bs cal st b e with
    | none =>
      rw [hS] at q
      have e1 : optL (pcD A) none = .non := rfl
      rw [e1]
      walk_at "dd"
      exact ⟨_, Sub.refl _, q⟩
    | some L =>
      rw [hS] at q
      have hln := stretch_len hS hbe hl
      have e1 : optL (pcD A) (some L) = .lst (L.map (pcD A)) := rfl
      rw [e1]
      refine seq_hide fun E' hE => ?_
      walk_at "dd"
      subst hE
      dsimp only [List.set_cons_succ, List.set_cons_zero]
      simp only [tfD]
      refine seq_hide fun E' hE => ?_
      walk_at "dd"
      intro p hp
      subst hE
      dsimp only [List.set_cons_succ, List.set_cons_zero]
      refine seq_hide fun E' hE => ?_
      walk_at "dd"
      refine for_map (enc := pcD A) (L := L) (fun k ρ' C' => (∃ o1 o2 o3 o4, ρ' = [some (tfD A t), some (.str cal), some (.int st), some (.int b), some (.int e), some (.lst (L.map (pcD A))), some (.ptr p), o1, o2, o3, o4]) ∧ C' = cput C p (.lst (((⟨"setup", b, b, t.su⟩ : Ln) :: (L.take k).map lnP).map lnD))) ⟨⟨_, _, _, _, rfl⟩, rfl⟩ ?_ ?_
      · rintro k w ρ' C' hk ⟨⟨o1, o2, o3, o4, rfl⟩, rfl⟩
        have e3 : pcD A w = .tup [.ins A.C_Band [("label", .str w.1.lab), ("prefix", .str w.1.pre), ("from_hour", .int w.1.fh), ("to_hour", .int w.1.th), ("price", .int w.1.pr)], .int w.2.1, .int w.2.2] := rfl
        have hw := w.1.ok
        have lk : (List.map lnD ((⟨"setup", b, b, t.su⟩ : Ln) :: (L.take k).map lnP)).length < 100000 := by
          rw [List.length_map, List.length_cons, List.length_map, List.length_take]
          omega
        rw [take_snoc hk]
        clear hk
        walk_at "dd"
        refine ⟨by decide, cmul_l (by omega) (by omega), by simpa using lk, ⟨_, _, _, _, rfl⟩, ?_⟩
        rw [List.map_append, List.map_append]
        rfl
      · rintro ρ' C' ⟨⟨o1, o2, o3, o4, rfl⟩, rfl⟩
        rw [List.take_length]
        subst hE
        walk_at "dd"
        exact ⟨C, Sub.new hp, hp, C, Sub.refl _, q⟩)

def R_ChargeRun_lines_of (A : Ad) : DSp := fun ds C P => ∃ p s n f c ts t a p0 p1 p2, ds = [.ptr p, scD A s, .str n, .int f] ∧ C p = some (.ins A.C_ChargeRun [("contracts", c), ("tariffs", .dK (tsK A ts)), ("allowances", a), ("used", p0), ("charges", p1), ("left_out", p2)]) ∧
  lkA ts n = some t ∧ 0 ≤ f ∧ P (optL lnD (linesF t s f)) C
theorem len_ChargeRun_lines_of (A : Ad) : ∀ ds C P, R_ChargeRun_lines_of A ds C P → ds.length = 4 := by rintro _ _ _ ⟨p, s, n, f, c, ts, t, a, p0, p1, p2, rfl, _⟩; rfl
theorem ok_ChargeRun_lines_of (T : Txt K mg A P w) : FnOk P w K mg base CX0 5 A.a_ChargeRun_lines_of A.d_ChargeRun_lines_of ["self", "section", "name", "free"] (spD K (R_ChargeRun_lines_of A)) :=
  ok_D T.F_ChargeRun_lines_of sc_ChargeRun_lines_of (len_ChargeRun_lines_of A) (fun cdv Ar outer s H E hr =>
    ds_cons (ds_set 4 sc_ChargeRun_lines_of.nd (d_lst (d_nil)))
    (ds_consL (ds_if (d_tcmp op_lt s_lt (d_var 3) (d_fld T.c_Section T.n_Section_seconds (d_var 1)))
      (ds_cons (ds_set 5 sc_ChargeRun_lines_of.nd (d_dget hr (d_fld T.c_ChargeRun T.n_ChargeRun_tariffs (d_var 0)) (d_var 2)))
      (ds_consL (ds_set 4 sc_ChargeRun_lines_of.nd (d_call (ok_price_lines T) (hr.mono (by decide)) T.g_price_lines T.F_price_lines.kp T.b_price_lines (d_cons (d_var 5) (d_cons (d_fld T.c_Section T.n_Section_called (d_var 1)) (d_cons (d_fld T.c_Section T.n_Section_start (d_var 1)) (d_cons (d_var 3) (d_cons (d_fld T.c_Section T.n_Section_seconds (d_var 1)) (d_nil))))))))
      (ds_one (ds_if (d_tcmp op_isN s_isN (d_var 4) (d_non))
        (ds_one (ds_ret (d_non)))
        (ds_nil)))))
      (ds_nil))
    (ds_cons (ds_if (d_tcmp op_gt s_gt (d_var 3) (d_int))
      (ds_one (ds_set 4 sc_ChargeRun_lines_of.nd (d_op op_catS s_cat (d_lst (d_cons (d_tup (d_cons (d_str) (d_cons (d_int) (d_cons (d_var 3) (d_cons (d_int) (d_nil)))))) (d_nil))) (d_var 4))))
      (ds_nil))
    (ds_one (ds_ret (d_var 4)))))) (fun ds C Pk h => by
    obtain ⟨p, s, n, f, c, ts, t, a, p0, p1, p2, rfl, hp, ht, h0, q⟩ := h
    have hs := s.ok
    have hv : vaD (tsK A ts) (Sum.inr n) = some (tfD A t) := by
      have := va_tab (fun x : Str => (Sum.inr x : L2.Key)) inr_inj (tfD A) n ts
      rw [ht] at this
      exact this
    clear ht
    walk_at "dd"
    refine seq_hide fun E' hE => ?_
    have fin : ∀ (L : List Ln) o, (L.length ≤ 10) → Pk (optL lnD (some (if f > 0 then (⟨"free", 0, f, 0⟩ : Ln) :: L else L))) C → E'.nx [some (.ptr p), some (scD A s), some (.str n), some (.int f), some (.lst (L.map lnD)), o] C := fun L o hl q => by
      subst hE
      dsimp only [List.set_cons_succ, List.set_cons_zero]
      by_cases g : 0 < f
      · rw [if_pos g] at q
        have e : optL lnD (some ((⟨"free", 0, f, 0⟩ : Ln) :: L)) = .lst (.tup [.str "free", .int 0, .int f, .int 0] :: L.map lnD) := rfl
        rw [e] at q
        walk_at "dd"
        refine ⟨by omega, _, Sub.refl _, q⟩
      · rw [if_neg g] at q
        have e : optL lnD (some L) = .lst (L.map lnD) := rfl
        rw [e] at q
        walk_at "dd"
        exact ⟨_, Sub.refl _, q⟩
    unfold linesF at q
    simp only [scD] at fin ⊢
    by_cases g : f < s.sec
    · rw [if_pos g] at q
      walk_at "dd"
      refine seq_hide fun E2 hE2 => ?_
      walk_at "dd"
      refine ⟨t, s.cal, s.st, f, s.sec, rfl, by omega, by omega, ?_⟩
      subst hE2
      cases hP : plF t s.cal s.st f s.sec with
      | none =>
        rw [hP] at q
        have e : optL lnD none = .non := rfl
        clear fin
        subst hE
        walk_at "dd"
        exact ⟨_, Sub.refl _, q⟩
      | some L =>
        rw [hP] at q
        have hln := plF_len hP (by omega) (by omega)
        have e : optL lnD (some L) = .lst (L.map lnD) := rfl
        have fin2 := fin L (some (tfD A t)) (by omega) q
        clear hE fin
        rw [e]
        walk_at "dd"
    · rw [if_neg g] at q
      have fin2 := fin [] none (by decide) q
      clear hE fin
      walk_at "dd"
      exact fin2)

def R_ChargeRun_free_left (A : Ad) : DSp := fun ds C P => ∃ p acc m c t al u pu p1 p2, ds = [.ptr p, .str acc, .int m] ∧ C p = some (.ins A.C_ChargeRun [("contracts", c), ("tariffs", t), ("allowances", .dK (alK al)), ("used", .ptr pu), ("charges", p1), ("left_out", p2)]) ∧
  C pu = some (.dT (usK u)) ∧ P (.int (alF al acc - getU u (acc, m))) C
theorem len_ChargeRun_free_left (A : Ad) : ∀ ds C P, R_ChargeRun_free_left A ds C P → ds.length = 3 := by rintro _ _ _ ⟨p, acc, m, c, t, al, u, pu, p1, p2, rfl, _⟩; rfl
theorem ok_ChargeRun_free_left (T : Txt K mg A P w) : FnOk P w K mg base CX0 1 A.a_ChargeRun_free_left A.d_ChargeRun_free_left ["self", "account", "month"] (spD K (R_ChargeRun_free_left A)) :=
  ok_D T.F_ChargeRun_free_left sc_ChargeRun_free_left (len_ChargeRun_free_left A) (fun cdv Ar outer s H E hr =>
    ds_one (ds_ret (d_op op_sub s_sub (dd_get2 hr (d_fld T.c_ChargeRun T.n_ChargeRun_allowances (d_var 0)) (d_var 1) (d_int)) (dd_get2 hr (d_fld T.c_ChargeRun T.n_ChargeRun_used (d_var 0)) (d_tup (d_cons (d_var 1) (d_cons (d_var 2) (d_nil)))) (d_int))))) (fun ds C Pk h => by
    obtain ⟨p, acc, m, c, t, al, u, pu, p1, p2, rfl, hp, hu, q⟩ := h
    have hg : (vaD (usK u) [Sum.inr acc, Sum.inl m]).getD (.int 0) = .int (getU u (acc, m)) := us_get u (acc, m)
    have hv : vaD (alK al) (Sum.inr acc) = (lkA al acc).map D.int := va_tab (fun x : Str => (Sum.inr x : L2.Key)) inr_inj D.int acc al
    have ha : (vaD (alK al) (Sum.inr acc)).getD (.int 0) = .int (alF al acc) := by
      rw [hv]; unfold alF; cases lkA al acc <;> rfl
    clear hv
    walk_at "dd"
    exact ⟨_, Sub.refl _, q⟩)

def R_Charge_init (A : Ad) : DSp := fun ds C P => ∃ p a b c d, ds = [.ptr p, a, b, c, d] ∧ C p = some (.ins A.C_Charge []) ∧ P .non (cput C p (.ins A.C_Charge [("key", a), ("account", b), ("till", c), ("mills", d)]))
theorem len_Charge_init (A : Ad) : ∀ ds C P, R_Charge_init A ds C P → ds.length = 5 := by rintro _ _ _ ⟨p, a, b, c, d, rfl, _⟩; rfl
theorem ok_Charge_init (T : Txt K mg A P w) : FnOk P w K mg base CX0 1 A.a_Charge_init A.d_Charge_init ["self", "key", "account", "till", "mills"] (spD K (R_Charge_init A)) :=
  ok_D T.F_Charge_init sc_Charge_init (len_Charge_init A) (fun cdv Ar outer s H E hr =>
    ds_cons (ds_fld T.c_Charge T.n_Charge_key (d_var 0) (d_var 1))
    (ds_cons (ds_fld T.c_Charge T.n_Charge_account (d_var 0) (d_var 2))
    (ds_cons (ds_fld T.c_Charge T.n_Charge_till (d_var 0) (d_var 3))
    (ds_one (ds_fld T.c_Charge T.n_Charge_mills (d_var 0) (d_var 4)))))) (fun ds C Pk h => by
    obtain ⟨p, a, b, c, d, rfl, hp, q⟩ := h
    walk_at "dd"
    exact ⟨by decide, by decide, by decide, by decide, _, Sub.refl _, q⟩)

/-- a run of charging: where it stands -/
structure RunAt (A : Ad) (C : Cells) (p pc ph pu p1 p2 : Addr) (hi : Hist) (ts : Tab) (al : Alw) (rs : Rs) : Prop where
  run : C p = some (.ins A.C_ChargeRun [("contracts", .ptr pc), ("tariffs", .dK (tsK A ts)), ("allowances", .dK (alK al)), ("used", .ptr pu), ("charges", .ptr p1), ("left_out", .ptr p2)])
  con : C pc = some (.ins A.C_Contracts [("histories", .ptr ph)])
  his : C ph = some (.dK (hiK hi))
  use : C pu = some (.dT (usK rs.u))
  chg : C p1 = some (.lst (rs.ch.map (cgD A)))
  lft : C p2 = some (.lst (rs.lf.map lfD))
  ne : p1 ≠ p2
theorem RunAt.nes {A : Ad} {C : Cells} {p pc ph pu p1 p2 : Addr} {hi : Hist} {ts : Tab} {al : Alw} {rs : Rs} (h : RunAt A C p pc ph pu p1 p2 hi ts al rs) : p ≠ pu ∧ p ≠ p1 ∧ p ≠ p2 ∧ pc ≠ pu ∧ pc ≠ p1 ∧ pc ≠ p2 ∧ ph ≠ pu ∧ ph ≠ p1 ∧ ph ≠ p2 ∧ pu ≠ p1 ∧ pu ≠ p2 := by
  obtain ⟨h0, h1, h2, h3, h4, h5, _⟩ := h
  refine ⟨?_, ?_, ?_, ?_, ?_, ?_, ?_, ?_, ?_, ?_, ?_⟩ <;> intro e <;> subst e <;> simp_all
theorem RunAt.left {A : Ad} {C : Cells} {p pc ph pu p1 p2 : Addr} {hi : Hist} {ts : Tab} {al : Alw} {rs : Rs} (h : RunAt A C p pc ph pu p1 p2 hi ts al rs) (r : Int × Str) :
    RunAt A (cput C p2 (.lst (rs.lf.map lfD ++ [lfD r]))) p pc ph pu p1 p2 hi ts al { rs with lf := rs.lf ++ [r] } := by
  obtain ⟨n1, n2, n3, n4, n5, n6, n7, n8, n9, n10, n11⟩ := h.nes
  refine ⟨(cput_ne n3).trans h.run, (cput_ne n6).trans h.con, (cput_ne n9).trans h.his, (cput_ne n11).trans h.use, (cput_ne h.ne).trans h.chg, ?_, h.ne⟩
  rw [cput_same, List.map_append]; rfl
theorem RunAt.used {A : Ad} {C : Cells} {p pc ph pu p1 p2 : Addr} {hi : Hist} {ts : Tab} {al : Alw} {rs : Rs} (h : RunAt A C p pc ph pu p1 p2 hi ts al rs) (u : Us) :
    RunAt A (cput C pu (.dT (usK u))) p pc ph pu p1 p2 hi ts al { rs with u := u } := by
  obtain ⟨n1, n2, n3, n4, n5, n6, n7, n8, n9, n10, n11⟩ := h.nes
  exact ⟨(cput_ne n1).trans h.run, (cput_ne n4).trans h.con, (cput_ne n7).trans h.his, cput_same, (cput_ne n10.symm).trans h.chg, (cput_ne n11.symm).trans h.lft, h.ne⟩
theorem RunAt.more {A : Ad} {C : Cells} {p pc ph pu p1 p2 : Addr} {hi : Hist} {ts : Tab} {al : Alw} {rs : Rs} (h : RunAt A C p pc ph pu p1 p2 hi ts al rs) (c : Cg) :
    RunAt A (cput C p1 (.lst (rs.ch.map (cgD A) ++ [cgD A c]))) p pc ph pu p1 p2 hi ts al { rs with ch := rs.ch ++ [c] } := by
  obtain ⟨n1, n2, n3, n4, n5, n6, n7, n8, n9, n10, n11⟩ := h.nes
  refine ⟨(cput_ne n2).trans h.run, (cput_ne n5).trans h.con, (cput_ne n8).trans h.his, (cput_ne n10).trans h.use, ?_, (cput_ne h.ne.symm).trans h.lft, h.ne⟩
  rw [cput_same, List.map_append]; rfl
def R_ChargeRun_take (A : Ad) : DSp := fun ds C P => ∃ p pc ph pu p1 p2 hi ts al rs s l, ds = [.ptr p, scD A s] ∧ RunAt A C p pc ph pu p1 p2 hi ts al rs ∧ UOk al rs.u ∧ rs.u.length ≤ 1000 ∧ rs.ch.length ≤ 5000 ∧ rs.lf.length ≤ 1000 ∧ s.pay = some l ∧
  ∀ C', RunAt A C' p pc ph pu p1 p2 hi ts al (takeF hi ts al s rs) → (∀ x c, C x = some c → x ≠ pu → x ≠ p1 → x ≠ p2 → C' x = some c) → P .non C'
theorem len_ChargeRun_take (A : Ad) : ∀ ds C P, R_ChargeRun_take A ds C P → ds.length = 2 := by rintro _ _ _ ⟨p, pc, ph, pu, p1, p2, hi, ts, al, rs, s, l, rfl, _⟩; rfl
theorem ok_ChargeRun_take (T : Txt K mg A P w) : FnOk P w K mg base CX0 6 A.a_ChargeRun_take A.d_ChargeRun_take ["self", "section"] (spD K (R_ChargeRun_take A)) :=
  ok_D T.F_ChargeRun_take sc_ChargeRun_take (len_ChargeRun_take A) (fun cdv Ar outer s H E hr =>
    ds_consL (ds_set 2 sc_ChargeRun_take.nd (d_meth T.c_Contracts T.m_Contracts_in_force (ok_Contracts_in_force T) (hr.mono (by decide)) T.b_Contracts_in_force (d_fld T.c_ChargeRun T.n_ChargeRun_contracts (d_var 0)) (d_cons (d_fld T.c_Section T.n_Section_payer (d_var 1)) (d_cons (d_fld T.c_Section T.n_Section_opened (d_var 1)) (d_nil)))))
    (ds_consL (ds_set 3 sc_ChargeRun_take.nd (d_meth T.c_ChargeRun T.m_ChargeRun_reason_against (ok_ChargeRun_reason_against T) (hr.mono (by decide)) T.b_ChargeRun_reason_against (d_var 0) (d_cons (d_var 1) (d_cons (d_var 2) (d_nil)))))
    (ds_cons (ds_if (d_tcmp op_notN s_notN (d_var 3) (d_non))
      (ds_cons (ds_expr (d_bmL PySem.F.plainAttrs_list PySem.F.slot_list_append PySem.F.type_list_append mt_append s_append (d_fld T.c_ChargeRun T.n_ChargeRun_left_out (d_var 0)) (d_cons (d_tup (d_cons (d_fld T.c_Section T.n_Section_owner (d_var 1)) (d_cons (d_var 3) (d_nil)))) (d_nil))))
      (ds_one (ds_retN)))
      (ds_nil))
    (ds_cons (ds_asg (d_var 2) (dg_tup rfl (dgs_cons (dg_name 4 sc_ChargeRun_take.nd) (dgs_cons (dg_name 5 sc_ChargeRun_take.nd) (dgs_nil)))))
    (ds_cons (ds_set 6 sc_ChargeRun_take.nd (d_op op_fdivW s_divW (d_fld T.c_Section T.n_Section_opened (d_var 1)) (d_kint T.k_MONTH)))
    (ds_consL (ds_set 7 sc_ChargeRun_take.nd (d_callB (call_min2 rfl) s_min2 (by rfl) T.z_min (by decide +kernel) (d_cons (d_fld T.c_Section T.n_Section_seconds (d_var 1)) (d_cons (d_meth T.c_ChargeRun T.m_ChargeRun_free_left (ok_ChargeRun_free_left T) (hr.mono (by decide)) T.b_ChargeRun_free_left (d_var 0) (d_cons (d_var 4) (d_cons (d_var 6) (d_nil)))) (d_nil)))))
    (ds_consL (ds_set 8 sc_ChargeRun_take.nd (d_meth T.c_ChargeRun T.m_ChargeRun_lines_of (ok_ChargeRun_lines_of T) (hr.mono (by decide)) T.b_ChargeRun_lines_of (d_var 0) (d_cons (d_var 1) (d_cons (d_var 5) (d_cons (d_var 7) (d_nil))))))
    (ds_cons (ds_if (d_tcmp op_isN s_isN (d_var 8) (d_non))
      (ds_cons (ds_expr (d_bmL PySem.F.plainAttrs_list PySem.F.slot_list_append PySem.F.type_list_append mt_append s_append (d_fld T.c_ChargeRun T.n_ChargeRun_left_out (d_var 0)) (d_cons (d_tup (d_cons (d_fld T.c_Section T.n_Section_owner (d_var 1)) (d_cons (d_str) (d_nil)))) (d_nil))))
      (ds_one (ds_retN)))
      (ds_nil))
    (ds_cons (ds_setD hr (d_fld T.c_ChargeRun T.n_ChargeRun_used (d_var 0)) (d_tup (d_cons (d_var 4) (d_cons (d_var 6) (d_nil)))) (d_op op_add s_add (dd_get2 hr (d_fld T.c_ChargeRun T.n_ChargeRun_used (d_var 0)) (d_tup (d_cons (d_var 4) (d_cons (d_var 6) (d_nil)))) (d_int)) (d_var 7)))
    (ds_one (ds_for PassesOwn.never rfl (di_list (d_var 8)) (dg_tup rfl (dgs_cons (dg_name 9 sc_ChargeRun_take.nd) (dgs_cons (dg_name 10 sc_ChargeRun_take.nd) (dgs_cons (dg_name 11 sc_ChargeRun_take.nd) (dgs_cons (dg_name 12 sc_ChargeRun_take.nd) (dgs_nil))))))
      (ds_one (ds_expr (d_bmL PySem.F.plainAttrs_list PySem.F.slot_list_append PySem.F.type_list_append mt_append s_append (d_fld T.c_ChargeRun T.n_ChargeRun_charges (d_var 0)) (d_cons (d_makeF T.m_Charge_init (ok_Charge_init T) (hr.mono (by decide)) T.g_Charge T.b_Charge_init (d_cons (d_tup (d_cons (d_fld T.c_Section T.n_Section_owner (d_var 1)) (d_cons (d_var 10) (d_cons (d_var 9) (d_nil))))) (d_cons (d_var 4) (d_cons (d_var 11) (d_cons (d_var 12) (d_nil)))))) (d_nil)))))))))))))))) (fun ds C Pk h => by
    obtain ⟨p, pc, ph, pu, p1, p2, hi, ts, al, rs, s, l, rfl, hR, hu, hlu, hlc, hll, hpay, q⟩ := h
    obtain ⟨n1, n2, n3, n4, n5, n6, n7, n8, n9, n10⟩ := hR.nes
    have r0 := hR.run
    have r1 := hR.con
    have r2 := hR.his
    have r3 := hR.use
    have r4 := hR.chg
    have r5 := hR.lft
    have hp1 : Hid (optS s.pay = .str l) := by show optS s.pay = .str l; rw [hpay]; rfl
    have eT : takeF hi ts al s rs = takeC ts al (inForceF hi l s.op) s rs := by unfold takeF; rw [hpay]
    rw [eT] at q
    clear eT hpay
    have ll : (rs.lf.map lfD).length < 100000 := by rw [List.length_map]; omega
    have hleft : ∀ r : Int × Str, takeC ts al (inForceF hi l s.op) s rs = { rs with lf := rs.lf ++ [r] } → Pk .non (cput C p2 (.lst (rs.lf.map lfD ++ [lfD r]))) := fun r e => by
      rw [e] at q
      exact q _ (hR.left r) fun x c hx _ _ h3 => (cput_ne h3).trans hx
    refine seq_hide fun E' hE => ?_
    simp only [scD]
    walk_at "dd"
    refine ⟨pc, l, s.op, ph, hi, by rw [show optS s.pay = .str l from hp1], r1, r2, ?_⟩
    generalize ho : inForceF hi l s.op = o at hleft q
    subst hE
    dsimp only [List.set_cons_succ, List.set_cons_zero]
    refine seq_hide fun E' hE => ?_
    walk_at "dd"
    refine ⟨p, _, o, _, ts, _, _, _, _, rfl, r0, ?_⟩
    subst hE
    dsimp only [List.set_cons_succ, List.set_cons_zero]
    cases o with
    | none =>
      have e1 : optS (reasonF ts none) = .str "no contract" := rfl
      have hq := hleft (s.k, "no contract") rfl
      simp only [lfD] at hq
      clear hleft q
      rw [e1]
      walk_at "dd"
      exact ⟨by simpa using ll, _, Sub.refl _, hq⟩
    | some o =>
      obtain ⟨a, n⟩ := o
      have e0 : conD (some (a, n)) = .tup [.str a, .str n] := rfl
      cases hn : lkA ts n with
      | none =>
        have e1 : optS (reasonF ts (some (a, n))) = .str "no tariff" := by unfold reasonF; dsimp only; rw [hn]; rfl
        have hq := hleft (s.k, "no tariff") (by unfold takeC; dsimp only; rw [hn])
        simp only [lfD] at hq
        clear hleft q
        rw [e1]
        walk_at "dd"
        exact ⟨by simpa using ll, _, Sub.refl _, hq⟩
      | some t =>
        have e1 : optS (reasonF ts (some (a, n))) = .non := by unfold reasonF; dsimp only; rw [hn]; rfl
        have e2 : takeC ts al (some (a, n)) s rs = takeT t a (min s.sec (alF al a - getU rs.u (a, s.op / 2592000))) s rs := by unfold takeC; dsimp only; rw [hn]
        rw [e2] at q hleft
        rw [e1, e0]
        have hs := s.ok
        have huu := hu (a, s.op / 2592000)
        dsimp only at huu
        walk_at "dd"
        refine ⟨by decide, ?_⟩
        refine seq_hide fun E' hE => ?_
        walk_at "dd"
        refine ⟨p, a, s.op / 2592000, _, _, al, rs.u, pu, _, _, rfl, r0, r3, ?_⟩
        dsimp only
        generalize hfv : min s.sec (alF al a - getU rs.u (a, s.op / 2592000)) = f at q hleft
        have hf0 : 0 ≤ f := by omega
        clear hfv
        subst hE
        dsimp only [List.set_cons_succ, List.set_cons_zero]
        refine seq_hide fun E' hE => ?_
        walk_at "dd"
        refine ⟨p, s, n, f, _, ts, t, _, _, _, _, rfl, r0, hn, hf0, ?_⟩
        subst hE
        dsimp only [List.set_cons_succ, List.set_cons_zero]
        unfold takeT at q hleft
        cases hL : linesF t s f with
        | none =>
          rw [hL] at q hleft
          have hq := hleft (s.k, "no band") rfl
          simp only [lfD] at hq
          have e3 : optL lnD none = .non := rfl
          clear hleft q
          rw [e3]
          walk_at "dd"
          exact ⟨by simpa using ll, _, Sub.refl _, hq⟩
        | some L =>
          have hll5 := linesF_len hL hf0
          rw [hL] at q
          dsimp only at q
          have e3 : optL lnD (some L) = .lst (L.map lnD) := rfl
          have hg : (vaD (usK rs.u) [Sum.inr a, Sum.inl (s.op / 2592000)]).getD (.int 0) = .int (getU rs.u (a, s.op / 2592000)) := us_get rs.u (a, s.op / 2592000)
          have hpu : puD (usK rs.u) [Sum.inr a, Sum.inl (s.op / 2592000)] (.int (getU rs.u (a, s.op / 2592000) + f)) = usK (puA rs.u (a, s.op / 2592000) (getU rs.u (a, s.op / 2592000) + f)) := us_put rs.u (a, s.op / 2592000) _
          have lu : (usK rs.u).length < 100000 := by unfold usK; rw [List.length_map]; omega
          have hR1 := hR.used (puA rs.u (a, s.op / 2592000) (getU rs.u (a, s.op / 2592000) + f))
          clear hleft hL hn e1 e2 huu hs hu
          rw [e3]
          walk_at "dd"
          generalize puA rs.u (a, s.op / 2592000) (getU rs.u (a, s.op / 2592000) + f) = u' at hR1 q
          have hK : ∀ x c, C x = some c → x ≠ pu → cput C pu (.dT (usK u')) x = some c := fun x c hx h => (cput_ne h).trans hx
          clear hpu hg lu r3 r4 r5 ll
          generalize cput C pu (.dT (usK u')) = C1 at hR1 hK
          refine for_map (enc := lnD) (L := L) (fun k ρ' C' => RunAt A C' p pc ph pu p1 p2 hi ts al ⟨u', rs.ch ++ (L.take k).map (mkCg s.k a), rs.lf⟩ ∧ (∀ x c, C x = some c → x ≠ pu → x ≠ p1 → C' x = some c) ∧ ∃ o1 o2 o3 o4, ρ' = [some (.ptr p), some (scD A s), some (.tup [.str a, .str n]), some .non, some (.str a), some (.str n), some (.int (s.op / 2592000)), some (.int f), some (.lst (L.map lnD)), o1, o2, o3, o4]) ⟨?_, fun x c hx h _ => hK x c hx h, _, _, _, _, rfl⟩ ?_ ?_
          · rw [List.take_zero, List.map_nil, List.append_nil]; exact hR1
          · rintro k w ρ' C' hk ⟨hR2, hK2, o1, o2, o3, o4, rfl⟩
            have lk : (L.take k).length ≤ 5 := by rw [List.length_take]; omega
            rw [take_snoc hk]
            clear hk
            generalize hM : (L.take k).map (mkCg s.k a) = M at hR2
            have lM : M.length ≤ 5 := by rw [← hM, List.length_map]; exact lk
            have s0 := hR2.run
            have s4 := hR2.chg
            have hm := hR2.more (mkCg s.k a w)
            simp only [scD, lnD]
            clear r0 r1 r2
            walk_at "dd"
            intro p' hp'
            refine ⟨p', _, _, _, _, rfl, cput_same, rfl, ?_⟩
            rw [cput_cput, cput_same]
            refine ⟨C', Sub.new hp', hp', ?_⟩
            have s4' : C' p1 = some (.lst ((rs.ch ++ M).map (cgD A))) := s4
            rw [s4']
            refine ⟨by rw [List.length_map, List.length_append]; omega, ?_, fun x c hx h1 h2 => (cput_ne h2).trans (hK2 x c hx h1 h2), _, _, _, _, rfl⟩
            have e9 : rs.ch ++ List.map (mkCg s.k a) (List.take k L ++ [w]) = rs.ch ++ M ++ [mkCg s.k a w] := by
              rw [List.map_append, hM, List.append_assoc]; rfl
            rw [e9]
            exact hm
          · rintro ρ' C' ⟨hR2, hK2, o1, o2, o3, o4, rfl⟩
            rw [List.take_length] at hR2
            exact ⟨_, Sub.refl _, q C' hR2 fun x c hx h1 h2 _ => hK2 x c hx h1 h2⟩)

def R_charge_sections (A : Ad) : DSp := fun ds C P => ∃ ss pc ph hi ts al, ds = [.lst (ss.map (scD A)), .ptr pc, .dK (tsK A ts), .dK (alK al)] ∧ ss.length ≤ 200 ∧ NnA al ∧ C pc = some (.ins A.C_Contracts [("histories", .ptr ph)]) ∧ C ph = some (.dK (hiK hi)) ∧
  ∀ C' p1 p2, Sub C C' → C p1 = none → C p2 = none → p1 ≠ p2 → C' p1 = some (.lst ((runF hi ts al ss).ch.map (cgD A))) → C' p2 = some (.lst ((runF hi ts al ss).lf.map lfD)) → P (.tup [.ptr p1, .ptr p2]) C'
theorem len_charge_sections (A : Ad) : ∀ ds C P, R_charge_sections A ds C P → ds.length = 4 := by rintro _ _ _ ⟨ss, pc, ph, hi, ts, al, rfl, _⟩; rfl
theorem ok_charge_sections (T : Txt K mg A P w) : FnOk P w K mg base CX0 7 A.a_charge_sections A.d_charge_sections ["sections", "contracts", "tariffs", "allowances"] (spD K (R_charge_sections A)) :=
  ok_D T.F_charge_sections sc_charge_sections (len_charge_sections A) (fun cdv Ar outer s H E hr =>
    ds_consL (ds_set 4 sc_charge_sections.nd (d_make T.m_ChargeRun_init (ok_ChargeRun_init T) (hr.mono (by decide)) T.g_ChargeRun T.b_ChargeRun_init (d_cons (d_var 1) (d_cons (d_var 2) (d_cons (d_var 3) (d_nil))))))
    (ds_consL (ds_for PassesOwn.never rfl (di_list (d_sortK (ok_section_place T) (hr.mono (by decide)) T.b_section_place T.g_section_place (by rfl) T.z_sorted (by decide +kernel) (d_var 0))) (dg_name 5 sc_charge_sections.nd)
      (ds_one (ds_if (d_not (d_tval (d_meth0 T.c_Section T.m_Section_is_free (ok_Section_is_free T) (hr.mono (by decide)) T.b_Section_is_free (d_var 5))))
        (ds_one (ds_expr (d_meth T.c_ChargeRun T.m_ChargeRun_take (ok_ChargeRun_take T) (hr.mono (by decide)) T.b_ChargeRun_take (d_var 4) (d_cons (d_var 5) (d_nil)))))
        (ds_nil))))
    (ds_one (ds_ret (d_tup (d_cons (d_fld T.c_ChargeRun T.n_ChargeRun_charges (d_var 4)) (d_cons (d_fld T.c_ChargeRun T.n_ChargeRun_left_out (d_var 4)) (d_nil)))))))) (fun ds C Pk h => by
    obtain ⟨ss, pc, ph, hi, ts, al, rfl, hl, hal, hc, hh, q⟩ := h
    refine seq_hide fun E' hE => ?_
    walk_at "dd"
    intro p hp
    refine ⟨p, _, _, _, rfl, cput_same, fun C1 pu p1 p2 c0 c1 c2 c3 n1 n2 n3 n12 hk => ⟨rfl, ?_⟩⟩
    subst hE
    dsimp only [List.set_cons_succ, List.set_cons_zero]
    refine seq_hide fun E' hE => ?_
    have sub1 : Sub C C1 := fun x c hx => by
      have := cell_ne hx hp
      exact hk x c ((cput_ne this).trans hx) this
    walk_at "dd"
    refine ⟨keyD', ?_, fun d hd => ?_, ?_⟩
    · rw [List.map_map]
      exact sorts_keyS ss
    · obtain ⟨s, _, rfl⟩ := List.mem_map.mp hd
      exact ⟨s, rfl, rfl, Sub.refl _⟩
    rw [sort_sc]
    refine for_map (enc := scD A) (L := ss.mergeSort leS) (fun k ρ' C' => RunAt A C' p pc ph pu p1 p2 hi ts al (((ss.mergeSort leS).take k).foldl (stepF hi ts al) ⟨[], [], []⟩) ∧ Sub C C' ∧ ∃ o, ρ' = [some (.lst (ss.map (scD A))), some (.ptr pc), some (.dK (tsK A ts)), some (.dK (alK al)), some (.ptr p), o]) ⟨⟨c0, sub1 _ _ hc, sub1 _ _ hh, c1, c2, c3, n12⟩, sub1, _, rfl⟩ ?_ ?_
    · rintro k s ρ' C' hk ⟨hR, hS, o, rfl⟩
      have e1 : ((ss.mergeSort leS).take (k + 1)).foldl (stepF hi ts al) ⟨[], [], []⟩ = stepF hi ts al (((ss.mergeSort leS).take k).foldl (stepF hi ts al) ⟨[], [], []⟩) s := by
        rw [take_snoc hk, List.foldl_append]; rfl
      have hok := runF_ok (hi := hi) (ts := ts) hal ((ss.mergeSort leS).take k)
      rw [e1]
      have hlk : ((ss.mergeSort leS).take k).length ≤ 200 := by rw [List.length_take, List.length_mergeSort]; omega
      generalize ((ss.mergeSort leS).take k).foldl (stepF hi ts al) ⟨[], [], []⟩ = rs at hR hok
      clear hk e1
      have hlu := hok.lu
      have hlc := hok.lc
      have hll := hok.ll
      walk_at "dd"
      refine ⟨⟨rfl, rfl⟩, s, rfl, ?_⟩
      dsimp only
      cases hf : freeS s with
      | true =>
        have e2 : stepF hi ts al rs s = rs := by unfold stepF; rw [hf, if_pos rfl]
        rw [e2, if_neg (by decide)]
        exact ⟨hR, hS, _, rfl⟩
      | false =>
        have e2 : stepF hi ts al rs s = takeF hi ts al s rs := by unfold stepF; rw [hf, if_neg Bool.false_ne_true]
        obtain ⟨l, hpay⟩ : ∃ l, s.pay = some l := by
          unfold freeS at hf
          cases h : s.pay with
          | none => rw [h] at hf; cases hf
          | some l => exact ⟨l, rfl⟩
        rw [e2, if_pos (by decide), hR.run]
        refine ⟨⟨rfl, rfl⟩, p, pc, ph, pu, p1, p2, hi, ts, al, rs, s, l, rfl, hR, hok.u, by omega, by omega, by omega, hpay, fun C2 hR2 hk2 => ⟨hR2, fun x c hx => ?_, _, rfl⟩⟩
        have hxp := cell_ne hx hp
        have hx1 : cput C p (.ins A.C_ChargeRun []) x = some c := (cput_ne hxp).trans hx
        exact hk2 x c (hS x c hx) (cell_ne hx1 n1) (cell_ne hx1 n2) (cell_ne hx1 n3)
    · rintro ρ' C' ⟨hR, hS, o, rfl⟩
      rw [List.take_of_length_le (by simp only [List.length_mergeSort, Nat.le_refl])] at hR
      have r0 := hR.run
      have q2 := q C' p1 p2 hS (by
        rw [cput_ne (fun z => by rw [z] at n2; rw [cput_same] at n2; cases n2)] at n2; exact n2) (by
        rw [cput_ne (fun z => by rw [z] at n3; rw [cput_same] at n3; cases n3)] at n3; exact n3) n12 hR.chg hR.lft
      subst hE
      walk_at "dd"
      exact ⟨_, Sub.refl _, q2⟩)

def R_Ledger_standing_keys (A : Ad) : DSp := fun ds C P => ∃ pl ps T L, ds = [.ptr pl] ∧ LdS A C pl ps T L ∧ P (.lst ((srtK (T.map fun p => p.1)).map kyD)) C
theorem len_Ledger_standing_keys (A : Ad) : ∀ ds C P, R_Ledger_standing_keys A ds C P → ds.length = 1 := by rintro _ _ _ ⟨pl, ps, T, L, rfl, _⟩; rfl
theorem ok_Ledger_standing_keys (T : Txt K mg A P w) : FnOk P w K mg base CX0 1 A.a_Ledger_standing_keys A.d_Ledger_standing_keys ["self"] (spD K (R_Ledger_standing_keys A)) :=
  ok_D T.F_Ledger_standing_keys sc_Ledger_standing_keys (len_Ledger_standing_keys A) (fun cdv Ar outer s H E hr =>
    ds_one (ds_ret (d_callB (cr_sortedN rfl hr.units T.hq) s_rdA (by rfl) T.z_sorted (by decide +kernel) (d_cons (d_fld T.c_Ledger T.n_Ledger_stands (d_var 0)) (d_nil))))) (fun ds C Pk h => by
    obtain ⟨pl, ps, T, L, rfl, hS, q⟩ := h
    obtain ⟨pz, h1⟩ := hS.obj
    have h2 := hS.tab
    have hk := st_keys T
    have hs := sorts_ky (T.map fun p => p.1) (fun k hk => by
      obtain ⟨p, hp, rfl⟩ := List.mem_map.mp hk
      exact hS.tx p hp)
    have he := sort_ky (T.map fun p => p.1)
    walk_at "dd"
    exact ⟨_, Sub.refl _, q⟩)

def R_Posting_init (A : Ad) : DSp := fun ds C P => ∃ p a k m w, ds = [.ptr p, a, k, m, w] ∧ C p = some (.ins A.C_Posting []) ∧ P .non (cput C p (.ins A.C_Posting [("account", a), ("key", k), ("amount", m), ("written", w)]))
theorem len_Posting_init (A : Ad) : ∀ ds C P, R_Posting_init A ds C P → ds.length = 5 := by rintro _ _ _ ⟨p, a, k, m, w, rfl, _⟩; rfl
theorem ok_Posting_init (T : Txt K mg A P w) : FnOk P w K mg base CX0 1 A.a_Posting_init A.d_Posting_init ["self", "account", "key", "amount", "written"] (spD K (R_Posting_init A)) :=
  ok_D T.F_Posting_init sc_Posting_init (len_Posting_init A) (fun cdv Ar outer s H E hr =>
    ds_cons (ds_fld T.c_Posting T.n_Posting_account (d_var 0) (d_var 1))
    (ds_cons (ds_fld T.c_Posting T.n_Posting_key (d_var 0) (d_var 2))
    (ds_cons (ds_fld T.c_Posting T.n_Posting_amount (d_var 0) (d_var 3))
    (ds_one (ds_fld T.c_Posting T.n_Posting_written (d_var 0) (d_var 4)))))) (fun ds C Pk h => by
    obtain ⟨p, a, k, m, w, rfl, hp, q⟩ := h
    walk_at "dd"
    exact ⟨by decide, by decide, by decide, by decide, _, Sub.refl _, q⟩)

def R_Ledger_post (A : Ad) : DSp := fun ds C P => ∃ pl ps T L k a am clk, ds = [.ptr pl, kyD k, .str a, .int am, .int clk] ∧ LdS A C pl ps T L ∧ TxOk k.2.2 ∧ T.length ≤ 5000 ∧ L.length ≤ 5000 ∧ ∀ C', (∀ x c, C x = some c → x ≠ pl → x ≠ ps → C' x = some c) → LdS A C' pl ps (tabF T k a am) (L ++ fndF (lkA T k) k a am clk) → P (.lst ((fndF (lkA T k) k a am clk).map (poD A))) C'
theorem len_Ledger_post (A : Ad) : ∀ ds C P, R_Ledger_post A ds C P → ds.length = 5 := by rintro _ _ _ ⟨pl, ps, T, L, k, a, am, clk, rfl, _⟩; rfl
theorem ok_Ledger_post (T : Txt K mg A P w) : FnOk P w K mg base CX0 3 A.a_Ledger_post A.d_Ledger_post ["self", "key", "account", "amount", "clock"] (spD K (R_Ledger_post A)) :=
  ok_D T.F_Ledger_post sc_Ledger_post (len_Ledger_post A) (fun cdv Ar outer s H E hr =>
    ds_cons (ds_set 5 sc_Ledger_post.nd (d_nget1 hr.units T.hq (d_fld T.c_Ledger T.n_Ledger_stands (d_var 0)) (d_var 1)))
    (ds_consL (ds_set 6 sc_Ledger_post.nd (d_lstC (d_nil)))
    (ds_cons (ds_set 7 sc_Ledger_post.nd (d_var 3))
    (ds_consL (ds_if ((d_and (d_tcmp op_notN s_notN (d_var 5) (d_non)) (d_and1 (d_tcmp op_eq s_eq (d_ix ix_seq s_ix (d_var 5) (d_int)) (d_var 2)))).pt)
      (ds_one (ds_set 7 sc_Ledger_post.nd (d_op op_sub s_sub (d_var 3) (d_ix ix_seq s_ix (d_var 5) (d_int)))))
      (ds_one (ds_if (d_tcmp op_notN s_notN (d_var 5) (d_non))
        (ds_one (ds_expr (d_bmL PySem.F.plainAttrs_list PySem.F.slot_list_append PySem.F.type_list_append mt_append s_append (d_var 6) (d_cons (d_makeF T.m_Posting_init (ok_Posting_init T) (hr.mono (by decide)) T.g_Posting T.b_Posting_init (d_cons (d_ix ix_seq s_ix (d_var 5) (d_int)) (d_cons (d_var 1) (d_cons (d_un un_neg s_neg (d_ix ix_seq s_ix (d_var 5) (d_int))) (d_cons (d_var 4) (d_nil)))))) (d_nil)))))
        (ds_nil))))
    (ds_consL (ds_if (d_tcmp op_ne s_ne (d_var 7) (d_int))
      (ds_one (ds_expr (d_bmL PySem.F.plainAttrs_list PySem.F.slot_list_append PySem.F.type_list_append mt_append s_append (d_var 6) (d_cons (d_makeF T.m_Posting_init (ok_Posting_init T) (hr.mono (by decide)) T.g_Posting T.b_Posting_init (d_cons (d_var 2) (d_cons (d_var 1) (d_cons (d_var 7) (d_cons (d_var 4) (d_nil)))))) (d_nil)))))
      (ds_nil))
    (ds_consL (ds_if (d_tcmp op_ne s_ne (d_var 3) (d_int))
      (ds_one (ds_setN hr.units T.hq (d_fld T.c_Ledger T.n_Ledger_stands (d_var 0)) (d_var 1) (d_tup (d_cons (d_var 2) (d_cons (d_var 3) (d_nil))))))
      (ds_one (ds_if (d_tcmp op_notN s_notN (d_var 5) (d_non))
        (ds_one (ds_delN hr.units T.hq (d_fld T.c_Ledger T.n_Ledger_stands (d_var 0)) (d_var 1)))
        (ds_nil))))
    (ds_consL (ds_fld T.c_Ledger T.n_Ledger_lines (d_var 0) (d_op op_catS s_cat (d_fld T.c_Ledger T.n_Ledger_lines (d_var 0)) (d_var 6)))
    (ds_one (ds_retF (d_var 6)))))))))) (fun ds C Pk h => by
    obtain ⟨pl, ps, T, L, k, a, am, clk, rfl, hS, hk, hlt, hl, q⟩ := h
    obtain ⟨pz, h1⟩ := hS.obj
    have h2 := hS.tab
    have hv := st_va T k
    have hkb := keyB_kyD k
    have ok := post_bal hS.nd hS.bal k a am clk
    have ok2 := tab_nd hS.nd k a am
    have ok3 := tab_tx hS.tx hk a am
    have hsl := st_len T
    have npls : pl ≠ ps := fun z => by rw [z, h2] at h1; cases h1
    have hfl := fnd_len (lkA T k) k a am clk
    walk_at "dd"
    refine seq_hide fun E' hE => ?_
    walk_at "dd"
    intro pf hpf
    have h1f : ∀ d, cput C pf d pl = some (.ins A.C_Ledger [("lines", .lst (L.map (poD A))), ("stands", .ptr ps), ("stated", pz)]) := fun d => (cput_ne (cell_ne h1 hpf)).trans h1
    have h2f : ∀ d, cput C pf d ps = some (.dN A.pw (stD T)) := fun d => (cput_ne (cell_ne h2 hpf)).trans h2
    have nfl : pl ≠ pf := cell_ne h1 hpf
    have nfs : ps ≠ pf := cell_ne h2 hpf
    -- the rest, from the list of what was found
    have last : ∀ F : List Po, F = fndF (lkA T k) k a am clk → ∀ E2 : DEnds, E2.rt = (endsD Pk).rt → wSeqL (wIfS (wTest (wOp dNe (wVar 3) (wC (D.int 0)))) (wSetN A.pw (wFld A.C_Ledger "stands" (wVar 0)) (wVar 1) (wTup (wCons (wVar 2) (wCons (wVar 3) wNil)))) (wIfS (wTest (wOp (dIsN true) (wVar 5) (wC D.non))) (wDelN A.pw (wFld A.C_Ledger "stands" (wVar 0)) (wVar 1)) wNext)) (wSeqL (wFldSet A.C_Ledger "lines" (wVar 0) (wOp dCat (wFld A.C_Ledger "lines" (wVar 0)) (wVar 6))) (wRetF (wVar 6))) E2
        [some (.ptr pl), some (kyD k), some (.str a), some (.int am), some (.int clk), some ((Option.map vlD (lkA T k)).getD .non), some (.ptr pf), some (.int (chgF (lkA T k) a am))] (cput C pf (.lst (F.map (poD A)))) := by
      intro F hF E2 hE2
      rw [← hF] at q ok hfl
      clear hF
      have fin : ∀ T', T' = tabF T k a am → wSeqL (wFldSet A.C_Ledger "lines" (wVar 0) (wOp dCat (wFld A.C_Ledger "lines" (wVar 0)) (wVar 6))) (wRetF (wVar 6)) E2
          [some (.ptr pl), some (kyD k), some (.str a), some (.int am), some (.int clk), some ((Option.map vlD (lkA T k)).getD .non), some (.ptr pf), some (.int (chgF (lkA T k) a am))] (cput (cput C pf (.lst (F.map (poD A)))) ps (.dN A.pw (stD T'))) := by
        intro T' hT'
        have g1 : cput (cput C pf (.lst (F.map (poD A)))) ps (.dN A.pw (stD T')) pl = some (.ins A.C_Ledger [("lines", .lst (L.map (poD A))), ("stands", .ptr ps), ("stated", pz)]) := (cput_ne npls).trans (h1f _)
        have g2 : cput (cput C pf (.lst (F.map (poD A)))) ps (.dN A.pw (stD T')) pf = some (.lst (F.map (poD A))) := (cput_ne nfs.symm).trans cput_same
        have g3 : cput (cput C pf (.lst (F.map (poD A)))) ps (.dN A.pw (stD T')) ps = some (.dN A.pw (stD T')) := cput_same
        have g5 : ∀ x c, C x = some c → x ≠ ps → cput (cput C pf (.lst (F.map (poD A)))) ps (.dN A.pw (stD T')) x = some c := fun x c hx n1 => (cput_ne n1).trans ((cput_ne (cell_ne hx hpf)).trans hx)
        revert g1 g2 g3 g5
        generalize cput (cput C pf (.lst (F.map (poD A)))) ps (.dN A.pw (stD T')) = C3
        intro g1 g2 g3 g5
        refine seq_hide fun E' hE => ?_
        walk_at "dd"
        refine ⟨by omega, ?_⟩
        subst hE
        have g4 : ∀ d, cput C3 pl d pf = some (.lst (F.map (poD A))) := fun d => (cput_ne nfl.symm).trans g2
        have hLS : ∀ d, d = Cell.ins A.C_Ledger (dput "lines" (.lst (L.map (poD A) ++ F.map (poD A))) [("lines", .lst (L.map (poD A))), ("stands", .ptr ps), ("stated", pz)]) → LdS A (crem (cput C3 pl d) pf) pl ps (tabF T k a am) (L ++ F) := fun d hd => by
          subst hd
          refine ⟨⟨pz, ?_⟩, ?_, ok2, ok3, ok⟩
          · rw [crem_ne nfl, cput_same, List.map_append]; rfl
          · rw [crem_ne nfs, cput_ne npls.symm, g3, hT']
        have hLS := hLS _ rfl
        have hfr : ∀ d x c, C x = some c → x ≠ pl → x ≠ ps → crem (cput C3 pl d) pf x = some c := fun d x c hx n1 n2 => (crem_ne (cell_ne hx hpf)).trans ((cput_ne n1).trans (g5 x c hx n2))
        clear g5
        dsimp only
        walk_at "dd"
        refine ⟨by decide, ?_⟩
        exact ⟨crem _ pf, crem_sub _ _, crem_same, _, Sub.refl _, q _ (hfr _) hLS⟩
      have hpu := st_pu T k (a, am)
      have hdr := st_dr T k
      have h2g := h2f (.lst (F.map (poD A)))
      have h1g := h1f (.lst (F.map (poD A)))
      unfold vlD at hpu
      refine seq_hide fun E3 hE3 => ?_
      unfold tabF at fin
      by_cases z : am = 0
      · subst z
        simp only [if_true] at fin
        cases hs : lkA T k with
        | none =>
          rw [hs] at fin
          have fin := fin T rfl
          rw [cput_self h2g] at fin
          have fin : E3.nx [some (.ptr pl), some (kyD k), some (.str a), some (.int 0), some (.int clk), some D.non, some (.ptr pf), some (.int (chgF none a 0))] (cput C pf (.lst (F.map (poD A)))) := by
            subst hE3
            exact fin
          walk_at "dd"
        | some bx =>
          obtain ⟨b, v⟩ := bx
          rw [hs] at fin hv
          have fin := fin _ rfl
          have fin : E3.nx [some (.ptr pl), some (kyD k), some (.str a), some (.int 0), some (.int clk), some (vlD (b, v)), some (.ptr pf), some (.int (chgF (some (b, v)) a 0))] (cput (cput C pf (.lst (F.map (poD A)))) ps (.dN A.pw (stD (drA T k)))) := by
            subst hE3
            exact fin
          rw [Option.map_some] at hv
          have hvl : vlD (b, v) = .tup [.str b, .int v] := rfl
          rw [hvl] at fin hv
          walk_at "dd"
      · simp only [if_neg z] at fin
        have fin := fin _ rfl
        have fin : E3.nx [some (.ptr pl), some (kyD k), some (.str a), some (.int am), some (.int clk), some ((Option.map vlD (lkA T k)).getD .non), some (.ptr pf), some (.int (chgF (lkA T k) a am))] (cput (cput C pf (.lst (F.map (poD A)))) ps (.dN A.pw (stD (puA T k (a, am))))) := by
          subst hE3
          exact fin
        clear hv hdr
        walk_at "dd"
        omega
    -- what is found
    have snd : ∀ (F0 : List Po) (c : Int), F0 ++ (if c = 0 then [] else [⟨a, k, c, clk⟩]) = fndF (lkA T k) k a am clk → c = chgF (lkA T k) a am → F0.length ≤ 1 → ∀ E2 : DEnds, E2.rt = (endsD Pk).rt →
        wSeqL (wIfS (wTest (wOp dNe (wVar 7) (wC (D.int 0)))) (wDrop (wBML dAppend (wVar 6) (wCons (wMakeF A.C_Posting (R_Posting_init A) [] (wCons (wVar 2) (wCons (wVar 1) (wCons (wVar 7) (wCons (wVar 4) wNil))))) wNil))) wNext)
          (wSeqL (wIfS (wTest (wOp dNe (wVar 3) (wC (D.int 0)))) (wSetN A.pw (wFld A.C_Ledger "stands" (wVar 0)) (wVar 1) (wTup (wCons (wVar 2) (wCons (wVar 3) wNil)))) (wIfS (wTest (wOp (dIsN true) (wVar 5) (wC D.non))) (wDelN A.pw (wFld A.C_Ledger "stands" (wVar 0)) (wVar 1)) wNext)) (wSeqL (wFldSet A.C_Ledger "lines" (wVar 0) (wOp dCat (wFld A.C_Ledger "lines" (wVar 0)) (wVar 6))) (wRetF (wVar 6)))) E2
          [some (.ptr pl), some (kyD k), some (.str a), some (.int am), some (.int clk), some ((Option.map vlD (lkA T k)).getD .non), some (.ptr pf), some (.int c)] (cput C pf (.lst (F0.map (poD A)))) := by
      intro F0 c hF hc hl1 E2 hE2
      subst hc
      refine seq_hide fun E3 hE3 => ?_
      by_cases z : chgF (lkA T k) a am = 0
      · rw [if_pos z, List.append_nil] at hF
        have fin := last F0 hF E2 hE2
        have fin : E3.nx [some (.ptr pl), some (kyD k), some (.str a), some (.int am), some (.int clk), some ((Option.map vlD (lkA T k)).getD .non), some (.ptr pf), some (.int (chgF (lkA T k) a am))] (cput C pf (.lst (F0.map (poD A)))) := by
          subst hE3
          exact fin
        rw [z] at fin ⊢
        clear last hE3 hE2 hE hF
        walk_at "dd"
      · rw [if_neg z] at hF
        have fin := last _ hF E2 hE2
        have fin : E3.nx [some (.ptr pl), some (kyD k), some (.str a), some (.int am), some (.int clk), some ((Option.map vlD (lkA T k)).getD .non), some (.ptr pf), some (.int (chgF (lkA T k) a am))] (cput C pf (.lst ((F0 ++ [(⟨a, k, chgF (lkA T k) a am, clk⟩ : Po)]).map (poD A)))) := by
          subst hE3
          exact fin
        clear last hE3 hE2 hE hF
        rw [List.map_append] at fin
        generalize chgF (lkA T k) a am = c at z fin ⊢
        clear q hv h1f h2f
        walk_at "dd"
        intro x hx
        refine ⟨x, _, _, _, _, rfl, cput_same, rfl, ?_⟩
        rw [cput_cput, cput_same]
        dsimp only
        refine ⟨cput C pf (.lst (F0.map (poD A))), Sub.new hx, hx, ?_⟩
        rw [cput_same]
        dsimp only
        refine ⟨by rw [List.length_map]; omega, ?_⟩
        rw [cput_cput]
        exact fin
    have h1g := h1f (.lst [])
    subst hE
    dsimp only
    clear last
    cases hs : lkA T k with
    | none =>
      rw [hs] at snd
      have fin := snd [] am (by unfold fndF chgF; rfl) rfl (Nat.zero_le _) (endsD Pk) rfl
      simp only [Option.map_none, Option.getD_none, List.map_nil] at fin ⊢
      clear snd hs hv q h1f h2f
      walk_at "dd"
      refine seq_hide fun E2 hE2 => ?_
      have fin : E2.nx [some (.ptr pl), some (kyD k), some (.str a), some (.int am), some (.int clk), some D.non, some (.ptr pf), some (.int am)] (cput C pf (.lst [])) := by
        subst hE2
        exact fin
      clear hE2
      walk_at "dd"
    | some bx =>
      obtain ⟨b, v⟩ := bx
      rw [hs] at snd
      have hvl : vlD (b, v) = .tup [.str b, .int v] := rfl
      by_cases g : b = a
      · subst g
        have fin := snd [] (am - v) (by unfold fndF chgF; simp only [if_true]) (by unfold chgF; simp only [if_true]) (Nat.zero_le _) (endsD Pk) rfl
        simp only [Option.map_some, Option.getD_some, List.map_nil, hvl] at fin ⊢
        clear snd hs hv q h1f h2f
        walk_at "dd"
        refine seq_hide fun E2 hE2 => ?_
        have fin : E2.nx [some (.ptr pl), some (kyD k), some (.str b), some (.int am), some (.int clk), some (.tup [.str b, .int v]), some (.ptr pf), some (.int (am - v))] (cput C pf (.lst [])) := by
          subst hE2
          exact fin
        clear hE2
        walk_at "dd"
      · have fin := snd [⟨b, k, -v, clk⟩] am (by unfold fndF chgF; simp only [if_neg g]) (by unfold chgF; simp only [if_neg g]) (Nat.le_refl _) (endsD Pk) rfl
        simp only [Option.map_some, Option.getD_some, List.map_cons, List.map_nil, hvl] at fin ⊢
        have hna := g
        clear snd hs hv q h1f h2f
        walk_at "dd"
        refine seq_hide fun E2 hE2 => ?_
        have fin : E2.nx [some (.ptr pl), some (kyD k), some (.str a), some (.int am), some (.int clk), some (.tup [.str b, .int v]), some (.ptr pf), some (.int am)] (cput C pf (.lst [poD A ⟨b, k, -v, clk⟩])) := by
          subst hE2
          exact fin
        clear hE2
        walk_at "dd"
        intro x hx
        refine ⟨x, _, _, _, _, rfl, cput_same, rfl, ?_⟩
        rw [cput_cput, cput_same]
        dsimp only
        refine ⟨cput C pf (.lst []), Sub.new hx, hx, ?_⟩
        rw [cput_same]
        dsimp only
        refine ⟨by decide, ?_⟩
        rw [cput_cput]
        exact fin)

def R_Ledger_standing (A : Ad) : DSp := fun ds C P => ∃ pl ps T L k, ds = [.ptr pl, kyD k] ∧ LdS A C pl ps T L ∧ P (((lkA T k).map vlD).getD .non) C
theorem len_Ledger_standing (A : Ad) : ∀ ds C P, R_Ledger_standing A ds C P → ds.length = 2 := by rintro _ _ _ ⟨pl, ps, T, L, k, rfl, _⟩; rfl
theorem ok_Ledger_standing (T : Txt K mg A P w) : FnOk P w K mg base CX0 1 A.a_Ledger_standing A.d_Ledger_standing ["self", "key"] (spD K (R_Ledger_standing A)) :=
  ok_D T.F_Ledger_standing sc_Ledger_standing (len_Ledger_standing A) (fun cdv Ar outer s H E hr =>
    ds_one (ds_ret (d_nget1 hr.units T.hq (d_fld T.c_Ledger T.n_Ledger_stands (d_var 0)) (d_var 1)))) (fun ds C Pk h => by
    obtain ⟨pl, ps, T, L, k, rfl, hS, q⟩ := h
    obtain ⟨pz, h1⟩ := hS.obj
    have h2 := hS.tab
    have hv := st_va T k
    have hk := keyB_kyD k
    walk_at "dd"
    exact ⟨_, Sub.refl _, q⟩)

def R_law_book (A : Ad) : DSp := fun ds C P => ∃ (pl ps : Addr) (T : Tb) (Ls : List Po) (L : List Cg) (clk : Int), ds = [.ptr pl, .lst (L.map (cgD A)), .int clk] ∧ LdS A C pl ps T Ls ∧ ChOk L ∧ L.length ≤ 200 ∧ T.length ≤ 200 ∧ Ls.length ≤ 3600 ∧ ∀ C' T' Ls', (∀ x c, C x = some c → x ≠ pl → x ≠ ps → C' x = some c) → LdS A C' pl ps T' Ls' → T'.length ≤ L.length → Ls'.length ≤ Ls.length + 1200 → (∀ s, sumT T' s = chS L s) → P .non C'
theorem len_law_book (A : Ad) : ∀ ds C P, R_law_book A ds C P → ds.length = 3 := by rintro _ _ _ ⟨pl, ps, T, Ls, L, clk, rfl, _⟩; rfl
theorem ok_law_book (T : Txt K mg A P w) : FnOk P w K mg base CX0 4 A.a_law_book A.d_law_book ["ledger", "charges", "clock"] (spD K (R_law_book A)) :=
  ok_D T.F_law_book sc_law_book (len_law_book A) (fun cdv Ar outer s H E hr =>
    ds_consL (ds_setLc 3 rfl sc_law_book.nd rfl rfl (sw_true rfl rfl rfl (by decide +kernel)) (di_list (d_var 1)) (blkOk_by (own := [("charge", 4)]) (N := ["ledger", "charges", "clock", "keys", "charge", "key"]) (sc := defScope s_law_book) (by decide +kernel)) (by decide) (fun _ _ _ _ _ => dg_name 4 sc_law_book.nd) (fun _ _ _ _ _ => dts_nil) (fun _ _ _ _ _ => d_fld T.c_Charge T.n_Charge_key (d_var 4)))
    (ds_consL (ds_for PassesOwn.never rfl (di_list (d_var 1)) (dg_name 4 sc_law_book.nd)
      (ds_one (ds_expr (d_meth T.c_Ledger T.m_Ledger_post (ok_Ledger_post T) (hr.mono (by decide)) T.b_Ledger_post (d_var 0) (d_cons (d_fld T.c_Charge T.n_Charge_key (d_var 4)) (d_cons (d_fld T.c_Charge T.n_Charge_account (d_var 4)) (d_cons (d_fld T.c_Charge T.n_Charge_mills (d_var 4)) (d_cons (d_var 2) (d_nil)))))))))
    (ds_one (ds_for PassesOwn.never rfl (di_list (d_meth0 T.c_Ledger T.m_Ledger_standing_keys (ok_Ledger_standing_keys T) (hr.mono (by decide)) T.b_Ledger_standing_keys (d_var 0))) (dg_name 5 sc_law_book.nd)
      (ds_one (ds_if (d_tcmp (op_notInQ hr.units2) s_inD (d_var 5) (d_var 3))
        (ds_one (ds_expr (d_meth T.c_Ledger T.m_Ledger_post (ok_Ledger_post T) (hr.mono (by decide)) T.b_Ledger_post (d_var 0) (d_cons (d_var 5) (d_cons (d_ix ix_seq s_ix (d_meth T.c_Ledger T.m_Ledger_standing (ok_Ledger_standing T) (hr.mono (by decide)) T.b_Ledger_standing (d_var 0) (d_cons (d_var 5) (d_nil))) (d_int)) (d_cons (d_int) (d_cons (d_var 2) (d_nil))))))))
        (ds_nil))))))) (fun ds C Pk h => by
    obtain ⟨pl, ps, T, Ls, L, clk, rfl, hS, hL, hl, hT, hLs, q⟩ := h
    refine seq_hide fun E' hE => ?_
    walk_at "dd"
    refine lc_map (L := L) (enc := cgD A) (fun c => some (kyD (ckey c))) (fun _ _ => trivial) (by omega) (fun i c C' Q hi hs hq => ?_) ?_
    · have f2 := fc_k A c
      walk_at "dd"
    · rw [show L.filterMap (fun c => some (kyD (ckey c))) = (L.map ckey).map kyD by rw [List.map_map]; exact congrFun List.filterMap_eq_map L]
      subst hE
      dsimp only
      refine seq_hide fun E' hE => ?_
      walk_at "dd"
      refine for_map (fun j ρ' C' => (∃ o4 o5, ρ' = [some (.ptr pl), some (.lst (L.map (cgD A))), some (.int clk), some (.lst ((L.map ckey).map kyD)), o4, o5]) ∧ ∃ T1 Ls1, LdS A C' pl ps T1 Ls1 ∧ (∀ x c, C x = some c → x ≠ pl → x ≠ ps → C' x = some c) ∧ T1.length ≤ T.length + j ∧ Ls1.length ≤ Ls.length + 2 * j ∧ ∀ k, lkA T1 k = if k ∈ (L.take j).map ckey then (lkA (ctM L) k).bind nzO else lkA T k) ⟨⟨_, _, rfl⟩, T, Ls, hS, fun x c h _ _ => h, Nat.le_refl _, Nat.le_refl _, fun k => by simp⟩ ?_ ?_
      · rintro j x ρ' C' hj ⟨⟨o4, o5, rfl⟩, T1, Ls1, hS1, hfr, hT1, hLs1, hlk⟩
        have f1 := fc_a A x
        have f2 := fc_k A x
        have f3 := fc_m A x
        have hxm := List.mem_of_getElem? hj
        have hjl := (List.getElem?_eq_some_iff.mp hj).1
        obtain ⟨pz, ho⟩ := hS1.obj
        have hfl := fnd_len (lkA T1 (ckey x)) (ckey x) x.acc x.mi clk
        have htl := tab_len T1 (ckey x) x.acc x.mi
        walk_at "dd"
        refine ⟨pl, ps, T1, Ls1, ckey x, x.acc, x.mi, clk, rfl, hS1, lab_tx (hL.lab x hxm), by omega, by omega, fun C2 hfr2 hS2 => ?_⟩
        refine ⟨⟨_, _, rfl⟩, _, _, hS2, fun y c hy n1 n2 => hfr2 y c (hfr y c hy n1 n2) n1 n2, by omega, by rw [List.length_append]; omega, fun k => ?_⟩
        rw [tab_lk, hlk, take_snoc hj, List.map_append]
        have hct : lkA (ctM L) (ckey x) = some (x.acc, x.mi) := lkA_mem (by rw [ctM_keys]; exact hL.nd) (List.mem_map.mpr ⟨x, hxm, rfl⟩)
        by_cases g : k = ckey x
        · subst g
          have hin : ckey x ∈ (L.take j).map ckey ++ [x].map ckey := List.mem_append_right _ (by rw [List.map_cons]; exact List.mem_cons_self)
          rw [if_pos rfl, if_pos hin, hct]; rfl
        · rw [if_neg g]
          by_cases g2 : k ∈ (L.take j).map ckey
          · rw [if_pos g2, if_pos (List.mem_append_left _ g2)]
          · rw [if_neg g2, if_neg (by simp only [List.mem_append, List.map_cons, List.map_nil, List.mem_cons, List.not_mem_nil, or_false]; exact fun z => z.elim g2 g)]
      · rintro ρ' C' ⟨⟨o4, o5, rfl⟩, T1, Ls1, hS1, hfr, hT1, hLs1, hlk⟩
        rw [List.take_length] at hlk
        subst hE
        dsimp only
        obtain ⟨pz, ho⟩ := hS1.obj
        walk_at "dd"
        refine ⟨pl, ps, T1, Ls1, rfl, hS1, ?_⟩
        have hperm := srtK_perm (T1.map fun p => p.1)
        have hsn : (srtK (T1.map fun p => p.1)).Nodup := hperm.nodup_iff.mpr hS1.nd
        have hsl : (srtK (T1.map fun p => p.1)).length = T1.length := by rw [hperm.length_eq, List.length_map]
        have hsm : ∀ k, k ∈ srtK (T1.map fun p => p.1) ↔ k ∈ T1.map fun p => p.1 := fun k => hperm.mem_iff
        have htx : ∀ k ∈ T1.map (fun p => p.1), TxOk k.2.2 := fun k hk => by
          obtain ⟨p, hp, rfl⟩ := List.mem_map.mp hk
          exact hS1.tx p hp
        clear hperm
        revert hsn hsl hsm
        generalize srtK (T1.map fun p => p.1) = S
        intro hsn hsl hsm
        have hdm : Dat 3 (.lst ((L.map ckey).map kyD)) := .lst fun d hd => by
          obtain ⟨k, hk, rfl⟩ := List.mem_map.mp hd
          obtain ⟨c, hc, rfl⟩ := List.mem_map.mp hk
          exact dat_kyD _ (lab_tx (hL.lab c hc))
        refine for_map (L := S) (enc := kyD) (fun j ρ' C2 => (∃ o5, ρ' = [some (.ptr pl), some (.lst (L.map (cgD A))), some (.int clk), some (.lst ((L.map ckey).map kyD)), o4, o5]) ∧ ∃ T2 Ls2, LdS A C2 pl ps T2 Ls2 ∧ (∀ x c, C x = some c → x ≠ pl → x ≠ ps → C2 x = some c) ∧ T2.length ≤ T1.length ∧ Ls2.length ≤ Ls1.length + 2 * j ∧ ∀ k, lkA T2 k = if k ∈ S.take j ∧ k ∉ L.map ckey then none else lkA T1 k) ⟨⟨_, rfl⟩, T1, Ls1, hS1, hfr, Nat.le_refl _, Nat.le_refl _, fun k => by simp⟩ ?_ ?_
        · rintro j k ρ' C2 hj ⟨⟨o5, rfl⟩, T2, Ls2, hS2, hfr2, hT2, hLs2, hlk2⟩
          have hkm := List.mem_of_getElem? hj
          have hjl := (List.getElem?_eq_some_iff.mp hj).1
          have hk1 := (hsm k).mp hkm
          have hktx := htx k hk1
          have hdk := dat_mono (dat_kyD k hktx) (show 2 ≤ 3 by decide)
          have hany : (((L.map ckey).map kyD).any fun z => z.eqb (kyD k)) = decide (k ∈ L.map ckey) := by
            rw [List.any_map, Bool.eq_iff_iff, List.any_eq_true, decide_eq_true_eq]
            constructor
            · rintro ⟨y, hy, h⟩
              have h : (kyD y).eqb (kyD k) = true := h
              rw [kyD_eqb] at h
              rw [← of_decide_eq_true h]; exact hy
            · intro h
              exact ⟨k, h, by show (kyD k).eqb (kyD k) = true; rw [kyD_eqb]; exact decide_eq_true rfl⟩
          obtain ⟨pz2, ho2⟩ := hS2.obj
          have hts : S.take (j + 1) = S.take j ++ [k] := take_snoc hj
          by_cases g : k ∈ L.map ckey
          · rw [decide_eq_true g] at hany
            have fin : ∀ k', lkA T2 k' = if k' ∈ S.take (j + 1) ∧ k' ∉ L.map ckey then none else lkA T1 k' := fun k' => by
              rw [hlk2, hts]
              by_cases z : k' = k
              · rw [z, if_neg (fun y => y.2 g), if_neg (fun y => y.2 g)]
              · by_cases z2 : k' ∈ S.take j ∧ k' ∉ L.map ckey
                · rw [if_pos z2, if_pos ⟨List.mem_append_left _ z2.1, z2.2⟩]
                · rw [if_neg z2, if_neg (fun y => z2 ⟨(List.mem_append.mp y.1).elim id fun w => absurd (by simpa using w) z, y.2⟩)]
            have fin2 : ∃ T2 Ls2, LdS A C2 pl ps T2 Ls2 ∧ (∀ x c, C x = some c → x ≠ pl → x ≠ ps → C2 x = some c) ∧ T2.length ≤ T1.length ∧ Ls2.length ≤ Ls1.length + 2 * (j + 1) ∧ ∀ k', lkA T2 k' = if k' ∈ S.take (j + 1) ∧ k' ∉ L.map ckey then none else lkA T1 k' := ⟨T2, Ls2, hS2, hfr2, hT2, by omega, fin⟩
            clear fin hlk2 hlk hfr2 hfr hts htx hsm hj q
            walk_at "dd"
            refine ⟨3, by decide, hdk, hdm, ?_⟩
            rw [if_neg (by rw [show ∀ C x, D.res C (kyD x) = kyD x from fun _ _ => rfl, hany]; decide)]
            exact ⟨_, rfl⟩
          · rw [decide_eq_false g] at hany
            have hnt : k ∉ S.take j := fun hm => by
              have e : S = S.take j ++ (k :: S.drop (j + 1)) := by
                conv => lhs; rw [← List.take_append_drop j S]
                rw [List.drop_eq_getElem_cons hjl, (List.getElem?_eq_some_iff.mp hj).2]
              rw [e, List.nodup_append] at hsn
              exact hsn.2.2 _ hm _ List.mem_cons_self rfl
            obtain ⟨v, hv⟩ : ∃ v, lkA T2 k = some v := by
              rw [hlk2, if_neg (fun y => hnt y.1)]
              cases h : lkA T1 k with
              | some v => exact ⟨v, rfl⟩
              | none => exact absurd hk1 (lkA_none.mp h)
            have hlen : (tabF T2 k v.1 0).length ≤ T2.length := by
              unfold tabF
              rw [if_pos rfl, hv]
              exact List.length_filter_le _ _
            have hfl := fnd_len (lkA T2 k) k v.1 0 clk
            have fin : ∀ k', lkA (tabF T2 k v.1 0) k' = if k' ∈ S.take (j + 1) ∧ k' ∉ L.map ckey then none else lkA T1 k' := fun k' => by
              rw [tab_lk, hlk2, hts]
              by_cases z : k' = k
              · rw [if_pos z, if_pos rfl, if_pos ⟨by rw [z]; exact List.mem_append_right _ List.mem_cons_self, by rw [z]; exact g⟩]
              · rw [if_neg z]
                by_cases z2 : k' ∈ S.take j ∧ k' ∉ L.map ckey
                · rw [if_pos z2, if_pos ⟨List.mem_append_left _ z2.1, z2.2⟩]
                · rw [if_neg z2, if_neg (fun y => z2 ⟨(List.mem_append.mp y.1).elim id fun w => absurd (by simpa using w) z, y.2⟩)]
            clear hlk2 hlk hts htx hsm hj q
            walk_at "dd"
            refine ⟨3, by decide, hdk, hdm, ?_⟩
            rw [if_pos (by rw [show ∀ C x, D.res C (kyD x) = kyD x from fun _ _ => rfl, hany]; decide)]
            refine ⟨pl, ps, T2, Ls2, k, rfl, hS2, ?_⟩
            rw [hv, Option.map_some, Option.getD_some]
            dsimp only
            rw [show ∀ C, itemOf (vlD v) C 0 = some (.str v.1) from fun C => by unfold vlD; rw [itemOf_tup, atI_zero]]
            exact ⟨pl, ps, T2, Ls2, k, v.1, 0, clk, rfl, hS2, hktx, by omega, by omega, fun C3 hfr3 hS3 => ⟨⟨_, rfl⟩, _, _, hS3, fun y c hy n1 n2 => hfr3 y c (hfr2 y c hy n1 n2) n1 n2, by omega, by rw [List.length_append]; omega, fin⟩⟩
        · rintro ρ' C2 ⟨⟨o5, rfl⟩, T2, Ls2, hS2, hfr2, hT2, hLs2, hlk2⟩
          rw [List.take_length] at hlk2
          have hbn : ∀ k, lkA T2 k = (lkA (ctM L) k).bind nzO := fun k => by
            rw [hlk2, hlk]
            by_cases g : k ∈ L.map ckey
            · rw [if_neg (fun y => y.2 g), if_pos g]
            · have hn : lkA (ctM L) k = none := lkA_none.mpr (by rw [ctM_keys]; exact g)
              rw [hn]
              by_cases z : k ∈ S
              · rw [if_pos ⟨z, g⟩]; rfl
              · rw [if_neg (fun y => z y.1), if_neg g]
                have : lkA T1 k = none := lkA_none.mpr (fun y => z ((hsm k).mpr y))
                rw [hlk, if_neg g] at this
                rw [this]; rfl
          have hsum : ∀ s, sumT T2 s = chS L s := fun s => by
            rw [sum_same hS2.nd (by rw [ctM_keys]; exact hL.nd) hbn, ctM_sum]
          have hlen : T2.length ≤ L.length := by
            have hsub : ∀ k ∈ T2.map (fun p => p.1), k ∈ L.map ckey := fun k hk => by
              cases h : lkA T2 k with
              | none => exact absurd hk (lkA_none.mp h)
              | some v =>
                rw [hbn] at h
                obtain ⟨w, hw, _⟩ := Option.bind_eq_some_iff.mp h
                rw [← ctM_keys]
                by_cases z : k ∈ (ctM L).map fun p => p.1
                · exact z
                · rw [lkA_none.mpr z] at hw; cases hw
            have := nodup_len hS2.nd hsub
            rwa [List.length_map, List.length_map] at this
          exact ⟨_, Sub.refl _, q C2 T2 Ls2 hfr2 hS2 hlen (by omega) hsum⟩)

def R_account_sums (A : Ad) : DSp := fun ds C P => ∃ L : List Cg, ds = [.lst (L.map (cgD A))] ∧ L.length ≤ 1000 ∧ P (.dK (balD (acT L))) C
theorem len_account_sums (A : Ad) : ∀ ds C P, R_account_sums A ds C P → ds.length = 1 := by rintro _ _ _ ⟨L, rfl, _⟩; rfl
theorem ok_account_sums (T : Txt K mg A P w) : FnOk P w K mg base CX0 1 A.a_account_sums A.d_account_sums ["charges"] (spD K (R_account_sums A)) :=
  ok_D T.F_account_sums sc_account_sums (len_account_sums A) (fun cdv Ar outer s H E hr =>
    ds_consL (ds_set 1 sc_account_sums.nd (d_newK))
    (ds_consL (ds_for PassesOwn.never rfl (di_list (d_var 0)) (dg_name 2 sc_account_sums.nd)
      (ds_one (ds_setD hr (d_var 1) (d_fld T.c_Charge T.n_Charge_account (d_var 2)) (d_op op_add s_add (dd_get2 hr (d_var 1) (d_fld T.c_Charge T.n_Charge_account (d_var 2)) (d_int)) (d_fld T.c_Charge T.n_Charge_mills (d_var 2))))))
    (ds_one (ds_retF (d_var 1))))) (fun ds C Pk h => by
    obtain ⟨L, rfl, hl, q⟩ := h
    refine seq_hide fun E' hE => ?_
    walk_at "dd"
    intro p hp
    subst hE
    dsimp only
    refine seq_hide fun E' hE => ?_
    walk_at "dd"
    refine for_map (fun j ρ' C' => (∃ o, ρ' = [some (.lst (L.map (cgD A))), some (.ptr p), o]) ∧ C' = cput C p (.dK (balD (acT (L.take j))))) ⟨⟨_, rfl⟩, rfl⟩ ?_ ?_
    · rintro j x ρ' C' hj ⟨⟨o, rfl⟩, rfl⟩
      have f1 := fc_a A x
      have f3 := fc_m A x
      have hlen := acT_len (L.take j)
      have hlk := List.length_take_le' j L
      rw [take_snoc hj, acT_snoc]
      unfold acS
      revert hlen
      generalize acT (L.take j) = t
      intro hlen
      have hv := bal_va t x.acc
      have hbl := bal_len t
      cases hs : lkA t x.acc with
      | none =>
        rw [hs] at hv
        have hpu := bal_pu t x.acc x.mi
        simp only [Option.map_none] at hv
        clear hs
        walk_at "dd"
        exact ⟨by omega, _, rfl⟩
      | some y =>
        rw [hs] at hv
        have hpu := bal_pu t x.acc (y + x.mi)
        simp only [Option.map_some] at hv
        clear hs
        walk_at "dd"
        exact ⟨by omega, _, rfl⟩
    · rintro ρ' C' ⟨⟨o, rfl⟩, rfl⟩
      rw [List.take_length]
      subst hE
      walk_at "dd"
      exact ⟨C, Sub.new hp, hp, _, Sub.refl _, q⟩)

def R_charge_table (A : Ad) : DSp := fun ds C P => ∃ L : List Cg, ds = [.lst (L.map (cgD A))] ∧ (L.map ckey).Nodup ∧ L.length ≤ 1000 ∧ ∀ p C', Sub C C' → C p = none → C' p = some (.dN A.pw (stD (ctM L))) → P (.ptr p) C'
theorem len_charge_table (A : Ad) : ∀ ds C P, R_charge_table A ds C P → ds.length = 1 := by rintro _ _ _ ⟨L, rfl, _⟩; rfl
theorem ok_charge_table (T : Txt K mg A P w) : FnOk P w K mg base CX0 1 A.a_charge_table A.d_charge_table ["charges"] (spD K (R_charge_table A)) :=
  ok_D T.F_charge_table sc_charge_table (len_charge_table A) (fun cdv Ar outer s H E hr =>
    ds_consL (ds_set 1 sc_charge_table.nd (d_newN (q := A.pw)))
    (ds_consL (ds_for PassesOwn.never rfl (di_list (d_var 0)) (dg_name 2 sc_charge_table.nd)
      (ds_one (ds_setN hr.units T.hq (d_var 1) (d_fld T.c_Charge T.n_Charge_key (d_var 2)) (d_tup (d_cons (d_fld T.c_Charge T.n_Charge_account (d_var 2)) (d_cons (d_fld T.c_Charge T.n_Charge_mills (d_var 2)) (d_nil)))))))
    (ds_one (ds_ret (d_var 1))))) (fun ds C Pk h => by
    obtain ⟨L, rfl, nd, hl, q⟩ := h
    refine seq_hide fun E' hE => ?_
    walk_at "dd"
    intro p hp
    subst hE
    dsimp only
    refine seq_hide fun E' hE => ?_
    walk_at "dd"
    refine for_map (fun j ρ' C' => (∃ o, ρ' = [some (.lst (L.map (cgD A))), some (.ptr p), o]) ∧ C' = cput C p (.dN A.pw (stD (ctM (L.take j))))) ⟨⟨_, rfl⟩, rfl⟩ ?_ ?_
    · rintro j x ρ' C' hj ⟨⟨o, rfl⟩, rfl⟩
      have f1 := fc_a A x
      have f2 := fc_k A x
      have f3 := fc_m A x
      have hkb := keyB_kyD (ckey x)
      have hlk := List.length_take_le' j L
      have hno : ckey x ∉ (L.take j).map ckey := fun hm => by
        have hjl := (List.getElem?_eq_some_iff.mp hj).1
        have e : L = L.take j ++ (x :: L.drop (j + 1)) := by
          conv => lhs; rw [← List.take_append_drop j L]
          rw [List.drop_eq_getElem_cons hjl, (List.getElem?_eq_some_iff.mp hj).2]
        rw [e, List.map_append, List.nodup_append] at nd
        exact nd.2.2 _ hm _ (by rw [List.map_cons]; exact List.mem_cons_self) rfl
      have hpu := st_pu (ctM (L.take j)) (ckey x) (x.acc, x.mi)
      rw [ctM_snoc hno] at hpu
      have hln : (stD (ctM (L.take j))).length = (L.take j).length := by rw [st_len]; unfold ctM; rw [List.length_map]
      unfold vlD at hpu
      rw [take_snoc hj]
      clear q nd hE hno hj
      walk_at "dd"
      exact ⟨by omega, _, rfl⟩
    · rintro ρ' C' ⟨⟨o, rfl⟩, rfl⟩
      rw [List.take_length]
      subst hE
      have q2 := q p _ (Sub.new hp) hp cput_same
      walk_at "dd"
      exact ⟨_, Sub.refl _, q2⟩)

def R_differences (A : Ad) : DSp := fun ds C P => ∃ L M : List Cg, ds = [.lst (L.map (cgD A)), .lst (M.map (cgD A))] ∧ ChOk L ∧ ChOk M ∧ L.length ≤ 1000 ∧ M.length ≤ 1000 ∧ ∀ C', Sub C C' → P (.lst (difD (ctM L) (ctM M))) C'
theorem len_differences (A : Ad) : ∀ ds C P, R_differences A ds C P → ds.length = 2 := by rintro _ _ _ ⟨L, M, rfl, _⟩; rfl
theorem ok_differences (T : Txt K mg A P w) : FnOk P w K mg base CX0 2 A.a_differences A.d_differences ["before", "after"] (spD K (R_differences A)) :=
  ok_D T.F_differences sc_differences (len_differences A) (fun cdv Ar outer s H E hr =>
    ds_consL (ds_set 2 sc_differences.nd (d_call (ok_charge_table T) (hr.mono (by decide)) T.g_charge_table T.F_charge_table.kp T.b_charge_table (d_cons (d_var 0) (d_nil))))
    (ds_consL (ds_set 3 sc_differences.nd (d_call (ok_charge_table T) (hr.mono (by decide)) T.g_charge_table T.F_charge_table.kp T.b_charge_table (d_cons (d_var 1) (d_nil))))
    (ds_consL (ds_set 4 sc_differences.nd (d_callB (cr_sortedD hr.units) s_sortD (by rfl) T.z_sorted (by decide +kernel) (d_cons (d_op op_catS s_cat (d_callTy (cr_listN rfl T.hq) s_rdA (by rfl) T.z_list (by decide +kernel) (d_cons (d_var 2) (d_nil))) (d_lock (pVar 3) (d_lc rfl sc_differences.nd (di_keysN (d_var 3)) (blkOk_by (own := [("key", 5)]) (N := ["before", "after", "old", "new", "keys", "key"]) (sc := defScope s_differences) (by decide +kernel)) (by decide) (fun _ _ _ _ _ => dg_name 5 sc_differences.nd) (fun _ _ _ _ _ => dts_one (d_tcmp (op_notInN hr.units T.hq) s_rd (d_var 5) (d_var 2))) (fun _ _ _ _ _ => d_var 5)))) (d_nil))))
    (ds_one (ds_ret (d_lc rfl sc_differences.nd (di_list (d_var 4)) (blkOk_by (own := [("key", 5)]) (N := ["before", "after", "old", "new", "keys", "key"]) (sc := defScope s_differences) (by decide +kernel)) (by decide) (fun _ _ _ _ _ => dg_name 5 sc_differences.nd) (fun _ _ _ _ _ => dts_one (d_tcmp (op_neD hr.units) s_neD (d_nget1 hr.units T.hq (d_var 2) (d_var 5)) (d_nget1 hr.units T.hq (d_var 3) (d_var 5)))) (fun _ _ _ _ _ => d_tup (d_cons (d_var 5) (d_cons (d_nget1 hr.units T.hq (d_var 2) (d_var 5)) (d_cons (d_nget1 hr.units T.hq (d_var 3) (d_var 5)) (d_nil))))))))))) (fun ds C Pk h => by
    obtain ⟨L, M, rfl, hL, hM, hl, hm, q⟩ := h
    refine seq_hide fun E' hE => ?_
    walk_at "dd"
    refine ⟨L, rfl, hL.nd, hl, fun p1 C1 hS1 hp1 hc1 => ?_⟩
    subst hE
    dsimp only
    refine seq_hide fun E' hE => ?_
    walk_at "dd"
    refine ⟨M, rfl, hM.nd, hm, fun p2 C2 hS2 hp2 hc2 => ?_⟩
    subst hE
    dsimp only
    have hc1' := hS2 _ _ hc1
    have n12 : p1 ≠ p2 := cell_ne hc1 hp2
    have hll : (ctM L).length = L.length := by unfold ctM; rw [List.length_map]
    have hml : (ctM M).length = M.length := by unfold ctM; rw [List.length_map]
    have hS := hS1.trans hS2
    refine seq_hide fun E' hE => ?_
    walk_at "dd"
    refine lckN hc2 rfl (fun k => decide (k ∉ (ctM L).map fun p => p.1)) kyD (by omega) (fun k hk C' Q hC hQ => ?_) (fun k hk C' Q hC hQ => ?_) ?_
    · obtain ⟨od, ws, hs⟩ := hC
      have hcc : C' p1 = some (.dN A.pw (stD (ctM L))) := hs _ _ ((cput_ne n12).trans hc1')
      have hkb := keyB_kyD k
      have hin := in_st (ctM L) k
      clear hc1' hc1 hc2 hE q hs hS hS1 hS2
      walk_at "dd"
      rw [show (!decide (k ∈ (ctM L).map fun p => p.1)) = decide (k ∉ (ctM L).map fun p => p.1) by simp]
      exact hQ
    · walk_at "dd"
    rw [st_keys]
    have hall : (ctM L).map (fun p => p.1) ++ ((ctM M).map fun p => p.1).filter (fun k => decide (k ∉ (ctM L).map fun p => p.1)) = allK (ctM L) (ctM M) := rfl
    have hlen : (allK (ctM L) (ctM M)).length ≤ 2000 := by
      unfold allK
      rw [List.length_append, List.length_map]
      have := List.length_filter_le (fun k => decide (k ∉ (ctM L).map fun p => p.1)) ((ctM M).map fun p => p.1)
      rw [List.length_map] at this
      omega
    have htx : ∀ k ∈ allK (ctM L) (ctM M), TxOk k.2.2 := fun k hk => by
      rcases List.mem_append.mp hk with hk | hk
      · exact ctM_ktx hL k hk
      · exact ctM_ktx hM k (List.mem_filter.mp hk).1
    have hso := sorts_ky (allK (ctM L) (ctM M)) htx
    have hse := sort_ky (allK (ctM L) (ctM M))
    have hf1 : ∀ k v, lkA (ctM L) k = some v → TxOk v.1 := ctM_tx hL
    have hf2 : ∀ k v, lkA (ctM M) k = some v → TxOk v.1 := ctM_tx hM
    rw [← hall, List.map_append] at hso hse
    rw [hall] at hse
    show _ ≤ 100000 ∧ dSortD [D.lst _] C2 _
    unfold dSortD
    simp only [itsOf_lst, seqOf_lst]
    refine ⟨by rw [List.length_map, List.length_map, List.length_map]; have := List.length_filter_le (fun k => decide (k ∉ (ctM L).map fun p => p.1)) ((ctM M).map fun p => p.1); rw [List.length_map] at this; omega, hso, trivial, ?_⟩
    rw [hse]
    subst hE
    dsimp only
    clear hall hso hse
    have hso2 : (srtK (allK (ctM L) (ctM M))).length ≤ 2000 := by rw [(srtK_perm _).length_eq]; exact hlen
    walk_at "dd"
    refine lc_map (L := srtK (allK (ctM L) (ctM M))) (enc := kyD) (fun k => if decide (lkA (ctM L) k ≠ lkA (ctM M) k) = true then some (rowD (ctM L) (ctM M) k) else none) (fun _ _ => trivial) (by omega) (fun i k C' Q hi hs hQ => ?_) ?_
    · have c1 := hs _ _ hc1'
      have c2 := hs _ _ hc2
      have hkb := keyB_kyD k
      have v1 := st_va (ctM L) k
      have v2 := st_va (ctM M) k
      have d1 := opD_dat (hf1 k)
      have d2 := opD_dat (hf2 k)
      have de := opD_eqb (o := lkA (ctM L) k) (u := lkA (ctM M) k)
      have hres : ∀ C o, D.res C (opD o) = opD o := fun C o => by cases o <;> rfl
      have hr : rowD (ctM L) (ctM M) k = .tup [kyD k, opD (lkA (ctM L) k), opD (lkA (ctM M) k)] := rfl
      rw [hr] at hQ
      clear hi hs hc1 hc1' hc2 hS hS1 hS2 q htx hlen hr
      revert hQ v1 v2 d1 d2 de
      generalize lkA (ctM L) k = o1
      generalize lkA (ctM M) k = o2
      intro hQ v1 v2 d1 d2 de
      have v1 : vaD (stD (ctM L)) (kyN k) = o1.map vlD := v1
      have ho : ∀ o : Option (Str × Int), (o.map vlD).getD .non = opD o := fun _ => rfl
      walk_at "dd"
      refine ⟨1, by decide, d1, d2, ?_⟩
      by_cases g : o1 = o2
      · rw [if_neg (by simp [g])] at hQ
        rw [if_neg (by simp [g])]
        exact hQ
      · rw [if_pos (by simp [g])] at hQ
        rw [if_pos (by simp [g])]
        exact hQ
    · rw [show (srtK (allK (ctM L) (ctM M))).filterMap (fun k => if decide (lkA (ctM L) k ≠ lkA (ctM M) k) = true then some (rowD (ctM L) (ctM M) k) else none) = difD (ctM L) (ctM M) from ?_]
      · exact ⟨C2, Sub.refl _, q C2 hS⟩
      · unfold difD difK
        generalize srtK (allK (ctM L) (ctM M)) = S
        induction S with
        | nil => rfl
        | cons k S ih =>
          rw [List.filterMap_cons, List.filter_cons, ih]
          cases decide (lkA (ctM L) k ≠ lkA (ctM M) k) <;> simp)

def R_changes_of_accounts (A : Ad) : DSp := fun ds C P => ∃ (t u : Tb) (K : List Ky), ds = [.lst (K.map (rowD t u))] ∧ K.length ≤ 2000 ∧ ∀ z : Bl, (∀ s, (lkA z s).getD 0 = difS t u K s) → (∀ p ∈ z, p.2 ≠ 0) → (z.map fun p => p.1).Nodup → z.length ≤ 5000 → P (.dK (balD z)) C
theorem len_changes_of_accounts (A : Ad) : ∀ ds C P, R_changes_of_accounts A ds C P → ds.length = 1 := by rintro _ _ _ ⟨t, u, K, rfl, _⟩; rfl
theorem ok_changes_of_accounts (T : Txt K mg A P w) : FnOk P w K mg base CX0 1 A.a_changes_of_accounts A.d_changes_of_accounts ["found"] (spD K (R_changes_of_accounts A)) :=
  ok_D T.F_changes_of_accounts sc_changes_of_accounts (len_changes_of_accounts A) (fun cdv Ar outer s H E hr =>
    ds_consL (ds_set 1 sc_changes_of_accounts.nd (d_newK))
    (ds_consL (ds_for PassesOwn.never rfl (di_list (d_var 0)) (dg_tup rfl (dgs_cons (dg_name 2 sc_changes_of_accounts.nd) (dgs_cons (dg_name 3 sc_changes_of_accounts.nd) (dgs_cons (dg_name 4 sc_changes_of_accounts.nd) (dgs_nil)))))
      (ds_cons (ds_if (d_tcmp op_notN s_notN (d_var 3) (d_non))
        (ds_one (ds_setD hr (d_var 1) (d_ix ix_seq s_ix (d_var 3) (d_int)) (d_op op_sub s_sub (dd_get2 hr (d_var 1) (d_ix ix_seq s_ix (d_var 3) (d_int)) (d_int)) (d_ix ix_seq s_ix (d_var 3) (d_int)))))
        (ds_nil))
      (ds_one (ds_if (d_tcmp op_notN s_notN (d_var 4) (d_non))
        (ds_one (ds_setD hr (d_var 1) (d_ix ix_seq s_ix (d_var 4) (d_int)) (d_op op_add s_add (dd_get2 hr (d_var 1) (d_ix ix_seq s_ix (d_var 4) (d_int)) (d_int)) (d_ix ix_seq s_ix (d_var 4) (d_int)))))
        (ds_nil)))))
    (ds_consL (ds_set 5 sc_changes_of_accounts.nd (d_newK))
    (ds_consL (ds_lock (pVar 1) (ds_for PassesOwn.never rfl (di_keys (d_var 1)) (dg_name 6 sc_changes_of_accounts.nd)
      (ds_one (ds_if (d_tcmp op_ne s_ne (d_dget hr (d_var 1) (d_var 6)) (d_int))
        (ds_one (ds_setD hr (d_var 5) (d_var 6) (d_dget hr (d_var 1) (d_var 6))))
        (ds_nil)))))
    (ds_one (ds_retF (d_var 5))))))) (fun ds C Pk h => by
    obtain ⟨t, u, K, rfl, hl, q⟩ := h
    refine seq_hide fun E' hE => ?_
    walk_at "dd"
    intro p hp
    subst hE
    dsimp only
    refine seq_hide fun E' hE => ?_
    walk_at "dd"
    refine for_map (L := K) (enc := rowD t u) (fun j ρ' C' => (∃ o2 o3 o4 o5 o6, ρ' = [some (.lst (K.map (rowD t u))), some (.ptr p), o2, o3, o4, o5, o6]) ∧ ∃ z : Bl, C' = cput C p (.dK (balD z)) ∧ (z.map fun p => p.1).Nodup ∧ z.length ≤ 2 * j ∧ ∀ s, (lkA z s).getD 0 = difS t u (K.take j) s) ⟨⟨_, _, _, _, _, rfl⟩, [], rfl, List.nodup_nil, Nat.le_refl _, fun s => rfl⟩ ?_ ?_
    · rintro j k ρ' C' hj ⟨⟨o2, o3, o4, o5, o6, rfl⟩, z, rfl, hnd, hzl, hz⟩
      have hjl := (List.getElem?_eq_some_iff.mp hj).1
      have hsn : ∀ s, difS t u (K.take (j + 1)) s = difS t u (K.take j) s + (oldS (lkA u k) s - oldS (lkA t k) s) := fun s => by
        unfold difS
        rw [take_snoc hj, List.map_append, List.sum_append]; simp
      have hr : rowD t u k = .tup [kyD k, opD (lkA t k), opD (lkA u k)] := rfl
      have hgt : ∀ (z : Bl) (s : Str), (vaD (balD z) (.inr s)).getD (.int 0) = .int ((lkA z s).getD 0) := fun z s => by
        rw [bal_va]; cases lkA z s <;> rfl
      rw [hr]
      have fin : ∀ z1 : Bl, (z1.map fun p => p.1).Nodup → z1.length ≤ 2 * (j + 1) → (∀ s, (lkA z1 s).getD 0 = (lkA z s).getD 0 + (oldS (lkA u k) s - oldS (lkA t k) s)) → ∃ z' : Bl, cput C p (.dK (balD z1)) = cput C p (.dK (balD z')) ∧ (z'.map fun p => p.1).Nodup ∧ z'.length ≤ 2 * (j + 1) ∧ ∀ s, (lkA z' s).getD 0 = difS t u (K.take (j + 1)) s := fun z1 h1 h2 h3 => ⟨z1, rfl, h1, h2, fun s => by rw [h3, hz, hsn]⟩
      have hbl : ∀ z, (balD z).length = z.length := bal_len
      have hpu := bal_pu
      have upd : ∀ (z : Bl) (s : Str) (x : Int) (s' : Str), (lkA (puA z s x) s').getD 0 = if s' = s then x else (lkA z s').getD 0 := fun z s x s' => by
        rw [lkA_pu]; split <;> rfl
      have o0 : opD none = .non := rfl
      have o1 : ∀ a x, opD (some (a, x)) = .tup [.str a, .int x] := fun _ _ => rfl
      clear hsn hz hj q hE hr
      cases ht : lkA t k with
      | none =>
        rw [ht] at fin
        clear ht
        cases hu : lkA u k with
        | none =>
          rw [hu] at fin
          clear hu
          have f2 := fin z hnd (by omega) (fun s => by simp [oldS])
          clear fin upd
          walk_at "dd"
          exact ⟨_, _, _, _, _, rfl⟩
        | some v =>
          obtain ⟨b, y⟩ := v
          rw [hu] at fin
          clear hu
          have f2 := fin (puA z b ((lkA z b).getD 0 + y)) (puA_nodup hnd _ _) (by have := puA_len z b ((lkA z b).getD 0 + y); omega) (fun s => by
            rw [upd]; simp only [oldS, Option.map_some, Option.map_none, Option.getD_some, Option.getD_none, valS]
            by_cases g : s = b
            · subst g; simp
            · have g' : ¬ b = s := fun e => g e.symm
              rw [if_neg g, if_neg g']; omega)
          clear fin upd
          walk_at "dd"
          exact ⟨by omega, _, _, _, _, _, rfl⟩
      | some v =>
        obtain ⟨a, x⟩ := v
        rw [ht] at fin
        clear ht
        cases hu : lkA u k with
        | none =>
          rw [hu] at fin
          clear hu
          have f2 := fin (puA z a ((lkA z a).getD 0 - x)) (puA_nodup hnd _ _) (by have := puA_len z a ((lkA z a).getD 0 - x); omega) (fun s => by
            rw [upd]; simp only [oldS, Option.map_some, Option.map_none, Option.getD_some, Option.getD_none, valS]
            by_cases g : s = a
            · subst g; simp; omega
            · have g' : ¬ a = s := fun e => g e.symm
              rw [if_neg g, if_neg g']; omega)
          clear fin upd
          walk_at "dd"
          exact ⟨by omega, _, _, _, _, _, rfl⟩
        | some w =>
          obtain ⟨b, y⟩ := w
          rw [hu] at fin
          clear hu
          have f2 := fin (puA (puA z a ((lkA z a).getD 0 - x)) b ((lkA (puA z a ((lkA z a).getD 0 - x)) b).getD 0 + y)) (puA_nodup (puA_nodup hnd _ _) _ _) (by have := puA_len z a ((lkA z a).getD 0 - x); have := puA_len (puA z a ((lkA z a).getD 0 - x)) b ((lkA (puA z a ((lkA z a).getD 0 - x)) b).getD 0 + y); omega) (fun s => by
            rw [upd, upd, upd]; simp only [oldS, Option.map_some, Option.getD_some, valS]
            by_cases g : s = b
            · subst g
              by_cases g2 : s = a
              · subst g2; simp; omega
              · have g3 : ¬ a = s := fun e => g2 e.symm
                simp [g2, g3]
            · have g' : ¬ b = s := fun e => g e.symm
              by_cases g2 : s = a
              · subst g2; simp [g, g']; omega
              · have g3 : ¬ a = s := fun e => g2 e.symm
                simp [g, g', g2, g3])
          clear fin upd
          walk_at "dd"
          exact ⟨by omega, by have := puA_len z a ((lkA z a).getD 0 - x); omega, _, _, _, _, _, rfl⟩
    · rintro ρ' C' ⟨⟨o2, o3, o4, o5, o6, rfl⟩, z, rfl, hnd, hzl, hz⟩
      rw [List.take_length] at hz
      subst hE
      dsimp only
      refine seq_hide fun E' hE => ?_
      walk_at "dd"
      intro pc hpc
      have hpp : p ≠ pc := cell_ne cput_same hpc
      have hCc : C pc = none := by rw [cput_ne hpp.symm] at hpc; exact hpc
      have hcz : cput (cput C p (.dK (balD z))) pc (.dK []) p = some (.dK (balD z)) := (cput_ne hpp).trans cput_same
      have hcc : cput (cput C p (.dK (balD z))) pc (.dK []) pc = some (.dK []) := cput_same
      have hfr : ∀ b c, C b = some c → cput (cput C p (.dK (balD z))) pc (.dK []) b = some c := fun b c hb => (cput_ne (cell_ne hb hCc)).trans ((cput_ne (cell_ne hb hp)).trans hb)
      revert hcz hcc hfr
      generalize cput (cput C p (.dK (balD z))) pc (.dK []) = C1
      intro hcz hcc hfr
      subst hE
      dsimp only
      have hks : (balD z).map (fun p => keyD p.1) = (z.map fun p => p.1).map D.str := by
        unfold balD
        rw [List.map_map, List.map_map]; rfl
      refine seq_hide fun E' hE => ?_
      walk_at "dd"
      intro od xs
      refine for_mapS (L := z.map fun p => p.1) (enc := D.str) (st := fun C' => C' p = some (.lK (balD z) od xs)) (fun i ρ' C2 => (∃ o6, ρ' = [some (.lst (K.map (rowD t u))), some (.ptr p), o2, o3, o4, some (.ptr pc), o6]) ∧ C2 p = some (.lK (balD z) od xs) ∧ C2 pc = some (.dK (balD ((z.take i).filter fun p => decide (p.2 ≠ 0)))) ∧ ∀ b c, C b = some c → C2 b = some c) ⟨⟨_, rfl⟩, cput_same, (cput_ne hpp.symm).trans hcc, fun b c hb => (cput_ne (cell_ne hb hp)).trans (hfr b c hb)⟩ (fun k ρ' C' h => h.2.1) ?_ ?_
      · rintro i a ρ' C2 hi ⟨⟨o6, rfl⟩, h1, h2, h3⟩
        rw [List.getElem?_map] at hi
        obtain ⟨⟨a', v⟩, hiz, rfl⟩ := Option.map_eq_some_iff.mp hi
        have hil := (List.getElem?_eq_some_iff.mp hiz).1
        have hlv := lkA_mem hnd (List.mem_of_getElem? hiz)
        have hva := bal_va z a'
        rw [hlv, Option.map_some] at hva
        rw [take_snoc hiz, List.filter_append]
        have hno : a' ∉ ((z.take i).filter fun p => decide (p.2 ≠ 0)).map fun p => p.1 := fun hm => by
          obtain ⟨q, hq, e⟩ := List.mem_map.mp hm
          have hq := (List.mem_filter.mp hq).1
          have e2 : z = z.take i ++ ((a', v) :: z.drop (i + 1)) := by
            conv => lhs; rw [← List.take_append_drop i z]
            rw [List.drop_eq_getElem_cons hil, (List.getElem?_eq_some_iff.mp hiz).2]
          rw [e2, List.map_append, List.nodup_append] at hnd
          exact hnd.2.2 _ (List.mem_map.mpr ⟨q, hq, e⟩) _ (by rw [List.map_cons]; exact List.mem_cons_self) rfl
        have hlf : ((z.take i).filter fun p => decide (p.2 ≠ 0)).length ≤ 5000 := Nat.le_trans (List.length_filter_le _ _) (by rw [List.length_take]; omega)
        revert hno hlf
        generalize hF : (z.take i).filter (fun p => decide (p.2 ≠ 0)) = F at h2
        intro hno hlf
        have hpuF : puA F a' v = F ++ [(a', v)] := by
          unfold puA
          rw [puA_any, lkA_none.mpr hno, if_neg (by decide)]
        have hpu := bal_pu F a' v
        rw [hpuF] at hpu
        have hbl := bal_len F
        have hfr2 : ∀ (d : Cell) b c, C b = some c → cput C2 pc d b = some c := fun d b c hb => (cput_ne (cell_ne hb hCc)).trans (h3 b c hb)
        have hp2 : ∀ d : Cell, cput C2 pc d p = some (.lK (balD z) od xs) := fun d => (cput_ne hpp).trans h1
        clear hi hiz hno hF hz hzl hnd hfr hcz hcc q hE hlv hks
        by_cases g : v = 0
        · rw [show [(a', v)].filter (fun p : Str × Int => decide (p.2 ≠ 0)) = [] by simp [g], List.append_nil]
          subst g
          walk_at "dd"
          exact ⟨⟨_, rfl⟩, h3⟩
        · rw [show [(a', v)].filter (fun p : Str × Int => decide (p.2 ≠ 0)) = [(a', v)] by simp [g]]
          walk_at "dd"
          exact ⟨by omega, ⟨_, rfl⟩, hfr2 _⟩
      · rintro ρ' C2 ⟨⟨o6, rfl⟩, h1, h2, h3⟩
        refine ⟨h1, ?_⟩
        rw [List.length_map, List.take_length] at h2
        have hq := q (z.filter fun p => decide (p.2 ≠ 0)) (fun s => by
          rw [← hz]
          exact lk_nz hnd s) (fun p hp => by simpa using (List.mem_filter.mp hp).2) (hnd.sublist (List.Sublist.map _ List.filter_sublist)) (Nat.le_trans (List.length_filter_le _ _) (by omega))
        have h2' : cput C2 p (.dK (balD z)) pc = some (.dK (balD (z.filter fun p => decide (p.2 ≠ 0)))) := (cput_ne hpp.symm).trans h2
        have hsub : Sub C (cput C2 p (.dK (balD z))) := fun b c hb => (cput_ne (cell_ne hb hp)).trans (h3 b c hb)
        revert h2' hsub
        generalize cput C2 p (.dK (balD z)) = C3
        intro h2' hsub
        clear q
        subst hE
        walk_at "dd"
        exact ⟨C, hsub, hCc, C, Sub.refl _, hq⟩)

def R_Contracts_init (A : Ad) : DSp := fun ds C P => ∃ p, ds = [.ptr p] ∧ C p = some (.ins A.C_Contracts []) ∧ ∀ C' ph, C ph = none → C' p = some (.ins A.C_Contracts [("histories", .ptr ph)]) → C' ph = some (.dK (hiK [])) → (∀ x c, C x = some c → x ≠ p → C' x = some c) → P .non C'
theorem len_Contracts_init (A : Ad) : ∀ ds C P, R_Contracts_init A ds C P → ds.length = 1 := by rintro _ _ _ ⟨p, rfl, _⟩; rfl
theorem ok_Contracts_init (T : Txt K mg A P w) : FnOk P w K mg base CX0 1 A.a_Contracts_init A.d_Contracts_init ["self"] (spD K (R_Contracts_init A)) :=
  ok_D T.F_Contracts_init sc_Contracts_init (len_Contracts_init A) (fun cdv Ar outer s H E hr =>
    ds_one (ds_fld T.c_Contracts T.n_Contracts_histories (d_var 0) (d_newK))) (fun ds C Pk h => by
    obtain ⟨p, rfl, hp, q⟩ := h
    walk_at "dd"
    intro p1 h1
    have n1 : p ≠ p1 := cell_ne hp h1
    rw [cput_ne n1, hp]
    refine ⟨rfl, by simp, _, Sub.refl _, q _ p1 h1 cput_same ?_ fun x c hx hxp => ?_⟩
    · rw [cput_ne n1.symm, cput_same]; rfl
    · rw [cput_ne hxp, cput_ne (cell_ne hx h1)]; exact hx)

def R_Contracts_set_history (A : Ad) : DSp := fun ds C P => ∃ p ph l rs hi, ds = [.ptr p, .str l, .lst (rs.map rhD)] ∧ C p = some (.ins A.C_Contracts [("histories", .ptr ph)]) ∧ C ph = some (.dK (hiK hi)) ∧ hi.length ≤ 1000 ∧ rs ≠ [] ∧ rs.length ≤ 1000 ∧
  (∀ i (a b : Rh), rs[i]? = some a → rs[i + 1]? = some b → a.since < b.since) ∧ P .non (cput C ph (.dK (hiK (puA hi l rs))))
theorem len_Contracts_set_history (A : Ad) : ∀ ds C P, R_Contracts_set_history A ds C P → ds.length = 3 := by rintro _ _ _ ⟨p, ph, l, rs, hi, rfl, _⟩; rfl
theorem ok_Contracts_set_history (T : Txt K mg A P w) : FnOk P w K mg base CX0 1 A.a_Contracts_set_history A.d_Contracts_set_history ["self", "line", "rows"] (spD K (R_Contracts_set_history A)) :=
  ok_D T.F_Contracts_set_history sc_Contracts_set_history (len_Contracts_set_history A) (fun cdv Ar outer s H E hr =>
    ds_consL (ds_for PassesOwn.never rfl (di_rng2 (by rfl) T.z_range (d_cons (d_int) (d_cons (d_callB call_len s_len (by rfl) T.z_len (by decide +kernel) (d_cons (d_var 2) (d_nil))) (d_nil)))) (dg_name 3 sc_Contracts_set_history.nd)
      (ds_one (ds_if (d_tcmp op_le s_le (d_ix ix_seq s_ix (d_ix ix_seq s_ix (d_var 2) (d_var 3)) (d_int)) (d_ix ix_seq s_ix (d_ix ix_seq s_ix (d_var 2) (d_op op_sub s_sub (d_var 3) (d_int))) (d_int)))
        (ds_one (ds_dead))
        (ds_nil))))
    (ds_one (ds_if (d_tru (d_var 2))
      (ds_one (ds_setD hr (d_fld T.c_Contracts T.n_Contracts_histories (d_var 0)) (d_var 1) (d_callTy call_tuple_of s_tupleOf (by rfl) T.z_tuple (by decide +kernel) (d_cons (d_var 2) (d_nil)))))
      (ds_one (ds_if (d_tdin hr (d_var 1) (d_fld T.c_Contracts T.n_Contracts_histories (d_var 0)))
        (ds_one (ds_delD (d_fld T.c_Contracts T.n_Contracts_histories (d_var 0)) (d_var 1)))
        (ds_nil)))))) (fun ds C Pk h => by
    obtain ⟨p, ph, l, rs, hi, rfl, hp, hh, hl, hne, hrl, hs, q⟩ := h
    refine seq_hide fun E' hE => ?_
    walk_at "dd"
    refine ⟨⟨by decide, by decide, by omega, by omega⟩, for_rng (fun k ρ' C' => C' = C ∧ ∃ o, ρ' = [some (.ptr p), some (.str l), some (.lst (rs.map rhD)), o]) ⟨rfl, _, rfl⟩ ?_ ?_⟩
    · rintro k ρ' C' hk ⟨rfl, o, rfl⟩
      obtain ⟨a, ha⟩ : ∃ a, rs[k]? = some a := ⟨_, List.getElem?_eq_getElem (by omega)⟩
      obtain ⟨b, hb⟩ : ∃ b, rs[k + 1]? = some b := ⟨_, List.getElem?_eq_getElem (by omega)⟩
      have hab := hs k a b ha hb
      have i1 : atI (rs.map rhD) (1 + (k : Int)) = some (.tup [.int b.since, optS b.acc, .str b.nm]) := by
        rw [show (1 : Int) + (k : Int) = ((k + 1 : Nat) : Int) by omega, atI_nat', List.getElem?_map, hb]; rfl
      have i2 : atI (rs.map rhD) (1 + (k : Int) - 1) = some (.tup [.int a.since, optS a.acc, .str a.nm]) := by
        rw [show (1 : Int) + (k : Int) - 1 = (k : Int) by omega, atI_nat', List.getElem?_map, ha]; rfl
      have g : ¬ b.since ≤ a.since := by omega
      clear ha hb hs hab
      walk_at "dd"
      exact ⟨_, rfl⟩
    · rintro ρ' C' ⟨rfl, o, rfl⟩
      have he : (rs.map rhD).isEmpty = false := by
        cases rs with
        | nil => exact absurd rfl hne
        | cons r rs => rfl
      have hpu : puD (hiK hi) (Sum.inr l) (.tup (rs.map rhD)) = hiK (puA hi l rs) := pu_tab (fun x : Str => (Sum.inr x : L2.Key)) inr_inj (fun rs : List Rh => D.tup (rs.map rhD)) hi l rs
      have hlh : (hiK hi).length < 100000 := by unfold hiK; rw [List.length_map]; omega
      subst hE
      walk_at "dd"
      exact ⟨_, Sub.refl _, q⟩)

def R_law_contracts (A : Ad) : DSp := fun ds C P => ∃ p s, ds = [.ptr p] ∧ C p = some (.lst [.int s]) ∧ 0 ≤ s ∧ ∀ (hi : Hist) pc ph s' C', HiOk hi → 0 ≤ s' → (∀ x c, C x = some c → x ≠ p → C' x = some c) → C' p = some (.lst [.int s']) → C' pc = some (.ins A.C_Contracts [("histories", .ptr ph)]) → C' ph = some (.dK (hiK hi)) → P (.ptr pc) C'
theorem len_law_contracts (A : Ad) : ∀ ds C P, R_law_contracts A ds C P → ds.length = 1 := by rintro _ _ _ ⟨p, s, rfl, _⟩; rfl
theorem ok_law_contracts (T : Txt K mg A P w) : FnOk P w K mg base CX0 3 A.a_law_contracts A.d_law_contracts ["state"] (spD K (R_law_contracts A)) :=
  ok_D T.F_law_contracts sc_law_contracts (len_law_contracts A) (fun cdv Ar outer s H E hr =>
    ds_consL (ds_set 1 sc_law_contracts.nd (d_make0 T.m_Contracts_init (ok_Contracts_init T) (hr.mono (by decide)) T.g_Contracts T.b_Contracts_init))
    (ds_consL (ds_for PassesOwn.never rfl (di_tup (d_tup (d_cons (d_str) (d_cons (d_str) (d_cons (d_str) (d_nil)))))) (dg_name 2 sc_law_contracts.nd)
      (ds_consL (ds_set 3 sc_law_contracts.nd (d_lstC (d_cons (d_tup (d_cons (d_int) (d_cons (d_ix ix_seq s_ix (d_tup (d_cons (d_str) (d_cons (d_str) (d_nil)))) (d_call (ok_law_digit T) (hr.mono (by decide)) T.g_law_digit T.F_law_digit.kp T.b_law_digit (d_cons (d_var 0) (d_cons (d_int) (d_nil))))) (d_cons (d_ix ix_seq s_ix (d_tup (d_cons (d_str) (d_cons (d_str) (d_cons (d_str) (d_nil))))) (d_call (ok_law_digit T) (hr.mono (by decide)) T.g_law_digit T.F_law_digit.kp T.b_law_digit (d_cons (d_var 0) (d_cons (d_int) (d_nil))))) (d_nil))))) (d_nil))))
      (ds_consL (ds_expr (d_bmL PySem.F.plainAttrs_list PySem.F.slot_list_append PySem.F.type_list_append mt_append s_append (d_var 3) (d_cons (d_tup (d_cons (d_op op_mul s_mul (d_int) (d_int)) (d_cons (d_ix ix_seq s_ix (d_tup (d_cons (d_non) (d_cons (d_str) (d_cons (d_str) (d_nil))))) (d_call (ok_law_digit T) (hr.mono (by decide)) T.g_law_digit T.F_law_digit.kp T.b_law_digit (d_cons (d_var 0) (d_cons (d_int) (d_nil))))) (d_cons (d_ix ix_seq s_ix (d_tup (d_cons (d_str) (d_cons (d_str) (d_cons (d_str) (d_nil))))) (d_call (ok_law_digit T) (hr.mono (by decide)) T.g_law_digit T.F_law_digit.kp T.b_law_digit (d_cons (d_var 0) (d_cons (d_int) (d_nil))))) (d_nil))))) (d_nil))))
      (ds_frz (ds_one (ds_expr (d_meth T.c_Contracts T.m_Contracts_set_history (ok_Contracts_set_history T) (hr.mono (by decide)) T.b_Contracts_set_history (d_var 1) (d_cons (d_var 2) (d_cons (d_var 3) (d_nil)))))) 3))))
    (ds_one (ds_ret (d_var 1))))) (fun ds C Pk h => by
    obtain ⟨p, s, rfl, hp, hs, q⟩ := h
    refine seq_hide fun E' hE => ?_
    walk_at "dd"
    intro pc hpc
    have n1 : p ≠ pc := cell_ne hp hpc
    refine ⟨pc, rfl, cput_same, fun C1 ph nph c0 c1 hk => ⟨rfl, ?_⟩⟩
    subst hE
    dsimp only [List.set_cons_succ, List.set_cons_zero]
    have hph : pc ≠ ph := cell_ne (C := cput C pc _) cput_same nph
    rw [cput_ne hph.symm] at nph
    have n2 : p ≠ ph := cell_ne hp nph
    have hCph := nph
    have hfr : ∀ x c, C x = some c → C1 x = some c := fun x c hx => by
      have := cell_ne hx hpc
      exact hk x c ((cput_ne this).trans hx) this
    have hc1 := hfr _ _ hp
    refine seq_hide fun E' hE => ?_
    walk_at "dd"
    show ForG ⟨(["41", "42", "51"] : List Str).map D.str, frozen⟩ _ _ _ _ _
    refine for_map (L := (["41", "42", "51"] : List Str)) (enc := D.str) (fun k ρ' C' => ∃ (hi : Hist) (s' : Int), HiOk hi ∧ hi.length ≤ k ∧ 0 ≤ s' ∧ C' p = some (.lst [.int s']) ∧ C' pc = some (.ins A.C_Contracts [("histories", .ptr ph)]) ∧ C' ph = some (.dK (hiK hi)) ∧ (∀ x c, C x = some c → x ≠ p → C' x = some c) ∧ ∃ o2 o3, ρ' = [some (.ptr p), some (.ptr pc), o2, o3]) ⟨[], s, (fun p rs h => by cases h), Nat.le_refl _, hs, hc1, c0, c1, (fun x c hx _ => hfr x c hx), _, _, rfl⟩ ?_ ?_
    · rintro k payer ρ' C' hk ⟨hi, s', hh, hil, hs', h0, h0', h2, h3, o2, o3, rfl⟩
      have hkl : k < 3 := (List.getElem?_eq_some_iff.mp hk).1
      refine seq_hide fun E2 hE2 => ?_
      walk_at "dd"
      refine ⟨p, s', 2, rfl, h0, hs', by decide, by decide, fun d1 s1 a1 b1 c1 => ?_⟩
      obtain ⟨x1, hx1, ho1⟩ : ∃ x : Str, atI [D.str (Str.ofString "ann"), D.str (Str.ofString "bo")] d1 = some (.str x) ∧ AcOk x := by
        have : d1 = 0 ∨ d1 = 1 := by omega
        rcases this with rfl | rfl
        · exact ⟨_, rfl, .inl rfl⟩
        · exact ⟨_, rfl, .inr (.inl rfl)⟩
      dsimp only
      rw [hx1]
      refine ⟨p, s1, 3, rfl, cput_same, c1, by decide, by decide, fun d2 s2 a2 b2 c2 => ?_⟩
      obtain ⟨x2, hx2⟩ : ∃ x : Str, atI [D.str (Str.ofString "big"), D.str (Str.ofString "day"), D.str (Str.ofString "std")] d2 = some (.str x) := by
        have : d2 = 0 ∨ d2 = 1 ∨ d2 = 2 := by omega
        rcases this with rfl | rfl | rfl <;> exact ⟨_, rfl⟩
      dsimp only
      rw [hx2, cput_cput]
      intro pr hpr
      have hcp : cput C' p (.lst [.int s2]) p = some (.lst [.int s2]) := cput_same
      have np : p ≠ pr := cell_ne hcp hpr
      have hcc : cput C' p (.lst [.int s2]) pc = some (.ins A.C_Contracts [("histories", .ptr ph)]) := (cput_ne n1.symm).trans h0'
      have hch : cput C' p (.lst [.int s2]) ph = some (.dK (hiK hi)) := (cput_ne n2.symm).trans h2
      have hfr2 : ∀ x c, C x = some c → x ≠ p → cput C' p (.lst [.int s2]) x = some c := fun x c hx hxp => (cput_ne hxp).trans (h3 x c hx hxp)
      have nc : pc ≠ pr := cell_ne hcc hpr
      have nh : ph ≠ pr := cell_ne hch hpr
      have hfr3 : ∀ x c, C x = some c → x ≠ p → x ≠ pr := fun x c hx hxp => cell_ne (hfr2 x c hx hxp) hpr
      subst hE2
      dsimp only
      have g0 : cput (cput C' p (.lst [.int s2])) pr (.lst [.tup [.int 0, .str x1, .str x2]]) p = some (.lst [.int s2]) := (cput_ne np).trans hcp
      have g1 : cput (cput C' p (.lst [.int s2])) pr (.lst [.tup [.int 0, .str x1, .str x2]]) pc = some (.ins A.C_Contracts [("histories", .ptr ph)]) := (cput_ne nc).trans hcc
      have g2 : cput (cput C' p (.lst [.int s2])) pr (.lst [.tup [.int 0, .str x1, .str x2]]) ph = some (.dK (hiK hi)) := (cput_ne nh).trans hch
      have g3 : cput (cput C' p (.lst [.int s2])) pr (.lst [.tup [.int 0, .str x1, .str x2]]) pr = some (.lst [.tup [.int 0, .str x1, .str x2]]) := cput_same
      have g4 : ∀ x c, C x = some c → x ≠ p → cput (cput C' p (.lst [.int s2])) pr (.lst [.tup [.int 0, .str x1, .str x2]]) x = some c := fun x c hx hxp => (cput_ne (hfr3 x c hx hxp)).trans (hfr2 x c hx hxp)
      revert g0 g1 g2 g3 g4
      generalize cput (cput C' p (.lst [.int s2])) pr (.lst [.tup [.int 0, .str x1, .str x2]]) = C2
      intro g0 g1 g2 g3 g4
      clear hcp hcc hch hfr2 hx1 hx2 h0 h0' h2 h3 hpr a1 b1 c1 a2 b2
      refine seq_hide fun E2 hE2 => ?_
      walk_at "dd"
      refine ⟨cmul_l (by decide) (by decide), p, s2, 3, rfl, g0, c2, by decide, by decide, fun d3 s3 a3 b3 c3 => ?_⟩
      obtain ⟨x3, hx3, ho3⟩ : ∃ x : Option Str, atI [D.non, D.str (Str.ofString "bo"), D.str (Str.ofString "cy")] d3 = some (optS x) ∧ ∀ a, x = some a → AcOk a := by
        have : d3 = 0 ∨ d3 = 1 ∨ d3 = 2 := by omega
        rcases this with rfl | rfl | rfl
        · exact ⟨none, rfl, fun a h => by cases h⟩
        · exact ⟨some "bo", rfl, fun a h => by cases h; exact .inr (.inl rfl)⟩
        · exact ⟨some "cy", rfl, fun a h => by cases h; exact .inr (.inr rfl)⟩
      dsimp only
      rw [hx3]
      refine ⟨p, s3, 3, rfl, cput_same, c3, by decide, by decide, fun d4 s4 a4 b4 c4 => ?_⟩
      obtain ⟨x4, hx4⟩ : ∃ x : Str, atI [D.str (Str.ofString "big"), D.str (Str.ofString "day"), D.str (Str.ofString "none")] d4 = some (.str x) := by
        have : d4 = 0 ∨ d4 = 1 ∨ d4 = 2 := by omega
        rcases this with rfl | rfl | rfl <;> exact ⟨_, rfl⟩
      dsimp only
      rw [hx4, cput_cput]
      dsimp only
      rw [(cput_ne np.symm).trans g3]
      refine ⟨by show 1 < 100000; decide, ?_⟩
      have k0 : cput (cput C2 p (.lst [.int s4])) pr (.lst ([.tup [.int 0, .str x1, .str x2]] ++ [.tup [.int (2592000 * 2), optS x3, .str x4]])) p = some (.lst [.int s4]) := (cput_ne np).trans cput_same
      have k1 : cput (cput C2 p (.lst [.int s4])) pr (.lst ([.tup [.int 0, .str x1, .str x2]] ++ [.tup [.int (2592000 * 2), optS x3, .str x4]])) pc = some (.ins A.C_Contracts [("histories", .ptr ph)]) := (cput_ne nc).trans ((cput_ne n1.symm).trans g1)
      have k2 : cput (cput C2 p (.lst [.int s4])) pr (.lst ([.tup [.int 0, .str x1, .str x2]] ++ [.tup [.int (2592000 * 2), optS x3, .str x4]])) ph = some (.dK (hiK hi)) := (cput_ne nh).trans ((cput_ne n2.symm).trans g2)
      have k3 : cput (cput C2 p (.lst [.int s4])) pr (.lst ([.tup [.int 0, .str x1, .str x2]] ++ [.tup [.int (2592000 * 2), optS x3, .str x4]])) pr = some (.lst ([rhD ⟨0, some x1, x2⟩, rhD ⟨2592000 * 2, x3, x4⟩])) := cput_same
      have k4 : ∀ x c, C x = some c → x ≠ p → cput (cput C2 p (.lst [.int s4])) pr (.lst ([.tup [.int 0, .str x1, .str x2]] ++ [.tup [.int (2592000 * 2), optS x3, .str x4]])) x = some c := fun x c hx hxp => (cput_ne (hfr3 x c hx hxp)).trans ((cput_ne hxp).trans (g4 x c hx hxp))
      revert k0 k1 k2 k3 k4
      generalize cput (cput C2 p (.lst [.int s4])) pr (.lst ([.tup [.int 0, .str x1, .str x2]] ++ [.tup [.int (2592000 * 2), optS x3, .str x4]])) = C3
      intro k0 k1 k2 k3 k4
      clear g0 g1 g2 g3 g4 hx3 hx4 a3 b3 c3 a4 b4
      subst hE2
      walk_at "dd"
      refine ⟨crem C3 pr, crem_sub _ _, crem_same, by rw [crem_ne nc, k1]; exact ⟨rfl, rfl⟩, pc, ph, payer, [⟨0, some x1, x2⟩, ⟨2592000 * 2, x3, x4⟩], hi, rfl, (crem_ne nc).trans k1, (crem_ne nh).trans k2, by omega, by simp, by show 2 ≤ 1000; decide, fun i a b ha hb => ?_, ?_⟩
      · rcases i with _ | _ | i
        · cases ha; cases hb
          show (0 : Int) < 2592000 * 2
          decide
        · cases hb
        · cases ha
      · have hpl := puA_len hi payer ([⟨0, some x1, x2⟩, ⟨2592000 * 2, x3, x4⟩] : List Rh)
        refine ⟨_, s4, fun q rs hq r hr a ha => ?_, Nat.le_trans hpl (by omega), by omega, (cput_ne n2).trans ((crem_ne np).trans k0), (cput_ne hph).trans ((crem_ne nc).trans k1), cput_same, fun x c hx hxp => (cput_ne (cell_ne hx hCph)).trans ((crem_ne (hfr3 x c hx hxp)).trans (k4 x c hx hxp)), _, _, rfl⟩
        rw [lkA_pu] at hq
        split at hq
        · cases hq
          simp only [List.mem_cons, List.not_mem_nil, or_false] at hr
          rcases hr with rfl | rfl
          · cases ha; exact ho1
          · exact ho3 a ha
        · exact hh q rs hq r hr a ha
    · rintro ρ' C' ⟨hi, s', hh, hil, hs', h0, h1, h2, h3, o2, o3, rfl⟩
      subst hE
      walk_at "dd"
      exact ⟨_, Sub.refl _, q hi pc ph s' C' hh hs' h3 h0 h1 h2⟩)

def R_Ledger_postings (A : Ad) : DSp := fun ds C P => ∃ pl ps T L s, ds = [.ptr pl, .str s] ∧ LdS A C pl ps T L ∧ L.length ≤ 5000 ∧ P (.lst ((L.filter fun p => decide (p.a = s)).map (poD A))) C
theorem len_Ledger_postings (A : Ad) : ∀ ds C P, R_Ledger_postings A ds C P → ds.length = 2 := by rintro _ _ _ ⟨pl, ps, T, L, s, rfl, _⟩; rfl
theorem ok_Ledger_postings (T : Txt K mg A P w) : FnOk P w K mg base CX0 1 A.a_Ledger_postings A.d_Ledger_postings ["self", "account"] (spD K (R_Ledger_postings A)) :=
  ok_D T.F_Ledger_postings sc_Ledger_postings (len_Ledger_postings A) (fun cdv Ar outer s H E hr =>
    ds_one (ds_ret (d_lc rfl sc_Ledger_postings.nd (di_list (d_fld T.c_Ledger T.n_Ledger_lines (d_var 0))) (blkOk_by (own := [("posting", 2)]) (N := ["self", "account", "posting"]) (sc := defScope s_Ledger_postings) (by decide +kernel)) (by decide) (fun _ _ _ _ _ => dg_name 2 sc_Ledger_postings.nd) (fun _ _ _ _ _ => dts_one (d_tcmp op_eq s_eq (d_fld T.c_Posting T.n_Posting_account (d_var 2)) (d_var 1))) (fun _ _ _ _ _ => d_var 2)))) (fun ds C Pk h => by
    obtain ⟨pl, ps, T, L, s, rfl, hS, hl, q⟩ := h
    obtain ⟨pz, h1⟩ := hS.obj
    walk_at "dd"
    refine lc_map (L := L) (enc := poD A) (fun p => if decide (p.a = s) = true then some (poD A p) else none) (fun _ _ => trivial) (by omega) (fun i x C' Q hi hs hq => ?_) ?_
    · have f1 := fp_a A x
      walk_at "dd"
      by_cases g : x.a = s
      · rw [if_pos g]
        rw [if_pos (decide_eq_true g)] at hq
        exact hq
      · rw [if_neg g]
        rw [if_neg (by rw [decide_eq_false g]; decide)] at hq
        exact hq
    · rw [show L.filterMap (fun p => if decide (p.a = s) = true then some (poD A p) else none) = (L.filter fun p => decide (p.a = s)).map (poD A) by
        rw [← List.filterMap_eq_map, List.filterMap_filter]
        rfl]
      exact ⟨_, Sub.refl _, q⟩)

def R_Ledger_balance (A : Ad) : DSp := fun ds C P => ∃ pl ps T L s, ds = [.ptr pl, .str s] ∧ LdS A C pl ps T L ∧ L.length ≤ 5000 ∧ P (.int (accF L s).sum) C
theorem len_Ledger_balance (A : Ad) : ∀ ds C P, R_Ledger_balance A ds C P → ds.length = 2 := by rintro _ _ _ ⟨pl, ps, T, L, s, rfl, _⟩; rfl
theorem ok_Ledger_balance (T : Txt K mg A P w) : FnOk P w K mg base CX0 2 A.a_Ledger_balance A.d_Ledger_balance ["self", "account"] (spD K (R_Ledger_balance A)) :=
  ok_D T.F_Ledger_balance sc_Ledger_balance (len_Ledger_balance A) (fun cdv Ar outer s H E hr =>
    ds_cons (ds_set 2 sc_Ledger_balance.nd (d_int))
    (ds_consL (ds_for PassesOwn.never rfl (di_list (d_meth T.c_Ledger T.m_Ledger_postings (ok_Ledger_postings T) (hr.mono (by decide)) T.b_Ledger_postings (d_var 0) (d_cons (d_var 1) (d_nil)))) (dg_name 3 sc_Ledger_balance.nd)
      (ds_one (ds_set 2 sc_Ledger_balance.nd (d_op op_add s_add (d_var 2) (d_fld T.c_Posting T.n_Posting_amount (d_var 3))))))
    (ds_one (ds_ret (d_var 2))))) (fun ds C Pk h => by
    obtain ⟨pl, ps, T, L, s, rfl, hS, hl, q⟩ := h
    walk_at "dd"
    refine seq_hide fun E' hE => ?_
    walk_at "dd"
    obtain ⟨pz, h1⟩ := hS.obj
    have h1 : isIns A.C_Ledger "postings" (.ptr pl) C := by rw [isIns_ptr, h1]; exact ⟨rfl, rfl⟩
    refine ⟨by rw [← isIns_ptr]; exact h1, pl, ps, T, L, s, rfl, hS, hl, ?_⟩
    unfold accF at q
    generalize (L.filter fun p => decide (p.a = s)) = M at q ⊢
    dsimp only
    refine for_map (fun j ρ' C' => (∃ o3, ρ' = [some (.ptr pl), some (.str s), some (.int ((M.take j).map fun p => p.am).sum), o3]) ∧ C' = C) ⟨⟨_, rfl⟩, rfl⟩ ?_ ?_
    · rintro j x ρ' C' hj ⟨⟨o3, rfl⟩, rfl⟩
      have f3 := fp_m A x
      rw [show ((M.take (j + 1)).map fun p => p.am).sum = ((M.take j).map fun p => p.am).sum + x.am by rw [take_snoc hj]; simp]
      walk_at "dd"
      exact ⟨_, rfl⟩
    · rintro ρ' C' ⟨⟨o3, rfl⟩, rfl⟩
      rw [List.take_length]
      subst hE
      walk_at "dd"
      exact ⟨_, Sub.refl _, q⟩)

def R_sections_changed (A : Ad) : DSp := fun ds C P => ∃ (t u : Tb) (K : List Ky), ds = [.lst (K.map (rowD t u))] ∧ K.length ≤ 2000 ∧ P (.lst (ownS K)) C
theorem len_sections_changed (A : Ad) : ∀ ds C P, R_sections_changed A ds C P → ds.length = 1 := by rintro _ _ _ ⟨t, u, K, rfl, _⟩; rfl
theorem ok_sections_changed (T : Txt K mg A P w) : FnOk P w K mg base CX0 1 A.a_sections_changed A.d_sections_changed ["found"] (spD K (R_sections_changed A)) :=
  ok_D T.F_sections_changed sc_sections_changed (len_sections_changed A) (fun cdv Ar outer s H E hr =>
    ds_consL (ds_set 1 sc_sections_changed.nd (d_lstC (d_nil)))
    (ds_consL (ds_for PassesOwn.never rfl (di_list (d_var 0)) (dg_tup rfl (dgs_cons (dg_name 2 sc_sections_changed.nd) (dgs_cons (dg_name 3 sc_sections_changed.nd) (dgs_cons (dg_name 3 sc_sections_changed.nd) (dgs_nil)))))
      (ds_one (ds_if (d_tcmp (op_notInQ hr.units2) s_inD (d_ix ix_seq s_ix (d_var 2) (d_int)) (d_var 1))
        (ds_one (ds_expr (d_bmL PySem.F.plainAttrs_list PySem.F.slot_list_append PySem.F.type_list_append mt_append s_append (d_var 1) (d_cons (d_ix ix_seq s_ix (d_var 2) (d_int)) (d_nil)))))
        (ds_nil))))
    (ds_one (ds_ret (d_callB (cr_sortedD hr.units) s_sortD (by rfl) T.z_sorted (by decide +kernel) (d_cons (d_var 1) (d_nil))))))) (fun ds C Pk h => by
    obtain ⟨t, u, K, rfl, hl, q⟩ := h
    refine seq_hide fun E' hE => ?_
    walk_at "dd"
    intro p hp
    subst hE
    dsimp only
    refine seq_hide fun E' hE => ?_
    walk_at "dd"
    refine for_map (L := K) (enc := rowD t u) (fun j ρ' C' => (∃ o2 o3, ρ' = [some (.lst (K.map (rowD t u))), some (.ptr p), o2, o3]) ∧ C' = cput C p (.lst ((ddF ((K.take j).map fun k => k.1)).map ownD))) ⟨⟨_, _, rfl⟩, rfl⟩ ?_ ?_
    · rintro j k ρ' C' hj ⟨⟨o2, o3, rfl⟩, rfl⟩
      have hjl := (List.getElem?_eq_some_iff.mp hj).1
      have hr : rowD t u k = .tup [.tup [ownD k.1, .int k.2.1, .str k.2.2], opD (lkA t k), opD (lkA u k)] := rfl
      have hsn : ddF ((K.take (j + 1)).map fun k => k.1) = ddS (ddF ((K.take j).map fun k => k.1)) k.1 := by
        rw [take_snoc hj, List.map_append]
        unfold ddF
        rw [List.foldl_append]; rfl
      have hlen : (ddF ((K.take j).map fun k => k.1)).length ≤ 2000 := by
        have := dd_len ((K.take j).map fun k => k.1) []
        unfold ddF
        rw [List.length_map, List.length_take, List.length_nil] at this
        omega
      rw [hr, hsn]
      revert hlen
      generalize ddF ((K.take j).map fun k => k.1) = O
      intro hlen
      have hdk := dat_mono (dat_own k.1) (show 1 ≤ 2 by decide)
      have hdm : Dat 2 (.lst (O.map ownD)) := .lst fun d hd => by
        obtain ⟨b, _, rfl⟩ := List.mem_map.mp hd
        exact dat_own b
      have hany : ((O.map ownD).any fun z => z.eqb (ownD k.1)) = decide (k.1 ∈ O) := by
        rw [List.any_map, Bool.eq_iff_iff, List.any_eq_true, decide_eq_true_eq]
        constructor
        · rintro ⟨y, hy, h⟩
          have h : (ownD y).eqb (ownD k.1) = true := h
          rw [ownD_eqb] at h
          rw [← of_decide_eq_true h]; exact hy
        · intro h
          exact ⟨k.1, h, by show (ownD k.1).eqb (ownD k.1) = true; rw [ownD_eqb]; exact decide_eq_true rfl⟩
      unfold ddS
      by_cases g : k.1 ∈ O
      · rw [if_pos g]
        rw [decide_eq_true g] at hany
        clear hr hsn hj q hE
        walk_at "dd"
        refine ⟨2, by decide, hdk, hdm, ?_⟩
        rw [if_neg (by rw [show ∀ C x, D.res C (ownD x) = ownD x from fun _ _ => rfl, hany]; decide)]
        exact ⟨_, _, rfl⟩
      · rw [if_neg g, List.map_append]
        rw [decide_eq_false g] at hany
        clear hr hsn hj q hE
        walk_at "dd"
        refine ⟨2, by decide, hdk, hdm, ?_⟩
        rw [if_pos (by rw [show ∀ C x, D.res C (ownD x) = ownD x from fun _ _ => rfl, hany]; decide)]
        exact ⟨by omega, _, _, rfl⟩
    · rintro ρ' C' ⟨⟨o2, o3, rfl⟩, rfl⟩
      rw [List.take_length]
      unfold ownS at q
      have hso := sorts_own (ddF (K.map fun k => k.1))
      subst hE
      walk_at "dd"
      unfold dSortD
      simp only [itsOf_ptr, seqOf_ptr, cput_same]
      exact ⟨hso, trivial, C, Sub.new hp, q⟩)

def R_label_sums (A : Ad) : DSp := fun ds C P => ∃ (L : List Cg) (a : Str), ds = [.lst (L.map (cgD A)), .str a] ∧ ChOk L ∧ L.length ≤ 1000 ∧ P (.lst (lbD L a)) C
theorem len_label_sums (A : Ad) : ∀ ds C P, R_label_sums A ds C P → ds.length = 2 := by rintro _ _ _ ⟨L, a, rfl, _⟩; rfl
theorem ok_label_sums (T : Txt K mg A P w) : FnOk P w K mg base CX0 1 A.a_label_sums A.d_label_sums ["charges", "account"] (spD K (R_label_sums A)) :=
  ok_D T.F_label_sums sc_label_sums (len_label_sums A) (fun cdv Ar outer s H E hr =>
    ds_consL (ds_set 2 sc_label_sums.nd (d_newK))
    (ds_consL (ds_for PassesOwn.never rfl (di_list (d_var 0)) (dg_name 3 sc_label_sums.nd)
      (ds_one (ds_if (d_tcmp op_eq s_eq (d_fld T.c_Charge T.n_Charge_account (d_var 3)) (d_var 1))
        (ds_cons (ds_set 4 sc_label_sums.nd (d_ix ix_seq s_ix (d_fld T.c_Charge T.n_Charge_key (d_var 3)) (d_int)))
        (ds_cons (ds_asg (dd_get2 hr (d_var 2) (d_var 4) (d_tup (d_cons (d_int) (d_cons (d_int) (d_cons (d_int) (d_nil)))))) (dg_tup rfl (dgs_cons (dg_name 5 sc_label_sums.nd) (dgs_cons (dg_name 6 sc_label_sums.nd) (dgs_cons (dg_name 7 sc_label_sums.nd) (dgs_nil))))))
        (ds_one (ds_setD hr (d_var 2) (d_var 4) (d_tup (d_cons (d_op op_add s_add (d_var 5) (d_int)) (d_cons (d_op op_sub s_sub (d_op op_add s_add (d_var 6) (d_fld T.c_Charge T.n_Charge_till (d_var 3))) (d_ix ix_seq s_ix (d_fld T.c_Charge T.n_Charge_key (d_var 3)) (d_int))) (d_cons (d_op op_add s_add (d_var 7) (d_fld T.c_Charge T.n_Charge_mills (d_var 3))) (d_nil)))))))))
        (ds_nil))))
    (ds_one (ds_ret (d_lc rfl sc_label_sums.nd (di_list (d_callB (cr_sortedDic rfl hr.units) s_sortDic (by rfl) T.z_sorted (by decide +kernel) (d_cons (d_var 2) (d_nil)))) (blkOk_by (own := [("label", 4)]) (N := ["charges", "account", "table", "charge", "label", "count", "seconds", "mills"]) (sc := defScope s_label_sums) (by decide +kernel)) (by decide) (fun _ _ _ _ _ => dg_name 4 sc_label_sums.nd) (fun _ _ _ _ _ => dts_nil) (fun _ _ _ _ _ => d_op op_catA s_catT (d_tup (d_cons (d_var 4) (d_nil))) (d_dget hr (d_var 2) (d_var 4)))))))) (fun ds C Pk h => by
    obtain ⟨L, a, rfl, hL, hl, q⟩ := h
    refine seq_hide fun E' hE => ?_
    walk_at "dd"
    intro p hp
    subst hE
    dsimp only
    refine seq_hide fun E' hE => ?_
    walk_at "dd"
    refine for_map (L := L) (enc := cgD A) (fun j ρ' C' => (∃ o3 o4 o5 o6 o7, ρ' = [some (.lst (L.map (cgD A))), some (.str a), some (.ptr p), o3, o4, o5, o6, o7]) ∧ ∃ z : Lt3, C' = cput C p (.dK (l3D z)) ∧ (z.map fun p => p.1).Nodup ∧ z.length ≤ j ∧ Lb3 (L.take j) a z) ⟨⟨_, _, _, _, _, rfl⟩, [], rfl, List.nodup_nil, Nat.le_refl _, fun l => by simp [rowsL, lkA]⟩ ?_ ?_
    · rintro j c ρ' C' hj ⟨⟨o3, o4, o5, o6, o7, rfl⟩, z, rfl, hnd, hzl, hz⟩
      have hjl := (List.getElem?_eq_some_iff.mp hj).1
      have f1 := fc_a A c
      have f2 := fc_k A c
      have f3 := fc_t A c
      have f4 := fc_m A c
      have hky : kyD (ckey c) = .tup [ownD c.k, .int c.lo, .str c.lab] := rfl
      have hsn : ∀ l, rowsL (L.take (j + 1)) a l = if c.acc = a ∧ c.lab = l then rowsL (L.take j) a l ++ [c] else rowsL (L.take j) a l := fun l => by rw [take_snoc hj]; exact rows_snoc _ _ _ _
      by_cases g : c.acc = a
      · have hg := lb_lk hz c.lab
        have hnew : Lb3 (L.take (j + 1)) a (puA z c.lab ((sm3 (rowsL (L.take j) a c.lab)).1 + 1, (sm3 (rowsL (L.take j) a c.lab)).2.1 + c.hi - c.lo, (sm3 (rowsL (L.take j) a c.lab)).2.2 + c.mi)) := fun l => by
          rw [lkA_pu, hsn]
          by_cases e : l = c.lab
          · have e' : c.lab = l := e.symm
            have hc : c.acc = a ∧ c.lab = l := ⟨g, e'⟩
            have hne : ¬ (rowsL (L.take j) a l ++ [c] = []) := by simp
            rw [if_pos e, if_pos hc, if_neg hne, ← e, sm3_snoc]
          · have hc : ¬ (c.acc = a ∧ c.lab = l) := fun y => e y.2.symm
            rw [if_neg e, if_neg hc, hz]
        have hget : (vaD (l3D z) (.inr c.lab)).getD (.tup [.int 0, .int 0, .int 0]) = v3 (sm3 (rowsL (L.take j) a c.lab)) := by
          rw [l3_va, ← hg]
          cases lkA z c.lab <;> rfl
        have hv3 : ∀ x y w : Int, v3 (x, y, w) = .tup [.int x, .int y, .int w] := fun _ _ _ => rfl
        have hpu := l3_pu z c.lab ((sm3 (rowsL (L.take j) a c.lab)).1 + 1, (sm3 (rowsL (L.take j) a c.lab)).2.1 + c.hi - c.lo, (sm3 (rowsL (L.take j) a c.lab)).2.2 + c.mi)
        have hpn := puA_nodup hnd c.lab ((sm3 (rowsL (L.take j) a c.lab)).1 + 1, (sm3 (rowsL (L.take j) a c.lab)).2.1 + c.hi - c.lo, (sm3 (rowsL (L.take j) a c.lab)).2.2 + c.mi)
        have hpl := puA_len z c.lab ((sm3 (rowsL (L.take j) a c.lab)).1 + 1, (sm3 (rowsL (L.take j) a c.lab)).2.1 + c.hi - c.lo, (sm3 (rowsL (L.take j) a c.lab)).2.2 + c.mi)
        have hll := l3_len z
        unfold v3 at hget hpu
        clear hsn hz hg hj q hE
        revert hnew hget hpu hpn hpl
        generalize (sm3 (rowsL (L.take j) a c.lab)).1 = x1
        generalize (sm3 (rowsL (L.take j) a c.lab)).2.1 = x2
        generalize (sm3 (rowsL (L.take j) a c.lab)).2.2 = x3
        intro hnew hget hpu hpn hpl
        have fin : ∃ z', cput C p (.dK (l3D (puA z c.lab (x1 + 1, x2 + c.hi - c.lo, x3 + c.mi)))) = cput C p (.dK (l3D z')) ∧ (z'.map fun p => p.1).Nodup ∧ z'.length ≤ j + 1 ∧ Lb3 (L.take (j + 1)) a z' := ⟨_, rfl, hpn, by omega, hnew⟩
        clear hnew hpn hpl hnd
        dsimp only at hpu
        walk_at "dd"
        exact ⟨by omega, _, _, _, _, _, rfl⟩
      · have fin : ∃ z', cput C p (.dK (l3D z)) = cput C p (.dK (l3D z')) ∧ (z'.map fun p => p.1).Nodup ∧ z'.length ≤ j + 1 ∧ Lb3 (L.take (j + 1)) a z' := ⟨z, rfl, hnd, by omega, fun l => by
          have hc : ¬ (c.acc = a ∧ c.lab = l) := fun y => g y.1
          rw [hz, hsn, if_neg hc]⟩
        clear hsn hz hj q hE hnd
        walk_at "dd"
        exact ⟨_, _, _, _, _, rfl⟩
    · rintro ρ' C' ⟨⟨o3, o4, o5, o6, o7, rfl⟩, z, rfl, hnd, hzl, hz⟩
      rw [List.take_length] at hz
      have hin : ∀ l, l ∈ z.map (fun p => p.1) ↔ rowsL L a l ≠ [] := fun l => by
        constructor
        · intro hm e
          have := hz l
          rw [if_pos e] at this
          exact lkA_none.mp this hm
        · intro e
          by_cases g : l ∈ z.map fun p => p.1
          · exact g
          · have := hz l
            rw [lkA_none.mpr g, if_neg e] at this
            cases this
      have hlb : ∀ l ∈ z.map (fun p => p.1), LabOk l := fun l hm => by
        cases hr : rowsL L a l with
        | nil => exact absurd hr ((hin l).mp hm)
        | cons c r =>
          have hc : c ∈ rowsL L a l := by rw [hr]; exact List.mem_cons_self
          obtain ⟨h1, h2⟩ := List.mem_filter.mp hc
          have := hL.lab c h1
          simp only [Bool.and_eq_true, decide_eq_true_eq] at h2
          rw [h2.2] at this
          exact this
      have hks : (l3D z).map (fun p => keyD p.1) = (z.map fun p => p.1).map D.str := by
        unfold l3D
        rw [List.map_map, List.map_map]; rfl
      have hso := sorts_str (z.map fun p => p.1) (fun k hk => lab_tx (hlb k hk))
      have hse := sort4 hnd hlb
      have hfi : (lab4.filter fun l => decide (l ∈ z.map fun p => p.1)) = lab4.filter fun l => !(rowsL L a l).isEmpty := List.filter_congr fun l _ => by
        rw [Bool.eq_iff_iff, decide_eq_true_eq, hin]
        cases rowsL L a l <;> simp
      rw [hfi] at hse
      have hql : (lab4.filter fun l => !(rowsL L a l).isEmpty).length ≤ 4 := List.length_filter_le _ _
      subst hE
      walk_at "dd"
      refine lc_map (L := lab4.filter fun l => !(rowsL L a l).isEmpty) (enc := D.str) (fun l => some (.tup (.str l :: lbE (rowsL L a l)))) (fun _ _ => trivial) (by omega) (fun i l C' Q hi hs hQ => ?_) ?_
      · have hlm := List.mem_of_getElem? hi
        have hne : rowsL L a l ≠ [] := fun e => by
          have := (List.mem_filter.mp hlm).2
          rw [e] at this
          cases this
        have hva := l3_va z l
        rw [hz l, if_neg hne, Option.map_some] at hva
        have hva : vaD (l3D z) (.inr l) = some (.tup [.int (rowsL L a l).length, .int ((rowsL L a l).map fun c => c.hi - c.lo).sum, .int ((rowsL L a l).map fun c => c.mi).sum]) := hva
        have hcp : C' p = some (.dK (l3D z)) := hs _ _ cput_same
        unfold lbE at hQ
        clear hz hin hlb hks hso hse hfi hi hs hlm hnd q hne
        walk_at "dd"
        change (1 + 3 ≤ 100000) ∧ Q (some (D.tup ([D.str l] ++ [D.int (rowsL L a l).length, D.int ((rowsL L a l).map fun c => c.hi - c.lo).sum, D.int ((rowsL L a l).map fun c => c.mi).sum]))) C'
        exact ⟨by decide, hQ⟩
      · rw [show (lab4.filter fun l => !(rowsL L a l).isEmpty).filterMap (fun l => some (D.tup (.str l :: lbE (rowsL L a l)))) = lbD L a from congrFun List.filterMap_eq_map _]
        exact ⟨C, Sub.new hp, q⟩)

def R_law_labels (A : Ad) : DSp := fun ds C P => ∃ (L : List Cg) (a : Str), ds = [.lst (L.map (cgD A)), .str a] ∧ L.length ≤ 1000 ∧ P (.lst (lbD L a)) C
theorem len_law_labels (A : Ad) : ∀ ds C P, R_law_labels A ds C P → ds.length = 2 := by rintro _ _ _ ⟨L, a, rfl, _⟩; rfl
theorem ok_law_labels (T : Txt K mg A P w) : FnOk P w K mg base CX0 1 A.a_law_labels A.d_law_labels ["charges", "account"] (spD K (R_law_labels A)) :=
  ok_D T.F_law_labels sc_law_labels (len_law_labels A) (fun cdv Ar outer s H E hr =>
    ds_consL (ds_set 2 sc_law_labels.nd (d_lstC (d_nil)))
    (ds_consL (ds_for PassesOwn.never rfl (di_tup (d_tup (d_cons (d_str) (d_cons (d_str) (d_cons (d_str) (d_cons (d_str) (d_nil))))))) (dg_name 3 sc_law_labels.nd)
      (ds_consL (ds_setLc 4 rfl sc_law_labels.nd rfl rfl (sw_true rfl rfl rfl (by decide +kernel)) (di_list (d_var 0)) (blkOk_by (own := [("charge", 6)]) (N := ["charges", "account", "found", "label", "rows", "seconds", "charge"]) (sc := defScope s_law_labels) (by decide +kernel)) (by decide) (fun _ _ _ _ _ => dg_name 6 sc_law_labels.nd) (fun _ _ _ _ _ => dts_one ((d_and (d_tcmp op_eq s_eq (d_fld T.c_Charge T.n_Charge_account (d_var 6)) (d_var 1)) (d_and1 (d_tcmp op_eq s_eq (d_ix ix_seq s_ix (d_fld T.c_Charge T.n_Charge_key (d_var 6)) (d_int)) (d_var 3)))).pt)) (fun _ _ _ _ _ => d_var 6))
      (ds_one (ds_if (d_tcmp (op_neEmp hr.units) s_emp (d_var 4) (d_lst (d_nil)))
        (ds_consL (ds_set 5 sc_law_labels.nd (d_callB (cr_sum rfl) s_sum (by rfl) T.z_sum (by decide +kernel) (d_cons (d_lc rfl sc_law_labels.nd (di_list (d_var 4)) (blkOk_by (own := [("charge", 6)]) (N := ["charges", "account", "found", "label", "rows", "seconds", "charge"]) (sc := defScope s_law_labels) (by decide +kernel)) (by decide) (fun _ _ _ _ _ => dg_name 6 sc_law_labels.nd) (fun _ _ _ _ _ => dts_nil) (fun _ _ _ _ _ => d_op op_sub s_sub (d_fld T.c_Charge T.n_Charge_till (d_var 6)) (d_ix ix_seq s_ix (d_fld T.c_Charge T.n_Charge_key (d_var 6)) (d_int)))) (d_nil))))
        (ds_one (ds_expr (d_bmL PySem.F.plainAttrs_list PySem.F.slot_list_append PySem.F.type_list_append mt_append s_append (d_var 2) (d_cons (d_tup (d_cons (d_var 3) (d_cons (d_callB call_len s_len (by rfl) T.z_len (by decide +kernel) (d_cons (d_var 4) (d_nil))) (d_cons (d_var 5) (d_cons (d_callB (cr_sum rfl) s_sum (by rfl) T.z_sum (by decide +kernel) (d_cons (d_lc rfl sc_law_labels.nd (di_list (d_var 4)) (blkOk_by (own := [("charge", 6)]) (N := ["charges", "account", "found", "label", "rows", "seconds", "charge"]) (sc := defScope s_law_labels) (by decide +kernel)) (by decide) (fun _ _ _ _ _ => dg_name 6 sc_law_labels.nd) (fun _ _ _ _ _ => dts_nil) (fun _ _ _ _ _ => d_fld T.c_Charge T.n_Charge_mills (d_var 6))) (d_nil))) (d_nil)))))) (d_nil))))))
        (ds_nil)))))
    (ds_one (ds_retF (d_var 2))))) (fun ds C Pk h => by
    obtain ⟨L, a, rfl, hl, q⟩ := h
    refine seq_hide fun E' hE => ?_
    walk_at "dd"
    intro p hp
    subst hE
    dsimp only
    refine seq_hide fun E' hE => ?_
    walk_at "dd"
    show ForG ⟨lab4.map D.str, frozen⟩ _ _ _ _ _
    refine for_map (L := lab4) (enc := D.str) (fun j ρ' C' => (∃ o3 o4 o5 o6, ρ' = [some (.lst (L.map (cgD A))), some (.str a), some (.ptr p), o3, o4, o5, o6]) ∧ C' = cput C p (.lst (((lab4.take j).filter fun l => !(rowsL L a l).isEmpty).map fun l => .tup (.str l :: lbE (rowsL L a l))))) ⟨⟨_, _, _, _, rfl⟩, rfl⟩ ?_ ?_
    · rintro j l ρ' C' hj ⟨⟨o3, o4, o5, o6, rfl⟩, rfl⟩
      rw [take_snoc hj, List.filter_append, List.map_append]
      have hql : ((lab4.take j).filter fun l => !(rowsL L a l).isEmpty).length ≤ 4 := Nat.le_trans (List.length_filter_le _ _) (by rw [List.length_take]; have : lab4.length = 4 := rfl; omega)
      revert hql
      generalize (lab4.take j).filter (fun l => !(rowsL L a l).isEmpty) = O
      intro hql
      refine seq_hide fun E2 hE2 => ?_
      walk_at "dd"
      refine lc_map (L := L) (enc := cgD A) (fun c => if (decide (c.acc = a) && decide (c.lab = l)) = true then some (cgD A c) else none) (fun _ _ => trivial) (by omega) (fun i c C' Q hi hs hQ => ?_) ?_
      · have f1 := fc_a A c
        have f2 := fc_k A c
        have hky : kyD (ckey c) = .tup [ownD c.k, .int c.lo, .str c.lab] := rfl
        clear hi hs hE2 hE q
        by_cases g1 : c.acc = a
        · by_cases g2 : c.lab = l
          · rw [if_pos (by simp [g1, g2])] at hQ
            walk_at "dd"
          · rw [if_neg (by simp [g2])] at hQ
            walk_at "dd"
        · rw [if_neg (by simp [g1])] at hQ
          walk_at "dd"
      · rw [fm_selc, show L.filter (fun c => decide (c.acc = a) && decide (c.lab = l)) = rowsL L a l from rfl]
        subst hE2
        dsimp only
        have hrl : (rowsL L a l).length ≤ 1000 := Nat.le_trans (List.length_filter_le _ _) hl
        have hem : ((rowsL L a l).map (cgD A)).isEmpty = (rowsL L a l).isEmpty := List.isEmpty_map
        cases he : (rowsL L a l).isEmpty with
        | true =>
          rw [he] at hem
          rw [show [l].filter (fun l => !(rowsL L a l).isEmpty) = [] by simp [List.filter_cons, he], List.map_nil, List.append_nil]
          clear q hE he
          walk_at "dd"
          exact ⟨_, _, _, _, rfl⟩
        | false =>
          rw [he] at hem
          rw [show [l].filter (fun l => !(rowsL L a l).isEmpty) = [l] by simp [List.filter_cons, he]]
          have hlb : [l].map (fun l => D.tup (.str l :: lbE (rowsL L a l))) = [.tup [.str l, .int (rowsL L a l).length, .int ((rowsL L a l).map fun c => c.hi - c.lo).sum, .int ((rowsL L a l).map fun c => c.mi).sum]] := rfl
          rw [hlb]
          have hod : (O.map (fun l => D.tup (.str l :: lbE (rowsL L a l)))).length ≤ 4 := by rw [List.length_map]; exact hql
          generalize O.map (fun l => D.tup (.str l :: lbE (rowsL L a l))) = OD at *
          revert hrl hem
          generalize rowsL L a l = R
          intro hrl hem
          clear q hE he
          walk_at "dd"
          refine seq_hide fun E2 hE2 => ?_
          walk_at "dd"
          refine lc_map (L := R) (enc := cgD A) (fun c => some (.int (c.hi - c.lo))) (fun _ _ => trivial) (by omega) (fun i c C' Q hi hs hQ => ?_) ?_
          · have f2 := fc_k A c
            have f3 := fc_t A c
            have hky : kyD (ckey c) = .tup [ownD c.k, .int c.lo, .str c.lab] := rfl
            walk_at "dd"
            try exact hQ
          · rw [show R.filterMap (fun c => some (D.int (c.hi - c.lo))) = (R.map fun c => c.hi - c.lo).map D.int by rw [List.map_map]; exact congrFun List.filterMap_eq_map R]
            refine ⟨_, ints_lst, ?_⟩
            subst hE2
            dsimp only
            walk_at "dd"
            refine lc_map (L := R) (enc := cgD A) (fun c => some (.int c.mi)) (fun _ _ => trivial) (by omega) (fun i c C' Q hi hs hQ => ?_) ?_
            · have f4 := fc_m A c
              walk_at "dd"
              try exact hQ
            · rw [show R.filterMap (fun c => some (D.int c.mi)) = (R.map fun c => c.mi).map D.int by rw [List.map_map]; exact congrFun List.filterMap_eq_map R]
              refine ⟨_, ints_lst, ?_⟩
              dsimp only
              rw [cput_same]
              dsimp only
              exact ⟨by omega, ⟨_, _, _, _, rfl⟩, by rw [cput_cput]⟩

    · rintro ρ' C' ⟨⟨o3, o4, o5, o6, rfl⟩, rfl⟩
      have e : lab4.take lab4.length = lab4 := List.take_length
      rw [e]
      subst hE
      walk_at "dd"
      exact ⟨C, Sub.new hp, hp, C, Sub.refl _, q⟩)

def R_law (A : Ad) : DSp := fun ds C P => ∃ ns : List Int, ds = [.lst (ns.map D.int)] ∧ ns.length ≤ 63 ∧ ∀ C', P (.bl true) C'
theorem len_law (A : Ad) : ∀ ds C P, R_law A ds C P → ds.length = 1 := by rintro _ _ _ ⟨ns, rfl, _⟩; rfl
theorem law_go (A : Ad) : ∀ (ns : List Int) (P : DK), ns.length ≤ 63 → (∀ C', P (.bl true) C') → R_law A [.lst (ns.map D.int)] (fun _ => none) P := fun ns P hl k => ⟨ns, rfl, hl, k⟩

theorem ok_law (T : Txt K mg A P w) : FnOk P w K mg base CX0 8 A.a_law A.d_law ["script"] (spD K (R_law A)) :=
  ok_D T.F_law sc_law (len_law A) (fun cdv Ar outer s H E hr =>
    ds_consL (ds_set 1 sc_law.nd (d_call (ok_law_sections T) (hr.mono (by decide)) T.g_law_sections T.F_law_sections.kp T.b_law_sections (d_cons (d_var 0) (d_cons (d_callB (call_min2 rfl) s_min2 (by rfl) T.z_min (by decide +kernel) (d_cons (d_int) (d_cons (d_op op_add s_add (d_int) (d_callB call_len s_len (by rfl) T.z_len (by decide +kernel) (d_cons (d_var 0) (d_nil)))) (d_nil)))) (d_nil)))))
    (ds_consL (ds_set 2 sc_law.nd (d_lstC (d_nil)))
    (ds_consL (ds_set 3 sc_law.nd (d_make0 T.m_Ledger_init (ok_Ledger_init T) (hr.mono (by decide)) T.g_Ledger T.b_Ledger_init))
    (ds_consL (ds_set 4 sc_law.nd (d_lstC (d_nil)))
    (ds_consL (ds_for PassesOwn.never rfl (di_rng1 (by rfl) T.z_range (d_cons (d_int) (d_nil))) (dg_name 5 sc_law.nd)
      (ds_consL (ds_set 6 sc_law.nd (d_call (ok_law_state T) (hr.mono (by decide)) T.g_law_state T.F_law_state.kp T.b_law_state (d_cons (d_call (ok_law_cell T) (hr.mono (by decide)) T.g_law_cell T.F_law_cell.kp T.b_law_cell (d_cons (d_var 0) (d_cons (d_var 5) (d_nil)))) (d_cons (d_op op_add s_add (d_int) (d_var 5)) (d_nil)))))
      (ds_consL (ds_set 7 sc_law.nd (d_call (ok_law_tariffs T) (hr.mono (by decide)) T.g_law_tariffs T.F_law_tariffs.kp T.b_law_tariffs (d_cons (d_var 6) (d_nil))))
      (ds_consL (ds_set 8 sc_law.nd (d_dispF (dps_cons (d_str) (d_op op_mul s_mul (d_int) (d_call (ok_law_digit T) (hr.mono (by decide)) T.g_law_digit T.F_law_digit.kp T.b_law_digit (d_cons (d_var 6) (d_cons (d_int) (d_nil))))) (dps_cons (d_str) (d_int) (dps_nil)))))
      (ds_consL (ds_asg (d_call (ok_charge_sections T) (hr.mono (by decide)) T.g_charge_sections T.F_charge_sections.kp T.b_charge_sections (d_cons (d_var 1) (d_cons (d_call (ok_law_contracts T) (hr.mono (by decide)) T.g_law_contracts T.F_law_contracts.kp T.b_law_contracts (d_cons (d_var 6) (d_nil))) (d_cons (d_var 7) (d_cons (d_var 8) (d_nil)))))) (dg_tup rfl (dgs_cons (dg_name 9 sc_law.nd) (dgs_cons (dg_name 10 sc_law.nd) (dgs_nil)))))
      (ds_frz (ds_cons (ds_expr (d_bmL PySem.F.plainAttrs_list PySem.F.slot_list_append PySem.F.type_list_append mt_append s_append (d_var 2) (d_cons (d_var 9) (d_nil))))
      (ds_consL (ds_expr (d_call (ok_law_book T) (hr.mono (by decide)) T.g_law_book T.F_law_book.kp T.b_law_book (d_cons (d_var 3) (d_cons (d_var 9) (d_cons (d_var 5) (d_nil))))))
      (ds_consL (ds_expr (d_bmL PySem.F.plainAttrs_list PySem.F.slot_list_append PySem.F.type_list_append mt_append s_append (d_var 4) (d_cons (d_lc rfl sc_law.nd (di_tup (d_tup (d_cons (d_str) (d_cons (d_str) (d_cons (d_str) (d_nil)))))) (blkOk_by (own := [("account", 13)]) (N := ["script", "sections", "runs", "ledger", "balances", "k", "state", "tariffs", "free", "charges", "spare", "sums", "place", "account", "old", "new", "keys", "found", "changes", "owners", "key"]) (sc := defScope s_law) (by decide +kernel)) (by decide) (fun _ _ _ _ _ => dg_name 13 sc_law.nd) (fun _ _ _ _ _ => dts_nil) (fun _ _ _ _ _ => d_meth T.c_Ledger T.m_Ledger_balance (ok_Ledger_balance T) (hr.mono (by decide)) T.b_Ledger_balance (d_var 3) (d_cons (d_var 13) (d_nil)))) (d_nil))))
      (ds_consL (ds_set 11 sc_law.nd (d_call (ok_account_sums T) (hr.mono (by decide)) T.g_account_sums T.F_account_sums.kp T.b_account_sums (d_cons (d_var 9) (d_nil))))
      (ds_one (ds_for PassesOwn.never rfl (di_rng1 (by rfl) T.z_range (d_cons (d_int) (d_nil))) (dg_name 12 sc_law.nd)
        (ds_cons (ds_set 13 sc_law.nd (d_ix ix_seq s_ix (d_tup (d_cons (d_str) (d_cons (d_str) (d_cons (d_str) (d_nil))))) (d_var 12)))
        (ds_one (ds_if ((d_or (d_tcmp op_ne s_ne (dd_get2 hr (d_var 11) (d_var 13) (d_int)) (d_ix ix_seq s_ix (d_ix ix_seq s_ix (d_var 4) (d_var 5)) (d_var 12))) (d_or1 (d_tcmp (op_neD hr.units) s_neD (d_call (ok_label_sums T) (hr.mono (by decide)) T.g_label_sums T.F_label_sums.kp T.b_label_sums (d_cons (d_var 9) (d_cons (d_var 13) (d_nil)))) (d_call (ok_law_labels T) (hr.mono (by decide)) T.g_law_labels T.F_law_labels.kp T.b_law_labels (d_cons (d_var 9) (d_cons (d_var 13) (d_nil))))))).pt)
          (ds_one (ds_ret (d_bl)))
          (ds_nil)))))))))) 9))))))
    (ds_consL (ds_for PassesOwn.never rfl (di_rng1 (by rfl) T.z_range (d_cons (d_int) (d_nil))) (dg_name 5 sc_law.nd)
      (ds_consL (ds_set 14 sc_law.nd (d_call (ok_charge_table T) (hr.mono (by decide)) T.g_charge_table T.F_charge_table.kp T.b_charge_table (d_cons (d_ix ix_seq s_ix (d_var 2) (d_var 5)) (d_nil))))
      (ds_consL (ds_set 15 sc_law.nd (d_call (ok_charge_table T) (hr.mono (by decide)) T.g_charge_table T.F_charge_table.kp T.b_charge_table (d_cons (d_ix ix_seq s_ix (d_var 2) (d_op op_add s_add (d_var 5) (d_int))) (d_nil))))
      (ds_consL (ds_set 16 sc_law.nd (d_callB (cr_sortedD hr.units) s_sortD (by rfl) T.z_sorted (by decide +kernel) (d_cons (d_op op_catS s_cat (d_lock (pVar 14) (d_lc rfl sc_law.nd (di_keysN (d_var 14)) (blkOk_by (own := [("key", 20)]) (N := ["script", "sections", "runs", "ledger", "balances", "k", "state", "tariffs", "free", "charges", "spare", "sums", "place", "account", "old", "new", "keys", "found", "changes", "owners", "key"]) (sc := defScope s_law) (by decide +kernel)) (by decide) (fun _ _ _ _ _ => dg_name 20 sc_law.nd) (fun _ _ _ _ _ => dts_one (d_tcmp (op_neD hr.units) s_neD (d_nget1 hr.units T.hq (d_var 15) (d_var 20)) (d_ix (ix_N hr.units T.hq) s_rd (d_var 14) (d_var 20)))) (fun _ _ _ _ _ => d_var 20))) (d_lock (pVar 15) (d_lc rfl sc_law.nd (di_keysN (d_var 15)) (blkOk_by (own := [("key", 20)]) (N := ["script", "sections", "runs", "ledger", "balances", "k", "state", "tariffs", "free", "charges", "spare", "sums", "place", "account", "old", "new", "keys", "found", "changes", "owners", "key"]) (sc := defScope s_law) (by decide +kernel)) (by decide) (fun _ _ _ _ _ => dg_name 20 sc_law.nd) (fun _ _ _ _ _ => dts_one (d_tcmp (op_notInN hr.units T.hq) s_rd (d_var 20) (d_var 14))) (fun _ _ _ _ _ => d_var 20)))) (d_nil))))
      (ds_consL (ds_set 17 sc_law.nd (d_call (ok_differences T) (hr.mono (by decide)) T.g_differences T.F_differences.kp T.b_differences (d_cons (d_ix ix_seq s_ix (d_var 2) (d_var 5)) (d_cons (d_ix ix_seq s_ix (d_var 2) (d_op op_add s_add (d_var 5) (d_int))) (d_nil)))))
      (ds_consL (ds_if (d_tcmp (op_neD hr.units) s_neD (d_var 17) (d_lc rfl sc_law.nd (di_list (d_var 16)) (blkOk_by (own := [("key", 20)]) (N := ["script", "sections", "runs", "ledger", "balances", "k", "state", "tariffs", "free", "charges", "spare", "sums", "place", "account", "old", "new", "keys", "found", "changes", "owners", "key"]) (sc := defScope s_law) (by decide +kernel)) (by decide) (fun _ _ _ _ _ => dg_name 20 sc_law.nd) (fun _ _ _ _ _ => dts_nil) (fun _ _ _ _ _ => d_tup (d_cons (d_var 20) (d_cons (d_nget1 hr.units T.hq (d_var 14) (d_var 20)) (d_cons (d_nget1 hr.units T.hq (d_var 15) (d_var 20)) (d_nil)))))))
        (ds_one (ds_ret (d_bl)))
        (ds_nil))
      (ds_consL (ds_set 18 sc_law.nd (d_call (ok_changes_of_accounts T) (hr.mono (by decide)) T.g_changes_of_accounts T.F_changes_of_accounts.kp T.b_changes_of_accounts (d_cons (d_var 17) (d_nil))))
      (ds_consL (ds_for PassesOwn.never rfl (di_rng1 (by rfl) T.z_range (d_cons (d_int) (d_nil))) (dg_name 12 sc_law.nd)
        (ds_one (ds_if (d_tcmp op_ne s_ne (dd_get2 hr (d_var 18) (d_ix ix_seq s_ix (d_tup (d_cons (d_str) (d_cons (d_str) (d_cons (d_str) (d_nil))))) (d_var 12)) (d_int)) (d_op op_sub s_sub (d_ix ix_seq s_ix (d_ix ix_seq s_ix (d_var 4) (d_op op_add s_add (d_var 5) (d_int))) (d_var 12)) (d_ix ix_seq s_ix (d_ix ix_seq s_ix (d_var 4) (d_var 5)) (d_var 12))))
          (ds_one (ds_ret (d_bl)))
          (ds_nil))))
      (ds_consL (ds_if (d_tcmp op_in_seq s_inS (d_int) (d_lock (pVar 18) (d_lc rfl sc_law.nd (di_keys (d_var 18)) (blkOk_by (own := [("account", 13)]) (N := ["script", "sections", "runs", "ledger", "balances", "k", "state", "tariffs", "free", "charges", "spare", "sums", "place", "account", "old", "new", "keys", "found", "changes", "owners", "key"]) (sc := defScope s_law) (by decide +kernel)) (by decide) (fun _ _ _ _ _ => dg_name 13 sc_law.nd) (fun _ _ _ _ _ => dts_nil) (fun _ _ _ _ _ => d_dget hr (d_var 18) (d_var 13)))))
        (ds_one (ds_ret (d_bl)))
        (ds_nil))
      (ds_consL (ds_set 19 sc_law.nd (d_lstC (d_nil)))
      (ds_consL (ds_for PassesOwn.never rfl (di_list (d_var 16)) (dg_name 20 sc_law.nd)
        (ds_one (ds_if (d_tcmp (op_notInQ hr.units2) s_inD (d_ix ix_seq s_ix (d_var 20) (d_int)) (d_var 19))
          (ds_one (ds_expr (d_bmL PySem.F.plainAttrs_list PySem.F.slot_list_append PySem.F.type_list_append mt_append s_append (d_var 19) (d_cons (d_ix ix_seq s_ix (d_var 20) (d_int)) (d_nil)))))
          (ds_nil))))
      (ds_one (ds_if ((d_or (d_tcmp (op_neD hr.units) s_neD (d_call (ok_sections_changed T) (hr.mono (by decide)) T.g_sections_changed T.F_sections_changed.kp T.b_sections_changed (d_cons (d_var 17) (d_nil))) (d_callB (cr_sortedD hr.units) s_sortD (by rfl) T.z_sorted (by decide +kernel) (d_cons (d_var 19) (d_nil)))) (d_or1 (d_tcmp (op_neEmp hr.units) s_emp (d_call (ok_differences T) (hr.mono (by decide)) T.g_differences T.F_differences.kp T.b_differences (d_cons (d_ix ix_seq s_ix (d_var 2) (d_var 5)) (d_cons (d_ix ix_seq s_ix (d_var 2) (d_var 5)) (d_nil)))) (d_lst (d_nil))))).pt)
        (ds_one (ds_ret (d_bl)))
        (ds_nil))))))))))))))
    (ds_one (ds_ret (d_bl))))))))) (fun ds C Pk h => by
    obtain ⟨ns, rfl, hns, q⟩ := h
    refine seq_hide fun E' hE => ?_
    walk_at "dd"
    rw [show min (26 : Int) (8 + (ns.length : Int)) = ((min 26 (8 + ns.length) : Nat) : Int) by omega]
    refine ⟨ns, min 26 (8 + ns.length), rfl, hns, by omega, fun ss C0 hss hS0 => ?_⟩
    have lss : ss.length ≤ 26 := by
      have := congrArg List.length hss
      rw [List.length_map, List.length_map, List.length_range] at this
      omega
    have nds : (ss.map fun s => s.k).Nodup := by
      rw [hss]
      rw [List.nodup_iff_pairwise_ne, List.pairwise_map]
      exact List.nodup_range.imp fun h z => h (Int.ofNat.inj z)
    subst hE
    dsimp only [List.set_cons_succ, List.set_cons_zero]
    refine seq_hide fun E' hE => ?_
    walk_at "dd"
    clear hss hS0
    intro pu hpu
    have hcu : cput C0 pu (.lst []) pu = some (.lst []) := cput_same
    generalize cput C0 pu (.lst []) = C1 at hcu ⊢
    clear hpu
    subst hE
    dsimp only
    refine seq_hide fun E' hE => ?_
    walk_at "dd"
    intro pl hpl
    have nul : pu ≠ pl := cell_ne hcu hpl
    refine ⟨pl, rfl, cput_same, fun C2 ps hfr hS => ⟨rfl, ?_⟩⟩
    have hcu2 : C2 pu = some (.lst []) := hfr _ _ ((cput_ne nul).trans hcu) nul
    clear hfr hpl hcu
    subst hE
    dsimp only
    refine seq_hide fun E' hE => ?_
    walk_at "dd"
    intro pb hpb
    obtain ⟨pz, ho⟩ := hS.obj
    have nub : pu ≠ pb := cell_ne hcu2 hpb
    have hS2 := hS.oth hpb (.lst [])
    have nlb : pl ≠ pb := cell_ne ho hpb
    have nsb : ps ≠ pb := cell_ne hS.tab hpb
    have nlu : pl ≠ pu := nul.symm
    have nsu : ps ≠ pu := fun z => by
      have := hS.tab
      rw [z, hcu2] at this; cases this
    have hcu3 : cput C2 pb (.lst []) pu = some (.lst []) := (cput_ne nub).trans hcu2
    have hcb3 : cput C2 pb (.lst []) pb = some (.lst []) := cput_same
    revert hS2 hcu3 hcb3
    generalize cput C2 pb (.lst []) = C3
    intro hS2 hcu3 hcb3
    clear hS hcu2 ho hpb
    subst hE
    dsimp only
    refine seq_hide fun E' hE => ?_
    walk_at "dd"
    refine ⟨by decide, for_rng (fun k ρ' C' => ∃ (R : List (List Cg)) (T : Tb) (Ls : List Po), R.length = k ∧ (∀ L ∈ R, ChOk L ∧ L.length ≤ 200) ∧ LdS A C' pl ps T Ls ∧ T.length ≤ 200 ∧ Ls.length ≤ 1200 * k ∧ C' pu = some (.lst (R.map fun L => .lst (L.map (cgD A)))) ∧ C' pb = some (.lst (R.map fun L => .lst (acs3.map fun a => .int (chS L a)))) ∧ ∃ o5 o6 o7 o8 o9 o10 o11 o12 o13, ρ' = [some (.lst (ns.map D.int)), some (.lst (ss.map (scD A))), some (.ptr pu), some (.ptr pl), some (.ptr pb), o5, o6, o7, o8, o9, o10, o11, o12, o13, none, none, none, none, none, none, none]) ⟨[], [], [], rfl, (fun L h => by cases h), hS2, Nat.zero_le _, Nat.zero_le _, hcu3, hcb3, _, _, _, _, _, _, _, _, _, rfl⟩ ?_ ?_⟩
    · rintro k ρ' C4 hk ⟨R, T, Ls, hRl, hR, hS, hT, hLs, hcu, hcb, o5, o6, o7, o8, o9, o10, o11, o12, o13, rfl⟩
      have hk3 : k < 3 := hk
      rw [show (0 : Int) + (k : Int) = (k : Int) by omega]
      refine seq_hide fun E2 hE2 => ?_
      walk_at "dd"
      refine ⟨ns, k, rfl, hns, by omega, fun v => ⟨v, 60 + k, rfl, by omega, by omega, fun p s hs hp => ?_⟩⟩
      obtain ⟨pz, ho⟩ := hS.obj
      have m1 : pl ≠ p := cell_ne ho hp
      have m2 : ps ≠ p := cell_ne hS.tab hp
      have m3 : pu ≠ p := cell_ne hcu hp
      have m4 : pb ≠ p := cell_ne hcb hp
      have hS1 := hS.oth hp (.lst [.int s])
      have hcu1 : cput C4 p (.lst [.int s]) pu = some (.lst (R.map fun L => .lst (L.map (cgD A)))) := (cput_ne m3).trans hcu
      have hcb1 : cput C4 p (.lst [.int s]) pb = some (.lst (R.map fun L => .lst (acs3.map fun a => .int (chS L a)))) := (cput_ne m4).trans hcb
      have hcp1 : cput C4 p (.lst [.int s]) p = some (.lst [.int s]) := cput_same
      revert hS1 hcu1 hcb1 hcp1
      generalize cput C4 p (.lst [.int s]) = C5
      intro hS1 hcu1 hcb1 hcp1
      clear hS hcu hcb hp ho
      subst hE2
      dsimp only
      refine seq_hide fun E2 hE2 => ?_
      walk_at "dd"
      refine ⟨p, s, rfl, hcp1, hs, fun ts s1 C6 hts hto hs1 hsub => ?_⟩
      have hS2 := (hS1.put m1 m2 (.lst [.int s1])).sub hsub
      have hcu2 := hsub _ _ ((cput_ne m3).trans hcu1)
      have hcb2 := hsub _ _ ((cput_ne m4).trans hcb1)
      have hcp2 := hsub _ _ cput_same
      clear hS1 hcu1 hcb1 hcp1 hsub
      subst hE2
      dsimp only
      refine seq_hide fun E2 hE2 => ?_
      walk_at "dd"
      intro pd hpd
      have mpd : p ≠ pd := cell_ne hcp2 hpd
      refine ⟨p, s1, 3, rfl, (cput_ne mpd).trans hcp2, hs1, by decide, by decide, fun d s2 a0 b0 c0 => ?_⟩
      walk_at "dd"
      have hpc : cput (cput C6 pd (.dK [])) p (.lst [.int s2]) pd = some (.dK []) := (cput_ne mpd.symm).trans cput_same
      have hsub : Sub (cput C6 p (.lst [.int s2])) (cput (cput C6 pd (.dK [])) p (.lst [.int s2])) := fun b c hb => by
        by_cases e : b = p
        · subst e; rw [cput_same] at hb ⊢; exact hb
        · rw [cput_ne e] at hb ⊢
          exact (cput_ne (cell_ne hb hpd)).trans hb
      have hal : puD (puD ([] : List (L2.Key × D)) (Sum.inr (Str.ofString "ann")) (.int (60 * d))) (Sum.inr (Str.ofString "bo")) (.int 4000) = alK [("ann", 60 * d), ("bo", 4000)] := rfl
      refine ⟨cmul_l (by decide) (by omega), hpc, cput C6 p (.lst [.int s2]), hsub, (cput_ne mpd.symm).trans hpd, ?_⟩
      rw [hal]
      have hnn : NnA [("ann", 60 * d), ("bo", 4000)] := fun a => by
        unfold alF
        rw [lkA_cons]
        split
        · show (0 : Int) ≤ 60 * d; omega
        · rw [lkA_cons]
          split
          · show (0 : Int) ≤ 4000; decide
          · exact Int.le_refl _
      generalize ([("ann", 60 * d), ("bo", 4000)] : Alw) = al at hnn ⊢
      have hS3 := hS2.put m1 m2 (.lst [.int s2])
      have hcu3 := (cput_ne (c := .lst [.int s2]) m3).trans hcu2
      have hcb3 := (cput_ne (c := .lst [.int s2]) m4).trans hcb2
      have hcp3 : cput C6 p (.lst [.int s2]) p = some (.lst [.int s2]) := cput_same
      revert hS3 hcu3 hcb3 hcp3
      clear hpc hsub
      generalize cput C6 p (.lst [.int s2]) = C7
      intro hS3 hcu3 hcb3 hcp3
      clear hS2 hcu2 hcb2 hcp2 hpd
      subst hE2
      dsimp only
      refine seq_hide fun E2 hE2 => ?_
      walk_at "dd"
      refine ⟨p, s2, rfl, hcp3, c0, fun hi pc ph s3 C8 hh hs3 hfr g0 g1 g2 => ⟨ss, pc, ph, hi, ts, al, rfl, by omega, hnn, g1, g2, fun C9 p1 p2 hsub n1 n2 n12 e1 e2 => ?_⟩⟩
      have hch := runF_ch (al := al) hto hh nds
      have hcl : (runF hi ts al ss).ch.length ≤ 200 := by
        have := (runF_ok (hi := hi) (ts := ts) hnn (ss.mergeSort leS)).lc
        rw [List.length_mergeSort] at this
        unfold runF
        omega
      obtain ⟨pz3, ho3⟩ := hS3.obj
      have hS4 : LdS A C9 pl ps T Ls := by
        refine ⟨⟨pz3, hsub _ _ (hfr _ _ ho3 m1)⟩, hsub _ _ (hfr _ _ hS3.tab m2), hS3.nd, hS3.tx, hS3.bal⟩
      have hcu4 := hsub _ _ (hfr _ _ hcu3 m3)
      have hcb4 := hsub _ _ (hfr _ _ hcb3 m4)
      have q1 : pl ≠ p1 := cell_ne (hfr _ _ ho3 m1) n1
      have q2 : ps ≠ p1 := cell_ne (hfr _ _ hS3.tab m2) n1
      have q3 : pu ≠ p1 := cell_ne (hfr _ _ hcu3 m3) n1
      have q4 : pb ≠ p1 := cell_ne (hfr _ _ hcb3 m4) n1
      clear hfr hsub g0 g1 g2 hS3 hcu3 hcb3 hcp3 ho3 n1 n2 e2
      revert hch hcl e1
      generalize (runF hi ts al ss).ch = L
      intro e1 hch hcl
      clear hh hto hts hnn
      walk_at "dd"
      subst hE2
      dsimp only
      walk_at "dd"
      refine ⟨crem C9 p1, crem_sub _ _, crem_same, ?_⟩
      have hS5 : LdS A (crem C9 p1) pl ps T Ls := by
        obtain ⟨pz5, ho5⟩ := hS4.obj
        exact ⟨⟨pz5, (crem_ne q1).trans ho5⟩, (crem_ne q2).trans hS4.tab, hS4.nd, hS4.tx, hS4.bal⟩
      have hcu5 := (crem_ne (p := p1) q3).trans hcu4
      have hcb5 := (crem_ne (p := p1) q4).trans hcb4
      revert hS5 hcu5 hcb5
      generalize crem C9 p1 = C10
      intro hS5 hcu5 hcb5
      clear hS4 hcu4 hcb4 e1 q1 q2 q3 q4 m1 m2 m3 m4 mpd n12
      try rw [hcu5]
      dsimp only
      refine ⟨trivial, by rw [List.length_map]; omega, ?_⟩
      have hcu6 : cput C10 pu (.lst ((R.map fun L => .lst (L.map (cgD A))) ++ [.lst (L.map (cgD A))])) pu = some (.lst ((R ++ [L]).map fun L => .lst (L.map (cgD A)))) := by rw [cput_same, List.map_append]; rfl
      have hcb6 : cput C10 pu (.lst ((R.map fun L => .lst (L.map (cgD A))) ++ [.lst (L.map (cgD A))])) pb = some (.lst (R.map fun L => .lst (acs3.map fun a => .int (chS L a)))) := (cput_ne nub.symm).trans hcb5
      have hS6 := hS5.put nlu nsu (.lst ((R.map fun L => .lst (L.map (cgD A))) ++ [.lst (L.map (cgD A))]))
      revert hS6 hcu6 hcb6
      generalize cput C10 pu (.lst ((R.map fun L => .lst (L.map (cgD A))) ++ [.lst (L.map (cgD A))])) = C11
      intro hcu6 hcb6 hS6
      clear hS5 hcu5 hcb5
      refine seq_hide fun E2 hE2 => ?_
      walk_at "dd"
      refine ⟨pl, ps, T, Ls, L, k, rfl, hS6, hch, hcl, hT, by omega, fun C12 T' Ls' hfr hS7 hT' hLs' hsum => ?_⟩
      have hcu7 := hfr _ _ hcu6 nul nsu.symm
      have hcb7 := hfr _ _ hcb6 nlb.symm nsb.symm
      have hLs2 : Ls'.length ≤ 1200 * (k + 1) := by omega
      clear hfr hcu6 hcb6 hS6 hT hLs
      obtain ⟨pz7, ho7⟩ := hS7.obj
      subst hE2
      dsimp only
      refine seq_hide fun E2 hE2 => ?_
      walk_at "dd"
      show LcG ⟨acs3.map D.str, frozen⟩ _ _ _ _ _ _ _
      refine lc_map (L := acs3) (enc := D.str) (fun a => some (.int (chS L a))) (fun _ _ => trivial) (by decide) (fun i a C' Q hi hs hQ => ?_) ?_
      · have hS8 := hS7.sub hs
        have ho8 := hs _ _ ho7
        clear hE2 hE hi
        walk_at "dd"
        refine ⟨pl, ps, T', Ls', a, rfl, hS8, by omega, ?_⟩
        rw [hS8.bal, hsum]
        exact hQ
      · rw [show acs3.filterMap (fun a => some (D.int (chS L a))) = acs3.map fun a => .int (chS L a) from congrFun List.filterMap_eq_map _]
        rw [hcb7]
        dsimp only
        refine ⟨by rw [List.length_map]; omega, ?_⟩
        have hcb9 : cput C12 pb (.lst ((R.map fun L => .lst (acs3.map fun a => .int (chS L a))) ++ [.lst (acs3.map fun a => .int (chS L a))])) pb = some (.lst ((R ++ [L]).map fun L => .lst (acs3.map fun a => .int (chS L a)))) := by rw [cput_same, List.map_append]; rfl
        have hcu9 : cput C12 pb (.lst ((R.map fun L => .lst (acs3.map fun a => .int (chS L a))) ++ [.lst (acs3.map fun a => .int (chS L a))])) pu = some (.lst ((R ++ [L]).map fun L => .lst (L.map (cgD A)))) := (cput_ne nub).trans hcu7
        have hS9 := hS7.put nlb nsb (.lst ((R.map fun L => .lst (acs3.map fun a => .int (chS L a))) ++ [.lst (acs3.map fun a => .int (chS L a))]))
        revert hS9 hcu9 hcb9
        generalize cput C12 pb (.lst ((R.map fun L => .lst (acs3.map fun a => .int (chS L a))) ++ [.lst (acs3.map fun a => .int (chS L a))])) = C13
        intro hcb9 hcu9 hS9
        clear hS7 hcb7 hcu7 ho7
        subst hE2
        dsimp only
        refine seq_hide fun E2 hE2 => ?_
        walk_at "dd"
        refine ⟨L, rfl, by omega, ?_⟩
        subst hE2
        dsimp only
        have hRk : (R ++ [L])[k]? = some L := by rw [← hRl]; simp
        have hR2 : ∀ M ∈ R ++ [L], ChOk M ∧ M.length ≤ 200 := fun M hM => by
          rcases List.mem_append.mp hM with hM | hM
          · exact hR M hM
          · simp only [List.mem_cons, List.not_mem_nil, or_false] at hM
            rw [hM]; exact ⟨hch, hcl⟩
        have hR3 : (R ++ [L]).length = k + 1 := by rw [List.length_append, hRl]; rfl
        have hfin : ∃ (R2 : List (List Cg)) (T2 : Tb) (Ls2 : List Po), R2.length = k + 1 ∧ (∀ M ∈ R2, ChOk M ∧ M.length ≤ 200) ∧ LdS A C13 pl ps T2 Ls2 ∧ T2.length ≤ 200 ∧ Ls2.length ≤ 1200 * (k + 1) ∧ C13 pu = some (.lst (R2.map fun L => .lst (L.map (cgD A)))) ∧ C13 pb = some (.lst (R2.map fun L => .lst (acs3.map fun a => .int (chS L a)))) := ⟨R ++ [L], T', Ls', hR3, hR2, hS9, by omega, hLs2, hcu9, hcb9⟩
        clear hS9 hcu9 hR2 hR3 hR hRl hsum hT' hLs2 hLs'
        walk_at "dd"
        refine ⟨by decide, for_rng (fun j ρ' C' => C' = C13 ∧ ∃ o12 o13, ρ' = [some (.lst (ns.map D.int)), some (.lst (ss.map (scD A))), some (.ptr pu), some (.ptr pl), some (.ptr pb), some (.int (k : Int)), some (.ptr p), some (.dK (tsK A ts)), some (.dK (alK al)), some (.lst (L.map (cgD A))), some (.ptr p2), some (.dK (balD (acT L))), o12, o13, none, none, none, none, none, none, none]) ⟨rfl, _, _, rfl⟩ ?_ ?_⟩
        · rintro j ρ' C' hj ⟨rfl, o12, o13, rfl⟩
          have hj3 : j < 3 := hj
          rw [show (0 : Int) + (j : Int) = (j : Int) by omega]
          obtain ⟨a, ha1, ha2, ha3⟩ : ∃ a : Str, atI [D.str (Str.ofString "ann"), D.str (Str.ofString "bo"), D.str (Str.ofString "cy")] (j : Int) = some (.str a) ∧ acs3[j]? = some a ∧ AcOk a := by
            have : j = 0 ∨ j = 1 ∨ j = 2 := by omega
            rcases this with rfl | rfl | rfl
            · exact ⟨_, rfl, rfl, .inl rfl⟩
            · exact ⟨_, rfl, rfl, .inr (.inl rfl)⟩
            · exact ⟨_, rfl, rfl, .inr (.inr rfl)⟩
          have hget : (vaD (balD (acT L)) (.inr a)).getD (.int 0) = .int (chS L a) := by
            rw [bal_va, ← acT_lk]
            cases lkA (acT L) a <;> rfl
          have hdl : Dat 2 (.lst (lbD L a)) := .lst fun d hd => by
            obtain ⟨l, hl, rfl⟩ := List.mem_map.mp hd
            refine .tup fun e he => ?_
            have hl4 := (List.mem_filter.mp hl).1
            unfold lbE at he
            simp only [List.mem_cons, List.not_mem_nil, or_false] at he
            rcases he with rfl | rfl | rfl | rfl
            · refine .str ?_
              have : ∀ l ∈ lab4, PyData.canLay0 (.str l) = true := by decide +kernel
              exact this l hl4
            · exact .int _
            · exact .int _
            · exact .int _
          clear hfin hE hj
          walk_at "dd"
          refine ⟨L, a, rfl, hch, by omega, ⟨L, a, rfl, by omega, ?_⟩⟩
          refine ⟨2, by decide, hdl, hdl, ?_⟩
          rw [if_neg (by rw [show ∀ C x, D.res C (D.lst x) = D.lst x from fun _ _ => rfl, eqb_self hdl]; decide)]
          exact ⟨rfl, _, _, rfl⟩
        · rintro ρ' C' ⟨rfl, o12, o13, rfl⟩
          obtain ⟨R2, T2, Ls2, h1, h2, h3, h4, h5, h6, h7⟩ := hfin
          exact ⟨R2, T2, Ls2, h1, h2, h3, h4, h5, h6, h7, _, _, _, _, _, _, _, _, _, rfl⟩
    · rintro ρ' C4 ⟨R, T, Ls, hRl, hR, hS, hT, hLs, hcu, hcb, o5, o6, o7, o8, o9, o10, o11, o12, o13, rfl⟩
      subst hE
      dsimp only
      refine seq_hide fun E' hE => ?_
      walk_at "dd"
      refine ⟨by decide, for_rng (fun k ρ' C' => C' pu = some (.lst (R.map fun L => .lst (L.map (cgD A)))) ∧ C' pb = some (.lst (R.map fun L => .lst (acs3.map fun a => .int (chS L a)))) ∧ ∃ o5 o12 o13 o14 o15 o16 o17 o18 o19 o20, ρ' = [some (.lst (ns.map D.int)), some (.lst (ss.map (scD A))), some (.ptr pu), some (.ptr pl), some (.ptr pb), o5, o6, o7, o8, o9, o10, o11, o12, o13, o14, o15, o16, o17, o18, o19, o20]) ⟨hcu, hcb, _, _, _, _, _, _, _, _, _, _, rfl⟩ ?_ ?_⟩
      · rintro k ρ' C5 hk ⟨hcu, hcb, o5, o12, o13, o14, o15, o16, o17, o18, o19, o20, rfl⟩
        have hk2 : k < 2 := hk
        have hRl : R.length = 3 := hRl
        rw [show (0 : Int) + (k : Int) = (k : Int) by omega]
        have r0 : R[k]? = some R[k] := List.getElem?_eq_getElem (by omega)
        have r1 : R[k + 1]? = some R[k + 1] := List.getElem?_eq_getElem (by omega)
        revert r0 r1
        generalize R[k] = L0
        generalize R[k + 1] = L1
        intro r0 r1
        obtain ⟨h0, l0⟩ := hR L0 (List.mem_of_getElem? r0)
        obtain ⟨h1, l1⟩ := hR L1 (List.mem_of_getElem? r1)
        have a1 : ∀ f : List Cg → D, atI (R.map f) ((k : Int) + 1) = some (f L1) := fun f => by rw [show (k : Int) + 1 = ((k + 1 : Nat) : Int) by omega, atI_nat', List.getElem?_map, r1]; rfl
        clear hS hT hLs hR
        refine seq_hide fun E2 hE2 => ?_
        walk_at "dd"
        refine ⟨L0, rfl, h0.nd, by omega, fun p1 C6 s1 n1 c1 => ?_⟩
        have hcu6 := s1 _ _ hcu
        have hcb6 := s1 _ _ hcb
        subst hE2
        dsimp only
        refine seq_hide fun E2 hE2 => ?_
        walk_at "dd"
        refine ⟨L1, rfl, h1.nd, by omega, fun p2 C7 s2 n2 c2 => ?_⟩
        have hcu7 := s2 _ _ hcu6
        have hcb7 := s2 _ _ hcb6
        have c1' := s2 _ _ c1
        have m12 : p1 ≠ p2 := cell_ne c1 n2
        clear s1 s2 n1 n2 c1 hcu6 hcb6 hcu hcb
        subst hE2
        dsimp only
        have t0 : ((ctM L0).map fun p => p.1).Nodup := by rw [ctM_keys]; exact h0.nd
        have t1 : ((ctM L1).map fun p => p.1).Nodup := by rw [ctM_keys]; exact h1.nd
        have z0 : (ctM L0).length ≤ 200 := by unfold ctM; rw [List.length_map]; exact l0
        have z1 : (ctM L1).length ≤ 200 := by unfold ctM; rw [List.length_map]; exact l1
        have x0 := ctM_tx h0
        have x1 := ctM_tx h1
        have y0 := ctM_ktx h0
        have y1 := ctM_ktx h1
        refine seq_hide fun E2 hE2 => ?_
        walk_at "dd"
        refine lckN c1' rfl (fun x => decide (lkA (ctM L1) x ≠ lkA (ctM L0) x)) kyD (by omega) (fun x hx C' Q hC hQ => ?_) (fun x hx C' Q hC hQ => ?_) ?_
        · obtain ⟨od, ws, hs⟩ := hC
          have e1 : C' p1 = some (.lN A.pw (stD (ctM L0)) od ws) := hs _ _ cput_same
          have e2 : C' p2 = some (.dN A.pw (stD (ctM L1))) := hs _ _ ((cput_ne m12.symm).trans c2)
          have hkb := keyB_kyD x
          have v1 := st_va (ctM L0) x
          have v2 := st_va (ctM L1) x
          obtain ⟨w, hw⟩ : ∃ w, lkA (ctM L0) x = some w := by
            cases h : lkA (ctM L0) x with
            | some v => exact ⟨v, rfl⟩
            | none => exact absurd hx (lkA_none.mp h)
          have d1 := opD_dat (o := some w) (fun v hv => x0 x v (by rw [hw]; exact hv))
          have d2 := opD_dat (x1 x)
          have de := opD_eqb (o := lkA (ctM L1) x) (u := some w)
          rw [hw] at v1 hQ
          have v1 : vaD (stD (ctM L0)) (kyN x) = some (opD (some w)) := v1
          have hres : ∀ C o, D.res C (opD o) = opD o := fun C o => by cases o <;> rfl
          clear hs c1' c2 hcu7 hcb7 hE2 hE q x0 x1 y0 y1 hx hw
          revert hQ v2 d2 de
          generalize lkA (ctM L1) x = o1
          intro v2 hQ d2 de
          have ho : ∀ o : Option (Str × Int), (o.map vlD).getD .non = opD o := fun _ => rfl
          walk_at "dd"
          refine ⟨1, by decide, d2, d1, ?_⟩
          rw [show (!(opD o1).eqb (D.res C' (vlD w))) = decide (o1 ≠ some w) by rw [show D.res C' (vlD w) = opD (some w) from rfl, de]; simp]
          exact hQ
        · walk_at "dd"
        refine lckN c2 rfl (fun x => decide (x ∉ (ctM L0).map fun p => p.1)) kyD (by omega) (fun x hx C' Q hC hQ => ?_) (fun x hx C' Q hC hQ => ?_) ?_
        · obtain ⟨od, ws, hs⟩ := hC
          have e1 : C' p1 = some (.dN A.pw (stD (ctM L0))) := hs _ _ ((cput_ne m12).trans c1')
          have hkb := keyB_kyD x
          have hin := in_st (ctM L0) x
          clear hs c1' c2 hcu7 hcb7 hE2 hE q x0 x1 y0 y1
          walk_at "dd"
          rw [show (!decide (x ∈ (ctM L0).map fun p => p.1)) = decide (x ∉ (ctM L0).map fun p => p.1) by simp]
          exact hQ
        · walk_at "dd"
        have hX := difK_two (t := ctM L0) t1
        have hlA := List.length_filter_le (fun x => decide (lkA (ctM L1) x ≠ lkA (ctM L0) x)) ((ctM L0).map fun p => p.1)
        have hlB := List.length_filter_le (fun x => decide (x ∉ (ctM L0).map fun p => p.1)) ((ctM L1).map fun p => p.1)
        rw [List.length_map] at hlA hlB
        have htx : ∀ x ∈ ((ctM L0).map fun p => p.1).filter (fun x => decide (lkA (ctM L1) x ≠ lkA (ctM L0) x)) ++ ((ctM L1).map fun p => p.1).filter (fun x => decide (x ∉ (ctM L0).map fun p => p.1)), TxOk x.2.2 := fun x hx => by
          rcases List.mem_append.mp hx with hx | hx
          · exact y0 x (List.mem_filter.mp hx).1
          · exact y1 x (List.mem_filter.mp hx).1
        revert hX hlA hlB htx
        generalize ((ctM L0).map fun p => p.1).filter (fun x => decide (lkA (ctM L1) x ≠ lkA (ctM L0) x)) = KA
        generalize ((ctM L1).map fun p => p.1).filter (fun x => decide (x ∉ (ctM L0).map fun p => p.1)) = KB
        intro hX hlA hlB htx
        have hso := sorts_ky _ htx
        have hse := sort_ky (KA ++ KB)
        rw [List.map_append] at hso hse
        show _ ≤ 100000 ∧ dSortD [D.lst _] C7 _
        unfold dSortD
        simp only [itsOf_lst, seqOf_lst]
        refine ⟨by rw [List.length_map, List.length_map]; omega, hso, trivial, ?_⟩
        have hKl : (difK (ctM L0) (ctM L1)).length ≤ 400 := by
          rw [hX, (srtK_perm _).length_eq, List.length_append]; omega
        rw [hse, ← hX]
        clear hX hlA hlB htx hso hse
        subst hE2
        dsimp only
        refine seq_hide fun E2 hE2 => ?_
        walk_at "dd"
        refine ⟨L0, L1, rfl, h0, h1, by omega, by omega, fun C8 s3 => ?_⟩
        have hcu8 := s3 _ _ hcu7
        have hcb8 := s3 _ _ hcb7
        have d1 := s3 _ _ c1'
        have d2 := s3 _ _ c2
        clear s3 hcu7 hcb7 c1' c2
        subst hE2
        dsimp only
        refine seq_hide fun E2 hE2 => ?_
        walk_at "dd"
        have hdd : Dat 4 (.lst (difD (ctM L0) (ctM L1))) := .lst fun d hd => by
          obtain ⟨x, hx, rfl⟩ := List.mem_map.mp hd
          have hxm := (srtK_perm _).mem_iff.mp (List.mem_filter.mp hx).1
          have hxt : TxOk x.2.2 := by
            rcases List.mem_append.mp hxm with hm | hm
            · exact y0 x hm
            · exact y1 x (List.mem_filter.mp hm).1
          refine .tup fun e he => ?_
          simp only [List.mem_cons, List.not_mem_nil, or_false] at he
          rcases he with rfl | rfl | rfl
          · exact dat_kyD x hxt
          · exact dat_mono (opD_dat (x0 x)) (by decide)
          · exact dat_mono (opD_dat (x1 x)) (by decide)
        refine lc_map (L := difK (ctM L0) (ctM L1)) (enc := kyD) (fun x => some (rowD (ctM L0) (ctM L1) x)) (fun _ _ => trivial) (by omega) (fun i x C' Q hi hs hQ => ?_) ?_
        · have e1 := hs _ _ d1
          have e2 := hs _ _ d2
          have hkb := keyB_kyD x
          have v1 := st_va (ctM L0) x
          have v2 := st_va (ctM L1) x
          have hr : rowD (ctM L0) (ctM L1) x = .tup [kyD x, ((lkA (ctM L0) x).map vlD).getD .non, ((lkA (ctM L1) x).map vlD).getD .non] := rfl
          rw [hr] at hQ
          clear hr hi hs d1 d2 hcu8 hcb8 hE2 hE q x0 x1 y0 y1 hdd
          walk_at "dd"
        · rw [show (difK (ctM L0) (ctM L1)).filterMap (fun x => some (rowD (ctM L0) (ctM L1) x)) = difD (ctM L0) (ctM L1) from congrFun List.filterMap_eq_map _]
          refine ⟨4, by decide, hdd, hdd, ?_⟩
          rw [if_neg (by rw [show ∀ C x, D.res C (D.lst x) = D.lst x from fun _ _ => rfl, eqb_self hdd]; decide)]
          clear hdd x0 x1 y0 y1
          subst hE2
          dsimp only
          refine seq_hide fun E2 hE2 => ?_
          walk_at "dd"
          refine ⟨ctM L0, ctM L1, difK (ctM L0) (ctM L1), rfl, by omega, fun z hz hnz hznd hzl => ?_⟩
          have hz2 : ∀ a, (lkA z a).getD 0 = chS L1 a - chS L0 a := fun a => by
            rw [hz, dif_sum t0 t1, ctM_sum, ctM_sum]
          clear hz
          subst hE2
          dsimp only
          refine seq_hide fun E2 hE2 => ?_
          walk_at "dd"
          refine ⟨by decide, for_rng (fun j ρ' C' => C' = C8 ∧ ∃ o12, ρ' = [some (.lst (ns.map D.int)), some (.lst (ss.map (scD A))), some (.ptr pu), some (.ptr pl), some (.ptr pb), some (.int (k : Int)), o6, o7, o8, o9, o10, o11, o12, o13, some (.ptr p1), some (.ptr p2), some (.lst ((difK (ctM L0) (ctM L1)).map kyD)), some (.lst (difD (ctM L0) (ctM L1))), some (.dK (balD z)), o19, o20]) ⟨rfl, _, rfl⟩ ?_ ?_⟩
          · rintro j ρ' C' hj ⟨rfl, o12, rfl⟩
            have hj3 : j < 3 := hj
            rw [show (0 : Int) + (j : Int) = (j : Int) by omega]
            obtain ⟨a, ha1, ha2⟩ : ∃ a : Str, atI [D.str (Str.ofString "ann"), D.str (Str.ofString "bo"), D.str (Str.ofString "cy")] (j : Int) = some (.str a) ∧ acs3[j]? = some a := by
              have : j = 0 ∨ j = 1 ∨ j = 2 := by omega
              rcases this with rfl | rfl | rfl <;> exact ⟨_, rfl, rfl⟩
            have hget : (vaD (balD z) (.inr a)).getD (.int 0) = .int (chS L1 a - chS L0 a) := by
              rw [bal_va, ← hz2]
              cases lkA z a <;> rfl
            clear hE hE2 hj hz2
            walk_at "dd"
            exact ⟨_, rfl⟩
          · rintro ρ' C' ⟨rfl, o12, rfl⟩
            subst hE2
            dsimp only
            refine seq_hide fun E2 hE2 => ?_
            walk_at "dd"
            refine lck_gen (t := balD z) (.inl rfl) rfl (fun _ => true) (fun e => e.2) (by rw [bal_len]; omega) (fun e he C' Q _ h => h) (fun e he C' Q hk h => ?_) ?_
            · obtain ⟨⟨a, v⟩, hav, rfl⟩ := List.mem_map.mp he
              have hva := bal_va z a
              rw [lkA_mem hznd hav, Option.map_some] at hva
              have hke : keyD (inS a) = .str a := rfl
              dsimp only at h
              clear hk he hE2 hE d1 d2 hcu8 hcb8
              walk_at "dd"
            · have hvs : ((balD z).filter fun _ => true).map (fun e => e.2) = (z.map fun p => p.2).map D.int := by
                rw [List.filter_eq_self.mpr (fun _ _ => rfl)]
                unfold balD
                rw [List.map_map, List.map_map]; rfl
              rw [hvs]
              have h0 : (0 : Int) ∉ z.map fun p => p.2 := fun hm => by
                obtain ⟨p, hp, e⟩ := List.mem_map.mp hm
                exact hnz p hp e
              have hin0 := inD_int 0 (z.map fun p => p.2)
              rw [decide_eq_false h0] at hin0
              have hfl := flat_ints (z.map fun p => p.2)
              simp only [itsOf_lst]
              refine ⟨rfl, hfl, ?_⟩
              rw [hin0, if_neg (by decide)]
              subst hE2
              dsimp only
              clear hin0 hfl hvs h0 hnz hznd hzl hz2
              refine seq_hide fun E2 hE2 => ?_
              walk_at "dd"
              intro po hpo
              have hcu9 : cput C' po (.lst []) pu = some (.lst (R.map fun L => .lst (L.map (cgD A)))) := (cput_ne (cell_ne hcu8 hpo)).trans hcu8
              have hcb9 : cput C' po (.lst []) pb = some (.lst (R.map fun L => .lst (acs3.map fun a => .int (chS L a)))) := (cput_ne (cell_ne hcb8 hpo)).trans hcb8
              have muo : pu ≠ po := cell_ne hcu8 hpo
              have mbo : pb ≠ po := cell_ne hcb8 hpo
              subst hE2
              dsimp only
              refine seq_hide fun E2 hE2 => ?_
              walk_at "dd"
              refine for_map (L := difK (ctM L0) (ctM L1)) (enc := kyD) (fun j ρ' C2 => (∃ o20, ρ' = [some (.lst (ns.map D.int)), some (.lst (ss.map (scD A))), some (.ptr pu), some (.ptr pl), some (.ptr pb), some (.int (k : Int)), o6, o7, o8, o9, o10, o11, o12, o13, some (.ptr p1), some (.ptr p2), some (.lst ((difK (ctM L0) (ctM L1)).map kyD)), some (.lst (difD (ctM L0) (ctM L1))), some (.dK (balD z)), some (.ptr po), o20]) ∧ C2 = cput C' po (.lst ((ddF (((difK (ctM L0) (ctM L1)).take j).map fun k => k.1)).map ownD))) ⟨⟨_, rfl⟩, rfl⟩ ?_ ?_
              · rintro j x ρ' C2 hj ⟨⟨o20, rfl⟩, rfl⟩
                have hjl := (List.getElem?_eq_some_iff.mp hj).1
                have hr : kyD x = .tup [ownD x.1, .int x.2.1, .str x.2.2] := rfl
                have hsn : ddF (((difK (ctM L0) (ctM L1)).take (j + 1)).map fun k => k.1) = ddS (ddF (((difK (ctM L0) (ctM L1)).take j).map fun k => k.1)) x.1 := by
                  rw [take_snoc hj, List.map_append]
                  unfold ddF
                  rw [List.foldl_append]; rfl
                have hlen : (ddF (((difK (ctM L0) (ctM L1)).take j).map fun k => k.1)).length ≤ 2000 := by
                  have := dd_len (((difK (ctM L0) (ctM L1)).take j).map fun k => k.1) []
                  unfold ddF
                  rw [List.length_map, List.length_take, List.length_nil] at this
                  omega
                rw [hsn]
                revert hlen
                generalize ddF (((difK (ctM L0) (ctM L1)).take j).map fun k => k.1) = O
                intro hlen
                have hdk := dat_mono (dat_own x.1) (show 1 ≤ 2 by decide)
                have hdm : Dat 2 (.lst (O.map ownD)) := .lst fun d hd => by
                  obtain ⟨b, _, rfl⟩ := List.mem_map.mp hd
                  exact dat_own b
                have hany : ((O.map ownD).any fun z => z.eqb (ownD x.1)) = decide (x.1 ∈ O) := by
                  rw [List.any_map, Bool.eq_iff_iff, List.any_eq_true, decide_eq_true_eq]
                  constructor
                  · rintro ⟨y, hy, h⟩
                    have h : (ownD y).eqb (ownD x.1) = true := h
                    rw [ownD_eqb] at h
                    rw [← of_decide_eq_true h]; exact hy
                  · intro h
                    exact ⟨x.1, h, by show (ownD x.1).eqb (ownD x.1) = true; rw [ownD_eqb]; exact decide_eq_true rfl⟩
                unfold ddS
                have hi0 : ∀ C, itemOf (kyD x) C 0 = some (ownD x.1) := fun C => by rw [hr, itemOf_tup, atI_zero]
                by_cases g : x.1 ∈ O
                · rw [if_pos g]
                  rw [decide_eq_true g] at hany
                  clear hr hsn hj q hE hE2 d1 d2 hcu8 hcb8
                  walk_at "dd"
                  refine ⟨2, by decide, hdk, hdm, ?_⟩
                  rw [if_neg (by rw [show ∀ C x, D.res C (ownD x) = ownD x from fun _ _ => rfl, hany]; decide)]
                  exact ⟨_, rfl⟩
                · rw [if_neg g, List.map_append]
                  rw [decide_eq_false g] at hany
                  clear hr hsn hj q hE hE2 d1 d2 hcu8 hcb8
                  walk_at "dd"
                  refine ⟨2, by decide, hdk, hdm, ?_⟩
                  rw [if_pos (by rw [show ∀ C x, D.res C (ownD x) = ownD x from fun _ _ => rfl, hany]; decide)]
                  exact ⟨by omega, _, rfl⟩
              · rintro ρ' C2 ⟨⟨o20, rfl⟩, rfl⟩
                rw [List.take_length]
                have hcua : ∀ c, cput C' po c pu = some (.lst (R.map fun L => .lst (L.map (cgD A)))) := fun c => (cput_ne muo).trans hcu8
                have hcba : ∀ c, cput C' po c pb = some (.lst (R.map fun L => .lst (acs3.map fun a => .int (chS L a)))) := fun c => (cput_ne mbo).trans hcb8
                have hso := sorts_own (ddF ((difK (ctM L0) (ctM L1)).map fun k => k.1))
                subst hE2
                dsimp only
                walk_at "dd"
                refine ⟨ctM L0, ctM L1, difK (ctM L0) (ctM L1), rfl, by omega, ?_⟩
                unfold dSortD
                simp only [itsOf_ptr, seqOf_ptr, cput_same]
                refine ⟨hso, trivial, ?_⟩
                have hdo : Dat 2 (.lst (ownS (difK (ctM L0) (ctM L1)))) := .lst fun d hd => by
                  have := (List.mergeSort_perm _ _).mem_iff.mp hd
                  obtain ⟨b, _, rfl⟩ := List.mem_map.mp this
                  exact dat_own b
                have heo : (D.lst (ownS (difK (ctM L0) (ctM L1)))).eqb (D.lst (ownS (difK (ctM L0) (ctM L1)))) = true := eqb_self hdo
                refine ⟨2, by decide, hdo, hdo, ?_⟩
                rw [if_neg (by change ¬ (!(D.lst (ownS (difK (ctM L0) (ctM L1)))).eqb (D.lst (ownS (difK (ctM L0) (ctM L1))))) = true; rw [heo]; decide)]
                rw [hcua]
                dsimp only
                rw [List.getElem?_map, r0]
                dsimp only [Option.map_some]
                refine ⟨L0, L0, rfl, h0, h0, by omega, by omega, fun C9 s4 => ?_⟩
                have hz9 : difD (ctM L0) (ctM L0) = [] := by unfold difD; rw [difK_same]; rfl
                rw [hz9]
                show (if (!([] : List D).isEmpty) = true then _ else _)
                rw [if_neg (by decide)]
                exact ⟨s4 _ _ (hcua _), s4 _ _ (hcba _), _, _, _, _, _, _, _, _, _, _, rfl⟩
      · rintro ρ' C5 ⟨hcu, hcb, o5, o12, o13, o14, o15, o16, o17, o18, o19, o20, rfl⟩
        subst hE
        walk_at "dd"
        exact ⟨_, Sub.refl _⟩)

end
/-! ### what the top has written, the head -/
theorem all_mk {l : PySem.W.OpenLaw} {w : World} {K : PySem.W.Frag} {h : Heap} {mg : Str → Option Value} {fa : Addr} (X : K.In h) (G : h.Ns mainGlobals mg) (hfa : mg "law" = some (.ref fa))
    {C_Band : Addr}
    {C_Tariff : Addr}
    {C_Charge : Addr}
    {C_ChargeRun : Addr}
    {C_Contracts : Addr}
    {C_Posting : Addr}
    {C_Ledger : Addr}
    {C_Section : Addr}
    {t_DAY : Tok}
    {t_HOUR : Tok}
    {t_MINUTE : Tok}
    {t_MONTH : Tok}
    {f_law_state : Addr} {od_law_state an_law_state : Option Addr} {sl_law_state : Array (Option Value)} {oc_law_state kV_law_state dc_law_state pm_law_state cd_law_state ct_law_state : Value}
    {f_law_cell : Addr} {od_law_cell an_law_cell : Option Addr} {sl_law_cell : Array (Option Value)} {oc_law_cell kV_law_cell dc_law_cell pm_law_cell cd_law_cell ct_law_cell : Value}
    {f_law_digit : Addr} {od_law_digit an_law_digit : Option Addr} {sl_law_digit : Array (Option Value)} {oc_law_digit kV_law_digit dc_law_digit pm_law_digit cd_law_digit ct_law_digit : Value}
    {f_Section_init : Addr} {od_Section_init an_Section_init : Option Addr} {sl_Section_init : Array (Option Value)} {oc_Section_init kV_Section_init dc_Section_init pm_Section_init cd_Section_init ct_Section_init : Value}
    {f_law_sections : Addr} {od_law_sections an_law_sections : Option Addr} {sl_law_sections : Array (Option Value)} {oc_law_sections kV_law_sections dc_law_sections pm_law_sections cd_law_sections ct_law_sections : Value}
    {f_Ledger_init : Addr} {od_Ledger_init an_Ledger_init : Option Addr} {sl_Ledger_init : Array (Option Value)} {oc_Ledger_init kV_Ledger_init dc_Ledger_init pm_Ledger_init cd_Ledger_init ct_Ledger_init : Value}
    {f_Tariff_init : Addr} {od_Tariff_init an_Tariff_init : Option Addr} {sl_Tariff_init : Array (Option Value)} {oc_Tariff_init kV_Tariff_init dc_Tariff_init pm_Tariff_init cd_Tariff_init ct_Tariff_init : Value}
    {f_Band_init : Addr} {od_Band_init an_Band_init : Option Addr} {sl_Band_init : Array (Option Value)} {oc_Band_init kV_Band_init dc_Band_init pm_Band_init cd_Band_init ct_Band_init : Value}
    {f_law_tariffs : Addr} {od_law_tariffs an_law_tariffs : Option Addr} {sl_law_tariffs : Array (Option Value)} {oc_law_tariffs kV_law_tariffs dc_law_tariffs pm_law_tariffs cd_law_tariffs ct_law_tariffs : Value}
    {f_ChargeRun_init : Addr} {od_ChargeRun_init an_ChargeRun_init : Option Addr} {sl_ChargeRun_init : Array (Option Value)} {oc_ChargeRun_init kV_ChargeRun_init dc_ChargeRun_init pm_ChargeRun_init cd_ChargeRun_init ct_ChargeRun_init : Value}
    {f_section_place : Addr} {od_section_place an_section_place : Option Addr} {sl_section_place : Array (Option Value)} {oc_section_place kV_section_place dc_section_place pm_section_place cd_section_place ct_section_place : Value}
    {f_Section_is_free : Addr} {od_Section_is_free an_Section_is_free : Option Addr} {sl_Section_is_free : Array (Option Value)} {oc_Section_is_free kV_Section_is_free dc_Section_is_free pm_Section_is_free cd_Section_is_free ct_Section_is_free : Value}
    {f_Contracts_in_force : Addr} {od_Contracts_in_force an_Contracts_in_force : Option Addr} {sl_Contracts_in_force : Array (Option Value)} {oc_Contracts_in_force kV_Contracts_in_force dc_Contracts_in_force pm_Contracts_in_force cd_Contracts_in_force ct_Contracts_in_force : Value}
    {f_ChargeRun_reason_against : Addr} {od_ChargeRun_reason_against an_ChargeRun_reason_against : Option Addr} {sl_ChargeRun_reason_against : Array (Option Value)} {oc_ChargeRun_reason_against kV_ChargeRun_reason_against dc_ChargeRun_reason_against pm_ChargeRun_reason_against cd_ChargeRun_reason_against ct_ChargeRun_reason_against : Value}
    {f_Band_holds : Addr} {od_Band_holds an_Band_holds : Option Addr} {sl_Band_holds : Array (Option Value)} {oc_Band_holds kV_Band_holds dc_Band_holds pm_Band_holds cd_Band_holds ct_Band_holds : Value}
    {f_Tariff_band_at : Addr} {od_Tariff_band_at an_Tariff_band_at : Option Addr} {sl_Tariff_band_at : Array (Option Value)} {oc_Tariff_band_at kV_Tariff_band_at dc_Tariff_band_at pm_Tariff_band_at cd_Tariff_band_at ct_Tariff_band_at : Value}
    {f_stretches : Addr} {od_stretches an_stretches : Option Addr} {sl_stretches : Array (Option Value)} {oc_stretches kV_stretches dc_stretches pm_stretches cd_stretches ct_stretches : Value}
    {f_price_lines : Addr} {od_price_lines an_price_lines : Option Addr} {sl_price_lines : Array (Option Value)} {oc_price_lines kV_price_lines dc_price_lines pm_price_lines cd_price_lines ct_price_lines : Value}
    {f_ChargeRun_lines_of : Addr} {od_ChargeRun_lines_of an_ChargeRun_lines_of : Option Addr} {sl_ChargeRun_lines_of : Array (Option Value)} {oc_ChargeRun_lines_of kV_ChargeRun_lines_of dc_ChargeRun_lines_of pm_ChargeRun_lines_of cd_ChargeRun_lines_of ct_ChargeRun_lines_of : Value}
    {f_ChargeRun_free_left : Addr} {od_ChargeRun_free_left an_ChargeRun_free_left : Option Addr} {sl_ChargeRun_free_left : Array (Option Value)} {oc_ChargeRun_free_left kV_ChargeRun_free_left dc_ChargeRun_free_left pm_ChargeRun_free_left cd_ChargeRun_free_left ct_ChargeRun_free_left : Value}
    {f_Charge_init : Addr} {od_Charge_init an_Charge_init : Option Addr} {sl_Charge_init : Array (Option Value)} {oc_Charge_init kV_Charge_init dc_Charge_init pm_Charge_init cd_Charge_init ct_Charge_init : Value}
    {f_ChargeRun_take : Addr} {od_ChargeRun_take an_ChargeRun_take : Option Addr} {sl_ChargeRun_take : Array (Option Value)} {oc_ChargeRun_take kV_ChargeRun_take dc_ChargeRun_take pm_ChargeRun_take cd_ChargeRun_take ct_ChargeRun_take : Value}
    {f_charge_sections : Addr} {od_charge_sections an_charge_sections : Option Addr} {sl_charge_sections : Array (Option Value)} {oc_charge_sections kV_charge_sections dc_charge_sections pm_charge_sections cd_charge_sections ct_charge_sections : Value}
    {f_Ledger_standing_keys : Addr} {od_Ledger_standing_keys an_Ledger_standing_keys : Option Addr} {sl_Ledger_standing_keys : Array (Option Value)} {oc_Ledger_standing_keys kV_Ledger_standing_keys dc_Ledger_standing_keys pm_Ledger_standing_keys cd_Ledger_standing_keys ct_Ledger_standing_keys : Value}
    {f_Posting_init : Addr} {od_Posting_init an_Posting_init : Option Addr} {sl_Posting_init : Array (Option Value)} {oc_Posting_init kV_Posting_init dc_Posting_init pm_Posting_init cd_Posting_init ct_Posting_init : Value}
    {f_Ledger_post : Addr} {od_Ledger_post an_Ledger_post : Option Addr} {sl_Ledger_post : Array (Option Value)} {oc_Ledger_post kV_Ledger_post dc_Ledger_post pm_Ledger_post cd_Ledger_post ct_Ledger_post : Value}
    {f_Ledger_standing : Addr} {od_Ledger_standing an_Ledger_standing : Option Addr} {sl_Ledger_standing : Array (Option Value)} {oc_Ledger_standing kV_Ledger_standing dc_Ledger_standing pm_Ledger_standing cd_Ledger_standing ct_Ledger_standing : Value}
    {f_law_book : Addr} {od_law_book an_law_book : Option Addr} {sl_law_book : Array (Option Value)} {oc_law_book kV_law_book dc_law_book pm_law_book cd_law_book ct_law_book : Value}
    {f_account_sums : Addr} {od_account_sums an_account_sums : Option Addr} {sl_account_sums : Array (Option Value)} {oc_account_sums kV_account_sums dc_account_sums pm_account_sums cd_account_sums ct_account_sums : Value}
    {f_charge_table : Addr} {od_charge_table an_charge_table : Option Addr} {sl_charge_table : Array (Option Value)} {oc_charge_table kV_charge_table dc_charge_table pm_charge_table cd_charge_table ct_charge_table : Value}
    {f_differences : Addr} {od_differences an_differences : Option Addr} {sl_differences : Array (Option Value)} {oc_differences kV_differences dc_differences pm_differences cd_differences ct_differences : Value}
    {f_changes_of_accounts : Addr} {od_changes_of_accounts an_changes_of_accounts : Option Addr} {sl_changes_of_accounts : Array (Option Value)} {oc_changes_of_accounts kV_changes_of_accounts dc_changes_of_accounts pm_changes_of_accounts cd_changes_of_accounts ct_changes_of_accounts : Value}
    {f_Contracts_init : Addr} {od_Contracts_init an_Contracts_init : Option Addr} {sl_Contracts_init : Array (Option Value)} {oc_Contracts_init kV_Contracts_init dc_Contracts_init pm_Contracts_init cd_Contracts_init ct_Contracts_init : Value}
    {f_Contracts_set_history : Addr} {od_Contracts_set_history an_Contracts_set_history : Option Addr} {sl_Contracts_set_history : Array (Option Value)} {oc_Contracts_set_history kV_Contracts_set_history dc_Contracts_set_history pm_Contracts_set_history cd_Contracts_set_history ct_Contracts_set_history : Value}
    {f_law_contracts : Addr} {od_law_contracts an_law_contracts : Option Addr} {sl_law_contracts : Array (Option Value)} {oc_law_contracts kV_law_contracts dc_law_contracts pm_law_contracts cd_law_contracts ct_law_contracts : Value}
    {f_Ledger_postings : Addr} {od_Ledger_postings an_Ledger_postings : Option Addr} {sl_Ledger_postings : Array (Option Value)} {oc_Ledger_postings kV_Ledger_postings dc_Ledger_postings pm_Ledger_postings cd_Ledger_postings ct_Ledger_postings : Value}
    {f_Ledger_balance : Addr} {od_Ledger_balance an_Ledger_balance : Option Addr} {sl_Ledger_balance : Array (Option Value)} {oc_Ledger_balance kV_Ledger_balance dc_Ledger_balance pm_Ledger_balance cd_Ledger_balance ct_Ledger_balance : Value}
    {f_sections_changed : Addr} {od_sections_changed an_sections_changed : Option Addr} {sl_sections_changed : Array (Option Value)} {oc_sections_changed kV_sections_changed dc_sections_changed pm_sections_changed cd_sections_changed ct_sections_changed : Value}
    {f_label_sums : Addr} {od_label_sums an_label_sums : Option Addr} {sl_label_sums : Array (Option Value)} {oc_label_sums kV_label_sums dc_label_sums pm_label_sums cd_label_sums ct_label_sums : Value}
    {f_law_labels : Addr} {od_law_labels an_law_labels : Option Addr} {sl_law_labels : Array (Option Value)} {oc_law_labels kV_law_labels dc_law_labels pm_law_labels cd_law_labels ct_law_labels : Value}
    {f_law : Addr} {od_law an_law : Option Addr} {sl_law : Array (Option Value)} {oc_law kV_law dc_law pm_law cd_law ct_law : Value}
    (aC_Band : PySem.W.nsIn K mainGlobals "Band" = some (some (.ref C_Band)))
    (pg_Band : PySem.W.plainGet K C_Band Str.empty = true)
    (hd_Band : PySem.W.hasDictIn K C_Band = true)
    (po_Band : PySem.W.plainOver K C_Band = true)
    (sa_Band : PySem.W.findIn K (.ref C_Band) "__setattr__" = some (some (.builtin "object.__setattr__")))
    (mk_Band : PySem.W.makesIn K C_Band = true)
    (kc_Band : PySem.W.keepIn K (.ref C_Band) = true)
    (aC_Tariff : PySem.W.nsIn K mainGlobals "Tariff" = some (some (.ref C_Tariff)))
    (pg_Tariff : PySem.W.plainGet K C_Tariff Str.empty = true)
    (hd_Tariff : PySem.W.hasDictIn K C_Tariff = true)
    (po_Tariff : PySem.W.plainOver K C_Tariff = true)
    (sa_Tariff : PySem.W.findIn K (.ref C_Tariff) "__setattr__" = some (some (.builtin "object.__setattr__")))
    (mk_Tariff : PySem.W.makesIn K C_Tariff = true)
    (kc_Tariff : PySem.W.keepIn K (.ref C_Tariff) = true)
    (aC_Charge : PySem.W.nsIn K mainGlobals "Charge" = some (some (.ref C_Charge)))
    (pg_Charge : PySem.W.plainGet K C_Charge Str.empty = true)
    (hd_Charge : PySem.W.hasDictIn K C_Charge = true)
    (po_Charge : PySem.W.plainOver K C_Charge = true)
    (sa_Charge : PySem.W.findIn K (.ref C_Charge) "__setattr__" = some (some (.builtin "object.__setattr__")))
    (mk_Charge : PySem.W.makesIn K C_Charge = true)
    (kc_Charge : PySem.W.keepIn K (.ref C_Charge) = true)
    (aC_ChargeRun : PySem.W.nsIn K mainGlobals "ChargeRun" = some (some (.ref C_ChargeRun)))
    (pg_ChargeRun : PySem.W.plainGet K C_ChargeRun Str.empty = true)
    (hd_ChargeRun : PySem.W.hasDictIn K C_ChargeRun = true)
    (po_ChargeRun : PySem.W.plainOver K C_ChargeRun = true)
    (sa_ChargeRun : PySem.W.findIn K (.ref C_ChargeRun) "__setattr__" = some (some (.builtin "object.__setattr__")))
    (mk_ChargeRun : PySem.W.makesIn K C_ChargeRun = true)
    (kc_ChargeRun : PySem.W.keepIn K (.ref C_ChargeRun) = true)
    (aC_Contracts : PySem.W.nsIn K mainGlobals "Contracts" = some (some (.ref C_Contracts)))
    (pg_Contracts : PySem.W.plainGet K C_Contracts Str.empty = true)
    (hd_Contracts : PySem.W.hasDictIn K C_Contracts = true)
    (po_Contracts : PySem.W.plainOver K C_Contracts = true)
    (sa_Contracts : PySem.W.findIn K (.ref C_Contracts) "__setattr__" = some (some (.builtin "object.__setattr__")))
    (mk_Contracts : PySem.W.makesIn K C_Contracts = true)
    (kc_Contracts : PySem.W.keepIn K (.ref C_Contracts) = true)
    (aC_Posting : PySem.W.nsIn K mainGlobals "Posting" = some (some (.ref C_Posting)))
    (pg_Posting : PySem.W.plainGet K C_Posting Str.empty = true)
    (hd_Posting : PySem.W.hasDictIn K C_Posting = true)
    (po_Posting : PySem.W.plainOver K C_Posting = true)
    (sa_Posting : PySem.W.findIn K (.ref C_Posting) "__setattr__" = some (some (.builtin "object.__setattr__")))
    (mk_Posting : PySem.W.makesIn K C_Posting = true)
    (kc_Posting : PySem.W.keepIn K (.ref C_Posting) = true)
    (aC_Ledger : PySem.W.nsIn K mainGlobals "Ledger" = some (some (.ref C_Ledger)))
    (pg_Ledger : PySem.W.plainGet K C_Ledger Str.empty = true)
    (hd_Ledger : PySem.W.hasDictIn K C_Ledger = true)
    (po_Ledger : PySem.W.plainOver K C_Ledger = true)
    (sa_Ledger : PySem.W.findIn K (.ref C_Ledger) "__setattr__" = some (some (.builtin "object.__setattr__")))
    (mk_Ledger : PySem.W.makesIn K C_Ledger = true)
    (kc_Ledger : PySem.W.keepIn K (.ref C_Ledger) = true)
    (aC_Section : PySem.W.nsIn K mainGlobals "Section" = some (some (.ref C_Section)))
    (pg_Section : PySem.W.plainGet K C_Section Str.empty = true)
    (hd_Section : PySem.W.hasDictIn K C_Section = true)
    (po_Section : PySem.W.plainOver K C_Section = true)
    (sa_Section : PySem.W.findIn K (.ref C_Section) "__setattr__" = some (some (.builtin "object.__setattr__")))
    (mk_Section : PySem.W.makesIn K C_Section = true)
    (kc_Section : PySem.W.keepIn K (.ref C_Section) = true)
    (na_Band_from_hour : PySem.W.findIn K (.ref C_Band) (Str.ofString "from_hour") = some none)
    (na_Band_label : PySem.W.findIn K (.ref C_Band) (Str.ofString "label") = some none)
    (na_Band_prefix : PySem.W.findIn K (.ref C_Band) (Str.ofString "prefix") = some none)
    (na_Band_price : PySem.W.findIn K (.ref C_Band) (Str.ofString "price") = some none)
    (na_Band_to_hour : PySem.W.findIn K (.ref C_Band) (Str.ofString "to_hour") = some none)
    (na_Charge_account : PySem.W.findIn K (.ref C_Charge) (Str.ofString "account") = some none)
    (na_Charge_key : PySem.W.findIn K (.ref C_Charge) (Str.ofString "key") = some none)
    (na_Charge_mills : PySem.W.findIn K (.ref C_Charge) (Str.ofString "mills") = some none)
    (na_Charge_till : PySem.W.findIn K (.ref C_Charge) (Str.ofString "till") = some none)
    (na_ChargeRun_allowances : PySem.W.findIn K (.ref C_ChargeRun) (Str.ofString "allowances") = some none)
    (na_ChargeRun_charges : PySem.W.findIn K (.ref C_ChargeRun) (Str.ofString "charges") = some none)
    (na_ChargeRun_contracts : PySem.W.findIn K (.ref C_ChargeRun) (Str.ofString "contracts") = some none)
    (na_ChargeRun_left_out : PySem.W.findIn K (.ref C_ChargeRun) (Str.ofString "left_out") = some none)
    (na_ChargeRun_tariffs : PySem.W.findIn K (.ref C_ChargeRun) (Str.ofString "tariffs") = some none)
    (na_ChargeRun_used : PySem.W.findIn K (.ref C_ChargeRun) (Str.ofString "used") = some none)
    (na_Contracts_histories : PySem.W.findIn K (.ref C_Contracts) (Str.ofString "histories") = some none)
    (na_Ledger_lines : PySem.W.findIn K (.ref C_Ledger) (Str.ofString "lines") = some none)
    (na_Ledger_stands : PySem.W.findIn K (.ref C_Ledger) (Str.ofString "stands") = some none)
    (na_Ledger_stated : PySem.W.findIn K (.ref C_Ledger) (Str.ofString "stated") = some none)
    (na_Posting_account : PySem.W.findIn K (.ref C_Posting) (Str.ofString "account") = some none)
    (na_Posting_amount : PySem.W.findIn K (.ref C_Posting) (Str.ofString "amount") = some none)
    (na_Posting_key : PySem.W.findIn K (.ref C_Posting) (Str.ofString "key") = some none)
    (na_Posting_written : PySem.W.findIn K (.ref C_Posting) (Str.ofString "written") = some none)
    (na_Section_called : PySem.W.findIn K (.ref C_Section) (Str.ofString "called") = some none)
    (na_Section_opened : PySem.W.findIn K (.ref C_Section) (Str.ofString "opened") = some none)
    (na_Section_owner : PySem.W.findIn K (.ref C_Section) (Str.ofString "owner") = some none)
    (na_Section_payer : PySem.W.findIn K (.ref C_Section) (Str.ofString "payer") = some none)
    (na_Section_seconds : PySem.W.findIn K (.ref C_Section) (Str.ofString "seconds") = some none)
    (na_Section_start : PySem.W.findIn K (.ref C_Section) (Str.ofString "start") = some none)
    (na_Tariff_bands : PySem.W.findIn K (.ref C_Tariff) (Str.ofString "bands") = some none)
    (na_Tariff_setup_price : PySem.W.findIn K (.ref C_Tariff) (Str.ofString "setup_price") = some none)
    (z_int : PySem.W.nsIn K mainGlobals "int" = some none)
    (z_len : PySem.W.nsIn K mainGlobals "len" = some none)
    (z_list : PySem.W.nsIn K mainGlobals "list" = some none)
    (z_min : PySem.W.nsIn K mainGlobals "min" = some none)
    (z_range : PySem.W.nsIn K mainGlobals "range" = some none)
    (z_sorted : PySem.W.nsIn K mainGlobals "sorted" = some none)
    (z_sum : PySem.W.nsIn K mainGlobals "sum" = some none)
    (z_tuple : PySem.W.nsIn K mainGlobals "tuple" = some none)
    (kk_DAY : PySem.W.nsIn K mainGlobals "DAY" = some (some (.int 86400 t_DAY)))
    (kk_HOUR : PySem.W.nsIn K mainGlobals "HOUR" = some (some (.int 3600 t_HOUR)))
    (kk_MINUTE : PySem.W.nsIn K mainGlobals "MINUTE" = some (some (.int 60 t_MINUTE)))
    (kk_MONTH : PySem.W.nsIn K mainGlobals "MONTH" = some (some (.int 2592000 t_MONTH)))
    (a_law_state : PySem.W.nsIn K mainGlobals "_law_state" = some (some (.ref f_law_state)))
    (l_law_state : K.lookup f_law_state = some ⟨oc_law_state, od_law_state, .func (PySem.W.fnOf "_law_state" "_law_state" (defArgs s_law_state) (defBody s_law_state) (defScope s_law_state) .none kV_law_state dc_law_state pm_law_state an_law_state cd_law_state ct_law_state), sl_law_state⟩)
    (c_law_state : PySem.W.codeIn K cd_law_state "_law_state" = true)
    (k_law_state : PySem.W.keepIn K (.ref f_law_state) = true)
    (a_law_cell : PySem.W.nsIn K mainGlobals "_law_cell" = some (some (.ref f_law_cell)))
    (l_law_cell : K.lookup f_law_cell = some ⟨oc_law_cell, od_law_cell, .func (PySem.W.fnOf "_law_cell" "_law_cell" (defArgs s_law_cell) (defBody s_law_cell) (defScope s_law_cell) .none kV_law_cell dc_law_cell pm_law_cell an_law_cell cd_law_cell ct_law_cell), sl_law_cell⟩)
    (c_law_cell : PySem.W.codeIn K cd_law_cell "_law_cell" = true)
    (k_law_cell : PySem.W.keepIn K (.ref f_law_cell) = true)
    (a_law_digit : PySem.W.nsIn K mainGlobals "_law_digit" = some (some (.ref f_law_digit)))
    (l_law_digit : K.lookup f_law_digit = some ⟨oc_law_digit, od_law_digit, .func (PySem.W.fnOf "_law_digit" "_law_digit" (defArgs s_law_digit) (defBody s_law_digit) (defScope s_law_digit) .none kV_law_digit dc_law_digit pm_law_digit an_law_digit cd_law_digit ct_law_digit), sl_law_digit⟩)
    (c_law_digit : PySem.W.codeIn K cd_law_digit "_law_digit" = true)
    (k_law_digit : PySem.W.keepIn K (.ref f_law_digit) = true)
    (a_Section_init : PySem.W.findIn K (.ref C_Section) "__init__" = some (some (.ref f_Section_init)))
    (i_Section_init : PySem.W.isFn K (.ref f_Section_init) = true)
    (l_Section_init : K.lookup f_Section_init = some ⟨oc_Section_init, od_Section_init, .func (PySem.W.fnOf "__init__" "Section.__init__" (defArgs s_Section_init) (defBody s_Section_init) (defScope s_Section_init) .none kV_Section_init dc_Section_init pm_Section_init an_Section_init cd_Section_init ct_Section_init), sl_Section_init⟩)
    (c_Section_init : PySem.W.codeIn K cd_Section_init "Section.__init__" = true)
    (k_Section_init : PySem.W.keepIn K (.ref f_Section_init) = true)
    (a_law_sections : PySem.W.nsIn K mainGlobals "_law_sections" = some (some (.ref f_law_sections)))
    (l_law_sections : K.lookup f_law_sections = some ⟨oc_law_sections, od_law_sections, .func (PySem.W.fnOf "_law_sections" "_law_sections" (defArgs s_law_sections) (defBody s_law_sections) (defScope s_law_sections) .none kV_law_sections dc_law_sections pm_law_sections an_law_sections cd_law_sections ct_law_sections), sl_law_sections⟩)
    (c_law_sections : PySem.W.codeIn K cd_law_sections "_law_sections" = true)
    (k_law_sections : PySem.W.keepIn K (.ref f_law_sections) = true)
    (a_Ledger_init : PySem.W.findIn K (.ref C_Ledger) "__init__" = some (some (.ref f_Ledger_init)))
    (i_Ledger_init : PySem.W.isFn K (.ref f_Ledger_init) = true)
    (l_Ledger_init : K.lookup f_Ledger_init = some ⟨oc_Ledger_init, od_Ledger_init, .func (PySem.W.fnOf "__init__" "Ledger.__init__" (defArgs s_Ledger_init) (defBody s_Ledger_init) (defScope s_Ledger_init) .none kV_Ledger_init dc_Ledger_init pm_Ledger_init an_Ledger_init cd_Ledger_init ct_Ledger_init), sl_Ledger_init⟩)
    (c_Ledger_init : PySem.W.codeIn K cd_Ledger_init "Ledger.__init__" = true)
    (k_Ledger_init : PySem.W.keepIn K (.ref f_Ledger_init) = true)
    (a_Tariff_init : PySem.W.findIn K (.ref C_Tariff) "__init__" = some (some (.ref f_Tariff_init)))
    (i_Tariff_init : PySem.W.isFn K (.ref f_Tariff_init) = true)
    (l_Tariff_init : K.lookup f_Tariff_init = some ⟨oc_Tariff_init, od_Tariff_init, .func (PySem.W.fnOf "__init__" "Tariff.__init__" (defArgs s_Tariff_init) (defBody s_Tariff_init) (defScope s_Tariff_init) .none kV_Tariff_init dc_Tariff_init pm_Tariff_init an_Tariff_init cd_Tariff_init ct_Tariff_init), sl_Tariff_init⟩)
    (c_Tariff_init : PySem.W.codeIn K cd_Tariff_init "Tariff.__init__" = true)
    (k_Tariff_init : PySem.W.keepIn K (.ref f_Tariff_init) = true)
    (a_Band_init : PySem.W.findIn K (.ref C_Band) "__init__" = some (some (.ref f_Band_init)))
    (i_Band_init : PySem.W.isFn K (.ref f_Band_init) = true)
    (l_Band_init : K.lookup f_Band_init = some ⟨oc_Band_init, od_Band_init, .func (PySem.W.fnOf "__init__" "Band.__init__" (defArgs s_Band_init) (defBody s_Band_init) (defScope s_Band_init) .none kV_Band_init dc_Band_init pm_Band_init an_Band_init cd_Band_init ct_Band_init), sl_Band_init⟩)
    (c_Band_init : PySem.W.codeIn K cd_Band_init "Band.__init__" = true)
    (k_Band_init : PySem.W.keepIn K (.ref f_Band_init) = true)
    (a_law_tariffs : PySem.W.nsIn K mainGlobals "_law_tariffs" = some (some (.ref f_law_tariffs)))
    (l_law_tariffs : K.lookup f_law_tariffs = some ⟨oc_law_tariffs, od_law_tariffs, .func (PySem.W.fnOf "_law_tariffs" "_law_tariffs" (defArgs s_law_tariffs) (defBody s_law_tariffs) (defScope s_law_tariffs) .none kV_law_tariffs dc_law_tariffs pm_law_tariffs an_law_tariffs cd_law_tariffs ct_law_tariffs), sl_law_tariffs⟩)
    (c_law_tariffs : PySem.W.codeIn K cd_law_tariffs "_law_tariffs" = true)
    (k_law_tariffs : PySem.W.keepIn K (.ref f_law_tariffs) = true)
    (a_ChargeRun_init : PySem.W.findIn K (.ref C_ChargeRun) "__init__" = some (some (.ref f_ChargeRun_init)))
    (i_ChargeRun_init : PySem.W.isFn K (.ref f_ChargeRun_init) = true)
    (l_ChargeRun_init : K.lookup f_ChargeRun_init = some ⟨oc_ChargeRun_init, od_ChargeRun_init, .func (PySem.W.fnOf "__init__" "ChargeRun.__init__" (defArgs s_ChargeRun_init) (defBody s_ChargeRun_init) (defScope s_ChargeRun_init) .none kV_ChargeRun_init dc_ChargeRun_init pm_ChargeRun_init an_ChargeRun_init cd_ChargeRun_init ct_ChargeRun_init), sl_ChargeRun_init⟩)
    (c_ChargeRun_init : PySem.W.codeIn K cd_ChargeRun_init "ChargeRun.__init__" = true)
    (k_ChargeRun_init : PySem.W.keepIn K (.ref f_ChargeRun_init) = true)
    (a_section_place : PySem.W.nsIn K mainGlobals "section_place" = some (some (.ref f_section_place)))
    (l_section_place : K.lookup f_section_place = some ⟨oc_section_place, od_section_place, .func (PySem.W.fnOf "section_place" "section_place" (defArgs s_section_place) (defBody s_section_place) (defScope s_section_place) .none kV_section_place dc_section_place pm_section_place an_section_place cd_section_place ct_section_place), sl_section_place⟩)
    (c_section_place : PySem.W.codeIn K cd_section_place "section_place" = true)
    (k_section_place : PySem.W.keepIn K (.ref f_section_place) = true)
    (a_Section_is_free : PySem.W.findIn K (.ref C_Section) "is_free" = some (some (.ref f_Section_is_free)))
    (i_Section_is_free : PySem.W.isFn K (.ref f_Section_is_free) = true)
    (l_Section_is_free : K.lookup f_Section_is_free = some ⟨oc_Section_is_free, od_Section_is_free, .func (PySem.W.fnOf "is_free" "Section.is_free" (defArgs s_Section_is_free) (defBody s_Section_is_free) (defScope s_Section_is_free) .none kV_Section_is_free dc_Section_is_free pm_Section_is_free an_Section_is_free cd_Section_is_free ct_Section_is_free), sl_Section_is_free⟩)
    (c_Section_is_free : PySem.W.codeIn K cd_Section_is_free "Section.is_free" = true)
    (k_Section_is_free : PySem.W.keepIn K (.ref f_Section_is_free) = true)
    (a_Contracts_in_force : PySem.W.findIn K (.ref C_Contracts) "in_force" = some (some (.ref f_Contracts_in_force)))
    (i_Contracts_in_force : PySem.W.isFn K (.ref f_Contracts_in_force) = true)
    (l_Contracts_in_force : K.lookup f_Contracts_in_force = some ⟨oc_Contracts_in_force, od_Contracts_in_force, .func (PySem.W.fnOf "in_force" "Contracts.in_force" (defArgs s_Contracts_in_force) (defBody s_Contracts_in_force) (defScope s_Contracts_in_force) .none kV_Contracts_in_force dc_Contracts_in_force pm_Contracts_in_force an_Contracts_in_force cd_Contracts_in_force ct_Contracts_in_force), sl_Contracts_in_force⟩)
    (c_Contracts_in_force : PySem.W.codeIn K cd_Contracts_in_force "Contracts.in_force" = true)
    (k_Contracts_in_force : PySem.W.keepIn K (.ref f_Contracts_in_force) = true)
    (a_ChargeRun_reason_against : PySem.W.findIn K (.ref C_ChargeRun) "reason_against" = some (some (.ref f_ChargeRun_reason_against)))
    (i_ChargeRun_reason_against : PySem.W.isFn K (.ref f_ChargeRun_reason_against) = true)
    (l_ChargeRun_reason_against : K.lookup f_ChargeRun_reason_against = some ⟨oc_ChargeRun_reason_against, od_ChargeRun_reason_against, .func (PySem.W.fnOf "reason_against" "ChargeRun.reason_against" (defArgs s_ChargeRun_reason_against) (defBody s_ChargeRun_reason_against) (defScope s_ChargeRun_reason_against) .none kV_ChargeRun_reason_against dc_ChargeRun_reason_against pm_ChargeRun_reason_against an_ChargeRun_reason_against cd_ChargeRun_reason_against ct_ChargeRun_reason_against), sl_ChargeRun_reason_against⟩)
    (c_ChargeRun_reason_against : PySem.W.codeIn K cd_ChargeRun_reason_against "ChargeRun.reason_against" = true)
    (k_ChargeRun_reason_against : PySem.W.keepIn K (.ref f_ChargeRun_reason_against) = true)
    (a_Band_holds : PySem.W.findIn K (.ref C_Band) "holds" = some (some (.ref f_Band_holds)))
    (i_Band_holds : PySem.W.isFn K (.ref f_Band_holds) = true)
    (l_Band_holds : K.lookup f_Band_holds = some ⟨oc_Band_holds, od_Band_holds, .func (PySem.W.fnOf "holds" "Band.holds" (defArgs s_Band_holds) (defBody s_Band_holds) (defScope s_Band_holds) .none kV_Band_holds dc_Band_holds pm_Band_holds an_Band_holds cd_Band_holds ct_Band_holds), sl_Band_holds⟩)
    (c_Band_holds : PySem.W.codeIn K cd_Band_holds "Band.holds" = true)
    (k_Band_holds : PySem.W.keepIn K (.ref f_Band_holds) = true)
    (a_Tariff_band_at : PySem.W.findIn K (.ref C_Tariff) "band_at" = some (some (.ref f_Tariff_band_at)))
    (i_Tariff_band_at : PySem.W.isFn K (.ref f_Tariff_band_at) = true)
    (l_Tariff_band_at : K.lookup f_Tariff_band_at = some ⟨oc_Tariff_band_at, od_Tariff_band_at, .func (PySem.W.fnOf "band_at" "Tariff.band_at" (defArgs s_Tariff_band_at) (defBody s_Tariff_band_at) (defScope s_Tariff_band_at) .none kV_Tariff_band_at dc_Tariff_band_at pm_Tariff_band_at an_Tariff_band_at cd_Tariff_band_at ct_Tariff_band_at), sl_Tariff_band_at⟩)
    (c_Tariff_band_at : PySem.W.codeIn K cd_Tariff_band_at "Tariff.band_at" = true)
    (k_Tariff_band_at : PySem.W.keepIn K (.ref f_Tariff_band_at) = true)
    (a_stretches : PySem.W.nsIn K mainGlobals "stretches" = some (some (.ref f_stretches)))
    (l_stretches : K.lookup f_stretches = some ⟨oc_stretches, od_stretches, .func (PySem.W.fnOf "stretches" "stretches" (defArgs s_stretches) (defBody s_stretches) (defScope s_stretches) .none kV_stretches dc_stretches pm_stretches an_stretches cd_stretches ct_stretches), sl_stretches⟩)
    (c_stretches : PySem.W.codeIn K cd_stretches "stretches" = true)
    (k_stretches : PySem.W.keepIn K (.ref f_stretches) = true)
    (a_price_lines : PySem.W.nsIn K mainGlobals "price_lines" = some (some (.ref f_price_lines)))
    (l_price_lines : K.lookup f_price_lines = some ⟨oc_price_lines, od_price_lines, .func (PySem.W.fnOf "price_lines" "price_lines" (defArgs s_price_lines) (defBody s_price_lines) (defScope s_price_lines) .none kV_price_lines dc_price_lines pm_price_lines an_price_lines cd_price_lines ct_price_lines), sl_price_lines⟩)
    (c_price_lines : PySem.W.codeIn K cd_price_lines "price_lines" = true)
    (k_price_lines : PySem.W.keepIn K (.ref f_price_lines) = true)
    (a_ChargeRun_lines_of : PySem.W.findIn K (.ref C_ChargeRun) "lines_of" = some (some (.ref f_ChargeRun_lines_of)))
    (i_ChargeRun_lines_of : PySem.W.isFn K (.ref f_ChargeRun_lines_of) = true)
    (l_ChargeRun_lines_of : K.lookup f_ChargeRun_lines_of = some ⟨oc_ChargeRun_lines_of, od_ChargeRun_lines_of, .func (PySem.W.fnOf "lines_of" "ChargeRun.lines_of" (defArgs s_ChargeRun_lines_of) (defBody s_ChargeRun_lines_of) (defScope s_ChargeRun_lines_of) .none kV_ChargeRun_lines_of dc_ChargeRun_lines_of pm_ChargeRun_lines_of an_ChargeRun_lines_of cd_ChargeRun_lines_of ct_ChargeRun_lines_of), sl_ChargeRun_lines_of⟩)
    (c_ChargeRun_lines_of : PySem.W.codeIn K cd_ChargeRun_lines_of "ChargeRun.lines_of" = true)
    (k_ChargeRun_lines_of : PySem.W.keepIn K (.ref f_ChargeRun_lines_of) = true)
    (a_ChargeRun_free_left : PySem.W.findIn K (.ref C_ChargeRun) "free_left" = some (some (.ref f_ChargeRun_free_left)))
    (i_ChargeRun_free_left : PySem.W.isFn K (.ref f_ChargeRun_free_left) = true)
    (l_ChargeRun_free_left : K.lookup f_ChargeRun_free_left = some ⟨oc_ChargeRun_free_left, od_ChargeRun_free_left, .func (PySem.W.fnOf "free_left" "ChargeRun.free_left" (defArgs s_ChargeRun_free_left) (defBody s_ChargeRun_free_left) (defScope s_ChargeRun_free_left) .none kV_ChargeRun_free_left dc_ChargeRun_free_left pm_ChargeRun_free_left an_ChargeRun_free_left cd_ChargeRun_free_left ct_ChargeRun_free_left), sl_ChargeRun_free_left⟩)
    (c_ChargeRun_free_left : PySem.W.codeIn K cd_ChargeRun_free_left "ChargeRun.free_left" = true)
    (k_ChargeRun_free_left : PySem.W.keepIn K (.ref f_ChargeRun_free_left) = true)
    (a_Charge_init : PySem.W.findIn K (.ref C_Charge) "__init__" = some (some (.ref f_Charge_init)))
    (i_Charge_init : PySem.W.isFn K (.ref f_Charge_init) = true)
    (l_Charge_init : K.lookup f_Charge_init = some ⟨oc_Charge_init, od_Charge_init, .func (PySem.W.fnOf "__init__" "Charge.__init__" (defArgs s_Charge_init) (defBody s_Charge_init) (defScope s_Charge_init) .none kV_Charge_init dc_Charge_init pm_Charge_init an_Charge_init cd_Charge_init ct_Charge_init), sl_Charge_init⟩)
    (c_Charge_init : PySem.W.codeIn K cd_Charge_init "Charge.__init__" = true)
    (k_Charge_init : PySem.W.keepIn K (.ref f_Charge_init) = true)
    (a_ChargeRun_take : PySem.W.findIn K (.ref C_ChargeRun) "take" = some (some (.ref f_ChargeRun_take)))
    (i_ChargeRun_take : PySem.W.isFn K (.ref f_ChargeRun_take) = true)
    (l_ChargeRun_take : K.lookup f_ChargeRun_take = some ⟨oc_ChargeRun_take, od_ChargeRun_take, .func (PySem.W.fnOf "take" "ChargeRun.take" (defArgs s_ChargeRun_take) (defBody s_ChargeRun_take) (defScope s_ChargeRun_take) .none kV_ChargeRun_take dc_ChargeRun_take pm_ChargeRun_take an_ChargeRun_take cd_ChargeRun_take ct_ChargeRun_take), sl_ChargeRun_take⟩)
    (c_ChargeRun_take : PySem.W.codeIn K cd_ChargeRun_take "ChargeRun.take" = true)
    (k_ChargeRun_take : PySem.W.keepIn K (.ref f_ChargeRun_take) = true)
    (a_charge_sections : PySem.W.nsIn K mainGlobals "charge_sections" = some (some (.ref f_charge_sections)))
    (l_charge_sections : K.lookup f_charge_sections = some ⟨oc_charge_sections, od_charge_sections, .func (PySem.W.fnOf "charge_sections" "charge_sections" (defArgs s_charge_sections) (defBody s_charge_sections) (defScope s_charge_sections) .none kV_charge_sections dc_charge_sections pm_charge_sections an_charge_sections cd_charge_sections ct_charge_sections), sl_charge_sections⟩)
    (c_charge_sections : PySem.W.codeIn K cd_charge_sections "charge_sections" = true)
    (k_charge_sections : PySem.W.keepIn K (.ref f_charge_sections) = true)
    (a_Ledger_standing_keys : PySem.W.findIn K (.ref C_Ledger) "standing_keys" = some (some (.ref f_Ledger_standing_keys)))
    (i_Ledger_standing_keys : PySem.W.isFn K (.ref f_Ledger_standing_keys) = true)
    (l_Ledger_standing_keys : K.lookup f_Ledger_standing_keys = some ⟨oc_Ledger_standing_keys, od_Ledger_standing_keys, .func (PySem.W.fnOf "standing_keys" "Ledger.standing_keys" (defArgs s_Ledger_standing_keys) (defBody s_Ledger_standing_keys) (defScope s_Ledger_standing_keys) .none kV_Ledger_standing_keys dc_Ledger_standing_keys pm_Ledger_standing_keys an_Ledger_standing_keys cd_Ledger_standing_keys ct_Ledger_standing_keys), sl_Ledger_standing_keys⟩)
    (c_Ledger_standing_keys : PySem.W.codeIn K cd_Ledger_standing_keys "Ledger.standing_keys" = true)
    (k_Ledger_standing_keys : PySem.W.keepIn K (.ref f_Ledger_standing_keys) = true)
    (a_Posting_init : PySem.W.findIn K (.ref C_Posting) "__init__" = some (some (.ref f_Posting_init)))
    (i_Posting_init : PySem.W.isFn K (.ref f_Posting_init) = true)
    (l_Posting_init : K.lookup f_Posting_init = some ⟨oc_Posting_init, od_Posting_init, .func (PySem.W.fnOf "__init__" "Posting.__init__" (defArgs s_Posting_init) (defBody s_Posting_init) (defScope s_Posting_init) .none kV_Posting_init dc_Posting_init pm_Posting_init an_Posting_init cd_Posting_init ct_Posting_init), sl_Posting_init⟩)
    (c_Posting_init : PySem.W.codeIn K cd_Posting_init "Posting.__init__" = true)
    (k_Posting_init : PySem.W.keepIn K (.ref f_Posting_init) = true)
    (a_Ledger_post : PySem.W.findIn K (.ref C_Ledger) "post" = some (some (.ref f_Ledger_post)))
    (i_Ledger_post : PySem.W.isFn K (.ref f_Ledger_post) = true)
    (l_Ledger_post : K.lookup f_Ledger_post = some ⟨oc_Ledger_post, od_Ledger_post, .func (PySem.W.fnOf "post" "Ledger.post" (defArgs s_Ledger_post) (defBody s_Ledger_post) (defScope s_Ledger_post) .none kV_Ledger_post dc_Ledger_post pm_Ledger_post an_Ledger_post cd_Ledger_post ct_Ledger_post), sl_Ledger_post⟩)
    (c_Ledger_post : PySem.W.codeIn K cd_Ledger_post "Ledger.post" = true)
    (k_Ledger_post : PySem.W.keepIn K (.ref f_Ledger_post) = true)
    (a_Ledger_standing : PySem.W.findIn K (.ref C_Ledger) "standing" = some (some (.ref f_Ledger_standing)))
    (i_Ledger_standing : PySem.W.isFn K (.ref f_Ledger_standing) = true)
    (l_Ledger_standing : K.lookup f_Ledger_standing = some ⟨oc_Ledger_standing, od_Ledger_standing, .func (PySem.W.fnOf "standing" "Ledger.standing" (defArgs s_Ledger_standing) (defBody s_Ledger_standing) (defScope s_Ledger_standing) .none kV_Ledger_standing dc_Ledger_standing pm_Ledger_standing an_Ledger_standing cd_Ledger_standing ct_Ledger_standing), sl_Ledger_standing⟩)
    (c_Ledger_standing : PySem.W.codeIn K cd_Ledger_standing "Ledger.standing" = true)
    (k_Ledger_standing : PySem.W.keepIn K (.ref f_Ledger_standing) = true)
    (a_law_book : PySem.W.nsIn K mainGlobals "_law_book" = some (some (.ref f_law_book)))
    (l_law_book : K.lookup f_law_book = some ⟨oc_law_book, od_law_book, .func (PySem.W.fnOf "_law_book" "_law_book" (defArgs s_law_book) (defBody s_law_book) (defScope s_law_book) .none kV_law_book dc_law_book pm_law_book an_law_book cd_law_book ct_law_book), sl_law_book⟩)
    (c_law_book : PySem.W.codeIn K cd_law_book "_law_book" = true)
    (k_law_book : PySem.W.keepIn K (.ref f_law_book) = true)
    (a_account_sums : PySem.W.nsIn K mainGlobals "account_sums" = some (some (.ref f_account_sums)))
    (l_account_sums : K.lookup f_account_sums = some ⟨oc_account_sums, od_account_sums, .func (PySem.W.fnOf "account_sums" "account_sums" (defArgs s_account_sums) (defBody s_account_sums) (defScope s_account_sums) .none kV_account_sums dc_account_sums pm_account_sums an_account_sums cd_account_sums ct_account_sums), sl_account_sums⟩)
    (c_account_sums : PySem.W.codeIn K cd_account_sums "account_sums" = true)
    (k_account_sums : PySem.W.keepIn K (.ref f_account_sums) = true)
    (a_charge_table : PySem.W.nsIn K mainGlobals "charge_table" = some (some (.ref f_charge_table)))
    (l_charge_table : K.lookup f_charge_table = some ⟨oc_charge_table, od_charge_table, .func (PySem.W.fnOf "charge_table" "charge_table" (defArgs s_charge_table) (defBody s_charge_table) (defScope s_charge_table) .none kV_charge_table dc_charge_table pm_charge_table an_charge_table cd_charge_table ct_charge_table), sl_charge_table⟩)
    (c_charge_table : PySem.W.codeIn K cd_charge_table "charge_table" = true)
    (k_charge_table : PySem.W.keepIn K (.ref f_charge_table) = true)
    (a_differences : PySem.W.nsIn K mainGlobals "differences" = some (some (.ref f_differences)))
    (l_differences : K.lookup f_differences = some ⟨oc_differences, od_differences, .func (PySem.W.fnOf "differences" "differences" (defArgs s_differences) (defBody s_differences) (defScope s_differences) .none kV_differences dc_differences pm_differences an_differences cd_differences ct_differences), sl_differences⟩)
    (c_differences : PySem.W.codeIn K cd_differences "differences" = true)
    (k_differences : PySem.W.keepIn K (.ref f_differences) = true)
    (a_changes_of_accounts : PySem.W.nsIn K mainGlobals "changes_of_accounts" = some (some (.ref f_changes_of_accounts)))
    (l_changes_of_accounts : K.lookup f_changes_of_accounts = some ⟨oc_changes_of_accounts, od_changes_of_accounts, .func (PySem.W.fnOf "changes_of_accounts" "changes_of_accounts" (defArgs s_changes_of_accounts) (defBody s_changes_of_accounts) (defScope s_changes_of_accounts) .none kV_changes_of_accounts dc_changes_of_accounts pm_changes_of_accounts an_changes_of_accounts cd_changes_of_accounts ct_changes_of_accounts), sl_changes_of_accounts⟩)
    (c_changes_of_accounts : PySem.W.codeIn K cd_changes_of_accounts "changes_of_accounts" = true)
    (k_changes_of_accounts : PySem.W.keepIn K (.ref f_changes_of_accounts) = true)
    (a_Contracts_init : PySem.W.findIn K (.ref C_Contracts) "__init__" = some (some (.ref f_Contracts_init)))
    (i_Contracts_init : PySem.W.isFn K (.ref f_Contracts_init) = true)
    (l_Contracts_init : K.lookup f_Contracts_init = some ⟨oc_Contracts_init, od_Contracts_init, .func (PySem.W.fnOf "__init__" "Contracts.__init__" (defArgs s_Contracts_init) (defBody s_Contracts_init) (defScope s_Contracts_init) .none kV_Contracts_init dc_Contracts_init pm_Contracts_init an_Contracts_init cd_Contracts_init ct_Contracts_init), sl_Contracts_init⟩)
    (c_Contracts_init : PySem.W.codeIn K cd_Contracts_init "Contracts.__init__" = true)
    (k_Contracts_init : PySem.W.keepIn K (.ref f_Contracts_init) = true)
    (a_Contracts_set_history : PySem.W.findIn K (.ref C_Contracts) "set_history" = some (some (.ref f_Contracts_set_history)))
    (i_Contracts_set_history : PySem.W.isFn K (.ref f_Contracts_set_history) = true)
    (l_Contracts_set_history : K.lookup f_Contracts_set_history = some ⟨oc_Contracts_set_history, od_Contracts_set_history, .func (PySem.W.fnOf "set_history" "Contracts.set_history" (defArgs s_Contracts_set_history) (defBody s_Contracts_set_history) (defScope s_Contracts_set_history) .none kV_Contracts_set_history dc_Contracts_set_history pm_Contracts_set_history an_Contracts_set_history cd_Contracts_set_history ct_Contracts_set_history), sl_Contracts_set_history⟩)
    (c_Contracts_set_history : PySem.W.codeIn K cd_Contracts_set_history "Contracts.set_history" = true)
    (k_Contracts_set_history : PySem.W.keepIn K (.ref f_Contracts_set_history) = true)
    (a_law_contracts : PySem.W.nsIn K mainGlobals "_law_contracts" = some (some (.ref f_law_contracts)))
    (l_law_contracts : K.lookup f_law_contracts = some ⟨oc_law_contracts, od_law_contracts, .func (PySem.W.fnOf "_law_contracts" "_law_contracts" (defArgs s_law_contracts) (defBody s_law_contracts) (defScope s_law_contracts) .none kV_law_contracts dc_law_contracts pm_law_contracts an_law_contracts cd_law_contracts ct_law_contracts), sl_law_contracts⟩)
    (c_law_contracts : PySem.W.codeIn K cd_law_contracts "_law_contracts" = true)
    (k_law_contracts : PySem.W.keepIn K (.ref f_law_contracts) = true)
    (a_Ledger_postings : PySem.W.findIn K (.ref C_Ledger) "postings" = some (some (.ref f_Ledger_postings)))
    (i_Ledger_postings : PySem.W.isFn K (.ref f_Ledger_postings) = true)
    (l_Ledger_postings : K.lookup f_Ledger_postings = some ⟨oc_Ledger_postings, od_Ledger_postings, .func (PySem.W.fnOf "postings" "Ledger.postings" (defArgs s_Ledger_postings) (defBody s_Ledger_postings) (defScope s_Ledger_postings) .none kV_Ledger_postings dc_Ledger_postings pm_Ledger_postings an_Ledger_postings cd_Ledger_postings ct_Ledger_postings), sl_Ledger_postings⟩)
    (c_Ledger_postings : PySem.W.codeIn K cd_Ledger_postings "Ledger.postings" = true)
    (k_Ledger_postings : PySem.W.keepIn K (.ref f_Ledger_postings) = true)
    (a_Ledger_balance : PySem.W.findIn K (.ref C_Ledger) "balance" = some (some (.ref f_Ledger_balance)))
    (i_Ledger_balance : PySem.W.isFn K (.ref f_Ledger_balance) = true)
    (l_Ledger_balance : K.lookup f_Ledger_balance = some ⟨oc_Ledger_balance, od_Ledger_balance, .func (PySem.W.fnOf "balance" "Ledger.balance" (defArgs s_Ledger_balance) (defBody s_Ledger_balance) (defScope s_Ledger_balance) .none kV_Ledger_balance dc_Ledger_balance pm_Ledger_balance an_Ledger_balance cd_Ledger_balance ct_Ledger_balance), sl_Ledger_balance⟩)
    (c_Ledger_balance : PySem.W.codeIn K cd_Ledger_balance "Ledger.balance" = true)
    (k_Ledger_balance : PySem.W.keepIn K (.ref f_Ledger_balance) = true)
    (a_sections_changed : PySem.W.nsIn K mainGlobals "sections_changed" = some (some (.ref f_sections_changed)))
    (l_sections_changed : K.lookup f_sections_changed = some ⟨oc_sections_changed, od_sections_changed, .func (PySem.W.fnOf "sections_changed" "sections_changed" (defArgs s_sections_changed) (defBody s_sections_changed) (defScope s_sections_changed) .none kV_sections_changed dc_sections_changed pm_sections_changed an_sections_changed cd_sections_changed ct_sections_changed), sl_sections_changed⟩)
    (c_sections_changed : PySem.W.codeIn K cd_sections_changed "sections_changed" = true)
    (k_sections_changed : PySem.W.keepIn K (.ref f_sections_changed) = true)
    (a_label_sums : PySem.W.nsIn K mainGlobals "label_sums" = some (some (.ref f_label_sums)))
    (l_label_sums : K.lookup f_label_sums = some ⟨oc_label_sums, od_label_sums, .func (PySem.W.fnOf "label_sums" "label_sums" (defArgs s_label_sums) (defBody s_label_sums) (defScope s_label_sums) .none kV_label_sums dc_label_sums pm_label_sums an_label_sums cd_label_sums ct_label_sums), sl_label_sums⟩)
    (c_label_sums : PySem.W.codeIn K cd_label_sums "label_sums" = true)
    (k_label_sums : PySem.W.keepIn K (.ref f_label_sums) = true)
    (a_law_labels : PySem.W.nsIn K mainGlobals "_law_labels" = some (some (.ref f_law_labels)))
    (l_law_labels : K.lookup f_law_labels = some ⟨oc_law_labels, od_law_labels, .func (PySem.W.fnOf "_law_labels" "_law_labels" (defArgs s_law_labels) (defBody s_law_labels) (defScope s_law_labels) .none kV_law_labels dc_law_labels pm_law_labels an_law_labels cd_law_labels ct_law_labels), sl_law_labels⟩)
    (c_law_labels : PySem.W.codeIn K cd_law_labels "_law_labels" = true)
    (k_law_labels : PySem.W.keepIn K (.ref f_law_labels) = true)
    (a_law : PySem.W.nsIn K mainGlobals "law" = some (some (.ref f_law)))
    (l_law : K.lookup f_law = some ⟨oc_law, od_law, .func (PySem.W.fnOf "law" "law" (defArgs s_law) (defBody s_law) (defScope s_law) .none kV_law dc_law pm_law an_law cd_law ct_law), sl_law⟩)
    (c_law : PySem.W.codeIn K cd_law "law" = true)
    (k_law : PySem.W.keepIn K (.ref f_law) = true)
    : ∃ (A : Ad) (fd : FuncData), (∀ (s : Shared) (v : Value), BindsTo s fd ⟨[v], []⟩ [("script", v)]) ∧ ∀ base : Heap, K.In base → base.Ns mainGlobals mg → FnOk l.prog w K mg base CX0 8 fa fd ["script"] (spD K (R_law A)) := by
  have e := hfa.symm.trans (PySem.W.mg_of X G a_law)
  cases e
  have F_law_state := fun_mk (st := s_law_state) l_law_state c_law_state k_law_state
  have b_law_state := F_law_state.binds (ps := ["cell", "k"]) fun _ _ _ _ _ _ us hl => match us, hl with | [_, _], _ => rfl
  have F_law_cell := fun_mk (st := s_law_cell) l_law_cell c_law_cell k_law_cell
  have b_law_cell := F_law_cell.binds (ps := ["script", "k"]) fun _ _ _ _ _ _ us hl => match us, hl with | [_, _], _ => rfl
  have F_law_digit := fun_mk (st := s_law_digit) l_law_digit c_law_digit k_law_digit
  have b_law_digit := F_law_digit.binds (ps := ["state", "many"]) fun _ _ _ _ _ _ us hl => match us, hl with | [_, _], _ => rfl
  have F_Section_init := fun_mk (st := s_Section_init) l_Section_init c_Section_init k_Section_init
  have b_Section_init := F_Section_init.binds (ps := ["self", "owner", "payer", "called", "opened", "start", "seconds"]) fun _ _ _ _ _ _ us hl => match us, hl with | [_, _, _, _, _, _, _], _ => rfl
  have F_law_sections := fun_mk (st := s_law_sections) l_law_sections c_law_sections k_law_sections
  have b_law_sections := F_law_sections.binds (ps := ["script", "many"]) fun _ _ _ _ _ _ us hl => match us, hl with | [_, _], _ => rfl
  have F_Ledger_init := fun_mk (st := s_Ledger_init) l_Ledger_init c_Ledger_init k_Ledger_init
  have b_Ledger_init := F_Ledger_init.binds (ps := ["self"]) fun _ _ _ _ _ _ us hl => match us, hl with | [_], _ => rfl
  have F_Tariff_init := fun_mk (st := s_Tariff_init) l_Tariff_init c_Tariff_init k_Tariff_init
  have b_Tariff_init := F_Tariff_init.binds (ps := ["self", "setup_price", "bands"]) fun _ _ _ _ _ _ us hl => match us, hl with | [_, _, _], _ => rfl
  have F_Band_init := fun_mk (st := s_Band_init) l_Band_init c_Band_init k_Band_init
  have b_Band_init := F_Band_init.binds (ps := ["self", "label", "prefix", "from_hour", "to_hour", "price"]) fun _ _ _ _ _ _ us hl => match us, hl with | [_, _, _, _, _, _], _ => rfl
  have F_law_tariffs := fun_mk (st := s_law_tariffs) l_law_tariffs c_law_tariffs k_law_tariffs
  have b_law_tariffs := F_law_tariffs.binds (ps := ["state"]) fun _ _ _ _ _ _ us hl => match us, hl with | [_], _ => rfl
  have F_ChargeRun_init := fun_mk (st := s_ChargeRun_init) l_ChargeRun_init c_ChargeRun_init k_ChargeRun_init
  have b_ChargeRun_init := F_ChargeRun_init.binds (ps := ["self", "contracts", "tariffs", "allowances"]) fun _ _ _ _ _ _ us hl => match us, hl with | [_, _, _, _], _ => rfl
  have F_section_place := fun_mk (st := s_section_place) l_section_place c_section_place k_section_place
  have b_section_place := F_section_place.binds (ps := ["section"]) fun _ _ _ _ _ _ us hl => match us, hl with | [_], _ => rfl
  have F_Section_is_free := fun_mk (st := s_Section_is_free) l_Section_is_free c_Section_is_free k_Section_is_free
  have b_Section_is_free := F_Section_is_free.binds (ps := ["self"]) fun _ _ _ _ _ _ us hl => match us, hl with | [_], _ => rfl
  have F_Contracts_in_force := fun_mk (st := s_Contracts_in_force) l_Contracts_in_force c_Contracts_in_force k_Contracts_in_force
  have b_Contracts_in_force := F_Contracts_in_force.binds (ps := ["self", "line", "clock"]) fun _ _ _ _ _ _ us hl => match us, hl with | [_, _, _], _ => rfl
  have F_ChargeRun_reason_against := fun_mk (st := s_ChargeRun_reason_against) l_ChargeRun_reason_against c_ChargeRun_reason_against k_ChargeRun_reason_against
  have b_ChargeRun_reason_against := F_ChargeRun_reason_against.binds (ps := ["self", "section", "contract"]) fun _ _ _ _ _ _ us hl => match us, hl with | [_, _, _], _ => rfl
  have F_Band_holds := fun_mk (st := s_Band_holds) l_Band_holds c_Band_holds k_Band_holds
  have b_Band_holds := F_Band_holds.binds (ps := ["self", "called", "clock"]) fun _ _ _ _ _ _ us hl => match us, hl with | [_, _, _], _ => rfl
  have F_Tariff_band_at := fun_mk (st := s_Tariff_band_at) l_Tariff_band_at c_Tariff_band_at k_Tariff_band_at
  have b_Tariff_band_at := F_Tariff_band_at.binds (ps := ["self", "called", "clock"]) fun _ _ _ _ _ _ us hl => match us, hl with | [_, _, _], _ => rfl
  have F_stretches := fun_mk (st := s_stretches) l_stretches c_stretches k_stretches
  have b_stretches := F_stretches.binds (ps := ["tariff", "called", "start", "begin", "till"]) fun _ _ _ _ _ _ us hl => match us, hl with | [_, _, _, _, _], _ => rfl
  have F_price_lines := fun_mk (st := s_price_lines) l_price_lines c_price_lines k_price_lines
  have b_price_lines := F_price_lines.binds (ps := ["tariff", "called", "start", "begin", "till"]) fun _ _ _ _ _ _ us hl => match us, hl with | [_, _, _, _, _], _ => rfl
  have F_ChargeRun_lines_of := fun_mk (st := s_ChargeRun_lines_of) l_ChargeRun_lines_of c_ChargeRun_lines_of k_ChargeRun_lines_of
  have b_ChargeRun_lines_of := F_ChargeRun_lines_of.binds (ps := ["self", "section", "name", "free"]) fun _ _ _ _ _ _ us hl => match us, hl with | [_, _, _, _], _ => rfl
  have F_ChargeRun_free_left := fun_mk (st := s_ChargeRun_free_left) l_ChargeRun_free_left c_ChargeRun_free_left k_ChargeRun_free_left
  have b_ChargeRun_free_left := F_ChargeRun_free_left.binds (ps := ["self", "account", "month"]) fun _ _ _ _ _ _ us hl => match us, hl with | [_, _, _], _ => rfl
  have F_Charge_init := fun_mk (st := s_Charge_init) l_Charge_init c_Charge_init k_Charge_init
  have b_Charge_init := F_Charge_init.binds (ps := ["self", "key", "account", "till", "mills"]) fun _ _ _ _ _ _ us hl => match us, hl with | [_, _, _, _, _], _ => rfl
  have F_ChargeRun_take := fun_mk (st := s_ChargeRun_take) l_ChargeRun_take c_ChargeRun_take k_ChargeRun_take
  have b_ChargeRun_take := F_ChargeRun_take.binds (ps := ["self", "section"]) fun _ _ _ _ _ _ us hl => match us, hl with | [_, _], _ => rfl
  have F_charge_sections := fun_mk (st := s_charge_sections) l_charge_sections c_charge_sections k_charge_sections
  have b_charge_sections := F_charge_sections.binds (ps := ["sections", "contracts", "tariffs", "allowances"]) fun _ _ _ _ _ _ us hl => match us, hl with | [_, _, _, _], _ => rfl
  have F_Ledger_standing_keys := fun_mk (st := s_Ledger_standing_keys) l_Ledger_standing_keys c_Ledger_standing_keys k_Ledger_standing_keys
  have b_Ledger_standing_keys := F_Ledger_standing_keys.binds (ps := ["self"]) fun _ _ _ _ _ _ us hl => match us, hl with | [_], _ => rfl
  have F_Posting_init := fun_mk (st := s_Posting_init) l_Posting_init c_Posting_init k_Posting_init
  have b_Posting_init := F_Posting_init.binds (ps := ["self", "account", "key", "amount", "written"]) fun _ _ _ _ _ _ us hl => match us, hl with | [_, _, _, _, _], _ => rfl
  have F_Ledger_post := fun_mk (st := s_Ledger_post) l_Ledger_post c_Ledger_post k_Ledger_post
  have b_Ledger_post := F_Ledger_post.binds (ps := ["self", "key", "account", "amount", "clock"]) fun _ _ _ _ _ _ us hl => match us, hl with | [_, _, _, _, _], _ => rfl
  have F_Ledger_standing := fun_mk (st := s_Ledger_standing) l_Ledger_standing c_Ledger_standing k_Ledger_standing
  have b_Ledger_standing := F_Ledger_standing.binds (ps := ["self", "key"]) fun _ _ _ _ _ _ us hl => match us, hl with | [_, _], _ => rfl
  have F_law_book := fun_mk (st := s_law_book) l_law_book c_law_book k_law_book
  have b_law_book := F_law_book.binds (ps := ["ledger", "charges", "clock"]) fun _ _ _ _ _ _ us hl => match us, hl with | [_, _, _], _ => rfl
  have F_account_sums := fun_mk (st := s_account_sums) l_account_sums c_account_sums k_account_sums
  have b_account_sums := F_account_sums.binds (ps := ["charges"]) fun _ _ _ _ _ _ us hl => match us, hl with | [_], _ => rfl
  have F_charge_table := fun_mk (st := s_charge_table) l_charge_table c_charge_table k_charge_table
  have b_charge_table := F_charge_table.binds (ps := ["charges"]) fun _ _ _ _ _ _ us hl => match us, hl with | [_], _ => rfl
  have F_differences := fun_mk (st := s_differences) l_differences c_differences k_differences
  have b_differences := F_differences.binds (ps := ["before", "after"]) fun _ _ _ _ _ _ us hl => match us, hl with | [_, _], _ => rfl
  have F_changes_of_accounts := fun_mk (st := s_changes_of_accounts) l_changes_of_accounts c_changes_of_accounts k_changes_of_accounts
  have b_changes_of_accounts := F_changes_of_accounts.binds (ps := ["found"]) fun _ _ _ _ _ _ us hl => match us, hl with | [_], _ => rfl
  have F_Contracts_init := fun_mk (st := s_Contracts_init) l_Contracts_init c_Contracts_init k_Contracts_init
  have b_Contracts_init := F_Contracts_init.binds (ps := ["self"]) fun _ _ _ _ _ _ us hl => match us, hl with | [_], _ => rfl
  have F_Contracts_set_history := fun_mk (st := s_Contracts_set_history) l_Contracts_set_history c_Contracts_set_history k_Contracts_set_history
  have b_Contracts_set_history := F_Contracts_set_history.binds (ps := ["self", "line", "rows"]) fun _ _ _ _ _ _ us hl => match us, hl with | [_, _, _], _ => rfl
  have F_law_contracts := fun_mk (st := s_law_contracts) l_law_contracts c_law_contracts k_law_contracts
  have b_law_contracts := F_law_contracts.binds (ps := ["state"]) fun _ _ _ _ _ _ us hl => match us, hl with | [_], _ => rfl
  have F_Ledger_postings := fun_mk (st := s_Ledger_postings) l_Ledger_postings c_Ledger_postings k_Ledger_postings
  have b_Ledger_postings := F_Ledger_postings.binds (ps := ["self", "account"]) fun _ _ _ _ _ _ us hl => match us, hl with | [_, _], _ => rfl
  have F_Ledger_balance := fun_mk (st := s_Ledger_balance) l_Ledger_balance c_Ledger_balance k_Ledger_balance
  have b_Ledger_balance := F_Ledger_balance.binds (ps := ["self", "account"]) fun _ _ _ _ _ _ us hl => match us, hl with | [_, _], _ => rfl
  have F_sections_changed := fun_mk (st := s_sections_changed) l_sections_changed c_sections_changed k_sections_changed
  have b_sections_changed := F_sections_changed.binds (ps := ["found"]) fun _ _ _ _ _ _ us hl => match us, hl with | [_], _ => rfl
  have F_label_sums := fun_mk (st := s_label_sums) l_label_sums c_label_sums k_label_sums
  have b_label_sums := F_label_sums.binds (ps := ["charges", "account"]) fun _ _ _ _ _ _ us hl => match us, hl with | [_, _], _ => rfl
  have F_law_labels := fun_mk (st := s_law_labels) l_law_labels c_law_labels k_law_labels
  have b_law_labels := F_law_labels.binds (ps := ["charges", "account"]) fun _ _ _ _ _ _ us hl => match us, hl with | [_, _], _ => rfl
  have F_law := fun_mk (st := s_law) l_law c_law k_law
  have b_law := F_law.binds (ps := ["script"]) fun _ _ _ _ _ _ us hl => match us, hl with | [_], _ => rfl
  let A : Ad := { a_law_state := f_law_state, d_law_state := PySem.W.fnOf "_law_state" "_law_state" (defArgs s_law_state) (defBody s_law_state) (defScope s_law_state) .none kV_law_state dc_law_state pm_law_state an_law_state cd_law_state ct_law_state, a_law_cell := f_law_cell, d_law_cell := PySem.W.fnOf "_law_cell" "_law_cell" (defArgs s_law_cell) (defBody s_law_cell) (defScope s_law_cell) .none kV_law_cell dc_law_cell pm_law_cell an_law_cell cd_law_cell ct_law_cell, a_law_digit := f_law_digit, d_law_digit := PySem.W.fnOf "_law_digit" "_law_digit" (defArgs s_law_digit) (defBody s_law_digit) (defScope s_law_digit) .none kV_law_digit dc_law_digit pm_law_digit an_law_digit cd_law_digit ct_law_digit, a_Section_init := f_Section_init, d_Section_init := PySem.W.fnOf "__init__" "Section.__init__" (defArgs s_Section_init) (defBody s_Section_init) (defScope s_Section_init) .none kV_Section_init dc_Section_init pm_Section_init an_Section_init cd_Section_init ct_Section_init, a_law_sections := f_law_sections, d_law_sections := PySem.W.fnOf "_law_sections" "_law_sections" (defArgs s_law_sections) (defBody s_law_sections) (defScope s_law_sections) .none kV_law_sections dc_law_sections pm_law_sections an_law_sections cd_law_sections ct_law_sections, a_Ledger_init := f_Ledger_init, d_Ledger_init := PySem.W.fnOf "__init__" "Ledger.__init__" (defArgs s_Ledger_init) (defBody s_Ledger_init) (defScope s_Ledger_init) .none kV_Ledger_init dc_Ledger_init pm_Ledger_init an_Ledger_init cd_Ledger_init ct_Ledger_init, a_Tariff_init := f_Tariff_init, d_Tariff_init := PySem.W.fnOf "__init__" "Tariff.__init__" (defArgs s_Tariff_init) (defBody s_Tariff_init) (defScope s_Tariff_init) .none kV_Tariff_init dc_Tariff_init pm_Tariff_init an_Tariff_init cd_Tariff_init ct_Tariff_init, a_Band_init := f_Band_init, d_Band_init := PySem.W.fnOf "__init__" "Band.__init__" (defArgs s_Band_init) (defBody s_Band_init) (defScope s_Band_init) .none kV_Band_init dc_Band_init pm_Band_init an_Band_init cd_Band_init ct_Band_init, a_law_tariffs := f_law_tariffs, d_law_tariffs := PySem.W.fnOf "_law_tariffs" "_law_tariffs" (defArgs s_law_tariffs) (defBody s_law_tariffs) (defScope s_law_tariffs) .none kV_law_tariffs dc_law_tariffs pm_law_tariffs an_law_tariffs cd_law_tariffs ct_law_tariffs, a_ChargeRun_init := f_ChargeRun_init, d_ChargeRun_init := PySem.W.fnOf "__init__" "ChargeRun.__init__" (defArgs s_ChargeRun_init) (defBody s_ChargeRun_init) (defScope s_ChargeRun_init) .none kV_ChargeRun_init dc_ChargeRun_init pm_ChargeRun_init an_ChargeRun_init cd_ChargeRun_init ct_ChargeRun_init, a_section_place := f_section_place, d_section_place := PySem.W.fnOf "section_place" "section_place" (defArgs s_section_place) (defBody s_section_place) (defScope s_section_place) .none kV_section_place dc_section_place pm_section_place an_section_place cd_section_place ct_section_place, a_Section_is_free := f_Section_is_free, d_Section_is_free := PySem.W.fnOf "is_free" "Section.is_free" (defArgs s_Section_is_free) (defBody s_Section_is_free) (defScope s_Section_is_free) .none kV_Section_is_free dc_Section_is_free pm_Section_is_free an_Section_is_free cd_Section_is_free ct_Section_is_free, a_Contracts_in_force := f_Contracts_in_force, d_Contracts_in_force := PySem.W.fnOf "in_force" "Contracts.in_force" (defArgs s_Contracts_in_force) (defBody s_Contracts_in_force) (defScope s_Contracts_in_force) .none kV_Contracts_in_force dc_Contracts_in_force pm_Contracts_in_force an_Contracts_in_force cd_Contracts_in_force ct_Contracts_in_force, a_ChargeRun_reason_against := f_ChargeRun_reason_against, d_ChargeRun_reason_against := PySem.W.fnOf "reason_against" "ChargeRun.reason_against" (defArgs s_ChargeRun_reason_against) (defBody s_ChargeRun_reason_against) (defScope s_ChargeRun_reason_against) .none kV_ChargeRun_reason_against dc_ChargeRun_reason_against pm_ChargeRun_reason_against an_ChargeRun_reason_against cd_ChargeRun_reason_against ct_ChargeRun_reason_against, a_Band_holds := f_Band_holds, d_Band_holds := PySem.W.fnOf "holds" "Band.holds" (defArgs s_Band_holds) (defBody s_Band_holds) (defScope s_Band_holds) .none kV_Band_holds dc_Band_holds pm_Band_holds an_Band_holds cd_Band_holds ct_Band_holds, a_Tariff_band_at := f_Tariff_band_at, d_Tariff_band_at := PySem.W.fnOf "band_at" "Tariff.band_at" (defArgs s_Tariff_band_at) (defBody s_Tariff_band_at) (defScope s_Tariff_band_at) .none kV_Tariff_band_at dc_Tariff_band_at pm_Tariff_band_at an_Tariff_band_at cd_Tariff_band_at ct_Tariff_band_at, a_stretches := f_stretches, d_stretches := PySem.W.fnOf "stretches" "stretches" (defArgs s_stretches) (defBody s_stretches) (defScope s_stretches) .none kV_stretches dc_stretches pm_stretches an_stretches cd_stretches ct_stretches, a_price_lines := f_price_lines, d_price_lines := PySem.W.fnOf "price_lines" "price_lines" (defArgs s_price_lines) (defBody s_price_lines) (defScope s_price_lines) .none kV_price_lines dc_price_lines pm_price_lines an_price_lines cd_price_lines ct_price_lines, a_ChargeRun_lines_of := f_ChargeRun_lines_of, d_ChargeRun_lines_of := PySem.W.fnOf "lines_of" "ChargeRun.lines_of" (defArgs s_ChargeRun_lines_of) (defBody s_ChargeRun_lines_of) (defScope s_ChargeRun_lines_of) .none kV_ChargeRun_lines_of dc_ChargeRun_lines_of pm_ChargeRun_lines_of an_ChargeRun_lines_of cd_ChargeRun_lines_of ct_ChargeRun_lines_of, a_ChargeRun_free_left := f_ChargeRun_free_left, d_ChargeRun_free_left := PySem.W.fnOf "free_left" "ChargeRun.free_left" (defArgs s_ChargeRun_free_left) (defBody s_ChargeRun_free_left) (defScope s_ChargeRun_free_left) .none kV_ChargeRun_free_left dc_ChargeRun_free_left pm_ChargeRun_free_left an_ChargeRun_free_left cd_ChargeRun_free_left ct_ChargeRun_free_left, a_Charge_init := f_Charge_init, d_Charge_init := PySem.W.fnOf "__init__" "Charge.__init__" (defArgs s_Charge_init) (defBody s_Charge_init) (defScope s_Charge_init) .none kV_Charge_init dc_Charge_init pm_Charge_init an_Charge_init cd_Charge_init ct_Charge_init, a_ChargeRun_take := f_ChargeRun_take, d_ChargeRun_take := PySem.W.fnOf "take" "ChargeRun.take" (defArgs s_ChargeRun_take) (defBody s_ChargeRun_take) (defScope s_ChargeRun_take) .none kV_ChargeRun_take dc_ChargeRun_take pm_ChargeRun_take an_ChargeRun_take cd_ChargeRun_take ct_ChargeRun_take, a_charge_sections := f_charge_sections, d_charge_sections := PySem.W.fnOf "charge_sections" "charge_sections" (defArgs s_charge_sections) (defBody s_charge_sections) (defScope s_charge_sections) .none kV_charge_sections dc_charge_sections pm_charge_sections an_charge_sections cd_charge_sections ct_charge_sections, a_Ledger_standing_keys := f_Ledger_standing_keys, d_Ledger_standing_keys := PySem.W.fnOf "standing_keys" "Ledger.standing_keys" (defArgs s_Ledger_standing_keys) (defBody s_Ledger_standing_keys) (defScope s_Ledger_standing_keys) .none kV_Ledger_standing_keys dc_Ledger_standing_keys pm_Ledger_standing_keys an_Ledger_standing_keys cd_Ledger_standing_keys ct_Ledger_standing_keys, a_Posting_init := f_Posting_init, d_Posting_init := PySem.W.fnOf "__init__" "Posting.__init__" (defArgs s_Posting_init) (defBody s_Posting_init) (defScope s_Posting_init) .none kV_Posting_init dc_Posting_init pm_Posting_init an_Posting_init cd_Posting_init ct_Posting_init, a_Ledger_post := f_Ledger_post, d_Ledger_post := PySem.W.fnOf "post" "Ledger.post" (defArgs s_Ledger_post) (defBody s_Ledger_post) (defScope s_Ledger_post) .none kV_Ledger_post dc_Ledger_post pm_Ledger_post an_Ledger_post cd_Ledger_post ct_Ledger_post, a_Ledger_standing := f_Ledger_standing, d_Ledger_standing := PySem.W.fnOf "standing" "Ledger.standing" (defArgs s_Ledger_standing) (defBody s_Ledger_standing) (defScope s_Ledger_standing) .none kV_Ledger_standing dc_Ledger_standing pm_Ledger_standing an_Ledger_standing cd_Ledger_standing ct_Ledger_standing, a_law_book := f_law_book, d_law_book := PySem.W.fnOf "_law_book" "_law_book" (defArgs s_law_book) (defBody s_law_book) (defScope s_law_book) .none kV_law_book dc_law_book pm_law_book an_law_book cd_law_book ct_law_book, a_account_sums := f_account_sums, d_account_sums := PySem.W.fnOf "account_sums" "account_sums" (defArgs s_account_sums) (defBody s_account_sums) (defScope s_account_sums) .none kV_account_sums dc_account_sums pm_account_sums an_account_sums cd_account_sums ct_account_sums, a_charge_table := f_charge_table, d_charge_table := PySem.W.fnOf "charge_table" "charge_table" (defArgs s_charge_table) (defBody s_charge_table) (defScope s_charge_table) .none kV_charge_table dc_charge_table pm_charge_table an_charge_table cd_charge_table ct_charge_table, a_differences := f_differences, d_differences := PySem.W.fnOf "differences" "differences" (defArgs s_differences) (defBody s_differences) (defScope s_differences) .none kV_differences dc_differences pm_differences an_differences cd_differences ct_differences, a_changes_of_accounts := f_changes_of_accounts, d_changes_of_accounts := PySem.W.fnOf "changes_of_accounts" "changes_of_accounts" (defArgs s_changes_of_accounts) (defBody s_changes_of_accounts) (defScope s_changes_of_accounts) .none kV_changes_of_accounts dc_changes_of_accounts pm_changes_of_accounts an_changes_of_accounts cd_changes_of_accounts ct_changes_of_accounts, a_Contracts_init := f_Contracts_init, d_Contracts_init := PySem.W.fnOf "__init__" "Contracts.__init__" (defArgs s_Contracts_init) (defBody s_Contracts_init) (defScope s_Contracts_init) .none kV_Contracts_init dc_Contracts_init pm_Contracts_init an_Contracts_init cd_Contracts_init ct_Contracts_init, a_Contracts_set_history := f_Contracts_set_history, d_Contracts_set_history := PySem.W.fnOf "set_history" "Contracts.set_history" (defArgs s_Contracts_set_history) (defBody s_Contracts_set_history) (defScope s_Contracts_set_history) .none kV_Contracts_set_history dc_Contracts_set_history pm_Contracts_set_history an_Contracts_set_history cd_Contracts_set_history ct_Contracts_set_history, a_law_contracts := f_law_contracts, d_law_contracts := PySem.W.fnOf "_law_contracts" "_law_contracts" (defArgs s_law_contracts) (defBody s_law_contracts) (defScope s_law_contracts) .none kV_law_contracts dc_law_contracts pm_law_contracts an_law_contracts cd_law_contracts ct_law_contracts, a_Ledger_postings := f_Ledger_postings, d_Ledger_postings := PySem.W.fnOf "postings" "Ledger.postings" (defArgs s_Ledger_postings) (defBody s_Ledger_postings) (defScope s_Ledger_postings) .none kV_Ledger_postings dc_Ledger_postings pm_Ledger_postings an_Ledger_postings cd_Ledger_postings ct_Ledger_postings, a_Ledger_balance := f_Ledger_balance, d_Ledger_balance := PySem.W.fnOf "balance" "Ledger.balance" (defArgs s_Ledger_balance) (defBody s_Ledger_balance) (defScope s_Ledger_balance) .none kV_Ledger_balance dc_Ledger_balance pm_Ledger_balance an_Ledger_balance cd_Ledger_balance ct_Ledger_balance, a_sections_changed := f_sections_changed, d_sections_changed := PySem.W.fnOf "sections_changed" "sections_changed" (defArgs s_sections_changed) (defBody s_sections_changed) (defScope s_sections_changed) .none kV_sections_changed dc_sections_changed pm_sections_changed an_sections_changed cd_sections_changed ct_sections_changed, a_label_sums := f_label_sums, d_label_sums := PySem.W.fnOf "label_sums" "label_sums" (defArgs s_label_sums) (defBody s_label_sums) (defScope s_label_sums) .none kV_label_sums dc_label_sums pm_label_sums an_label_sums cd_label_sums ct_label_sums, a_law_labels := f_law_labels, d_law_labels := PySem.W.fnOf "_law_labels" "_law_labels" (defArgs s_law_labels) (defBody s_law_labels) (defScope s_law_labels) .none kV_law_labels dc_law_labels pm_law_labels an_law_labels cd_law_labels ct_law_labels, a_law := fa, d_law := PySem.W.fnOf "law" "law" (defArgs s_law) (defBody s_law) (defScope s_law) .none kV_law dc_law pm_law an_law cd_law ct_law, C_Band := C_Band, C_Tariff := C_Tariff, C_Charge := C_Charge, C_ChargeRun := C_ChargeRun, C_Contracts := C_Contracts, C_Posting := C_Posting, C_Ledger := C_Ledger, C_Section := C_Section, pw := ⟨l.prog, w⟩ }
  have T : Txt K mg A l.prog w := { F_law_state := F_law_state, b_law_state := b_law_state, g_law_state := PySem.W.mg_of X G a_law_state, F_law_cell := F_law_cell, b_law_cell := b_law_cell, g_law_cell := PySem.W.mg_of X G a_law_cell, F_law_digit := F_law_digit, b_law_digit := b_law_digit, g_law_digit := PySem.W.mg_of X G a_law_digit, F_Section_init := F_Section_init, b_Section_init := b_Section_init, m_Section_init := ⟨mk_Section, a_Section_init, i_Section_init, kc_Section⟩, F_law_sections := F_law_sections, b_law_sections := b_law_sections, g_law_sections := PySem.W.mg_of X G a_law_sections, F_Ledger_init := F_Ledger_init, b_Ledger_init := b_Ledger_init, m_Ledger_init := ⟨mk_Ledger, a_Ledger_init, i_Ledger_init, kc_Ledger⟩, F_Tariff_init := F_Tariff_init, b_Tariff_init := b_Tariff_init, m_Tariff_init := ⟨mk_Tariff, a_Tariff_init, i_Tariff_init, kc_Tariff⟩, F_Band_init := F_Band_init, b_Band_init := b_Band_init, m_Band_init := ⟨mk_Band, a_Band_init, i_Band_init, kc_Band⟩, F_law_tariffs := F_law_tariffs, b_law_tariffs := b_law_tariffs, g_law_tariffs := PySem.W.mg_of X G a_law_tariffs, F_ChargeRun_init := F_ChargeRun_init, b_ChargeRun_init := b_ChargeRun_init, m_ChargeRun_init := ⟨mk_ChargeRun, a_ChargeRun_init, i_ChargeRun_init, kc_ChargeRun⟩, F_section_place := F_section_place, b_section_place := b_section_place, g_section_place := PySem.W.mg_of X G a_section_place, F_Section_is_free := F_Section_is_free, b_Section_is_free := b_Section_is_free, m_Section_is_free := ⟨a_Section_is_free, i_Section_is_free, k_Section_is_free⟩, F_Contracts_in_force := F_Contracts_in_force, b_Contracts_in_force := b_Contracts_in_force, m_Contracts_in_force := ⟨a_Contracts_in_force, i_Contracts_in_force, k_Contracts_in_force⟩, F_ChargeRun_reason_against := F_ChargeRun_reason_against, b_ChargeRun_reason_against := b_ChargeRun_reason_against, m_ChargeRun_reason_against := ⟨a_ChargeRun_reason_against, i_ChargeRun_reason_against, k_ChargeRun_reason_against⟩, F_Band_holds := F_Band_holds, b_Band_holds := b_Band_holds, m_Band_holds := ⟨a_Band_holds, i_Band_holds, k_Band_holds⟩, F_Tariff_band_at := F_Tariff_band_at, b_Tariff_band_at := b_Tariff_band_at, m_Tariff_band_at := ⟨a_Tariff_band_at, i_Tariff_band_at, k_Tariff_band_at⟩, F_stretches := F_stretches, b_stretches := b_stretches, g_stretches := PySem.W.mg_of X G a_stretches, F_price_lines := F_price_lines, b_price_lines := b_price_lines, g_price_lines := PySem.W.mg_of X G a_price_lines, F_ChargeRun_lines_of := F_ChargeRun_lines_of, b_ChargeRun_lines_of := b_ChargeRun_lines_of, m_ChargeRun_lines_of := ⟨a_ChargeRun_lines_of, i_ChargeRun_lines_of, k_ChargeRun_lines_of⟩, F_ChargeRun_free_left := F_ChargeRun_free_left, b_ChargeRun_free_left := b_ChargeRun_free_left, m_ChargeRun_free_left := ⟨a_ChargeRun_free_left, i_ChargeRun_free_left, k_ChargeRun_free_left⟩, F_Charge_init := F_Charge_init, b_Charge_init := b_Charge_init, m_Charge_init := ⟨mk_Charge, a_Charge_init, i_Charge_init, kc_Charge⟩, F_ChargeRun_take := F_ChargeRun_take, b_ChargeRun_take := b_ChargeRun_take, m_ChargeRun_take := ⟨a_ChargeRun_take, i_ChargeRun_take, k_ChargeRun_take⟩, F_charge_sections := F_charge_sections, b_charge_sections := b_charge_sections, g_charge_sections := PySem.W.mg_of X G a_charge_sections, F_Ledger_standing_keys := F_Ledger_standing_keys, b_Ledger_standing_keys := b_Ledger_standing_keys, m_Ledger_standing_keys := ⟨a_Ledger_standing_keys, i_Ledger_standing_keys, k_Ledger_standing_keys⟩, F_Posting_init := F_Posting_init, b_Posting_init := b_Posting_init, m_Posting_init := ⟨mk_Posting, a_Posting_init, i_Posting_init, kc_Posting⟩, F_Ledger_post := F_Ledger_post, b_Ledger_post := b_Ledger_post, m_Ledger_post := ⟨a_Ledger_post, i_Ledger_post, k_Ledger_post⟩, F_Ledger_standing := F_Ledger_standing, b_Ledger_standing := b_Ledger_standing, m_Ledger_standing := ⟨a_Ledger_standing, i_Ledger_standing, k_Ledger_standing⟩, F_law_book := F_law_book, b_law_book := b_law_book, g_law_book := PySem.W.mg_of X G a_law_book, F_account_sums := F_account_sums, b_account_sums := b_account_sums, g_account_sums := PySem.W.mg_of X G a_account_sums, F_charge_table := F_charge_table, b_charge_table := b_charge_table, g_charge_table := PySem.W.mg_of X G a_charge_table, F_differences := F_differences, b_differences := b_differences, g_differences := PySem.W.mg_of X G a_differences, F_changes_of_accounts := F_changes_of_accounts, b_changes_of_accounts := b_changes_of_accounts, g_changes_of_accounts := PySem.W.mg_of X G a_changes_of_accounts, F_Contracts_init := F_Contracts_init, b_Contracts_init := b_Contracts_init, m_Contracts_init := ⟨mk_Contracts, a_Contracts_init, i_Contracts_init, kc_Contracts⟩, F_Contracts_set_history := F_Contracts_set_history, b_Contracts_set_history := b_Contracts_set_history, m_Contracts_set_history := ⟨a_Contracts_set_history, i_Contracts_set_history, k_Contracts_set_history⟩, F_law_contracts := F_law_contracts, b_law_contracts := b_law_contracts, g_law_contracts := PySem.W.mg_of X G a_law_contracts, F_Ledger_postings := F_Ledger_postings, b_Ledger_postings := b_Ledger_postings, m_Ledger_postings := ⟨a_Ledger_postings, i_Ledger_postings, k_Ledger_postings⟩, F_Ledger_balance := F_Ledger_balance, b_Ledger_balance := b_Ledger_balance, m_Ledger_balance := ⟨a_Ledger_balance, i_Ledger_balance, k_Ledger_balance⟩, F_sections_changed := F_sections_changed, b_sections_changed := b_sections_changed, g_sections_changed := PySem.W.mg_of X G a_sections_changed, F_label_sums := F_label_sums, b_label_sums := b_label_sums, g_label_sums := PySem.W.mg_of X G a_label_sums, F_law_labels := F_law_labels, b_law_labels := b_law_labels, g_law_labels := PySem.W.mg_of X G a_law_labels, F_law := F_law, b_law := b_law, g_law := PySem.W.mg_of X G a_law, g_Band := PySem.W.mg_of X G aC_Band, c_Band := ⟨pg_Band, hd_Band, po_Band, sa_Band⟩, g_Tariff := PySem.W.mg_of X G aC_Tariff, c_Tariff := ⟨pg_Tariff, hd_Tariff, po_Tariff, sa_Tariff⟩, g_Charge := PySem.W.mg_of X G aC_Charge, c_Charge := ⟨pg_Charge, hd_Charge, po_Charge, sa_Charge⟩, g_ChargeRun := PySem.W.mg_of X G aC_ChargeRun, c_ChargeRun := ⟨pg_ChargeRun, hd_ChargeRun, po_ChargeRun, sa_ChargeRun⟩, g_Contracts := PySem.W.mg_of X G aC_Contracts, c_Contracts := ⟨pg_Contracts, hd_Contracts, po_Contracts, sa_Contracts⟩, g_Posting := PySem.W.mg_of X G aC_Posting, c_Posting := ⟨pg_Posting, hd_Posting, po_Posting, sa_Posting⟩, g_Ledger := PySem.W.mg_of X G aC_Ledger, c_Ledger := ⟨pg_Ledger, hd_Ledger, po_Ledger, sa_Ledger⟩, g_Section := PySem.W.mg_of X G aC_Section, c_Section := ⟨pg_Section, hd_Section, po_Section, sa_Section⟩, n_Band_from_hour := na_Band_from_hour, n_Band_label := na_Band_label, n_Band_prefix := na_Band_prefix, n_Band_price := na_Band_price, n_Band_to_hour := na_Band_to_hour, n_Charge_account := na_Charge_account, n_Charge_key := na_Charge_key, n_Charge_mills := na_Charge_mills, n_Charge_till := na_Charge_till, n_ChargeRun_allowances := na_ChargeRun_allowances, n_ChargeRun_charges := na_ChargeRun_charges, n_ChargeRun_contracts := na_ChargeRun_contracts, n_ChargeRun_left_out := na_ChargeRun_left_out, n_ChargeRun_tariffs := na_ChargeRun_tariffs, n_ChargeRun_used := na_ChargeRun_used, n_Contracts_histories := na_Contracts_histories, n_Ledger_lines := na_Ledger_lines, n_Ledger_stands := na_Ledger_stands, n_Ledger_stated := na_Ledger_stated, n_Posting_account := na_Posting_account, n_Posting_amount := na_Posting_amount, n_Posting_key := na_Posting_key, n_Posting_written := na_Posting_written, n_Section_called := na_Section_called, n_Section_opened := na_Section_opened, n_Section_owner := na_Section_owner, n_Section_payer := na_Section_payer, n_Section_seconds := na_Section_seconds, n_Section_start := na_Section_start, n_Tariff_bands := na_Tariff_bands, n_Tariff_setup_price := na_Tariff_setup_price, z_int := PySem.W.mg_none_of X G z_int, z_len := PySem.W.mg_none_of X G z_len, z_list := PySem.W.mg_none_of X G z_list, z_min := PySem.W.mg_none_of X G z_min, z_range := PySem.W.mg_none_of X G z_range, z_sorted := PySem.W.mg_none_of X G z_sorted, z_sum := PySem.W.mg_none_of X G z_sum, z_tuple := PySem.W.mg_none_of X G z_tuple, k_DAY := ⟨_, PySem.W.mg_of X G kk_DAY⟩, k_HOUR := ⟨_, PySem.W.mg_of X G kk_HOUR⟩, k_MINUTE := ⟨_, PySem.W.mg_of X G kk_MINUTE⟩, k_MONTH := ⟨_, PySem.W.mg_of X G kk_MONTH⟩, hq := rfl }
  exact ⟨A, A.d_law, fun s v => .of_eq rfl, fun base _ _ => ok_law T⟩
theorem walk {l : PySem.W.OpenLaw} {q : Program} {loose : List Str} {XP : (Str → Option Value) → Heap → Prop} {YP : World → Heap → Prop} {d : DefRec} {K : Params → PySem.W.Frag} (hn : l.most = some 63) (hdf : d.params.defaults = [])
    (hY : ∀ (w : World) (h : Heap), YP w h → (K w.params).In h)
    (F : ∀ (w : World) (mg : Str → Option Value) (fa : Addr) (h : Heap), (K w.params).In h → h.Ns mainGlobals mg → mg d.name = some (.ref fa) →
      ∃ (A : Ad) (fd : FuncData), (∀ (s : Shared) (u : Value), BindsTo s fd ⟨[u], []⟩ [("script", u)]) ∧ ∀ base : Heap, (K w.params).In base → base.Ns mainGlobals mg → FnOk l.prog w (K w.params) mg base CX0 8 fa fd ["script"] (spD (K w.params) (R_law A))) :
    PySem.W.WalkO q loose XP YP l.row.toRowW d [] (fun f vs => PySem.call f vs) :=
  L2.walk_of (n := 63) (k := 8) (x := "script") (CX := fun _ => CX0) (sp := fun w => spLawD (K w.params)) hn (by decide) hdf ⟨rfl, by decide, by decide⟩ hY (fun w mg fa h KX G hm => by
    obtain ⟨A, fd, b, G⟩ := F w mg fa h KX G hm
    exact ⟨fd, b, fun base h1 h2 => (G base h1 h2).imp (spLaw_imp (R_law A) (law_go A))⟩) (fun _ _ a ns hl _ hS => ⟨a, ns, rfl, hS, hl, fun _ => rfl⟩) fun _ _ _ _ _ z => z
end Law

open PySem PySem.W PyProof.Rows in
set_option maxRecDepth 100000 in
set_option maxHeartbeats 0 in
theorem PySem.Challenge.cw_copperhouse_k29_differences_of_charges_holds : PySem.Challenge.rw_copperhouse_k29_differences_of_charges.Holds := by
  w_on; o_law; k_head; (case hw => w_witness2)
  k_fill
  refine Law.walk (l := PySem.Challenge.rw_copperhouse_k29_differences_of_charges) rfl rfl (fun w h Y => PySem.W.kIn_of Y) ?F
  case F =>
    intro w mg fa h KX G hmg
    refine' Law.all_mk KX G hmg ?aC_Band ?pg_Band ?hd_Band ?po_Band ?sa_Band ?mk_Band ?kc_Band ?aC_Tariff ?pg_Tariff ?hd_Tariff ?po_Tariff ?sa_Tariff ?mk_Tariff ?kc_Tariff ?aC_Charge ?pg_Charge ?hd_Charge ?po_Charge ?sa_Charge ?mk_Charge ?kc_Charge ?aC_ChargeRun ?pg_ChargeRun ?hd_ChargeRun ?po_ChargeRun ?sa_ChargeRun ?mk_ChargeRun ?kc_ChargeRun ?aC_Contracts ?pg_Contracts ?hd_Contracts ?po_Contracts ?sa_Contracts ?mk_Contracts ?kc_Contracts ?aC_Posting ?pg_Posting ?hd_Posting ?po_Posting ?sa_Posting ?mk_Posting ?kc_Posting ?aC_Ledger ?pg_Ledger ?hd_Ledger ?po_Ledger ?sa_Ledger ?mk_Ledger ?kc_Ledger ?aC_Section ?pg_Section ?hd_Section ?po_Section ?sa_Section ?mk_Section ?kc_Section ?na_Band_from_hour ?na_Band_label ?na_Band_prefix ?na_Band_price ?na_Band_to_hour ?na_Charge_account ?na_Charge_key ?na_Charge_mills ?na_Charge_till ?na_ChargeRun_allowances ?na_ChargeRun_charges ?na_ChargeRun_contracts ?na_ChargeRun_left_out ?na_ChargeRun_tariffs ?na_ChargeRun_used ?na_Contracts_histories ?na_Ledger_lines ?na_Ledger_stands ?na_Ledger_stated ?na_Posting_account ?na_Posting_amount ?na_Posting_key ?na_Posting_written ?na_Section_called ?na_Section_opened ?na_Section_owner ?na_Section_payer ?na_Section_seconds ?na_Section_start ?na_Tariff_bands ?na_Tariff_setup_price ?z_int ?z_len ?z_list ?z_min ?z_range ?z_sorted ?z_sum ?z_tuple ?kk_DAY ?kk_HOUR ?kk_MINUTE ?kk_MONTH ?a_law_state ?l_law_state ?c_law_state ?k_law_state ?a_law_cell ?l_law_cell ?c_law_cell ?k_law_cell ?a_law_digit ?l_law_digit ?c_law_digit ?k_law_digit ?a_Section_init ?i_Section_init ?l_Section_init ?c_Section_init ?k_Section_init ?a_law_sections ?l_law_sections ?c_law_sections ?k_law_sections ?a_Ledger_init ?i_Ledger_init ?l_Ledger_init ?c_Ledger_init ?k_Ledger_init ?a_Tariff_init ?i_Tariff_init ?l_Tariff_init ?c_Tariff_init ?k_Tariff_init ?a_Band_init ?i_Band_init ?l_Band_init ?c_Band_init ?k_Band_init ?a_law_tariffs ?l_law_tariffs ?c_law_tariffs ?k_law_tariffs ?a_ChargeRun_init ?i_ChargeRun_init ?l_ChargeRun_init ?c_ChargeRun_init ?k_ChargeRun_init ?a_section_place ?l_section_place ?c_section_place ?k_section_place ?a_Section_is_free ?i_Section_is_free ?l_Section_is_free ?c_Section_is_free ?k_Section_is_free ?a_Contracts_in_force ?i_Contracts_in_force ?l_Contracts_in_force ?c_Contracts_in_force ?k_Contracts_in_force ?a_ChargeRun_reason_against ?i_ChargeRun_reason_against ?l_ChargeRun_reason_against ?c_ChargeRun_reason_against ?k_ChargeRun_reason_against ?a_Band_holds ?i_Band_holds ?l_Band_holds ?c_Band_holds ?k_Band_holds ?a_Tariff_band_at ?i_Tariff_band_at ?l_Tariff_band_at ?c_Tariff_band_at ?k_Tariff_band_at ?a_stretches ?l_stretches ?c_stretches ?k_stretches ?a_price_lines ?l_price_lines ?c_price_lines ?k_price_lines ?a_ChargeRun_lines_of ?i_ChargeRun_lines_of ?l_ChargeRun_lines_of ?c_ChargeRun_lines_of ?k_ChargeRun_lines_of ?a_ChargeRun_free_left ?i_ChargeRun_free_left ?l_ChargeRun_free_left ?c_ChargeRun_free_left ?k_ChargeRun_free_left ?a_Charge_init ?i_Charge_init ?l_Charge_init ?c_Charge_init ?k_Charge_init ?a_ChargeRun_take ?i_ChargeRun_take ?l_ChargeRun_take ?c_ChargeRun_take ?k_ChargeRun_take ?a_charge_sections ?l_charge_sections ?c_charge_sections ?k_charge_sections ?a_Ledger_standing_keys ?i_Ledger_standing_keys ?l_Ledger_standing_keys ?c_Ledger_standing_keys ?k_Ledger_standing_keys ?a_Posting_init ?i_Posting_init ?l_Posting_init ?c_Posting_init ?k_Posting_init ?a_Ledger_post ?i_Ledger_post ?l_Ledger_post ?c_Ledger_post ?k_Ledger_post ?a_Ledger_standing ?i_Ledger_standing ?l_Ledger_standing ?c_Ledger_standing ?k_Ledger_standing ?a_law_book ?l_law_book ?c_law_book ?k_law_book ?a_account_sums ?l_account_sums ?c_account_sums ?k_account_sums ?a_charge_table ?l_charge_table ?c_charge_table ?k_charge_table ?a_differences ?l_differences ?c_differences ?k_differences ?a_changes_of_accounts ?l_changes_of_accounts ?c_changes_of_accounts ?k_changes_of_accounts ?a_Contracts_init ?i_Contracts_init ?l_Contracts_init ?c_Contracts_init ?k_Contracts_init ?a_Contracts_set_history ?i_Contracts_set_history ?l_Contracts_set_history ?c_Contracts_set_history ?k_Contracts_set_history ?a_law_contracts ?l_law_contracts ?c_law_contracts ?k_law_contracts ?a_Ledger_postings ?i_Ledger_postings ?l_Ledger_postings ?c_Ledger_postings ?k_Ledger_postings ?a_Ledger_balance ?i_Ledger_balance ?l_Ledger_balance ?c_Ledger_balance ?k_Ledger_balance ?a_sections_changed ?l_sections_changed ?c_sections_changed ?k_sections_changed ?a_label_sums ?l_label_sums ?c_label_sums ?k_label_sums ?a_law_labels ?l_law_labels ?c_law_labels ?k_law_labels ?a_law ?l_law ?c_law ?k_law
    (case aC_Band => k_is)
    (case pg_Band => k_is)
    (case hd_Band => k_is)
    (case po_Band => k_is)
    (case sa_Band => k_is)
    (case mk_Band => k_is)
    (case kc_Band => k_is)
    (case aC_Tariff => k_is)
    (case pg_Tariff => k_is)
    (case hd_Tariff => k_is)
    (case po_Tariff => k_is)
    (case sa_Tariff => k_is)
    (case mk_Tariff => k_is)
    (case kc_Tariff => k_is)
    (case aC_Charge => k_is)
    (case pg_Charge => k_is)
    (case hd_Charge => k_is)
    (case po_Charge => k_is)
    (case sa_Charge => k_is)
    (case mk_Charge => k_is)
    (case kc_Charge => k_is)
    (case aC_ChargeRun => k_is)
    (case pg_ChargeRun => k_is)
    (case hd_ChargeRun => k_is)
    (case po_ChargeRun => k_is)
    (case sa_ChargeRun => k_is)
    (case mk_ChargeRun => k_is)
    (case kc_ChargeRun => k_is)
    (case aC_Contracts => k_is)
    (case pg_Contracts => k_is)
    (case hd_Contracts => k_is)
    (case po_Contracts => k_is)
    (case sa_Contracts => k_is)
    (case mk_Contracts => k_is)
    (case kc_Contracts => k_is)
    (case aC_Posting => k_is)
    (case pg_Posting => k_is)
    (case hd_Posting => k_is)
    (case po_Posting => k_is)
    (case sa_Posting => k_is)
    (case mk_Posting => k_is)
    (case kc_Posting => k_is)
    (case aC_Ledger => k_is)
    (case pg_Ledger => k_is)
    (case hd_Ledger => k_is)
    (case po_Ledger => k_is)
    (case sa_Ledger => k_is)
    (case mk_Ledger => k_is)
    (case kc_Ledger => k_is)
    (case aC_Section => k_is)
    (case pg_Section => k_is)
    (case hd_Section => k_is)
    (case po_Section => k_is)
    (case sa_Section => k_is)
    (case mk_Section => k_is)
    (case kc_Section => k_is)
    (case na_Band_from_hour => k_is)
    (case na_Band_label => k_is)
    (case na_Band_prefix => k_is)
    (case na_Band_price => k_is)
    (case na_Band_to_hour => k_is)
    (case na_Charge_account => k_is)
    (case na_Charge_key => k_is)
    (case na_Charge_mills => k_is)
    (case na_Charge_till => k_is)
    (case na_ChargeRun_allowances => k_is)
    (case na_ChargeRun_charges => k_is)
    (case na_ChargeRun_contracts => k_is)
    (case na_ChargeRun_left_out => k_is)
    (case na_ChargeRun_tariffs => k_is)
    (case na_ChargeRun_used => k_is)
    (case na_Contracts_histories => k_is)
    (case na_Ledger_lines => k_is)
    (case na_Ledger_stands => k_is)
    (case na_Ledger_stated => k_is)
    (case na_Posting_account => k_is)
    (case na_Posting_amount => k_is)
    (case na_Posting_key => k_is)
    (case na_Posting_written => k_is)
    (case na_Section_called => k_is)
    (case na_Section_opened => k_is)
    (case na_Section_owner => k_is)
    (case na_Section_payer => k_is)
    (case na_Section_seconds => k_is)
    (case na_Section_start => k_is)
    (case na_Tariff_bands => k_is)
    (case na_Tariff_setup_price => k_is)
    (case z_int => k_is)
    (case z_len => k_is)
    (case z_list => k_is)
    (case z_min => k_is)
    (case z_range => k_is)
    (case z_sorted => k_is)
    (case z_sum => k_is)
    (case z_tuple => k_is)
    (case kk_DAY => k_is)
    (case kk_HOUR => k_is)
    (case kk_MINUTE => k_is)
    (case kk_MONTH => k_is)
    (case a_law_state => k_is)
    (case l_law_state => k_is)
    (case c_law_state => k_is)
    (case k_law_state => k_is)
    (case a_law_cell => k_is)
    (case l_law_cell => k_is)
    (case c_law_cell => k_is)
    (case k_law_cell => k_is)
    (case a_law_digit => k_is)
    (case l_law_digit => k_is)
    (case c_law_digit => k_is)
    (case k_law_digit => k_is)
    (case a_Section_init => k_is)
    (case i_Section_init => k_is)
    (case l_Section_init => k_is)
    (case c_Section_init => k_is)
    (case k_Section_init => k_is)
    (case a_law_sections => k_is)
    (case l_law_sections => k_is)
    (case c_law_sections => k_is)
    (case k_law_sections => k_is)
    (case a_Ledger_init => k_is)
    (case i_Ledger_init => k_is)
    (case l_Ledger_init => k_is)
    (case c_Ledger_init => k_is)
    (case k_Ledger_init => k_is)
    (case a_Tariff_init => k_is)
    (case i_Tariff_init => k_is)
    (case l_Tariff_init => k_is)
    (case c_Tariff_init => k_is)
    (case k_Tariff_init => k_is)
    (case a_Band_init => k_is)
    (case i_Band_init => k_is)
    (case l_Band_init => k_is)
    (case c_Band_init => k_is)
    (case k_Band_init => k_is)
    (case a_law_tariffs => k_is)
    (case l_law_tariffs => k_is)
    (case c_law_tariffs => k_is)
    (case k_law_tariffs => k_is)
    (case a_ChargeRun_init => k_is)
    (case i_ChargeRun_init => k_is)
    (case l_ChargeRun_init => k_is)
    (case c_ChargeRun_init => k_is)
    (case k_ChargeRun_init => k_is)
    (case a_section_place => k_is)
    (case l_section_place => k_is)
    (case c_section_place => k_is)
    (case k_section_place => k_is)
    (case a_Section_is_free => k_is)
    (case i_Section_is_free => k_is)
    (case l_Section_is_free => k_is)
    (case c_Section_is_free => k_is)
    (case k_Section_is_free => k_is)
    (case a_Contracts_in_force => k_is)
    (case i_Contracts_in_force => k_is)
    (case l_Contracts_in_force => k_is)
    (case c_Contracts_in_force => k_is)
    (case k_Contracts_in_force => k_is)
    (case a_ChargeRun_reason_against => k_is)
    (case i_ChargeRun_reason_against => k_is)
    (case l_ChargeRun_reason_against => k_is)
    (case c_ChargeRun_reason_against => k_is)
    (case k_ChargeRun_reason_against => k_is)
    (case a_Band_holds => k_is)
    (case i_Band_holds => k_is)
    (case l_Band_holds => k_is)
    (case c_Band_holds => k_is)
    (case k_Band_holds => k_is)
    (case a_Tariff_band_at => k_is)
    (case i_Tariff_band_at => k_is)
    (case l_Tariff_band_at => k_is)
    (case c_Tariff_band_at => k_is)
    (case k_Tariff_band_at => k_is)
    (case a_stretches => k_is)
    (case l_stretches => k_is)
    (case c_stretches => k_is)
    (case k_stretches => k_is)
    (case a_price_lines => k_is)
    (case l_price_lines => k_is)
    (case c_price_lines => k_is)
    (case k_price_lines => k_is)
    (case a_ChargeRun_lines_of => k_is)
    (case i_ChargeRun_lines_of => k_is)
    (case l_ChargeRun_lines_of => k_is)
    (case c_ChargeRun_lines_of => k_is)
    (case k_ChargeRun_lines_of => k_is)
    (case a_ChargeRun_free_left => k_is)
    (case i_ChargeRun_free_left => k_is)
    (case l_ChargeRun_free_left => k_is)
    (case c_ChargeRun_free_left => k_is)
    (case k_ChargeRun_free_left => k_is)
    (case a_Charge_init => k_is)
    (case i_Charge_init => k_is)
    (case l_Charge_init => k_is)
    (case c_Charge_init => k_is)
    (case k_Charge_init => k_is)
    (case a_ChargeRun_take => k_is)
    (case i_ChargeRun_take => k_is)
    (case l_ChargeRun_take => k_is)
    (case c_ChargeRun_take => k_is)
    (case k_ChargeRun_take => k_is)
    (case a_charge_sections => k_is)
    (case l_charge_sections => k_is)
    (case c_charge_sections => k_is)
    (case k_charge_sections => k_is)
    (case a_Ledger_standing_keys => k_is)
    (case i_Ledger_standing_keys => k_is)
    (case l_Ledger_standing_keys => k_is)
    (case c_Ledger_standing_keys => k_is)
    (case k_Ledger_standing_keys => k_is)
    (case a_Posting_init => k_is)
    (case i_Posting_init => k_is)
    (case l_Posting_init => k_is)
    (case c_Posting_init => k_is)
    (case k_Posting_init => k_is)
    (case a_Ledger_post => k_is)
    (case i_Ledger_post => k_is)
    (case l_Ledger_post => k_is)
    (case c_Ledger_post => k_is)
    (case k_Ledger_post => k_is)
    (case a_Ledger_standing => k_is)
    (case i_Ledger_standing => k_is)
    (case l_Ledger_standing => k_is)
    (case c_Ledger_standing => k_is)
    (case k_Ledger_standing => k_is)
    (case a_law_book => k_is)
    (case l_law_book => k_is)
    (case c_law_book => k_is)
    (case k_law_book => k_is)
    (case a_account_sums => k_is)
    (case l_account_sums => k_is)
    (case c_account_sums => k_is)
    (case k_account_sums => k_is)
    (case a_charge_table => k_is)
    (case l_charge_table => k_is)
    (case c_charge_table => k_is)
    (case k_charge_table => k_is)
    (case a_differences => k_is)
    (case l_differences => k_is)
    (case c_differences => k_is)
    (case k_differences => k_is)
    (case a_changes_of_accounts => k_is)
    (case l_changes_of_accounts => k_is)
    (case c_changes_of_accounts => k_is)
    (case k_changes_of_accounts => k_is)
    (case a_Contracts_init => k_is)
    (case i_Contracts_init => k_is)
    (case l_Contracts_init => k_is)
    (case c_Contracts_init => k_is)
    (case k_Contracts_init => k_is)
    (case a_Contracts_set_history => k_is)
    (case i_Contracts_set_history => k_is)
    (case l_Contracts_set_history => k_is)
    (case c_Contracts_set_history => k_is)
    (case k_Contracts_set_history => k_is)
    (case a_law_contracts => k_is)
    (case l_law_contracts => k_is)
    (case c_law_contracts => k_is)
    (case k_law_contracts => k_is)
    (case a_Ledger_postings => k_is)
    (case i_Ledger_postings => k_is)
    (case l_Ledger_postings => k_is)
    (case c_Ledger_postings => k_is)
    (case k_Ledger_postings => k_is)
    (case a_Ledger_balance => k_is)
    (case i_Ledger_balance => k_is)
    (case l_Ledger_balance => k_is)
    (case c_Ledger_balance => k_is)
    (case k_Ledger_balance => k_is)
    (case a_sections_changed => k_is)
    (case l_sections_changed => k_is)
    (case c_sections_changed => k_is)
    (case k_sections_changed => k_is)
    (case a_label_sums => k_is)
    (case l_label_sums => k_is)
    (case c_label_sums => k_is)
    (case k_label_sums => k_is)
    (case a_law_labels => k_is)
    (case l_law_labels => k_is)
    (case c_law_labels => k_is)
    (case k_law_labels => k_is)
    (case a_law => k_is)
    (case l_law => k_is)
    (case c_law => k_is)
    (case k_law => k_is)
