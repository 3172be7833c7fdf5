import PyProof.Rows.All
import Wide.All
import OpenK.AllK
import Wide.FinOn
import HandS.ForMost
import HandS.Exc
import HandS.TryOnly
import HandS.ExcOwn
import HandS.WordsExc
import HandS.CallSlots
import HandS.Wide
import KE.KDictCopyH
import KE.KeyNested
import HandS.SortInts
import PyProof.Rows.SeqMore
import KE.SortData
import HandS.TupAny
import HandS.Flt
import HandS.More
import HandS.Conv
import HandS.TupLen
import KE.KEqDict
import HandS.DeepEq
import KE.DataMinMax
import HandS.SortKw
import KE.SortKeyHeap
import PyProof.DictMoreH
import KE.KDictDisplayH
import HandS.Strs
import KE.KDictKeyed
import KE.KDictSum
import KE.LtData
import PyProof.DictDisplay
import HandS.FStr
import HandS.RaiseMore
import HandS.Nested
import HandS.ExcInit
import HandS.ExcField
import KE.KExcSuper
import HandS.Style
import HandS.HotCalls
import HandS.ExcIs
import HandS.NoneIn
import KE.RegKSuper
import KE.OsRunLaw
import KE.RegKIsAll
import PySem.Challenge.RW_copperhouse_k08_files_of_accounts

set_option Elab.async false
set_option linter.all false
set_option maxRecDepth 100000
namespace Law
open PySem PySem.W PyProof.Rows
local macro_rules | `(tactic| k_head) => `(tactic| k_headL)
set_option maxHeartbeats 0 in
open_top hd for PySem.Challenge.rw_copperhouse_k08_files_of_accounts
end Law

set_option Elab.async false
set_option linter.all false
set_option maxRecDepth 100000
set_option maxHeartbeats 4000000
/-! A layer of plain data over the hand layer: values as trees (D), what may still change as cells, readings that speak of these alone. -/
namespace DD
open PySem L2

/-! ### data -/
inductive D where
  | non | bl (b : Bool) | int (i : Int) | str (x : Str)
  | tup (xs : List D) | lst (xs : List D) | ins (C : Addr) (fs : List (String × D)) | ptr (a : Addr) | ktup (xs : List D)
  | dK (kvs : List (L2.Key × D)) | dT (kvs : List (List L2.Key × D))
instance : Inhabited D := ⟨.non⟩
/-- the program and the world that the hash of a text leans on -/
structure Pgw where
  p : Program
  w : World
mutual
/-- a nested key as data -/
def nkD : NestedKey → D
  | .none => .non
  | .num i => .int i
  | .text x => .str x
  | .tup ks => .tup (nkDs ks)
def nkDs : List NestedKey → List D
  | [] => []
  | k :: ks => nkD k :: nkDs ks
end
inductive Cell where
  | lst (xs : List D) | ins (C : Addr) (fs : List (String × D)) | dK (kvs : List (L2.Key × D)) | dT (kvs : List (List L2.Key × D))
  | lK (kvs : List (L2.Key × D)) (od : Obj) (vs : List (L2.Key × V)) | lT (kvs : List (List L2.Key × D)) (od : Obj) (vs : List (List L2.Key × V))
  | dN (q : Pgw) (kvs : List (NestedKey × D)) | lN (q : Pgw) (kvs : List (NestedKey × D)) (od : Obj) (xs : List (NestedKey × Addr × V))
  | dO (q : Pgw) (kvs : List (NestedKey × D)) | lO (q : Pgw) (kvs : List (NestedKey × D)) (od : Obj) (xs : List (Leaf × V))
abbrev Cells := Addr → Option Cell
abbrev DEnv := List (Option D)
def cput (C : Cells) (a : Addr) (c : Cell) : Cells := fun b => if b = a then some c else C b
theorem cput_same {C : Cells} {a : Addr} {c : Cell} : cput C a c a = some c := by unfold cput; rw [if_pos rfl]
theorem cput_ne {C : Cells} {a b : Addr} {c : Cell} (h : b ≠ a) : cput C a c b = C b := by unfold cput; rw [if_neg h]
theorem cput_cput {C : Cells} {a : Addr} {c d : Cell} : cput (cput C a c) a d = cput C a d := by
  funext b; unfold cput; split <;> rfl
/-- nothing more is claimed -/
def Sub (C C' : Cells) : Prop := ∀ a c, C a = some c → C' a = some c
theorem Sub.refl (C : Cells) : Sub C C := fun _ _ h => h
theorem Sub.trans {A B C : Cells} (h : Sub A B) (g : Sub B C) : Sub A C := fun a c e => g a c (h a c e)
theorem Sub.new {C : Cells} {a : Addr} {c : Cell} (h : C a = none) : Sub C (cput C a c) := fun b d e => by
  by_cases q : b = a
  · rw [q, h] at e; cases e
  · rw [cput_ne q]; exact e
theorem Sub.put {C C' : Cells} {a : Addr} {c : Cell} (s : Sub C C') (h : C a = none) : Sub C (cput C' a c) := fun b d e => by
  by_cases q : b = a
  · rw [q, h] at e; cases e
  · rw [cput_ne q]; exact s b d e
theorem cell_ne {C : Cells} {a b : Addr} {c : Cell} (h : C a = some c) (g : C b = none) : a ≠ b := fun e => by
  rw [e, g] at h; cases h
theorem cell_ne' {C : Cells} {a b : Addr} {c : Cell} (h : C a = some c) (g : C b = none) : b ≠ a := fun e => cell_ne h g e.symm

/-! ### heaps: what is known stays -/
/-- what may be locked for a while -/
def lockable : HO → Bool
  | .dK _ => true
  | .dT _ => true
  | _ => false
def Ex (H H' : Hp) : Prop := ∀ a o, H a = some o → H' a = some o ∨ (lockable o = true ∧ ∃ od, H' a = some (.frz od o))
theorem Ex.refl (H : Hp) : Ex H H := fun _ _ h => .inl h
theorem Ex.trans {H H1 H2 : Hp} (a : Ex H H1) (b : Ex H1 H2) : Ex H H2 := fun x o h => by
  rcases a x o h with h1 | ⟨l, od, h1⟩
  · exact b x o h1
  · rcases b x _ h1 with h2 | ⟨l2, _⟩
    · exact .inr ⟨l, od, h2⟩
    · cases l2
theorem Ex.nd {H H' : Hp} (e : Ex H H') {a : Addr} {o : HO} (h : H a = some o) (n : lockable o = false) : H' a = some o := by
  rcases e a o h with h1 | ⟨l, _⟩
  · exact h1
  · rw [n] at l; cases l
theorem Ex.some {H H' : Hp} (e : Ex H H') {a : Addr} {o : HO} (h : H a = some o) : ∃ u, H' a = some u := by
  rcases e a o h with h1 | ⟨_, od, h1⟩
  · exact ⟨_, h1⟩
  · exact ⟨_, h1⟩
theorem Ex.new {H : Hp} {p : Addr} {o : HO} (h : H p = none) : Ex H (upd H p o) := fun a u e => by
  rw [upd_ne (ne_of_none e h)]
  exact .inl e
theorem Ex.mut {H H' : Hp} {p : Addr} {o : HO} (e : Ex H H') (h : H p = none) : Ex H (upd H' p o) := fun a u ha => by
  rw [upd_ne (ne_of_none ha h)]
  exact e a u ha
theorem Ex.free {H H' : Hp} {p : Addr} (e : Ex H H') (h : H' p = none) : H p = none := by
  cases h1 : H p with
  | none => rfl
  | some o =>
    obtain ⟨u, h2⟩ := e.some h1
    rw [h2] at h
    cases h
theorem ex_rd {H H' : Hp} {a : Addr} {u : HO} (e : Ex H H') (h : Rd H a u) : Rd H' a u := by
  rcases h with h | ⟨o, h⟩
  · rcases e a _ h with h1 | ⟨_, od, h1⟩
    · exact Or.inl h1
    · exact Or.inr ⟨od, h1⟩
  · exact Or.inr ⟨o, e.nd h rfl⟩
theorem ex_l {K : PySem.W.Frag} {H H' : Hp} {a : Addr} {xs : List V} (e : Ex H H') (h : SqL K H a xs) : SqL K H' a xs := by
  rcases h with h | h
  · exact Or.inl (ex_rd e h)
  · exact Or.inr h
theorem ex_t {K : PySem.W.Frag} {H H' : Hp} {a : Addr} {xs : List V} (e : Ex H H') (h : SqT K H a xs) : SqT K H' a xs := by
  rcases h with h | h
  · exact Or.inl (ex_rd e h)
  · exact Or.inr h

/-! ### what a value stands for -/
mutual
inductive Rep (K : PySem.W.Frag) (F : Hp) : V → D → Prop
  | non : Rep K F .non .non
  | bl (b : Bool) : Rep K F (.bl b) (.bl b)
  | int (i : Int) : Rep K F (.int i) (.int i)
  | str (x : Str) : Rep K F (.str x) (.str x)
  | tup {a : Addr} {xs : List V} {ds : List D} : F a = some (.tup xs) → RepL K F xs ds → Rep K F (.ref a) (.tup ds)
  | ktup {a : Addr} {xs : List V} {ds : List D} : SqT K F a xs → RepL K F xs ds → Rep K F (.ref a) (.ktup ds)
  | lst {a : Addr} {xs : List V} {ds : List D} : SqL K F a xs → RepL K F xs ds → Rep K F (.ref a) (.lst ds)
  | ins {a C dx : Addr} {gs : List (Str × V)} {fs : List (String × D)} : F a = some (.ins C dx gs) → RepF K F gs fs → Rep K F (.ref a) (.ins C fs)
  | ptr (a : Addr) : Rep K F (.ref a) (.ptr a)
  | dK {a : Addr} {od : Obj} {vs : List (L2.Key × V)} {kvs : List (L2.Key × D)} : F a = some (.frz od (.dK vs)) → RepK K F vs kvs → Rep K F (.ref a) (.dK kvs)
  | dT {a : Addr} {od : Obj} {vs : List (List L2.Key × V)} {kvs : List (List L2.Key × D)} : F a = some (.frz od (.dT vs)) → RepT K F vs kvs → Rep K F (.ref a) (.dT kvs)
inductive RepL (K : PySem.W.Frag) (F : Hp) : List V → List D → Prop
  | nil : RepL K F [] []
  | cons {v : V} {vs : List V} {d : D} {ds : List D} : Rep K F v d → RepL K F vs ds → RepL K F (v :: vs) (d :: ds)
inductive RepF (K : PySem.W.Frag) (F : Hp) : List (Str × V) → List (String × D) → Prop
  | nil : RepF K F [] []
  | cons {f : String} {v : V} {vs : List (Str × V)} {d : D} {ds : List (String × D)} : Rep K F v d → RepF K F vs ds → RepF K F ((Str.ofString f, v) :: vs) ((f, d) :: ds)
inductive RepK (K : PySem.W.Frag) (F : Hp) : List (L2.Key × V) → List (L2.Key × D) → Prop
  | nil : RepK K F [] []
  | cons {k : L2.Key} {v : V} {vs : List (L2.Key × V)} {d : D} {ds : List (L2.Key × D)} : Rep K F v d → RepK K F vs ds → RepK K F ((k, v) :: vs) ((k, d) :: ds)
inductive RepT (K : PySem.W.Frag) (F : Hp) : List (List L2.Key × V) → List (List L2.Key × D) → Prop
  | nil : RepT K F [] []
  | cons {k : List L2.Key} {v : V} {vs : List (List L2.Key × V)} {d : D} {ds : List (List L2.Key × D)} : Rep K F v d → RepT K F vs ds → RepT K F ((k, v) :: vs) ((k, d) :: ds)
end
mutual
theorem Rep.mono {K : PySem.W.Frag} {F F' : Hp} (e : Ex F F') : ∀ {v : V} {d : D}, Rep K F v d → Rep K F' v d
  | _, _, .non => .non
  | _, _, .bl b => .bl b
  | _, _, .int i => .int i
  | _, _, .str x => .str x
  | _, _, .tup h r => .tup (e.nd h rfl) (RepL.mono e r)
  | _, _, .ktup h r => .ktup (ex_t e h) (RepL.mono e r)
  | _, _, .lst h r => .lst (ex_l e h) (RepL.mono e r)
  | _, _, .ins h r => .ins (e.nd h rfl) (RepF.mono e r)
  | _, _, .ptr a => .ptr a
  | _, _, .dK h r => .dK (e.nd h rfl) (RepK.mono e r)
  | _, _, .dT h r => .dT (e.nd h rfl) (RepT.mono e r)
theorem RepL.mono {K : PySem.W.Frag} {F F' : Hp} (e : Ex F F') : ∀ {v : List V} {d : List D}, RepL K F v d → RepL K F' v d
  | _, _, .nil => .nil
  | _, _, .cons h r => .cons (Rep.mono e h) (RepL.mono e r)
theorem RepF.mono {K : PySem.W.Frag} {F F' : Hp} (e : Ex F F') : ∀ {v : List (Str × V)} {d : List (String × D)}, RepF K F v d → RepF K F' v d
  | _, _, .nil => .nil
  | _, _, .cons h r => .cons (Rep.mono e h) (RepF.mono e r)
theorem RepK.mono {K : PySem.W.Frag} {F F' : Hp} (e : Ex F F') : ∀ {v : List (L2.Key × V)} {d : List (L2.Key × D)}, RepK K F v d → RepK K F' v d
  | _, _, .nil => .nil
  | _, _, .cons h r => .cons (Rep.mono e h) (RepK.mono e r)
theorem RepT.mono {K : PySem.W.Frag} {F F' : Hp} (e : Ex F F') : ∀ {v : List (List L2.Key × V)} {d : List (List L2.Key × D)}, RepT K F v d → RepT K F' v d
  | _, _, .nil => .nil
  | _, _, .cons h r => .cons (Rep.mono e h) (RepT.mono e r)
end
section
variable {K : PySem.W.Frag} {F : Hp}
theorem RepL.length : ∀ {xs : List V} {ds : List D}, RepL K F xs ds → xs.length = ds.length
  | _, _, .nil => rfl
  | _, _, .cons _ r => congrArg (· + 1) r.length
theorem RepL.get : ∀ {xs : List V} {ds : List D} {i : Nat} {d : D}, RepL K F xs ds → ds[i]? = some d → ∃ v, xs[i]? = some v ∧ Rep K F v d
  | _, _, _, _, .nil, e => by simp at e
  | _, _, 0, _, .cons h _, e => by simp at e; subst e; exact ⟨_, rfl, h⟩
  | _, _, i + 1, _, .cons _ r, e => by
    obtain ⟨v, h1, h2⟩ := RepL.get (i := i) r (by simpa using e)
    exact ⟨v, by simpa using h1, h2⟩
theorem RepL.getV : ∀ {xs : List V} {ds : List D} {i : Nat} {v : V}, RepL K F xs ds → xs[i]? = some v → ∃ d, ds[i]? = some d ∧ Rep K F v d
  | _, _, _, _, .nil, e => by simp at e
  | _, _, 0, _, .cons h _, e => by simp at e; subst e; exact ⟨_, rfl, h⟩
  | _, _, i + 1, _, .cons _ r, e => by
    obtain ⟨d, h1, h2⟩ := RepL.getV (i := i) r (by simpa using e)
    exact ⟨d, by simpa using h1, h2⟩
theorem RepL.append : ∀ {xs ys : List V} {ds es : List D}, RepL K F xs ds → RepL K F ys es → RepL K F (xs ++ ys) (ds ++ es)
  | _, _, _, _, .nil, s => s
  | _, _, _, _, .cons h r, s => .cons h (RepL.append r s)
theorem RepL.set {v : V} {d : D} (h : Rep K F v d) : ∀ {xs : List V} {ds : List D} (i : Nat), RepL K F xs ds → RepL K F (xs.set i v) (ds.set i d)
  | _, _, _, .nil => .nil
  | _, _, 0, .cons _ r => .cons h r
  | _, _, i + 1, .cons q r => .cons q (RepL.set h i r)
theorem RepL.drop : ∀ {xs : List V} {ds : List D} (n : Nat), RepL K F xs ds → RepL K F (xs.drop n) (ds.drop n)
  | _, _, 0, r => r
  | _, _, _ + 1, .nil => .nil
  | _, _, n + 1, .cons _ r => RepL.drop n r
theorem RepL.take : ∀ {xs : List V} {ds : List D} (n : Nat), RepL K F xs ds → RepL K F (xs.take n) (ds.take n)
  | _, _, 0, _ => .nil
  | _, _, _ + 1, .nil => .nil
  | _, _, n + 1, .cons h r => .cons h (RepL.take n r)
theorem RepL.dropLast {xs : List V} {ds : List D} (h : RepL K F xs ds) : RepL K F xs.dropLast ds.dropLast := by
  rw [List.dropLast_eq_take, List.dropLast_eq_take, h.length]
  exact h.take _
theorem RepL.reverse : ∀ {xs : List V} {ds : List D}, RepL K F xs ds → RepL K F xs.reverse ds.reverse
  | _, _, .nil => .nil
  | _, _, .cons h r => by
    rw [List.reverse_cons, List.reverse_cons]
    exact r.reverse.append (.cons h .nil)
theorem RepL.ints : ∀ ns : List Int, RepL K F (ns.map V.int) (ns.map D.int)
  | [] => .nil
  | n :: r => .cons (.int n) (RepL.ints r)
theorem RepL.of_ints : ∀ {ns : List Int} {xs : List V}, RepL K F xs (ns.map D.int) → xs = ns.map V.int
  | [], _, .nil => rfl
  | n :: r, _, .cons h t => by
    cases h
    rw [RepL.of_ints t] <;> rfl
theorem RepL.of_strs : ∀ {ns : List Str} {xs : List V}, RepL K F xs (ns.map D.str) → xs = ns.map V.str
  | [], _, .nil => rfl
  | n :: r, _, .cons h t => by
    cases h
    rw [RepL.of_strs t] <;> rfl
theorem RepL.rep {v : V} {d : D} (h : Rep K F v d) : ∀ n, RepL K F (List.replicate n v) (List.replicate n d)
  | 0 => .nil
  | n + 1 => .cons h (RepL.rep h n)
end
theorem ofString_inj {a b : String} (h : Str.ofString a = Str.ofString b) : a = b := by
  rw [Str.ofString_eq_toList, Str.ofString_eq_toList] at h
  have h2 : a.toList.map Char.toNat = b.toList.map Char.toNat := by
    have := congrArg Str.cps h
    simpa using congrArg Array.toList this
  have inj : ∀ l m : List Char, l.map Char.toNat = m.map Char.toNat → l = m := by
    intro l
    induction l with
    | nil => intro m e; cases m with
      | nil => rfl
      | cons _ _ => simp at e
    | cons c r ih => intro m e; cases m with
      | nil => simp at e
      | cons d s =>
        simp only [List.map_cons, List.cons.injEq] at e
        have q : c = d := by
          have := e.1
          exact Char.ext (UInt32.toNat_inj.mp this)
        rw [q, ih s e.2]
  have h3 := inj _ _ h2
  have := congrArg String.ofList h3
  simpa using this
theorem ofString_eq_iff {a b : String} : (Str.ofString a = Str.ofString b) = (a = b) := propext ⟨ofString_inj, fun h => by rw [h]⟩
section
variable {K : PySem.W.Frag} {F : Hp}
theorem RepF.length : ∀ {xs : List (Str × V)} {ds : List (String × D)}, RepF K F xs ds → xs.length = ds.length
  | _, _, .nil => rfl
  | _, _, .cons _ r => congrArg (· + 1) r.length
theorem RepF.lookup {f : String} : ∀ {xs : List (Str × V)} {ds : List (String × D)} {d : D}, RepF K F xs ds → ds.lookup f = some d → ∃ v, xs.lookup (Str.ofString f) = some v ∧ Rep K F v d
  | _, _, _, .nil, e => by simp at e
  | _, _, d, .cons (f := g) h r, e => by
    by_cases q : f = g
    · subst q
      simp only [List.lookup, beq_self_eq_true] at e ⊢
      cases e
      exact ⟨_, rfl, h⟩
    · have b1 : (f == g) = false := beq_eq_false_iff_ne.mpr q
      have b2 : (Str.ofString f == Str.ofString g) = false := beq_eq_false_iff_ne.mpr fun e => q (ofString_inj e)
      simp only [List.lookup, b1, b2] at e ⊢
      exact RepF.lookup r e
theorem RepF.lookup_none {f : String} : ∀ {xs : List (Str × V)} {ds : List (String × D)}, RepF K F xs ds → ds.lookup f = none → xs.lookup (Str.ofString f) = none
  | _, _, .nil, _ => rfl
  | _, _, .cons (f := g) h r, e => by
    by_cases q : f = g
    · subst q
      simp only [List.lookup, beq_self_eq_true] at e
      cases e
    · have b1 : (f == g) = false := beq_eq_false_iff_ne.mpr q
      have b2 : (Str.ofString f == Str.ofString g) = false := beq_eq_false_iff_ne.mpr fun e => q (ofString_inj e)
      simp only [List.lookup, b1, b2] at e ⊢
      exact RepF.lookup_none r e
end
/-- an attribute stored -/
def dput (f : String) (v : D) : List (String × D) → List (String × D)
  | [] => [(f, v)]
  | (g, x) :: r => if g = f then (g, v) :: r else (g, x) :: dput f v r
theorem RepF.put {K : PySem.W.Frag} {F : Hp} {f : String} {v : V} {d : D} (h : Rep K F v d) : ∀ {xs : List (Str × V)} {ds : List (String × D)}, RepF K F xs ds → RepF K F (putF (Str.ofString f) v xs) (dput f d ds)
  | _, _, .nil => .cons h .nil
  | _, _, .cons (f := g) q r => by
    by_cases e : g = f
    · subst e
      simp only [putF, dput, if_true]
      exact .cons h r
    · have e2 : ¬ Str.ofString g = Str.ofString f := fun z => e (ofString_inj z)
      simp only [putF, dput, if_neg e, if_neg e2]
      exact .cons q (RepF.put h r)

/-! ### the state: frozen heap F, cells C, heap H; slots -/
/-- a dict whose keys are nested tuples: the keys, where their tuples stand, the values -/
def ndEnt (w : World) (y : NestedKey × Addr × Value) : DictEntry := ⟨y.1.hash w, .ref y.2.1, y.2.2⟩
def NdAt (w : World) (a : Addr) (xs : List (NestedKey × Addr × V)) (h : Heap) : Prop := xs.length ≤ sizeLine ∧ (a == sysModules) = false ∧ ∃ ys : List (NestedKey × Addr × Value),
  Paired (fun (x : NestedKey × Addr × V) (y : NestedKey × Addr × Value) => x.1 = y.1 ∧ x.2.1 = y.2.1 ∧ RelV x.2.2 y.2.2) xs ys ∧
  ∃ o es ep, h.get? a = some o ∧ o.ExactDict ∧ o.data = .dict es ep ∧ es.toList = ys.map (ndEnt w) ∧ (ys.map (·.1)).Nodup
def ndO (w : World) (a : Addr) (xs : List (NestedKey × Addr × V)) : HO := .ext (NdAt w a xs)
/-- a dict whose keys are numbers, texts and None -/
def LdAt (q : Pgw) (a : Addr) (xs : List (Leaf × V)) (h : Heap) : Prop := xs.length ≤ sizeLine ∧ (a == sysModules) = false ∧ ∃ vs : List (Leaf × Value), KV xs vs ∧ h.DictOf (leafKind q.p q.w) a vs
def ldO (q : Pgw) (a : Addr) (xs : List (Leaf × V)) : HO := .ext (LdAt q a xs)
abbrev NdR (K : PySem.W.Frag) (F : Hp) : List (NestedKey × Addr × V) → List (NestedKey × D) → Prop := Paired fun x p => x.1 = p.1 ∧ p.1.depth ≤ 8 ∧ Rep K F (.ref x.2.1) (nkD p.1) ∧ Rep K F x.2.2 p.2
abbrev LdR (K : PySem.W.Frag) (F : Hp) : List (Leaf × V) → List (NestedKey × D) → Prop := Paired fun x p => x.1.key = p.1 ∧ Rep K F x.2 p.2
theorem NdR.mono {K : PySem.W.Frag} {F F' : Hp} (e : Ex F F') {xs : List (NestedKey × Addr × V)} {t : List (NestedKey × D)} (r : NdR K F xs t) : NdR K F' xs t := Paired.mapP r fun _ _ z => ⟨z.1, z.2.1, z.2.2.1.mono e, z.2.2.2.mono e⟩
theorem LdR.mono {K : PySem.W.Frag} {F F' : Hp} (e : Ex F F') {xs : List (Leaf × V)} {t : List (NestedKey × D)} (r : LdR K F xs t) : LdR K F' xs t := Paired.mapP r fun _ _ z => ⟨z.1, z.2.mono e⟩
def RepC (K : PySem.W.Frag) (F H : Hp) (a : Addr) : Cell → Prop
  | .lst ds => ∃ xs, H a = some (.lst xs) ∧ RepL K F xs ds
  | .ins C fs => ∃ dx gs, H a = some (.ins C dx gs) ∧ RepF K F gs fs
  | .dK kvs => ∃ vs, H a = some (.dK vs) ∧ RepK K F vs kvs
  | .dT kvs => ∃ vs, H a = some (.dT vs) ∧ RepT K F vs kvs
  | .lK kvs od vs => H a = some (.frz od (.dK vs)) ∧ RepK K F vs kvs
  | .lT kvs od vs => H a = some (.frz od (.dT vs)) ∧ RepT K F vs kvs
  | .dN q t => ∃ xs, H a = some (ndO q.w a xs) ∧ NdR K F xs t
  | .lN q t od xs => H a = some (.frz od (ndO q.w a xs)) ∧ NdR K F xs t
  | .dO q t => ∃ xs, H a = some (ldO q a xs) ∧ LdR K F xs t
  | .lO q t od xs => H a = some (.frz od (ldO q a xs)) ∧ LdR K F xs t
structure Hs (K : PySem.W.Frag) (F : Hp) (C : Cells) (H : Hp) : Prop where
  ex : Ex F H
  cell : ∀ a c, C a = some c → F a = none ∧ RepC K F H a c
def EnvR (K : PySem.W.Frag) (F : Hp) (σ : L2.St) (ρ : DEnv) : Prop := σ.length = ρ.length ∧ ∀ (i : Nat) (d : D), ρ[i]? = some (some d) → ∃ v, σ[i]? = some (some v) ∧ Rep K F v d
section
variable {K : PySem.W.Frag} {F F' H H' : Hp} {C C' : Cells} {σ : L2.St} {ρ : DEnv} {a : Addr} {c : Cell}
theorem RepC.ex (e : Ex F F') {H : Hp} : ∀ {c : Cell}, RepC K F H a c → RepC K F' H a c
  | .lst _, ⟨xs, h, r⟩ => ⟨xs, h, r.mono e⟩
  | .ins _ _, ⟨dx, gs, h, r⟩ => ⟨dx, gs, h, r.mono e⟩
  | .dK _, ⟨vs, h, r⟩ => ⟨vs, h, r.mono e⟩
  | .dT _, ⟨vs, h, r⟩ => ⟨vs, h, r.mono e⟩
  | .lK _ _ _, ⟨h, r⟩ => ⟨h, r.mono e⟩
  | .lT _ _ _, ⟨h, r⟩ => ⟨h, r.mono e⟩
  | .dN _ _, ⟨xs, h, r⟩ => ⟨xs, h, NdR.mono e r⟩
  | .lN _ _ _ _, ⟨h, r⟩ => ⟨h, NdR.mono e r⟩
  | .dO _ _, ⟨xs, h, r⟩ => ⟨xs, h, LdR.mono e r⟩
  | .lO _ _ _ _, ⟨h, r⟩ => ⟨h, LdR.mono e r⟩
theorem RepC.at (h : H' a = H a) : ∀ {c : Cell}, RepC K F H a c → RepC K F H' a c
  | .lst _, ⟨xs, q, r⟩ => ⟨xs, h.trans q, r⟩
  | .ins _ _, ⟨dx, gs, q, r⟩ => ⟨dx, gs, h.trans q, r⟩
  | .dK _, ⟨vs, q, r⟩ => ⟨vs, h.trans q, r⟩
  | .dT _, ⟨vs, q, r⟩ => ⟨vs, h.trans q, r⟩
  | .lK _ _ _, ⟨q, r⟩ => ⟨h.trans q, r⟩
  | .lT _ _ _, ⟨q, r⟩ => ⟨h.trans q, r⟩
  | .dN _ _, ⟨xs, q, r⟩ => ⟨xs, h.trans q, r⟩
  | .lN _ _ _ _, ⟨q, r⟩ => ⟨h.trans q, r⟩
  | .dO _ _, ⟨xs, q, r⟩ => ⟨xs, h.trans q, r⟩
  | .lO _ _ _ _, ⟨q, r⟩ => ⟨h.trans q, r⟩
theorem RepC.some : ∀ {c : Cell}, RepC K F H a c → ∃ o, H a = Option.some o
  | .lst _, ⟨_, h, _⟩ => ⟨_, h⟩
  | .ins _ _, ⟨_, _, h, _⟩ => ⟨_, h⟩
  | .dK _, ⟨_, h, _⟩ => ⟨_, h⟩
  | .dT _, ⟨_, h, _⟩ => ⟨_, h⟩
  | .lK _ _ _, ⟨h, _⟩ => ⟨_, h⟩
  | .lT _ _ _, ⟨h, _⟩ => ⟨_, h⟩
  | .dN _ _, ⟨_, h, _⟩ => ⟨_, h⟩
  | .lN _ _ _ _, ⟨h, _⟩ => ⟨_, h⟩
  | .dO _ _, ⟨_, h, _⟩ => ⟨_, h⟩
  | .lO _ _ _ _, ⟨h, _⟩ => ⟨_, h⟩
theorem Hs.sub (h : Hs K F C H) (s : Sub C' C) : Hs K F C' H := ⟨h.ex, fun a c e => h.cell a c (s a c e)⟩
theorem Hs.fresh (h : Hs K F C H) {p : Addr} (hp : H p = none) : F p = none ∧ C p = none := by
  refine ⟨h.ex.free hp, ?_⟩
  cases e : C p with
  | none => rfl
  | some c =>
    obtain ⟨_, r⟩ := h.cell p c e
    obtain ⟨o, q⟩ := r.some
    rw [hp] at q; cases q
/-- a new frozen object -/
theorem Hs.lay (h : Hs K F C H) {p : Addr} {o : HO} (hp : H p = none) : Ex F (upd F p o) ∧ Hs K (upd F p o) C (upd H p o) := by
  obtain ⟨f0, c0⟩ := h.fresh hp
  refine ⟨Ex.new f0, fun a u e => ?_, fun a c e => ?_⟩
  · by_cases q : a = p
    · subst q; rw [upd_same] at e ⊢; exact .inl e
    · rw [upd_ne q] at e ⊢; exact h.ex a u e
  · have q : a ≠ p := cell_ne e c0
    obtain ⟨f1, r⟩ := h.cell a c e
    exact ⟨by rw [upd_ne q]; exact f1, (r.ex (Ex.new f0)).at (upd_ne q)⟩
/-- a new cell, or a cell that changes -/
theorem Hs.put (h : Hs K F C H) {p : Addr} {o : HO} {c : Cell} (hp : F p = none) (hc : RepC K F (upd H p o) p c) : Hs K F (cput C p c) (upd H p o) := by
  refine ⟨h.ex.mut hp, fun a d e => ?_⟩
  by_cases q : a = p
  · subst q
    rw [cput_same] at e; cases e
    exact ⟨hp, hc⟩
  · rw [cput_ne q] at e
    obtain ⟨f1, r⟩ := h.cell a d e
    exact ⟨f1, r.at (upd_ne q)⟩
/-- a cell that is not to change any more -/
theorem Hs.freeze (h : Hs K F C H) {p : Addr} {c : Cell} (e : C p = some c) (hs : Sub C' C) (hn : C' p = none) : ∃ o, H p = some o ∧ Ex F (upd F p o) ∧ Hs K (upd F p o) C' H ∧ upd F p o p = some o ∧ RepC K F H p c := by
  obtain ⟨f0, r⟩ := h.cell p c e
  obtain ⟨o, ho⟩ := r.some
  refine ⟨o, ho, Ex.new f0, ⟨fun a u q => ?_, fun a d q => ?_⟩, upd_same, r⟩
  · by_cases z : a = p
    · subst z; rw [upd_same] at q; cases q; exact .inl ho
    · rw [upd_ne z] at q; exact h.ex a u q
  · have z : a ≠ p := cell_ne q hn
    obtain ⟨f1, r1⟩ := h.cell a d (hs a d q)
    exact ⟨by rw [upd_ne z]; exact f1, r1.ex (Ex.new f0)⟩
theorem EnvR.mono (e : Ex F F') (h : EnvR K F σ ρ) : EnvR K F' σ ρ := ⟨h.1, fun i d q => by
  obtain ⟨v, h1, h2⟩ := h.2 i d q
  exact ⟨v, h1, h2.mono e⟩⟩
theorem EnvR.set {v : V} {d : D} {i : Nat} (h : EnvR K F σ ρ) (r : Rep K F v d) : EnvR K F (σ.set i (some v)) (ρ.set i (some d)) := by
  refine ⟨by rw [List.length_set, List.length_set]; exact h.1, fun j u q => ?_⟩
  by_cases e : i = j
  · subst e
    have hl : i < ρ.length := by
      rcases Nat.lt_or_ge i ρ.length with z | z
      · exact z
      · rw [List.getElem?_eq_none (by rw [List.length_set]; exact z)] at q; cases q
    rw [List.getElem?_set_self hl] at q
    cases q
    exact ⟨v, by rw [List.getElem?_set_self (by rw [h.1]; exact hl)], r⟩
  · rw [List.getElem?_set_ne e] at q
    obtain ⟨w, h1, h2⟩ := h.2 j u q
    exact ⟨w, by rw [List.getElem?_set_ne e]; exact h1, h2⟩
/-- slots may be forgotten -/
def Fgt (ρ ρ' : DEnv) : Prop := ρ.length = ρ'.length ∧ ∀ (i : Nat) (d : D), ρ'[i]? = some (some d) → ρ[i]? = some (some d)
theorem EnvR.fgt {ρ' : DEnv} (h : EnvR K F σ ρ) (f : Fgt ρ ρ') : EnvR K F σ ρ' := ⟨h.1.trans f.1, fun i d q => h.2 i d (f.2 i d q)⟩
end
end DD

set_option Elab.async false
set_option linter.all false
set_option maxRecDepth 100000
set_option maxHeartbeats 4000000
/-! Readings over data: expressions, tests, arguments. -/
namespace DD
open PySem L2 PyProof.Rows

abbrev DK := D → Cells → Prop
abbrev DX := Value → List (String × D) → DEnv → Cells → Prop
abbrev DE := DEnv → Cells → DK → DX → Prop
abbrev DA := DEnv → Cells → (List D → Cells → Prop) → DX → Prop
abbrev DT := DEnv → Cells → (Bool → Cells → Prop) → DX → Prop
structure DEnds where
  nx : DEnv → Cells → Prop
  rt : DK
  bk : DEnv → Cells → Prop
  ct : DEnv → Cells → Prop
  ex : DX
abbrev DS := DEnds → DEnv → Cells → Prop
abbrev DR2 := D → D → Cells → DK → Prop
abbrev DR1 := D → Cells → DK → Prop
abbrev DRA := List D → Cells → DK → Prop

/-- an exception's own fields -/
def XRep (K : PySem.W.Frag) (F H : Hp) (d : Option Addr) (fs : List (String × D)) : Prop := (fs = [] ∧ d = none) ∨ fs ≠ [] ∧ ∃ dd gs, d = some dd ∧ H dd = some (.xd gs) ∧ RepF K F gs fs
def ExR (K : PySem.W.Frag) (F : Hp) (W : WX) (PX : DX) : Prop :=
  ∀ cls d fs σ F' H ρ C, Ex F F' → Hs K F' C H → EnvR K F' σ ρ → XRep K F' H d fs → PX cls fs ρ C → W cls d σ H
theorem ExR.mono {K : PySem.W.Frag} {F F' : Hp} {W : WX} {PX : DX} (e : Ex F F') (h : ExR K F W PX) : ExR K F' W PX :=
  fun cls d fs σ F1 H ρ C e1 => h cls d fs σ F1 H ρ C (e.trans e1)
/-- what is wanted of a value, of arguments, of a truth -/
def Kont (K : PySem.W.Frag) (F : Hp) (P : DK) (Q : VK) : Prop := ∀ v F' H' d C', Ex F F' → Hs K F' C' H' → Rep K F' v d → P d C' → Q v H'
def KontA (K : PySem.W.Frag) (F : Hp) (P : List D → Cells → Prop) (Q : List V → Hp → Prop) : Prop := ∀ vs F' H' ds C', Ex F F' → Hs K F' C' H' → RepL K F' vs ds → P ds C' → Q vs H'
def KontT (K : PySem.W.Frag) (F : Hp) (P : Bool → Cells → Prop) (Q : Bool → Hp → Prop) : Prop := ∀ b F' H' C', Ex F F' → Hs K F' C' H' → P b C' → Q b H'
theorem Kont.mono {K : PySem.W.Frag} {F F' : Hp} {P : DK} {Q : VK} (e : Ex F F') (h : Kont K F P Q) : Kont K F' P Q := fun v F1 H1 d C1 e1 => h v F1 H1 d C1 (e.trans e1)
theorem KontA.mono {K : PySem.W.Frag} {F F' : Hp} {P : List D → Cells → Prop} {Q : List V → Hp → Prop} (e : Ex F F') (h : KontA K F P Q) : KontA K F' P Q := fun v F1 H1 d C1 e1 => h v F1 H1 d C1 (e.trans e1)
theorem KontT.mono {K : PySem.W.Frag} {F F' : Hp} {P : Bool → Cells → Prop} {Q : Bool → Hp → Prop} (e : Ex F F') (h : KontT K F P Q) : KontT K F' P Q := fun v F1 H1 C1 e1 => h v F1 H1 C1 (e.trans e1)

def tE (K : PySem.W.Frag) (W : WX) (w : DE) : TE := fun σ H Q => ∃ F C ρ P PX, Hs K F C H ∧ EnvR K F σ ρ ∧ ExR K F W PX ∧ w ρ C P PX ∧ Kont K F P Q
def tA (K : PySem.W.Frag) (W : WX) (w : DA) : TA := fun σ H Q => ∃ F C ρ P PX, Hs K F C H ∧ EnvR K F σ ρ ∧ ExR K F W PX ∧ w ρ C P PX ∧ KontA K F P Q
def tT (K : PySem.W.Frag) (W : WX) (w : DT) : TT := fun σ H Q => ∃ F C ρ P PX, Hs K F C H ∧ EnvR K F σ ρ ∧ ExR K F W PX ∧ w ρ C P PX ∧ KontT K F P Q

/-! ### weaker readings -/
section
variable {X : Cx}
theorem PE.imp {e : Expr} {t t' : TE} (h : PE X e t) (i : ∀ σ H Q, t' σ H Q → t σ H Q) : PE X e t' := ⟨fun pins s σ H Q I w => h.run pins s σ H Q I (i σ H Q w)⟩
theorem PT.imp {e : Expr} {t t' : TT} (h : PT X e t) (i : ∀ σ H Q, t' σ H Q → t σ H Q) : PT X e t' := ⟨fun pins s σ H Q I w => h.run pins s σ H Q I (i σ H Q w)⟩
theorem PW.imp {e : Expr} {t t' : TT} (h : PW X e t) (i : ∀ σ H Q, t' σ H Q → t σ H Q) : PW X e t' := ⟨fun wh pins s σ H Q I w => h.run wh pins s σ H Q I (i σ H Q w)⟩
theorem PA.imp {e : List Expr} {t t' : TA} (h : PA X e t) (i : ∀ σ H Q, t' σ H Q → t σ H Q) : PA X e t' := ⟨fun pos pins s σ H Q I w => h.run pos pins s σ H Q I (i σ H Q w)⟩
theorem PS.imp {e : Stmt} {t t' : TS} (h : PS X e t) (i : ∀ D σ H, t' D σ H → t D σ H) : PS X e t' := ⟨fun pins s σ H D I w => h.run pins s σ H D I (i D σ H w)⟩
theorem PSs.imp {e : List Stmt} {t t' : TS} (h : PSs X e t) (i : ∀ D σ H, t' D σ H → t D σ H) : PSs X e t' := ⟨fun pins s σ H D I w => h.run pins s σ H D I (i D σ H w)⟩
end

/-! ### names, constants, arguments -/
def wVar (i : Nat) (ρ : DEnv) (C : Cells) (P : DK) (_ : DX) : Prop := match (ρ[i]? : Option (Option D)) with | some (some d) => P d C | _ => False
def wC (d : D) (_ : DEnv) (C : Cells) (P : DK) (_ : DX) : Prop := P d C
def wNil (_ : DEnv) (C : Cells) (P : List D → Cells → Prop) (_ : DX) : Prop := P [] C
def wCons (a : DE) (r : DA) (ρ : DEnv) (C : Cells) (P : List D → Cells → Prop) (PX : DX) : Prop := a ρ C (fun d C1 => r ρ C1 (fun ds C2 => P (d :: ds) C2) PX) PX
section
variable {X : Cx} {W : WX} {K : PySem.W.Frag}
theorem i_var {i : Nat} {σ : L2.St} {H : Hp} {Q : VK} (h : tE K W (wVar i) σ H Q) : tVar i σ H Q := by
  obtain ⟨F, C, ρ, P, PX, hs, en, xr, w, k⟩ := h
  unfold wVar at w
  split at w
  · rename_i d q
    obtain ⟨v, h1, r⟩ := en.2 i d q
    exact ⟨v, h1, k v F H d C (Ex.refl F) hs r w⟩
  · exact w.elim
theorem d_var (i : Nat) {x : Str} {pos : Pos} (hN : X.N[i]? = some x := by rfl) (hv : Vis X.env.scope x := by first | exact Or.inl rfl | exact Or.inr (Or.inl rfl) | exact Or.inr (Or.inr rfl)) (hd : (x == ("__debug__" : Str)) = false := by decide)
    (hcd : (x == ("__classdict__" : Str)) = false := by decide) : PE X (.Name x pos) (tE X.K W (wVar i)) := PE.imp (pe_var hN hv hd hcd) fun _ _ _ => i_var
theorem i_c {v : V} {d : D} (r : ∀ F, Rep K F v d) {σ : L2.St} {H : Hp} {Q : VK} (h : tE K W (wC d) σ H Q) : tC v σ H Q := by
  obtain ⟨F, C, ρ, P, PX, hs, en, xr, w, k⟩ := h
  exact k v F H d C (Ex.refl F) hs (r F) w
theorem d_int {i j pos} : PE X (.Constant (.int i) j pos) (tE X.K W (wC (.int i))) := PE.imp pe_int fun _ _ _ => i_c fun _ => .int i
theorem d_bl {b j pos} : PE X (.Constant (.bool b) j pos) (tE X.K W (wC (.bl b))) := PE.imp pe_bl fun _ _ _ => i_c fun _ => .bl b
theorem d_non {j pos} : PE X (.Constant .none j pos) (tE X.K W (wC .non)) := PE.imp pe_non fun _ _ _ => i_c fun _ => .non
theorem d_str {x j pos} : PE X (.Constant (.str x) j pos) (tE X.K W (wC (.str x))) := PE.imp pe_str fun _ _ _ => i_c fun _ => .str x
/-- a module's name -/
theorem d_glob {x : Str} {v : V} {d : D} {u : Value} {pos : Pos} (hg : Gl X x) (hm : X.mg x = some u) (r : RelV v u) (hr : ∀ F, Rep X.K F v d) (hd : (x == ("__debug__" : Str)) = false := by decide) : PE X (.Name x pos) (tE X.K W (wC d)) :=
  PE.imp (pe_glob hg hm r hd) fun _ _ _ => i_c hr
theorem d_nil : PA X [] (tA X.K W wNil) := PA.imp pa_nil fun σ H Q ⟨F, C, ρ, P, PX, hs, en, xr, w, k⟩ => k [] F H [] C (Ex.refl F) hs .nil w
theorem i_cons {wa : DE} {wr : DA} {σ : L2.St} {H : Hp} {Q : List V → Hp → Prop} (h : tA K W (wCons wa wr) σ H Q) : tCons (tE K W wa) (tA K W wr) σ H Q := by
  obtain ⟨F, C, ρ, P, PX, hs, en, xr, w, k⟩ := h
  exact ⟨F, C, ρ, _, PX, hs, en, xr, w, fun v F1 H1 d C1 e1 h1 rd q => ⟨F1, C1, ρ, _, PX, h1, en.mono e1, xr.mono e1, q, fun vs F2 H2 ds C2 e2 h2 rl q2 => k (v :: vs) F2 H2 (d :: ds) C2 (e1.trans e2) h2 (.cons (rd.mono e2) rl) q2⟩⟩
theorem d_cons {e : Expr} {es : List Expr} {wa : DE} {wr : DA} (ha : PE X e (tE X.K W wa)) (hr : PA X es (tA X.K W wr)) (hs : starEach (e :: es) X.env = (false, eval e X.env) :: starEach es X.env := by rfl) : PA X (e :: es) (tA X.K W (wCons wa wr)) :=
  PA.imp (pa_cons ha hr hs) fun _ _ _ => i_cons
end

/-! ### operators -/
/-- an operation on two values, its reading on data -/
def SimR (K : PySem.W.Frag) (r : R2) (rd : DR2) : Prop := ∀ F C H x y dx dy P Q, Hs K F C H → Rep K F x dx → Rep K F y dy → rd dx dy C P → Kont K F P Q → r x y H Q
def Sim1 (K : PySem.W.Frag) (r : V → Hp → VK → Prop) (rd : DR1) : Prop := ∀ F C H x dx P Q, Hs K F C H → Rep K F x dx → rd dx C P → Kont K F P Q → r x H Q
def SimA (K : PySem.W.Frag) (r : List V → Hp → VK → Prop) (rd : DRA) : Prop := ∀ F C H xs ds P Q, Hs K F C H → RepL K F xs ds → rd ds C P → Kont K F P Q → r xs H Q
def wOp (r : DR2) (a b : DE) (ρ : DEnv) (C : Cells) (P : DK) (PX : DX) : Prop := a ρ C (fun x C1 => b ρ C1 (fun y C2 => r x y C2 P) PX) PX
def wUn (r : DR1) (a : DE) (ρ : DEnv) (C : Cells) (P : DK) (PX : DX) : Prop := a ρ C (fun x C1 => r x C1 P) PX
def wCB (r : DRA) (a : DA) (ρ : DEnv) (C : Cells) (P : DK) (PX : DX) : Prop := a ρ C (fun xs C1 => r xs C1 P) PX
section
variable {X : Cx} {W : WX} {K : PySem.W.Frag} {a b : Expr} {wa wb : DE} {pos : Pos}
theorem i_op {r : R2} {rd : DR2} (hr : SimR K r rd) {σ : L2.St} {H : Hp} {Q : VK} (h : tE K W (wOp rd wa wb) σ H Q) : tOp r (tE K W wa) (tE K W wb) σ H Q := by
  obtain ⟨F, C, ρ, P, PX, hs, en, xr, w, k⟩ := h
  exact ⟨F, C, ρ, _, PX, hs, en, xr, w, fun v F1 H1 d C1 e1 h1 rd1 q => ⟨F1, C1, ρ, _, PX, h1, en.mono e1, xr.mono e1, q, fun u F2 H2 du C2 e2 h2 ru q2 => hr F2 C2 H2 v u d du P Q h2 (rd1.mono e2) ru q2 (k.mono (e1.trans e2))⟩⟩
theorem i_un {r : V → Hp → VK → Prop} {rd : DR1} (hr : Sim1 K r rd) {σ : L2.St} {H : Hp} {Q : VK} (h : tE K W (wUn rd wa) σ H Q) : tUn r (tE K W wa) σ H Q := by
  obtain ⟨F, C, ρ, P, PX, hs, en, xr, w, k⟩ := h
  exact ⟨F, C, ρ, _, PX, hs, en, xr, w, fun v F1 H1 d C1 e1 h1 rd1 q => hr F1 C1 H1 v d P Q h1 rd1 q (k.mono e1)⟩
theorem i_cb {r : List V → Hp → VK → Prop} {rd : DRA} {wr : DA} (hr : SimA K r rd) {σ : L2.St} {H : Hp} {Q : VK} (h : tE K W (wCB rd wr) σ H Q) : tCB r (tA K W wr) σ H Q := by
  obtain ⟨F, C, ρ, P, PX, hs, en, xr, w, k⟩ := h
  exact ⟨F, C, ρ, _, PX, hs, en, xr, w, fun v F1 H1 d C1 e1 h1 rd1 q => hr F1 C1 H1 v d P Q h1 rd1 q (k.mono e1)⟩
/-- e1 op e2 -/
theorem d_op {op : Operator} {r : R2} {rd : DR2} (ho : OpR X (binaryOp op) r) (hr : SimR X.K r rd) (ha : PE X a (tE X.K W wa)) (hb : PE X b (tE X.K W wb)) : PE X (.BinOp a op b pos) (tE X.K W (wOp rd wa wb)) :=
  PE.imp (pe_op ho ha hb) fun _ _ _ => i_op hr
theorem d_un {op : UnaryOp} {r : V → Hp → VK → Prop} {rd : DR1} (ho : UnR X (unaryOp op) r) (hr : Sim1 X.K r rd) (ha : PE X a (tE X.K W wa)) : PE X (.UnaryOp op a pos) (tE X.K W (wUn rd wa)) :=
  PE.imp (pe_un ho ha) fun _ _ _ => i_un hr
/-- e1 < e2 and the like, as a value -/
theorem d_cmp {op : CmpOp} {r : R2} {rd : DR2} (ho : OpR X (compareOp op) r) (hr : SimR X.K r rd) (ha : PE X a (tE X.K W wa)) (hb : PE X b (tE X.K W wb)) (hm : behindInMarks op b = false := by first | exact nobehind _ (by decide) (by decide) | rfl) :
    PE X (.Compare a [op] [b] pos) (tE X.K W (wOp rd wa wb)) := PE.imp (pe_cmpR ho ha hb hm) fun _ _ _ => i_op hr
/-- a subscript -/
theorem d_ix {r : R2} {rd : DR2} (ho : IxR X r) (hr : SimR X.K r rd) (ha : PE X a (tE X.K W wa)) (hb : PE X b (tE X.K W wb)) (hs : PlainIx b := by exact fun _ _ => rfl) : PE X (.Subscript a b pos) (tE X.K W (wOp rd wa wb)) :=
  PE.imp (pe_ix ho ha hb hs) fun _ _ _ => i_op hr
/-- a built-in function by its name -/
theorem d_callB {r : List V → Hp → VK → Prop} {rd : DRA} {id : String} {x : Str} {p : Pos} {e : Expr} {es : List Expr} {wr : DA} (hc : CallR X (.builtin id) r) (hr : SimA X.K r rd) (hg : Gl X x) (hm : X.mg x = none) (hv : bootBuiltins x = some (.builtin id)) (ha : PA X (e :: es) (tA X.K W wr)) (hn : x ≠ "__name__" := by decide) (hdb : (x == ("__debug__" : Str)) = false := by decide)
    (he : starEach (e :: es) X.env = (false, eval e X.env) :: starEach es X.env := by rfl) (hpl : (backTo pos (starEach es X.env)).any (·.1) = false := by rfl) : PE X (.Call (.Name x p) (e :: es) [] pos) (tE X.K W (wCB rd wr)) :=
  PE.imp (pe_callB hc hg hm hv ha hn hdb he hpl) fun _ _ _ => i_cb hr
theorem d_callTy {r : List V → Hp → VK → Prop} {rd : DRA} {T : String} {x : Str} {p : Pos} {e : Expr} {es : List Expr} {wr : DA} (hc : CallR X (.type T) r) (hr : SimA X.K r rd) (hg : Gl X x) (hm : X.mg x = none) (hv : bootBuiltins x = some (.type T)) (ha : PA X (e :: es) (tA X.K W wr)) (hn : x ≠ "__name__" := by decide) (hdb : (x == ("__debug__" : Str)) = false := by decide)
    (he : starEach (e :: es) X.env = (false, eval e X.env) :: starEach es X.env := by rfl) (hpl : (backTo pos (starEach es X.env)).any (·.1) = false := by rfl) : PE X (.Call (.Name x p) (e :: es) [] pos) (tE X.K W (wCB rd wr)) :=
  PE.imp (pe_callTy hc hg hm hv ha hn hdb he hpl) fun _ _ _ => i_cb hr
end

/-! ### whole numbers -/
def dI (c : Int → Int → Prop) (g : Int → Int → D) (x : D) (y : D) (C : Cells) (P : DK) : Prop := match x, y with | .int i, .int j => c i j ∧ P (g i j) C | _, _ => False
def dI0 (g : Int → Int → D) (x : D) (y : D) (C : Cells) (P : DK) : Prop := match x, y with | .int i, .int j => P (g i j) C | _, _ => False
def dU (g : Int → D) (x : D) (C : Cells) (P : DK) : Prop := match x with | .int i => P (g i) C | _ => False
section
variable {K : PySem.W.Frag}
theorem simI {c : Int → Int → Prop} {g : Int → Int → V} {gd : Int → Int → D} (h : ∀ i j F, Rep K F (g i j) (gd i j)) : SimR K (rI c g) (dI c gd) := fun F C H x y dx dy P Q hs rx ry w k => by
  cases rx <;> cases ry <;> first | exact w.elim | exact ⟨_, _, rfl, rfl, w.1, k _ F H _ C (Ex.refl F) hs (h _ _ F) w.2⟩
theorem simI0 {g : Int → Int → V} {gd : Int → Int → D} (h : ∀ i j F, Rep K F (g i j) (gd i j)) : SimR K (rI0 g) (dI0 gd) := fun F C H x y dx dy P Q hs rx ry w k => by
  cases rx <;> cases ry <;> first | exact w.elim | exact ⟨_, _, rfl, rfl, k _ F H _ C (Ex.refl F) hs (h _ _ F) w⟩
theorem simU {g : Int → V} {gd : Int → D} (h : ∀ i F, Rep K F (g i) (gd i)) : Sim1 K (rU g) (dU gd) := fun F C H x dx P Q hs rx w k => by
  cases rx <;> first | exact w.elim | exact ⟨_, rfl, k _ F H _ C (Ex.refl F) hs (h _ F) w⟩
abbrev dAdd : DR2 := dI0 fun i j => .int (i + j)
abbrev dSub : DR2 := dI0 fun i j => .int (i - j)
abbrev dMul : DR2 := dI CMul fun i j => .int (i * j)
abbrev dDiv : DR2 := dI CDiv fun i j => .int (i / j)
abbrev dMod : DR2 := dI (fun _ j => 0 < j) fun i j => .int (i % j)
abbrev dLt : DR2 := dI0 fun i j => .bl (decide (i < j))
abbrev dLe : DR2 := dI0 fun i j => .bl (decide (i ≤ j))
abbrev dGt : DR2 := dI0 fun i j => .bl (decide (j < i))
abbrev dGe : DR2 := dI0 fun i j => .bl (decide (j ≤ i))
theorem s_add : SimR K (rI0 fun i j => .int (i + j)) dAdd := simI0 fun _ _ _ => .int _
theorem s_sub : SimR K (rI0 fun i j => .int (i - j)) dSub := simI0 fun _ _ _ => .int _
theorem s_mul : SimR K (rI CMul fun i j => .int (i * j)) dMul := simI fun _ _ _ => .int _
theorem s_div : SimR K (rI CDiv fun i j => .int (i / j)) dDiv := simI fun _ _ _ => .int _
theorem s_mod : SimR K (rI (fun _ j => 0 < j) fun i j => .int (i % j)) dMod := simI fun _ _ _ => .int _
theorem s_lt : SimR K (rI0 fun i j => .bl (decide (i < j))) dLt := simI0 fun _ _ _ => .bl _
theorem s_le : SimR K (rI0 fun i j => .bl (decide (i ≤ j))) dLe := simI0 fun _ _ _ => .bl _
theorem s_gt : SimR K (rI0 fun i j => .bl (decide (j < i))) dGt := simI0 fun _ _ _ => .bl _
theorem s_ge : SimR K (rI0 fun i j => .bl (decide (j ≤ i))) dGe := simI0 fun _ _ _ => .bl _
abbrev dNeg : DR1 := dU fun i => .int (-i)
theorem s_neg : Sim1 K (rU fun i => .int (-i)) dNeg := simU fun _ _ => .int _
end

/-! ### == of scalars, is None -/
def dEqv (neg : Bool) (x : D) (y : D) (C : Cells) (P : DK) : Prop := match x, y with
  | .int i, .int j => P (.bl (neg ^^ decide (i = j))) C
  | .str i, .str j => P (.bl (neg ^^ decide (i = j))) C
  | .bl i, .bl j => P (.bl (neg ^^ decide (i = j))) C
  | .non, .non => P (.bl (neg ^^ true)) C
  | .non, .int _ => P (.bl (neg ^^ false)) C
  | .int _, .non => P (.bl (neg ^^ false)) C
  | .non, .str _ => P (.bl (neg ^^ false)) C
  | .str _, .non => P (.bl (neg ^^ false)) C
  | .non, .bl _ => P (.bl (neg ^^ false)) C
  | .bl _, .non => P (.bl (neg ^^ false)) C
  | .int _, .str _ => P (.bl (neg ^^ false)) C
  | .str _, .int _ => P (.bl (neg ^^ false)) C
  | _, _ => False
abbrev dEq := dEqv false
abbrev dNe := dEqv true
def dIsN (neg : Bool) (x : D) (y : D) (C : Cells) (P : DK) : Prop := match y with
  | .non => match x with
    | .non => P (.bl (neg ^^ true)) C
    | _ => P (.bl (neg ^^ false)) C
  | _ => False
section
variable {K : PySem.W.Frag}
theorem s_eq : SimR K rEq dEq := fun F C H x y dx dy P Q hs rx ry w k => by
  cases rx <;> cases ry <;> first
    | exact w.elim
    | (refine ⟨rfl, ?_⟩
       have z := k _ F H _ C (Ex.refl F) hs (.bl _) w
       simp only [reduceCtorEq, V.int.injEq, V.str.injEq, V.bl.injEq, decide_true, decide_false, Bool.false_xor] at z ⊢
       exact z)
theorem s_ne : SimR K rNe dNe := fun F C H x y dx dy P Q hs rx ry w k => by
  cases rx <;> cases ry <;> first
    | exact w.elim
    | (refine ⟨rfl, ?_⟩
       have z := k _ F H _ C (Ex.refl F) hs (.bl _) w
       simp only [reduceCtorEq, V.int.injEq, V.str.injEq, V.bl.injEq, decide_true, decide_false, Bool.true_xor] at z ⊢
       exact z)
theorem s_isN : SimR K (fun x y H Q => y = .non ∧ Q (.bl (decide (x = .non))) H) (dIsN false) := fun F C H x y dx dy P Q hs rx ry w k => by
  cases ry <;> first
    | exact w.elim
    | (refine ⟨rfl, ?_⟩
       cases rx <;>
       (have z := k _ F H _ C (Ex.refl F) hs (.bl _) w
        simp only [reduceCtorEq, decide_true, decide_false, Bool.false_xor] at z ⊢
        exact z))
theorem s_notN : SimR K (fun x y H Q => y = .non ∧ Q (.bl (!decide (x = .non))) H) (dIsN true) := fun F C H x y dx dy P Q hs rx ry w k => by
  cases ry <;> first
    | exact w.elim
    | (refine ⟨rfl, ?_⟩
       cases rx <;>
       (have z := k _ F H _ C (Ex.refl F) hs (.bl _) w
        simp only [reduceCtorEq, decide_true, decide_false, Bool.true_xor] at z ⊢
        exact z))
end

/-! ### tests -/
def wTest (e : DE) (ρ : DEnv) (C : Cells) (P : Bool → Cells → Prop) (PX : DX) : Prop := e ρ C (fun x C1 => match x with | .bl k => P k C1 | _ => False) PX
def wAnd (t u : DT) (ρ : DEnv) (C : Cells) (P : Bool → Cells → Prop) (PX : DX) : Prop := t ρ C (fun b C1 => if b = true then u ρ C1 P PX else P false C1) PX
def wOr (t u : DT) (ρ : DEnv) (C : Cells) (P : Bool → Cells → Prop) (PX : DX) : Prop := t ρ C (fun b C1 => if b = true then P true C1 else u ρ C1 P PX) PX
def wNot (t : DT) (ρ : DEnv) (C : Cells) (P : Bool → Cells → Prop) (PX : DX) : Prop := t ρ C (fun b C1 => P (!b) C1) PX
def wIf (t : DT) (a b : DE) (ρ : DEnv) (C : Cells) (P : DK) (PX : DX) : Prop := t ρ C (fun k C1 => if k = true then a ρ C1 P PX else b ρ C1 P PX) PX
section
variable {X : Cx} {W : WX} {K : PySem.W.Frag} {a b : Expr} {wa wb : DE} {pos : Pos} {t u : DT} {rest : List Expr}
theorem i_test {σ : L2.St} {H : Hp} {Q : Bool → Hp → Prop} (h : tT K W (wTest wa) σ H Q) : tE K W wa σ H fun x H' => ∃ k, x = .bl k ∧ Q k H' := by
  obtain ⟨F, C, ρ, P, PX, hs, en, xr, w, k⟩ := h
  refine ⟨F, C, ρ, _, PX, hs, en, xr, w, fun v F1 H1 d C1 e1 h1 r q => ?_⟩
  cases r <;> first | exact q.elim | exact ⟨_, rfl, k _ F1 H1 C1 e1 h1 q⟩
/-- a comparison as a test -/
theorem d_tcmp {op : CmpOp} {r : R2} {rd : DR2} (ho : OpR X (compareOp op) r) (hr : SimR X.K r rd) (ha : PE X a (tE X.K W wa)) (hb : PE X b (tE X.K W wb)) (hm : behindInMarks op b = false := by first | exact nobehind _ (by decide) (by decide) | rfl) :
    PT X (.Compare a [op] [b] pos) (tT X.K W (wTest (wOp rd wa wb))) := PT.imp (pt_cmpR ho ha hb hm) fun σ H Q h => by
  have z := i_test h
  obtain ⟨F, C, ρ, P, PX, hs, en, xr, w, k⟩ := z
  exact i_op hr ⟨F, C, ρ, P, PX, hs, en, xr, w, k⟩
/-- an expression that gives True or False, as a test -/
theorem d_tval {e : Expr} (h : PE X e (tE X.K W wa)) (he : ∀ whole, isTrue e X.env whole = (do let v ← whole; standAt e.pos; holding [v] (truthy v)) := by intro _; rfl) : PT X e (tT X.K W (wTest wa)) :=
  PT.imp (pt_val h he) fun _ _ _ => i_test
theorem i_and {σ : L2.St} {H : Hp} {Q : Bool → Hp → Prop} (h : tT K W (wAnd t u) σ H Q) : tAnd (tT K W t) (tT K W u) σ H Q := by
  obtain ⟨F, C, ρ, P, PX, hs, en, xr, w, k⟩ := h
  refine ⟨F, C, ρ, _, PX, hs, en, xr, w, fun b F1 H1 C1 e1 h1 q => ?_⟩
  cases b with
  | true =>
    rw [if_pos rfl] at q
    rw [if_pos rfl]
    exact ⟨F1, C1, ρ, P, PX, h1, en.mono e1, xr.mono e1, q, k.mono e1⟩
  | false =>
    rw [if_neg Bool.false_ne_true] at q
    rw [if_neg Bool.false_ne_true]
    exact k _ F1 H1 C1 e1 h1 q
theorem i_or {σ : L2.St} {H : Hp} {Q : Bool → Hp → Prop} (h : tT K W (wOr t u) σ H Q) : tOr (tT K W t) (tT K W u) σ H Q := by
  obtain ⟨F, C, ρ, P, PX, hs, en, xr, w, k⟩ := h
  refine ⟨F, C, ρ, _, PX, hs, en, xr, w, fun b F1 H1 C1 e1 h1 q => ?_⟩
  cases b with
  | false =>
    rw [if_neg Bool.false_ne_true] at q
    rw [if_neg Bool.false_ne_true]
    exact ⟨F1, C1, ρ, P, PX, h1, en.mono e1, xr.mono e1, q, k.mono e1⟩
  | true =>
    rw [if_pos rfl] at q
    rw [if_pos rfl]
    exact k _ F1 H1 C1 e1 h1 q
theorem d_and1 (ha : PT X a (tT X.K W t)) : PW X (.BoolOp .And [a] pos) (tT X.K W t) := pw_and1 ha
theorem d_or1 (ha : PT X a (tT X.K W t)) : PW X (.BoolOp .Or [a] pos) (tT X.K W t) := pw_or1 ha
theorem d_and (ha : PT X a (tT X.K W t)) (hb : PW X (.BoolOp .And (b :: rest) pos) (tT X.K W u)) : PW X (.BoolOp .And (a :: b :: rest) pos) (tT X.K W (wAnd t u)) := PW.imp (pw_and ha hb) fun _ _ _ => i_and
theorem d_or (ha : PT X a (tT X.K W t)) (hb : PW X (.BoolOp .Or (b :: rest) pos) (tT X.K W u)) : PW X (.BoolOp .Or (a :: b :: rest) pos) (tT X.K W (wOr t u)) := PW.imp (pw_or ha hb) fun _ _ _ => i_or
theorem d_not (ha : PT X a (tT X.K W t)) : PT X (.UnaryOp .Not a pos) (tT X.K W (wNot t)) := PT.imp (pt_not ha) fun σ H Q ⟨F, C, ρ, P, PX, hs, en, xr, w, k⟩ =>
  ⟨F, C, ρ, _, PX, hs, en, xr, w, fun b F1 H1 C1 e1 h1 q => k _ F1 H1 C1 e1 h1 q⟩
theorem d_ifE {c : Expr} (hc : PT X c (tT X.K W t)) (ha : PE X a (tE X.K W wa)) (hb : PE X b (tE X.K W wb)) : PE X (.IfExp c a b pos) (tE X.K W (wIf t wa wb)) := PE.imp (pe_ifExp hc ha hb) fun σ H Q ⟨F, C, ρ, P, PX, hs, en, xr, w, k⟩ =>
  ⟨F, C, ρ, _, PX, hs, en, xr, w, fun b F1 H1 C1 e1 h1 q => by
    cases b with
    | true =>
      rw [if_pos rfl] at q
      rw [if_pos rfl]
      exact ⟨F1, C1, ρ, P, PX, h1, en.mono e1, xr.mono e1, q, k.mono e1⟩
    | false =>
      rw [if_neg Bool.false_ne_true] at q
      rw [if_neg Bool.false_ne_true]
      exact ⟨F1, C1, ρ, P, PX, h1, en.mono e1, xr.mono e1, q, k.mono e1⟩⟩
/-- and, or, not as values of True and False -/
def wAndV (a b : DE) (ρ : DEnv) (C : Cells) (P : DK) (PX : DX) : Prop := a ρ C (fun x C1 => match x with | .bl k => if k = true then b ρ C1 P PX else P (.bl false) C1 | _ => False) PX
def wOrV (a b : DE) (ρ : DEnv) (C : Cells) (P : DK) (PX : DX) : Prop := a ρ C (fun x C1 => match x with | .bl k => if k = true then P (.bl true) C1 else b ρ C1 P PX | _ => False) PX
def wNotV (a : DE) (ρ : DEnv) (C : Cells) (P : DK) (PX : DX) : Prop := a ρ C (fun x C1 => match x with | .bl k => P (.bl (!k)) C1 | _ => False) PX
theorem d_one {op} (h : PE X a (tE X.K W wa)) : PE X (.BoolOp op [a] pos) (tE X.K W wa) := pe_one h
theorem d_andV (ha : PE X a (tE X.K W wa)) (hb : PE X (.BoolOp .And (b :: rest) pos) (tE X.K W wb)) : PE X (.BoolOp .And (a :: b :: rest) pos) (tE X.K W (wAndV wa wb)) := PE.imp (pe_and ha hb) fun σ H Q ⟨F, C, ρ, P, PX, hs, en, xr, w, k⟩ =>
  ⟨F, C, ρ, _, PX, hs, en, xr, w, fun v F1 H1 d C1 e1 h1 r q => by
    cases r <;> first | exact q.elim | skip
    rename_i b
    refine ⟨b, rfl, ?_⟩
    cases b with
    | true => exact ⟨F1, C1, ρ, P, PX, h1, en.mono e1, xr.mono e1, q, k.mono e1⟩
    | false => exact k _ F1 H1 _ C1 e1 h1 (.bl _) q⟩
theorem d_orV (ha : PE X a (tE X.K W wa)) (hb : PE X (.BoolOp .Or (b :: rest) pos) (tE X.K W wb)) : PE X (.BoolOp .Or (a :: b :: rest) pos) (tE X.K W (wOrV wa wb)) := PE.imp (pe_or ha hb) fun σ H Q ⟨F, C, ρ, P, PX, hs, en, xr, w, k⟩ =>
  ⟨F, C, ρ, _, PX, hs, en, xr, w, fun v F1 H1 d C1 e1 h1 r q => by
    cases r <;> first | exact q.elim | skip
    rename_i b
    refine ⟨b, rfl, ?_⟩
    cases b with
    | false => exact ⟨F1, C1, ρ, P, PX, h1, en.mono e1, xr.mono e1, q, k.mono e1⟩
    | true => exact k _ F1 H1 _ C1 e1 h1 (.bl _) q⟩
theorem d_notV (ha : PE X a (tE X.K W wa)) : PE X (.UnaryOp .Not a pos) (tE X.K W (wNotV wa)) := PE.imp (pe_not ha) fun σ H Q ⟨F, C, ρ, P, PX, hs, en, xr, w, k⟩ =>
  ⟨F, C, ρ, _, PX, hs, en, xr, w, fun v F1 H1 d C1 e1 h1 r q => by
    cases r <;> first | exact q.elim | skip
    exact ⟨_, rfl, k _ F1 H1 _ C1 e1 h1 (.bl _) q⟩⟩
end
/-- a < b < c -/
def wChain (r r' : DR2) (a b c : DE) (ρ : DEnv) (C : Cells) (P : DK) (PX : DX) : Prop := a ρ C (fun x C1 => b ρ C1 (fun y C2 => r x y C2 fun z C3 => match z with
  | .bl k => if k = true then c ρ C3 (fun u C4 => r' y u C4 P) PX else P (.bl false) C3
  | _ => False) PX) PX

/-! ### displays -/
def wTup (a : DA) (ρ : DEnv) (C : Cells) (P : DK) (PX : DX) : Prop := a ρ C (fun ds C1 => ds.length ≤ 100000 ∧ P (.tup ds) C1) PX
def wLst (a : DA) (ρ : DEnv) (C : Cells) (P : DK) (PX : DX) : Prop := a ρ C (fun ds C1 => ds.length ≤ 100000 ∧ P (.lst ds) C1) PX
/-- a list that is still to change -/
def wLstC (a : DA) (ρ : DEnv) (C : Cells) (P : DK) (PX : DX) : Prop := a ρ C (fun ds C1 => ds.length ≤ 100000 ∧ ∀ p, C1 p = none → P (.ptr p) (cput C1 p (.lst ds))) PX
theorem sz_of {n : Nat} (h : n ≤ 100000) : n ≤ sizeLine := Nat.le_trans h (by decide)
theorem sz_lt {n : Nat} (h : n < 100000) : n < sizeLine := Nat.lt_of_lt_of_le h (by decide)
section
variable {X : Cx} {W : WX} {K : PySem.W.Frag} {es : List Expr} {wr : DA} {pos : Pos}
theorem Hs.newL {F : Hp} {C : Cells} {H : Hp} {xs : List V} {ds : List D} (h : Hs K F C H) (r : RepL K F xs ds) {p : Addr} (hp : H p = none) : Ex F (upd F p (.lst xs)) ∧ Hs K (upd F p (.lst xs)) C (upd H p (.lst xs)) ∧ Rep K (upd F p (.lst xs)) (.ref p) (.lst ds) := by
  obtain ⟨e, h2⟩ := h.lay (o := .lst xs) hp
  exact ⟨e, h2, .lst (.of upd_same) (r.mono e)⟩
theorem Hs.newT {F : Hp} {C : Cells} {H : Hp} {xs : List V} {ds : List D} (h : Hs K F C H) (r : RepL K F xs ds) {p : Addr} (hp : H p = none) : Ex F (upd F p (.tup xs)) ∧ Hs K (upd F p (.tup xs)) C (upd H p (.tup xs)) ∧ Rep K (upd F p (.tup xs)) (.ref p) (.tup ds) := by
  obtain ⟨e, h2⟩ := h.lay (o := .tup xs) hp
  exact ⟨e, h2, .tup upd_same (r.mono e)⟩
theorem Hs.newC {F : Hp} {C : Cells} {H : Hp} {xs : List V} {ds : List D} (h : Hs K F C H) (r : RepL K F xs ds) {p : Addr} (hp : H p = none) : C p = none ∧ Hs K F (cput C p (.lst ds)) (upd H p (.lst xs)) :=
  ⟨(h.fresh hp).2, h.put (h.fresh hp).1 ⟨xs, upd_same, r⟩⟩
theorem d_tup {x1} (h : PA X es (tA X.K W wr)) : PE X (.Tuple es x1 pos) (tE X.K W (wTup wr)) := PE.imp (pe_tup h) fun σ H Q ⟨F, C, ρ, P, PX, hs, en, xr, w, k⟩ =>
  ⟨F, C, ρ, _, PX, hs, en, xr, w, fun vs F1 H1 ds C1 e1 h1 r q => ⟨by rw [r.length]; exact sz_of q.1, fun p hp => by
    obtain ⟨e2, h2, r2⟩ := h1.newT r hp
    exact k _ _ _ _ C1 (e1.trans e2) h2 r2 q.2⟩⟩
theorem d_lst (h : PA X es (tA X.K W wr)) : PE X (.List es pos) (tE X.K W (wLst wr)) := PE.imp (pe_lst h) fun σ H Q ⟨F, C, ρ, P, PX, hs, en, xr, w, k⟩ =>
  ⟨F, C, ρ, _, PX, hs, en, xr, w, fun vs F1 H1 ds C1 e1 h1 r q => ⟨by rw [r.length]; exact sz_of q.1, fun p hp => by
    obtain ⟨e2, h2, r2⟩ := h1.newL r hp
    exact k _ _ _ _ C1 (e1.trans e2) h2 r2 q.2⟩⟩
theorem d_lstC (h : PA X es (tA X.K W wr)) : PE X (.List es pos) (tE X.K W (wLstC wr)) := PE.imp (pe_lst h) fun σ H Q ⟨F, C, ρ, P, PX, hs, en, xr, w, k⟩ =>
  ⟨F, C, ρ, _, PX, hs, en, xr, w, fun vs F1 H1 ds C1 e1 h1 r q => ⟨by rw [r.length]; exact sz_of q.1, fun p hp => by
    obtain ⟨c0, h2⟩ := h1.newC r hp
    exact k _ _ _ _ _ e1 h2 (.ptr p) (q.2 p c0)⟩⟩
theorem d_chain {op op' : CmpOp} {r r' : R2} {rd rd' : DR2} {a b c : Expr} {wa wb wc : DE} (ho : OpR X (compareOp op) r) (hr : SimR X.K r rd) (ho' : OpR X (compareOp op') r') (hr' : SimR X.K r' rd')
    (h : PE X (.Compare a [op, op'] [b, c] pos) (tChain r r' (tE X.K W wa) (tE X.K W wb) (tE X.K W wc))) : PE X (.Compare a [op, op'] [b, c] pos) (tE X.K W (wChain rd rd' wa wb wc)) := PE.imp h fun σ H Q ⟨F, C, ρ, P, PX, hs, en, xr, w, k⟩ =>
  ⟨F, C, ρ, _, PX, hs, en, xr, w, fun v F1 H1 d C1 e1 h1 rd1 q => ⟨F1, C1, ρ, _, PX, h1, en.mono e1, xr.mono e1, q, fun u F2 H2 du C2 e2 h2 ru q2 => hr F2 C2 H2 v u d du _ _ h2 (rd1.mono e2) ru q2 fun z F3 H3 dz C3 e3 h3 rz q3 => by
    cases rz <;> first | exact q3.elim | skip
    rename_i b
    refine ⟨b, rfl, ?_⟩
    cases b with
    | true => exact ⟨F3, C3, ρ, _, PX, h3, en.mono ((e1.trans e2).trans e3), xr.mono ((e1.trans e2).trans e3), q3, fun u4 F4 H4 d4 C4 e4 h4 r4 q4 => hr' F4 C4 H4 u u4 du d4 P Q h4 (ru.mono (e3.trans e4)) r4 q4 (k.mono (((e1.trans e2).trans e3).trans e4))⟩
    | false => exact k _ F3 H3 _ C3 ((e1.trans e2).trans e3) h3 (.bl _) q3⟩⟩
end
end DD

set_option Elab.async false
set_option linter.all false
set_option maxRecDepth 100000
set_option maxHeartbeats 4000000
/-! Readings over data: statements, targets, loops. -/
namespace DD
open PySem L2 PyProof.Rows

section
variable {X : Cx} {W : WX} {K : PySem.W.Frag}
theorem i_chain {r r' : R2} {rd rd' : DR2} {wa wb wc : DE} (hr : SimR K r rd) (hr' : SimR K r' rd') {σ : L2.St} {H : Hp} {Q : VK} (h : tE K W (wChain rd rd' wa wb wc) σ H Q) : tChain r r' (tE K W wa) (tE K W wb) (tE K W wc) σ H Q := by
  obtain ⟨F, C, ρ, P, PX, hs, en, xr, w, k⟩ := h
  exact ⟨F, C, ρ, _, PX, hs, en, xr, w, fun v F1 H1 d C1 e1 h1 rd1 q => ⟨F1, C1, ρ, _, PX, h1, en.mono e1, xr.mono e1, q, fun u F2 H2 du C2 e2 h2 ru q2 => hr F2 C2 H2 v u d du _ _ h2 (rd1.mono e2) ru q2 fun z F3 H3 dz C3 e3 h3 rz q3 => by
    cases rz <;> first | exact q3.elim | skip
    rename_i b
    refine ⟨b, rfl, ?_⟩
    cases b with
    | true => exact ⟨F3, C3, ρ, _, PX, h3, en.mono ((e1.trans e2).trans e3), xr.mono ((e1.trans e2).trans e3), q3, fun u4 F4 H4 d4 C4 e4 h4 r4 q4 => hr' F4 C4 H4 u u4 du d4 P Q h4 (ru.mono (e3.trans e4)) r4 q4 (k.mono (((e1.trans e2).trans e3).trans e4))⟩
    | false => exact k _ F3 H3 _ C3 ((e1.trans e2).trans e3) h3 (.bl _) q3⟩⟩
theorem d_chainE {op op' : CmpOp} {r r' : R2} {rd rd' : DR2} {a b c : Expr} {wa wb wc : DE} {pos : Pos} (ho : OpR X (compareOp op) r) (hr : SimR X.K r rd) (ho' : OpR X (compareOp op') r') (hr' : SimR X.K r' rd') (ha : PE X a (tE X.K W wa)) (hb : PE X b (tE X.K W wb)) (hc : PE X c (tE X.K W wc))
    (hm : lastMarks [op, op'] [b, c] = false := by with_unfolding_all rfl) : PE X (.Compare a [op, op'] [b, c] pos) (tE X.K W (wChain rd rd' wa wb wc)) := PE.imp (pe_chain ho ho' ha hb hc hm) fun _ _ _ => i_chain hr hr'
theorem d_chainT {op op' : CmpOp} {r r' : R2} {rd rd' : DR2} {a b c : Expr} {wa wb wc : DE} {pos : Pos} (ho : OpR X (compareOp op) r) (hr : SimR X.K r rd) (ho' : OpR X (compareOp op') r') (hr' : SimR X.K r' rd') (ha : PE X a (tE X.K W wa)) (hb : PE X b (tE X.K W wb)) (hc : PE X c (tE X.K W wc))
    (hm : lastMarks [op, op'] [b, c] = false := by with_unfolding_all rfl) : PT X (.Compare a [op, op'] [b, c] pos) (tT X.K W (wTest (wChain rd rd' wa wb wc))) := PT.imp (pt_chain ho ho' ha hb hc hm) fun σ H Q h => by
  obtain ⟨F, C, ρ, P, PX, hs, en, xr, w, k⟩ := i_test h
  exact i_chain hr hr' ⟨F, C, ρ, P, PX, hs, en, xr, w, k⟩
end

/-! ### statements -/
def KontS (K : PySem.W.Frag) (F : Hp) (P : DEnv → Cells → Prop) (Q : L2.St → Hp → Prop) : Prop := ∀ σ F' H ρ C, Ex F F' → Hs K F' C H → EnvR K F' σ ρ → P ρ C → Q σ H
theorem KontS.mono {K : PySem.W.Frag} {F F' : Hp} {P : DEnv → Cells → Prop} {Q : L2.St → Hp → Prop} (e : Ex F F') (h : KontS K F P Q) : KontS K F' P Q := fun σ F1 H ρ C e1 => h σ F1 H ρ C (e.trans e1)
structure EndsR (K : PySem.W.Frag) (F : Hp) (DE : DEnds) (D : Ends) : Prop where
  nx : KontS K F DE.nx D.nx
  rt : Kont K F DE.rt D.rt
  bk : KontS K F DE.bk D.bk
  ct : KontS K F DE.ct D.ct
theorem EndsR.mono {K : PySem.W.Frag} {F F' : Hp} {DE : DEnds} {D : Ends} (e : Ex F F') (h : EndsR K F DE D) : EndsR K F' DE D := ⟨h.nx.mono e, h.rt.mono e, h.bk.mono e, h.ct.mono e⟩
def tS (K : PySem.W.Frag) (W : WX) (w : DS) : TS := fun D σ H => ∃ F C ρ DE, Hs K F C H ∧ EnvR K F σ ρ ∧ ExR K F W DE.ex ∧ w DE ρ C ∧ EndsR K F DE D

def wNext (E : DEnds) (ρ : DEnv) (C : Cells) : Prop := E.nx ρ C
def wSeq (a b : DS) (E : DEnds) (ρ : DEnv) (C : Cells) : Prop := a { E with nx := fun ρ' C' => b E ρ' C' } ρ C
/-- the same, a place to stop at -/
def wSeqL (a b : DS) (E : DEnds) (ρ : DEnv) (C : Cells) : Prop := a { E with nx := fun ρ' C' => b E ρ' C' } ρ C
def wBreak (E : DEnds) (ρ : DEnv) (C : Cells) : Prop := E.bk ρ C
def wCont (E : DEnds) (ρ : DEnv) (C : Cells) : Prop := E.ct ρ C
def wDrop (e : DE) (E : DEnds) (ρ : DEnv) (C : Cells) : Prop := e ρ C (fun _ C1 => E.nx ρ C1) E.ex
def wRet (e : DE) (E : DEnds) (ρ : DEnv) (C : Cells) : Prop := e ρ C E.rt E.ex
def wRetN (E : DEnds) (_ : DEnv) (C : Cells) : Prop := E.rt .non C
def wIfS (t : DT) (a b : DS) (E : DEnds) (ρ : DEnv) (C : Cells) : Prop := t ρ C (fun k C1 => if k = true then a E ρ C1 else b E ρ C1) E.ex
/-- a list that was built, handed back: it does not change any more -/
def wRetF (e : DE) (E : DEnds) (ρ : DEnv) (C : Cells) : Prop := e ρ C (fun d C1 => match d with
  | .ptr p => match C1 p with
    | some (.lst ds) => ∃ C2, Sub C2 C1 ∧ C2 p = none ∧ E.rt (.lst ds) C2
    | some (.dK kvs) => ∃ C2, Sub C2 C1 ∧ C2 p = none ∧ E.rt (.dK kvs) C2
    | some (.dT kvs) => ∃ C2, Sub C2 C1 ∧ C2 p = none ∧ E.rt (.dT kvs) C2
    | some (.ins Cl fs) => ∃ C2, Sub C2 C1 ∧ C2 p = none ∧ E.rt (.ins Cl fs) C2
    | _ => False
  | d => E.rt d C1) E.ex
/-- a cell that does not change any more: what the name at i holds is data from here on -/
def wFrz (i : Nat) (E : DEnds) (ρ : DEnv) (C : Cells) : Prop := match (ρ[i]? : Option (Option D)) with
  | some (some (.ptr p)) => match C p with
    | some (.lst ds) => ∃ C2, Sub C2 C ∧ C2 p = none ∧ E.nx (ρ.set i (some (.lst ds))) C2
    | some (.dK kvs) => ∃ C2, Sub C2 C ∧ C2 p = none ∧ E.nx (ρ.set i (some (.dK kvs))) C2
    | some (.dT kvs) => ∃ C2, Sub C2 C ∧ C2 p = none ∧ E.nx (ρ.set i (some (.dT kvs))) C2
    | some (.ins Cl fs) => ∃ C2, Sub C2 C ∧ C2 p = none ∧ E.nx (ρ.set i (some (.ins Cl fs))) C2
    | _ => False
  | _ => False
/-- a cell's content as data -/
def Cell.toD : Cell → D
  | .lst ds => .lst ds
  | .ins C fs => .ins C fs
  | .dK kvs => .dK kvs
  | .dT kvs => .dT kvs
  | .lK kvs _ _ => .dK kvs
  | .lT kvs _ _ => .dT kvs
  | .dN _ _ => .non
  | .lN _ _ _ _ => .non
  | .dO _ _ => .non
  | .lO _ _ _ _ => .non
def Cell.isN : Cell → Bool
  | .dN _ _ => true
  | .lN _ _ _ _ => true
  | .dO _ _ => true
  | .lO _ _ _ _ => true
  | _ => false
section
variable {X : Cx} {W : WX} {K : PySem.W.Frag} {st : Stmt} {rest : List Stmt} {a b : DS} {e : Expr} {we : DE} {t : DT} {pos : Pos}
theorem ds_nil : PSs X [] (tS X.K W wNext) := PSs.imp pss_nil fun D σ H ⟨F, C, ρ, DE, hs, en, xr, w, er⟩ => er.nx σ F H ρ C (Ex.refl F) hs en w
theorem ds_cons (h1 : PS X st (tS X.K W a)) (h2 : PSs X rest (tS X.K W b)) : PSs X (st :: rest) (tS X.K W (wSeq a b)) := PSs.imp (pss_cons h1 h2) fun D σ H ⟨F, C, ρ, DE, hs, en, xr, w, er⟩ =>
  ⟨F, C, ρ, { DE with nx := fun ρ' C' => b DE ρ' C' }, hs, en, xr, w, ⟨fun σ1 F1 H1 ρ1 C1 e1 h1 n1 q => ⟨F1, C1, ρ1, DE, h1, n1, xr.mono e1, q, er.mono e1⟩, er.rt, er.bk, er.ct⟩⟩
theorem ds_consL (h1 : PS X st (tS X.K W a)) (h2 : PSs X rest (tS X.K W b)) : PSs X (st :: rest) (tS X.K W (wSeqL a b)) := ds_cons h1 h2
theorem ds_one (h1 : PS X st (tS X.K W a)) : PSs X [st] (tS X.K W a) := pss_one h1
theorem ds_pass : PS X (.Pass pos) (tS X.K W wNext) := PS.imp ps_pass fun D σ H ⟨F, C, ρ, DE, hs, en, xr, w, er⟩ => er.nx σ F H ρ C (Ex.refl F) hs en w
theorem ds_break : PS X (.Break pos) (tS X.K W wBreak) := PS.imp ps_break fun D σ H ⟨F, C, ρ, DE, hs, en, xr, w, er⟩ => er.bk σ F H ρ C (Ex.refl F) hs en w
theorem ds_continue : PS X (.Continue pos) (tS X.K W wCont) := PS.imp ps_continue fun D σ H ⟨F, C, ρ, DE, hs, en, xr, w, er⟩ => er.ct σ F H ρ C (Ex.refl F) hs en w
theorem ds_doc {x j pos'} : PS X (.Expr (.Constant (.str x) j pos) pos') (tS X.K W wNext) := PS.imp ps_doc fun D σ H ⟨F, C, ρ, DE, hs, en, xr, w, er⟩ => er.nx σ F H ρ C (Ex.refl F) hs en w
theorem ds_expr (he : PE X e (tE X.K W we)) (hs : swapsWith e none pos.line X.env = pure false := by rfl) : PS X (.Expr e pos) (tS X.K W (wDrop we)) := PS.imp (ps_expr he hs) fun D σ H ⟨F, C, ρ, DE, hs, en, xr, w, er⟩ =>
  ⟨F, C, ρ, _, _, hs, en, xr, w, fun v F1 H1 d C1 e1 h1 r q => er.nx σ F1 H1 ρ C1 e1 h1 (en.mono e1) q⟩
theorem ds_ret (he : PE X e (tE X.K W we)) : PS X (.Return (some e) pos) (tS X.K W (wRet we)) := PS.imp (ps_ret he) fun D σ H ⟨F, C, ρ, DE, hs, en, xr, w, er⟩ => ⟨F, C, ρ, _, _, hs, en, xr, w, er.rt⟩
theorem ds_retN : PS X (.Return none pos) (tS X.K W wRetN) := PS.imp ps_retN fun D σ H ⟨F, C, ρ, DE, hs, en, xr, w, er⟩ => er.rt _ F H _ C (Ex.refl F) hs .non w
/-- a dict that is not to change any more is locked for good -/
def Fz (Q : Hp → Prop) (H : Hp) : Prop := Q H ∨ ∃ d u, H d = some u ∧ Mut (some u) ∧ ∀ od, Q (upd H d (.frz od u))
theorem ps_fz {t : TS} (h : PS X st t) : PS X st (fun D σ H => t { D with rt := fun v H' => Fz (D.rt v) H' } σ H) := ⟨fun pins s σ H D I w => by
  refine thn (h.run pins s σ H _ I w) fun f s1 q => ?_
  cases f with
  | next => exact q
  | brk => exact q
  | cont => exact q
  | ret v =>
    obtain ⟨x, σ', H', I2, r, q⟩ := q
    rcases q with q | ⟨d, u, hd, mu, q⟩
    · exact ⟨x, σ', H', I2, r, q⟩
    · obtain ⟨od, I3⟩ := I2.lock hd mu
      exact ⟨x, σ', _, I3, r, q od⟩⟩
theorem pe_fz {t : TE} (h : PE X e t) : PE X e (fun σ H Q => t σ H fun v H' => Fz (Q v) H') := ⟨fun pins s σ H Q I w => by
  refine thn (h.run pins s σ H _ I w) fun u s1 ⟨x, H1, I1, rx, q⟩ => ?_
  rcases q with q | ⟨d, o, hd, mu, q⟩
  · exact ⟨x, H1, I1, rx, q⟩
  · obtain ⟨od, I3⟩ := I1.lock hd mu
    exact ⟨x, _, I3, rx, q od⟩⟩
theorem pss_fz {t : TS} (h : PSs X rest t) : PSs X rest (fun D σ H => Fz (t D σ) H) := ⟨fun pins s σ H D I w => by
  rcases w with w | ⟨d, u, hd, mu, w⟩
  · exact h.run pins s σ H D I w
  · obtain ⟨od, I3⟩ := I.lock hd mu
    exact h.run pins s σ _ D I3 (w od)⟩
theorem frz_go {F H : Hp} {C C2 : Cells} {p : Addr} {c : Cell} (h : Hs K F C H) (e : C p = some c) (s : Sub C2 C) (n : C2 p = none) (hc : match c with | .dK _ => False | .dT _ => False | _ => True) (hn : c.isN = false := by rfl) :
    ∃ F2, Ex F F2 ∧ Hs K F2 C2 H ∧ Rep K F2 (.ref p) c.toD := by
  obtain ⟨o, ho, ex, h2, f, r⟩ := h.freeze e s n
  refine ⟨_, ex, h2, ?_⟩
  have r := r.ex ex
  cases c with
  | lst ds => obtain ⟨xs, q, r⟩ := r; rw [ho] at q; cases q; exact .lst (.of f) r
  | ins _ ds => obtain ⟨dx, xs, q, r⟩ := r; rw [ho] at q; cases q; exact .ins f r
  | lK ds od vs => obtain ⟨q, r⟩ := r; rw [ho] at q; cases q; exact .dK f r
  | lT ds od vs => obtain ⟨q, r⟩ := r; rw [ho] at q; cases q; exact .dT f r
  | dK ds => exact hc.elim
  | dT ds => exact hc.elim
  | dN _ _ => cases hn
  | lN _ _ _ _ => cases hn
  | dO _ _ => cases hn
  | lO _ _ _ _ => cases hn
theorem frz_dic {F H : Hp} {C C2 : Cells} {p : Addr} {o : HO} (h : Hs K F C H) (f0 : F p = none) (s : Sub C2 C) (n : C2 p = none) (od : Obj) : Ex F (upd F p (.frz od o)) ∧ Hs K (upd F p (.frz od o)) C2 (upd H p (.frz od o)) := by
  refine ⟨Ex.new f0, fun a u q => ?_, fun a d q => ?_⟩
  · by_cases z : a = p
    · subst z; rw [upd_same] at q ⊢; exact .inl q
    · rw [upd_ne z] at q ⊢; exact h.ex a u q
  · have z : a ≠ p := cell_ne q n
    obtain ⟨f1, r1⟩ := h.cell a d (s a d q)
    exact ⟨by rw [upd_ne z]; exact f1, (r1.ex (Ex.new f0)).at (upd_ne z)⟩
/-- a cell handed on as data: as it is, or locked -/
theorem frz_any {F H : Hp} {C C2 : Cells} {p : Addr} {c : Cell} (h : Hs K F C H) (e : C p = some c) (s : Sub C2 C) (n : C2 p = none) {Q : Hp → Prop} (k : ∀ F2 H2, Ex F F2 → Hs K F2 C2 H2 → Rep K F2 (.ref p) c.toD → Q H2) (hn : c.isN = false := by rfl) : Fz Q H := by
  cases c with
  | dN _ _ => cases hn
  | lN _ _ _ _ => cases hn
  | dO _ _ => cases hn
  | lO _ _ _ _ => cases hn
  | dK t =>
    obtain ⟨f0, vs, h1, h2⟩ := h.cell p _ e
    refine .inr ⟨p, _, h1, trivial, fun od => ?_⟩
    obtain ⟨e2, h3⟩ := frz_dic (o := .dK vs) h f0 s n od
    exact k _ _ e2 h3 (.dK upd_same (h2.mono e2))
  | dT t =>
    obtain ⟨f0, vs, h1, h2⟩ := h.cell p _ e
    refine .inr ⟨p, _, h1, trivial, fun od => ?_⟩
    obtain ⟨e2, h3⟩ := frz_dic (o := .dT vs) h f0 s n od
    exact k _ _ e2 h3 (.dT upd_same (h2.mono e2))
  | _ =>
    obtain ⟨F2, e2, h2, r2⟩ := frz_go h e s n trivial rfl
    exact .inl (k F2 H e2 h2 r2)
theorem ds_retF (he : PE X e (tE X.K W we)) : PS X (.Return (some e) pos) (tS X.K W (wRetF we)) := PS.imp (ps_fz (ps_ret he)) fun D σ H ⟨F, C, ρ, DE, hs, en, xr, w, er⟩ => ⟨F, C, ρ, _, _, hs, en, xr, w, fun v F1 H1 d C1 e1 h1 r q => by
    cases r <;> first
      | (exact .inl (er.rt _ F1 H1 _ C1 e1 h1 (by constructor <;> assumption) q))
      | (rename_i p
         revert q
         show (match C1 p with | some (.lst ds) => _ | some (.dK ds) => _ | some (.dT ds) => _ | some (.ins Cl ds) => _ | _ => False) → _
         cases ec : C1 p with
         | none => exact fun z => z.elim
         | some c =>
           cases c <;> first | exact fun z => z.elim |
           (rintro ⟨C2, s2, n2, q⟩
            exact frz_any h1 ec s2 n2 fun F2 H2 e2 h2 r2 => er.rt _ F2 H2 _ C2 (e1.trans e2) h2 r2 q))⟩
theorem ds_frz {w : DS} (h : PSs X rest (tS X.K W w)) (i : Nat) : PSs X rest (tS X.K W (wSeq (wFrz i) w)) := PSs.imp (pss_fz h) fun Dn σ H ⟨F, C, ρ, DE, hs, en, xr, q, er⟩ => by
  revert q
  show (match (ρ[i]? : Option (Option D)) with | some (some (.ptr p)) => _ | _ => False) → _
  split
  · rename_i p hp
    obtain ⟨v, hv, rv⟩ := en.2 i _ hp
    cases rv
    show (match C p with | some (.lst ds) => _ | some (.dK ds) => _ | some (.dT ds) => _ | some (.ins Cl ds) => _ | _ => False) → _
    cases ec : C p with
    | none => exact fun z => z.elim
    | some c =>
      cases c <;> first | exact fun z => z.elim |
      (rintro ⟨C2, s2, n2, q⟩
       refine frz_any hs ec s2 n2 fun F2 H2 e2 h2 r2 => ?_
       have en2 := (en.mono e2).set (i := i) r2
       have es : σ.set i (some (.ref p)) = σ := by
         refine List.ext_getElem? fun j => ?_
         by_cases ij : i = j
         · subst ij
           have hl : i < σ.length := by
             rcases Nat.lt_or_ge i σ.length with z | z
             · exact z
             · rw [List.getElem?_eq_none z] at hv; cases hv
           rw [List.getElem?_set_self hl, hv]
         · rw [List.getElem?_set_ne ij]
       rw [es] at en2
       exact ⟨F2, C2, _, DE, h2, en2, xr.mono e2, q, er.mono e2⟩)
  · exact fun z => z.elim
theorem ds_if {c : Expr} {p q : List Stmt} (hc : PT X c (tT X.K W t)) (ha : PSs X p (tS X.K W a)) (hb : PSs X q (tS X.K W b)) : PS X (.If c p q pos) (tS X.K W (wIfS t a b)) := PS.imp (ps_if hc ha hb) fun D σ H ⟨F, C, ρ, DE, hs, en, xr, w, er⟩ =>
  ⟨F, C, ρ, _, _, hs, en, xr, w, fun k F1 H1 C1 e1 h1 q => by
    cases k with
    | true =>
      rw [if_pos rfl] at q
      rw [if_pos rfl]
      exact ⟨F1, C1, ρ, DE, h1, en.mono e1, xr.mono e1, q, er.mono e1⟩
    | false =>
      rw [if_neg Bool.false_ne_true] at q
      rw [if_neg Bool.false_ne_true]
      exact ⟨F1, C1, ρ, DE, h1, en.mono e1, xr.mono e1, q, er.mono e1⟩⟩
end

/-! ### targets -/
inductive Tgt where
  | name (i : Nat)
  | tup (ts : List Tgt)
mutual
def Tgt.tg (K : PySem.W.Frag) : Tgt → TG
  | .name i => gName i
  | .tup ts => gTup K ts.length (tgs K ts)
def tgs (K : PySem.W.Frag) : List Tgt → TGs
  | [] => gNil
  | t :: r => gCons (t.tg K) (tgs K r)
end
mutual
def Tgt.dg : Tgt → D → DEnv → Option DEnv
  | .name i, d, ρ => some (ρ.set i (some d))
  | .tup ts, d, ρ => match d with
    | .tup ds => dgs ts ds ρ
    | .ktup ds => dgs ts ds ρ
    | _ => none
def dgs : List Tgt → List D → DEnv → Option DEnv
  | [], ds, ρ => match ds with
    | [] => some ρ
    | _ => none
  | t :: r, ds, ρ => match ds with
    | d :: ds => match t.dg d ρ with
      | some ρ' => dgs r ds ρ'
      | none => none
    | [] => none
end
mutual
def Tgt.slots : Tgt → List Nat
  | .name i => [i]
  | .tup ts => slotsAll ts
def slotsAll : List Tgt → List Nat
  | [] => []
  | t :: r => t.slots ++ slotsAll r
end
theorem wipe_at (σ : L2.St) : ∀ (vs : List Nat) (j : Nat), (wipe σ vs)[j]? = if j ∈ vs then (σ[j]?).map (fun _ => none) else σ[j]?
  | [], j => by simp [wipe]
  | v :: vs, j => by
    show ((wipe σ vs).set v none)[j]? = _
    rw [List.getElem?_set, wipe_at σ vs j, wipe_length]
    by_cases h : v = j
    · subst h
      rw [if_pos rfl, if_pos (List.mem_cons_self)]
      by_cases hl : v < σ.length
      · rw [if_pos hl, List.getElem?_eq_getElem hl]; rfl
      · rw [if_neg hl, List.getElem?_eq_none (by omega)]; rfl
    · rw [if_neg h]
      by_cases hm : j ∈ vs
      · rw [if_pos hm, if_pos (List.mem_cons_of_mem _ hm)]
      · rw [if_neg hm, if_neg (by simp only [List.mem_cons, not_or]; exact ⟨fun e => h e.symm, hm⟩)]
theorem wipe_set {σ : L2.St} {vs : List Nat} {i : Nat} {x : Option V} (h : i ∈ vs) : wipe (σ.set i x) vs = wipe σ vs := by
  refine List.ext_getElem? fun j => ?_
  rw [wipe_at, wipe_at]
  by_cases hj : j ∈ vs
  · rw [if_pos hj, if_pos hj, List.getElem?_set]
    by_cases e : i = j
    · subst e
      rw [if_pos rfl]
      by_cases hl : i < σ.length
      · rw [if_pos hl, List.getElem?_eq_getElem hl]; rfl
      · rw [if_neg hl, List.getElem?_eq_none (by omega)]
    · rw [if_neg e]
  · rw [if_neg hj, if_neg hj, List.getElem?_set_ne (fun e => hj (by rw [← e]; exact h))]
theorem wipe_wipe (σ : L2.St) (vs : List Nat) : wipe (wipe σ vs) vs = wipe σ vs := by
  refine List.ext_getElem? fun j => ?_
  rw [wipe_at, wipe_at]
  by_cases hj : j ∈ vs
  · rw [if_pos hj, if_pos hj]
    cases σ[j]? <;> rfl
  · rw [if_neg hj, if_neg hj]
section
variable {K : PySem.W.Frag} {F H : Hp}
mutual
theorem tg_ok {Q : L2.St → Hp → Prop} : ∀ (t : Tgt) {v : V} {d : D} {σ : L2.St} {ρ ρ' : DEnv}, Ex F H → Rep K F v d → EnvR K F σ ρ → t.dg d ρ = some ρ' → (∀ σ', EnvR K F σ' ρ' → (∀ vs, (∀ i ∈ t.slots, i ∈ vs) → wipe σ' vs = wipe σ vs) → Q σ' H) → (t.tg K) v σ H Q
  | .name i, v, d, σ, ρ, ρ', ex, r, en, h, k => by
    simp only [Tgt.dg, Option.some.injEq] at h
    subst h
    show Q (σ.set i (some v)) H
    exact k _ (en.set r) fun vs hv => wipe_set (hv i (by simp [Tgt.slots]))
  | .tup ts, v, d, σ, ρ, ρ', ex, r, en, h, k => by
    simp only [Tgt.dg] at h
    cases r <;> first | (simp at h; done) | skip
    · rename_i a xs ds hq hr
      simp only at h
      simp only [Tgt.tg]
      refine ⟨a, xs, rfl, .of (ex.nd hq rfl), ?_, tgs_ok ts ex hr en h (fun σ' e' hw => k σ' e' (by simpa only [Tgt.slots] using hw))⟩
      rw [hr.length]
      exact dgs_len ts h
    · rename_i a xs ds hq hr
      simp only at h
      simp only [Tgt.tg]
      refine ⟨a, xs, rfl, ex_t ex hq, ?_, tgs_ok ts ex hr en h (fun σ' e' hw => k σ' e' (by simpa only [Tgt.slots] using hw))⟩
      rw [hr.length]
      exact dgs_len ts h
theorem tgs_ok {Q : L2.St → Hp → Prop} : ∀ (ts : List Tgt) {vs : List V} {ds : List D} {σ : L2.St} {ρ ρ' : DEnv}, Ex F H → RepL K F vs ds → EnvR K F σ ρ → dgs ts ds ρ = some ρ' → (∀ σ', EnvR K F σ' ρ' → (∀ ws, (∀ i ∈ slotsAll ts, i ∈ ws) → wipe σ' ws = wipe σ ws) → Q σ' H) → (tgs K ts) vs σ H Q
  | [], vs, ds, σ, ρ, ρ', ex, r, en, h, k => by
    cases r with
    | nil =>
      simp only [dgs, Option.some.injEq] at h
      subst h
      simp only [tgs]
      exact ⟨rfl, k σ en fun _ _ => rfl⟩
    | cons _ _ => simp [dgs] at h
  | t :: rest, vs, ds, σ, ρ, ρ', ex, r, en, h, k => by
    cases r with
    | nil => simp [dgs] at h
    | cons r1 r2 =>
      simp only [dgs] at h
      split at h
      · rename_i ρ1 h1
        simp only [tgs]
        refine ⟨_, _, rfl, tg_ok t ex r1 en h1 fun σ1 en1 hw1 => tgs_ok rest ex r2 en1 h fun σ2 en2 hw2 => k σ2 en2 fun ws hin => ?_⟩
        simp only [slotsAll, List.mem_append] at hin
        rw [hw2 ws (fun i hi => hin i (.inr hi)), hw1 ws (fun i hi => hin i (.inl hi))]
      · cases h
theorem dgs_len : ∀ (ts : List Tgt) {ds : List D} {ρ ρ' : DEnv}, dgs ts ds ρ = some ρ' → ds.length = ts.length
  | [], ds, ρ, ρ', h => by
    cases ds with
    | nil => rfl
    | cons _ _ => simp [dgs] at h
  | t :: rest, ds, ρ, ρ', h => by
    cases ds with
    | nil => simp [dgs] at h
    | cons d ds =>
      simp only [dgs] at h
      split at h
      · exact congrArg (· + 1) (dgs_len rest h)
      · cases h
end
end
section
variable {X : Cx} {pos : Pos}
theorem dg_name {x : Str} (i : Nat) (hN : X.N.Nodup) (hi : X.N[i]? = some x := by rfl) (hx : Loc X.env.scope x := by first | exact Or.inl rfl | exact Or.inr rfl) (hf : X.fn x = true ∨ X.env.scope.names.lookup x = some .local := by first | exact .inl rfl | exact .inr rfl | assumption) : PG X (.Name x pos) (Tgt.tg X.K (.name i)) := by
  simp only [Tgt.tg]
  exact pg_name hN hi hx hf
theorem dgs_nil : PGs X [] (tgs X.K []) := by
  simp only [tgs]
  exact pgs_nil
theorem dgs_cons {e : Expr} {es : List Expr} {t : Tgt} {r : List Tgt} (h1 : PG X e (t.tg X.K)) (h2 : PGs X es (tgs X.K r))
    (hs : (assignEach (e :: es) X.env).map (·.2) = assign e X.env :: (assignEach es X.env).map (·.2) := by rfl) : PGs X (e :: es) (tgs X.K (t :: r)) := by
  simp only [tgs]
  exact pgs_cons h1 h2 hs
theorem dg_tup {es : List Expr} {k : Nat} {ts : List Tgt} (hc : X.calm = true) (h : PGs X es (tgs X.K ts))
    (hn : (assignEach es X.env).length = ts.length := by rfl) (hst : (assignEach es X.env).findIdx? (·.1) = none := by rfl) : PG X (.Tuple es k pos) (Tgt.tg X.K (.tup ts)) := by
  simp only [Tgt.tg]
  exact pg_tup hc h hn hst
end
/-- target = e -/
def wAsg (e : DE) (t : Tgt) (E : DEnds) (ρ : DEnv) (C : Cells) : Prop := e ρ C (fun d C1 => match t.dg d ρ with | some ρ' => E.nx ρ' C1 | none => False) E.ex
def wSet (i : Nat) (e : DE) (E : DEnds) (ρ : DEnv) (C : Cells) : Prop := e ρ C (fun d C1 => E.nx (ρ.set i (some d)) C1) E.ex
/-- name op= e -/
def wAug (i : Nat) (e : DE) (r : DR2) (E : DEnds) (ρ : DEnv) (C : Cells) : Prop := match (ρ[i]? : Option (Option D)) with
  | some (some x) => e ρ C (fun y C1 => r x y C1 (fun z C2 => E.nx (ρ.set i (some z)) C2)) E.ex
  | _ => False
section
variable {X : Cx} {W : WX} {K : PySem.W.Frag} {e : Expr} {we : DE} {pos : Pos}
theorem ds_asg {tg : Expr} {t : Tgt} (he : PE X e (tE X.K W we)) (hg : PG X tg (t.tg X.K)) (hs : swapsWithSole [tg] e pos.line X.env = pure false := by rfl) (hw : swappedStores [tg] e X.env = pure none := by rfl)
    (h1 : (assignEach [tg] X.env).map (·.2) = [assign tg X.env] := by rfl) : PS X (.Assign [tg] e pos) (tS X.K W (wAsg we t)) := PS.imp (ps_asg he hg hs hw h1) fun D σ H ⟨F, C, ρ, DE, hs, en, xr, w, er⟩ =>
  ⟨F, C, ρ, _, _, hs, en, xr, w, fun v F1 H1 d C1 e1 h1 r q => by
    revert q
    dsimp only
    split
    · rename_i ρ' hd
      exact fun q => tg_ok t h1.ex r (en.mono e1) hd fun σ' en' _ => er.nx σ' F1 H1 ρ' C1 e1 h1 en' q
    · exact fun z => z.elim⟩
/-- name = e -/
theorem ds_set (i : Nat) {x : Str} {pos' : Pos} (hN : X.N.Nodup) (he : PE X e (tE X.K W we)) (hi : X.N[i]? = some x := by rfl) (hx : Loc X.env.scope x := by first | exact Or.inl rfl | exact Or.inr rfl) (hs : swapsWith e (some (.Name x pos')) pos.line X.env = pure false := by rfl) (hf : X.fn x = true ∨ X.env.scope.names.lookup x = some .local := by first | exact .inl rfl | exact .inr rfl | assumption) :
    PS X (.Assign [.Name x pos'] e pos) (tS X.K W (wSet i we)) := PS.imp (ps_set hN hi hx he hs hf) fun D σ H ⟨F, C, ρ, DE, hs, en, xr, w, er⟩ =>
  ⟨F, C, ρ, _, _, hs, en, xr, w, fun v F1 H1 d C1 e1 h1 r q => er.nx _ F1 H1 _ C1 e1 h1 ((en.mono e1).set r) q⟩
theorem ds_aug (i : Nat) {x : Str} {op : Operator} {ti : TIp} {rd : DR2} {pos' : Pos} (hN : X.N.Nodup) (ho : PIp X op ti) (hr : SimR X.K ti rd) (he : PE X e (tE X.K W we)) (hi : X.N[i]? = some x := by rfl) (hx : Loc X.env.scope x := by first | exact Or.inl rfl | exact Or.inr rfl) (hf : X.fn x = true ∨ X.env.scope.names.lookup x = some .local := by first | exact .inl rfl | exact .inr rfl | assumption) :
    PS X (.AugAssign (.Name x pos') op e pos) (tS X.K W (wAug i we rd)) := PS.imp (ps_aug hN hi hx he ho hf) fun Dn σ H ⟨F, C, ρ, DE, hs, en, xr, w, er⟩ => by
  revert w
  show (match (ρ[i]? : Option (Option D)) with | some (some x) => _ | _ => False) → _
  split
  · rename_i x hx
    intro w
    obtain ⟨v, hv, rv⟩ := en.2 i _ hx
    exact ⟨v, hv, F, C, ρ, _, _, hs, en, xr, w, fun u F1 H1 d C1 e1 h1 r q => hr F1 C1 H1 v u x d _ _ h1 (rv.mono e1) r q fun z F2 H2 dz C2 e2 h2 rz q2 => er.nx _ F2 H2 _ C2 (e1.trans e2) h2 ((en.mono (e1.trans e2)).set rz) q2⟩
  · exact fun z => z.elim
theorem s_ipAdd : SimR K (ipI fun i j => i + j) dAdd := fun F C H x y dx dy P Q hs rx ry w k => by
  cases rx <;> cases ry <;> first | exact w.elim | exact ⟨_, _, rfl, rfl, k _ F H _ C (Ex.refl F) hs (.int _) w⟩
theorem s_ipSub : SimR K (ipI fun i j => i - j) dSub := fun F C H x y dx dy P Q hs rx ry w k => by
  cases rx <;> cases ry <;> first | exact w.elim | exact ⟨_, _, rfl, rfl, k _ F H _ C (Ex.refl F) hs (.int _) w⟩
end

/-! ### what is walked -/
structure DIt where
  items : List D
  still : Cells → Prop
abbrev DI := DEnv → Cells → (DIt → Cells → Prop) → DX → Prop
def ItR (K : PySem.W.Frag) (F : Hp) (J : It) (Jd : DIt) : Prop := ∀ F' H C, Ex F F' → Hs K F' C H → Jd.still C →
  (∀ (i : Nat) (d : D), Jd.items[i]? = some d → J.go i H ∧ ∀ x H', J.yld i H x H' → ∃ F'', Ex F' F'' ∧ Hs K F'' C H' ∧ Rep K F'' x d) ∧ J.stop Jd.items.length H
theorem ItR.mono {K : PySem.W.Frag} {F F' : Hp} {J : It} {Jd : DIt} (e : Ex F F') (h : ItR K F J Jd) : ItR K F' J Jd := fun F1 H C e1 => h F1 H C (e.trans e1)
def tI (K : PySem.W.Frag) (W : WX) (w : DI) : TI := fun σ H R => ∃ F C ρ P PX, Hs K F C H ∧ EnvR K F σ ρ ∧ ExR K F W PX ∧ w ρ C P PX ∧ ∀ J F' H' Jd C', Ex F F' → Hs K F' C' H' → ItR K F' J Jd → P Jd C' → R J H'
theorem PI.imp {X : Cx} {tg it : Expr} {t t' : TI} (h : PI X tg it t) (i : ∀ σ H R, t' σ H R → t σ H R) : PI X tg it t' := ⟨fun pins s σ H R I w => h.run pins s σ H R I (i σ H R w)⟩
def frozen : Cells → Prop := fun _ => True
/-- a list, frozen or a cell -/
def wItL (e : DE) (ρ : DEnv) (C : Cells) (P : DIt → Cells → Prop) (PX : DX) : Prop := e ρ C (fun d C1 => match d with
  | .lst ds => P ⟨ds, frozen⟩ C1
  | .ptr a => match C1 a with
    | some (.lst ds) => P ⟨ds, fun C' => C' a = some (.lst ds)⟩ C1
    | _ => False
  | _ => False) PX
def wItT (e : DE) (ρ : DEnv) (C : Cells) (P : DIt → Cells → Prop) (PX : DX) : Prop := e ρ C (fun d C1 => match d with
  | .tup ds => P ⟨ds, frozen⟩ C1
  | .ktup ds => P ⟨ds, frozen⟩ C1
  | _ => False) PX
def rngD (lo : Int) (n : Nat) : List D := (List.range n).map fun (k : Nat) => D.int (lo + (k : Int))
def wRng1 (a : DA) (ρ : DEnv) (C : Cells) (P : DIt → Cells → Prop) (PX : DX) : Prop := a ρ C (fun ds C1 => match ds with
  | [.int j] => (-(2 ^ 62) ≤ j ∧ j < 2 ^ 62) ∧ P ⟨rngD 0 j.toNat, frozen⟩ C1
  | _ => False) PX
def wRng2 (a : DA) (ρ : DEnv) (C : Cells) (P : DIt → Cells → Prop) (PX : DX) : Prop := a ρ C (fun ds C1 => match ds with
  | [.int i, .int j] => (-(2 ^ 62) ≤ i ∧ i < 2 ^ 62 ∧ -(2 ^ 62) ≤ j ∧ j < 2 ^ 62) ∧ P ⟨rngD i (j - i).toNat, frozen⟩ C1
  | _ => False) PX
theorem rngD_len (lo : Int) (n : Nat) : (rngD lo n).length = n := by simp [rngD]
theorem rngD_get {lo : Int} {n i : Nat} {d : D} (h : (rngD lo n)[i]? = some d) : i < n ∧ d = .int (lo + (i : Int)) := by
  unfold rngD at h
  rw [List.getElem?_map] at h
  rcases Nat.lt_or_ge i n with z | z
  · rw [List.getElem?_range z] at h
    exact ⟨z, (Option.some.inj h).symm⟩
  · rw [List.getElem?_eq_none (by simpa using z)] at h; cases h
section
variable {X : Cx} {W : WX} {K : PySem.W.Frag} {e tg : Expr} {we : DE} {wr : DA} {pos : Pos}
theorem itr_lst {F : Hp} {a : Addr} {xs : List V} {ds : List D} (h : SqL K F a xs) (r : RepL K F xs ds) : ItR K F (Itl K a) ⟨ds, frozen⟩ := fun F' H C e hs _ => by
  have hH : SqL K H a xs := ex_l hs.ex (ex_l e h)
  refine ⟨fun i d hd => ?_, ⟨xs, hH, by rw [r.length]; exact Nat.le_refl _⟩⟩
  obtain ⟨v, hv, rv⟩ := r.get hd
  refine ⟨⟨xs, v, hH, hv⟩, fun x H' y => ?_⟩
  obtain ⟨rfl, y⟩ := y
  have := y xs hH
  rw [hv] at this
  cases this
  exact ⟨F', Ex.refl _, hs, rv.mono e⟩
theorem itr_cell {F : Hp} {a : Addr} {ds : List D} : ItR K F (Itl K a) ⟨ds, fun C' => C' a = some (.lst ds)⟩ := fun F' H C e hs hc => by
  obtain ⟨_, xs, hx, r⟩ := hs.cell a _ hc
  have hH : SqL K H a xs := .of hx
  refine ⟨fun i d hd => ?_, ⟨xs, hH, by rw [r.length]; exact Nat.le_refl _⟩⟩
  obtain ⟨v, hv, rv⟩ := r.get hd
  refine ⟨⟨xs, v, hH, hv⟩, fun x H' y => ?_⟩
  obtain ⟨rfl, y⟩ := y
  have := y xs hH
  rw [hv] at this
  cases this
  exact ⟨F', Ex.refl _, hs, rv⟩
theorem itr_tup {F : Hp} {a : Addr} {xs : List V} {ds : List D} (h : SqT K F a xs) (r : RepL K F xs ds) : ItR K F (Itt K a) ⟨ds, frozen⟩ := fun F' H C e hs _ => by
  have hH : SqT K H a xs := ex_t hs.ex (ex_t e h)
  refine ⟨fun i d hd => ?_, ⟨xs, hH, by rw [r.length]; exact Nat.le_refl _⟩⟩
  obtain ⟨v, hv, rv⟩ := r.get hd
  refine ⟨⟨xs, v, hH, hv⟩, fun x H' y => ?_⟩
  obtain ⟨rfl, y⟩ := y
  have := y xs hH
  rw [hv] at this
  cases this
  exact ⟨F', Ex.refl _, hs, rv.mono e⟩
theorem itr_rng {F : Hp} {lo : Int} {n : Nat} : ItR K F (Itr lo n) ⟨rngD lo n, frozen⟩ := fun F' H C e hs _ => by
  refine ⟨fun i d hd => ?_, by show n ≤ (rngD lo n).length; rw [rngD_len]; exact Nat.le_refl _⟩
  obtain ⟨hi, rfl⟩ := rngD_get hd
  refine ⟨hi, fun x H' y => ?_⟩
  obtain ⟨rfl, rfl⟩ := y
  exact ⟨F', Ex.refl _, hs, .int _⟩
theorem di_list (he : PE X e (tE X.K W we)) : PI X tg e (tI X.K W (wItL we)) := PI.imp (pi_list he) fun σ H R ⟨F, C, ρ, P, PX, hs, en, xr, w, k⟩ =>
  ⟨F, C, ρ, _, PX, hs, en, xr, w, fun v F1 H1 d C1 e1 h1 r q => by
    cases r <;> first | exact q.elim | skip
    · rename_i a xs ds hq hr
      exact ⟨a, rfl, ⟨xs, ex_l h1.ex hq⟩, k _ F1 H1 _ C1 e1 h1 (itr_lst hq hr) q⟩
    · rename_i a
      revert q
      dsimp only
      split
      · rename_i ds hc
        intro q
        obtain ⟨_, xs, hx, r⟩ := h1.cell a _ hc
        exact ⟨a, rfl, ⟨xs, .of hx⟩, k _ F1 H1 _ C1 e1 h1 itr_cell q⟩
      · exact fun z => z.elim⟩
theorem di_tup (he : PE X e (tE X.K W we)) : PI X tg e (tI X.K W (wItT we)) := PI.imp (pi_tup he) fun σ H R ⟨F, C, ρ, P, PX, hs, en, xr, w, k⟩ =>
  ⟨F, C, ρ, _, PX, hs, en, xr, w, fun v F1 H1 d C1 e1 h1 r q => by
    cases r <;> first | exact q.elim | skip
    · rename_i a xs ds hq hr
      exact ⟨a, rfl, ⟨xs, .of (h1.ex.nd hq rfl)⟩, k _ F1 H1 _ C1 e1 h1 (itr_tup (.of hq) hr) q⟩
    · rename_i a xs ds hq hr
      exact ⟨a, rfl, ⟨xs, ex_t h1.ex hq⟩, k _ F1 H1 _ C1 e1 h1 (itr_tup hq hr) q⟩⟩
theorem di_rng1 {a : Expr} {p : Pos} (hg : Gl X "range") (hm : X.mg "range" = none) (ha : PA X [a] (tA X.K W wr)) (hs : starEach [a] X.env = [(false, eval a X.env)] := by rfl) : PI X tg (.Call (.Name "range" p) [a] [] pos) (tI X.K W (wRng1 wr)) :=
  PI.imp (pi_range1 hg hm ha hs) fun σ H R ⟨F, C, ρ, P, PX, hs, en, xr, w, k⟩ => ⟨F, C, ρ, _, PX, hs, en, xr, w, fun v F1 H1 d C1 e1 h1 r q => by
    revert q
    dsimp only
    split
    · intro q
      rename_i j
      cases r with
      | cons r1 r2 =>
        cases r1; cases r2
        exact ⟨j, rfl, q.1.1, q.1.2, k _ F1 H1 _ C1 e1 h1 itr_rng q.2⟩
    · exact fun z => z.elim⟩
theorem di_rng2 {a b : Expr} {p : Pos} (hg : Gl X "range") (hm : X.mg "range" = none) (ha : PA X [a, b] (tA X.K W wr)) (hs : starEach [a, b] X.env = [(false, eval a X.env), (false, eval b X.env)] := by rfl) (hs2 : starEach [b] X.env = [(false, eval b X.env)] := by rfl) : PI X tg (.Call (.Name "range" p) [a, b] [] pos) (tI X.K W (wRng2 wr)) :=
  PI.imp (pi_range2 hg hm ha hs hs2) fun σ H R ⟨F, C, ρ, P, PX, hs, en, xr, w, k⟩ => ⟨F, C, ρ, _, PX, hs, en, xr, w, fun v F1 H1 d C1 e1 h1 r q => by
    revert q
    dsimp only
    split
    · intro q
      rename_i i j
      cases r with
      | cons r1 r2 =>
        cases r1
        cases r2 with
        | cons r2 r3 =>
          cases r2; cases r3
          exact ⟨i, j, rfl, q.1, k _ F1 H1 _ C1 e1 h1 itr_rng q.2⟩
    · exact fun z => z.elim⟩
end

/-! ### loops -/
def ForG (J : DIt) (t : Tgt) (b : DS) (E : DEnds) (ρ : DEnv) (C1 : Cells) : Prop := ∃ Inv : Nat → DEnv → Cells → Prop, Inv 0 ρ C1 ∧ (∀ i ρ' C', Inv i ρ' C' → J.still C') ∧
  (∀ i d ρ' C', J.items[i]? = some d → Inv i ρ' C' → match t.dg d ρ' with
    | some ρ2 => b { nx := Inv (i + 1), ct := Inv (i + 1), bk := E.nx, rt := E.rt, ex := E.ex } ρ2 C'
    | none => False) ∧
  (∀ ρ' C', Inv J.items.length ρ' C' → E.nx ρ' C')
def wFor (wi : DI) (t : Tgt) (b : DS) (E : DEnds) (ρ : DEnv) (C : Cells) : Prop := wi ρ C (fun J C1 => ForG J t b E ρ C1) E.ex
def wWhile (t : DT) (b : DS) (E : DEnds) (ρ : DEnv) (C : Cells) : Prop := ∃ Inv : Nat → DEnv → Cells → Prop, (∃ m, Inv m ρ C) ∧ ∀ m ρ' C', Inv m ρ' C' → t ρ' C' (fun k C1 => if k = true then
    b { nx := fun ρ2 C2 => ∃ m', m' < m ∧ Inv m' ρ2 C2, ct := fun ρ2 C2 => ∃ m', m' < m ∧ Inv m' ρ2 C2, bk := E.nx, rt := E.rt, ex := E.ex } ρ' C1 else E.nx ρ' C1) E.ex
section
variable {X : Cx} {W : WX} {wb : DS} {pos : Pos}
theorem ds_for {tg iter : Expr} {body : List Stmt} {wi : DI} {t : Tgt} (hp : PassesOwn (model X.prog X.w) X.A X.env X.xe) (hc : X.calm = true) (hi : PI X tg iter (tI X.K W wi)) (hg : PG X tg (t.tg X.K)) (hb : PSs X body (tS X.K W wb))
    (hs : ∀ x, foldedSetIterable iter X.env x = pure x := by intro _; rfl) : PS X (.For tg iter body [] pos) (tS X.K W (wFor wi t wb)) := PS.imp (ps_for hp hc hi hg hb hs) fun D σ H ⟨F, C, ρ, DE, hs, en, xr, w, er⟩ =>
  ⟨F, C, ρ, _, _, hs, en, xr, w, fun J F1 H1 Jd C1 e1 h1 ir q => by
    obtain ⟨Inv, i0, st, turn, done⟩ := q
    refine ⟨fun i m σ' H' => m = Jd.items.length - i ∧ i ≤ Jd.items.length ∧ ∃ F' ρ' C', Ex F1 F' ∧ Hs X.K F' C' H' ∧ EnvR X.K F' σ' ρ' ∧ Inv i ρ' C', ⟨_, rfl, Nat.zero_le _, F1, ρ, C1, Ex.refl _, h1, en.mono e1, i0⟩, ?_⟩
    rintro i m σ' H' ⟨rfl, hl, F', ρ', C', e', h', n', p⟩
    obtain ⟨go, stop⟩ := ir F' H' C' e' h' (st i ρ' C' p)
    by_cases hi : i = Jd.items.length
    · subst hi
      exact .inl ⟨stop, er.nx σ' F' H' ρ' C' (e1.trans e') h' n' (done ρ' C' p)⟩
    · have hlt : i < Jd.items.length := by omega
      have hd : Jd.items[i]? = some Jd.items[i] := List.getElem?_eq_getElem hlt
      obtain ⟨g1, g2⟩ := go i _ hd
      have q := turn i _ ρ' C' hd p
      refine .inr ⟨g1, fun σ2 H2 => ∃ F2 ρ2 C2, Ex F' F2 ∧ Hs X.K F2 C2 H2 ∧ EnvR X.K F2 σ2 ρ2 ∧ Inv (i + 1) ρ2 C2, ?_, ?_⟩
      · rintro σ2 H2 ⟨F2, ρ2, C2, e2, h2, n2, p2⟩
        exact ⟨_, by omega, rfl, hlt, F2, ρ2, C2, e'.trans e2, h2, n2, p2⟩
      · intro x H2 hy
        obtain ⟨F2, e2, h2, rx⟩ := g2 x H2 hy
        revert q
        split
        · rename_i ρ2 hdg
          intro q
          refine tg_ok t h2.ex rx (n'.mono e2) hdg fun σ2 en2 _ => ?_
          exact ⟨F2, C', ρ2, { nx := Inv (i + 1), ct := Inv (i + 1), bk := DE.nx, rt := DE.rt, ex := DE.ex }, h2, en2, xr.mono ((e1.trans e').trans e2), q, ⟨fun σ3 F3 H3 ρ3 C3 e3 h3 n3 p3 => ⟨F3, ρ3, C3, e2.trans e3, h3, n3, p3⟩, er.rt.mono ((e1.trans e').trans e2), er.nx.mono ((e1.trans e').trans e2), fun σ3 F3 H3 ρ3 C3 e3 h3 n3 p3 => ⟨F3, ρ3, C3, e2.trans e3, h3, n3, p3⟩⟩⟩
        · exact fun z => z.elim⟩
theorem ds_while {c : Expr} {body : List Stmt} {t : DT} (hp : PassesOwn (model X.prog X.w) X.A X.env X.xe) (hc : PT X c (tT X.K W t)) (hb : PSs X body (tS X.K W wb)) : PS X (.While c body [] pos) (tS X.K W (wWhile t wb)) := PS.imp (ps_while hp hc hb) fun D σ H ⟨F, C, ρ, DE, hs, en, xr, w, er⟩ => by
  obtain ⟨Inv, ⟨m0, i0⟩, turn⟩ := w
  refine ⟨fun m σ' H' => ∃ F' ρ' C', Ex F F' ∧ Hs X.K F' C' H' ∧ EnvR X.K F' σ' ρ' ∧ Inv m ρ' C', ⟨m0, F, ρ, C, Ex.refl _, hs, en, i0⟩, ?_⟩
  rintro m σ' H' ⟨F', ρ', C', e', h', n', p⟩
  refine ⟨F', C', ρ', _, _, h', n', xr.mono e', turn m ρ' C' p, fun k F1 H1 C1 e1 h1 q => ?_⟩
  cases k with
  | true =>
    rw [if_pos rfl] at q
    rw [if_pos rfl]
    refine ⟨fun σ2 H2 => ∃ m', m' < m ∧ ∃ F2 ρ2 C2, Ex F F2 ∧ Hs X.K F2 C2 H2 ∧ EnvR X.K F2 σ2 ρ2 ∧ Inv m' ρ2 C2, fun _ _ z => z, ?_⟩
    exact ⟨F1, C1, ρ', { nx := fun ρ2 C2 => ∃ m', m' < m ∧ Inv m' ρ2 C2, ct := fun ρ2 C2 => ∃ m', m' < m ∧ Inv m' ρ2 C2, bk := DE.nx, rt := DE.rt, ex := DE.ex }, h1, n'.mono e1, xr.mono (e'.trans e1), q, ⟨fun σ3 F3 H3 ρ3 C3 e3 h3 n3 ⟨m', hm, p3⟩ => ⟨m', hm, F3, ρ3, C3, (e'.trans e1).trans e3, h3, n3, p3⟩, er.rt.mono (e'.trans e1), er.nx.mono (e'.trans e1), fun σ3 F3 H3 ρ3 C3 e3 h3 n3 ⟨m', hm, p3⟩ => ⟨m', hm, F3, ρ3, C3, (e'.trans e1).trans e3, h3, n3, p3⟩⟩⟩
  | false =>
    rw [if_neg Bool.false_ne_true] at q
    rw [if_neg Bool.false_ne_true]
    exact er.nx σ' F1 H1 ρ' C1 (e'.trans e1) h1 (n'.mono e1) q
end
end DD

set_option Elab.async false
set_option linter.all false
set_option maxRecDepth 100000
set_option maxHeartbeats 4000000
/-! Readings over data: calls of defs, classes, attributes; a def keeps its promise. -/
namespace DD
open PySem L2 PyProof.Rows

abbrev DSp := List D → Cells → DK → Prop
abbrev XC := Value → List (String × D) → Cells → Prop
abbrev DSpX := List D → Cells → DK → XC → Prop
def KontX (K : PySem.W.Frag) (F : Hp) (PX : XC) (E : XK) : Prop := ∀ cls d fs F' H C, Ex F F' → Hs K F' C H → XRep K F' H d fs → PX cls fs C → E cls d H
/-- a promise over data; of a def that may raise -/
def spD (K : PySem.W.Frag) (R : DSp) : Sp := fun vs H Q _ => ∃ F C ds P, Hs K F C H ∧ RepL K F vs ds ∧ R ds C P ∧ Kont K F P Q
def spX (K : PySem.W.Frag) (R : DSpX) : Sp := fun vs H Q E => ∃ F C ds P PX, Hs K F C H ∧ RepL K F vs ds ∧ R ds C P PX ∧ Kont K F P Q ∧ KontX K F PX E

/-! ### calls -/
def wCall (R : DSp) (dd : List D) (a : DA) (ρ : DEnv) (C : Cells) (P : DK) (PX : DX) : Prop := a ρ C (fun ds C1 => R (ds ++ dd) C1 P) PX
def wCallX (R : DSpX) (dd : List D) (a : DA) (ρ : DEnv) (C : Cells) (P : DK) (PX : DX) : Prop := a ρ C (fun ds C1 => R (ds ++ dd) C1 P (fun cls fs C2 => PX cls fs ρ C2)) PX
/-- it is an instance of the class at Cl without an attribute of this name of its own -/
def isIns (Cl : Addr) (m : String) (o : D) (C : Cells) : Prop := match o with
  | .ins c fs => c = Cl ∧ fs.lookup m = none
  | .ptr p => match C p with
    | some (.ins c fs) => c = Cl ∧ fs.lookup m = none
    | _ => False
  | _ => False
def wMeth (Cl : Addr) (m : String) (R : DSp) (dd : List D) (o : DE) (a : DA) (ρ : DEnv) (C : Cells) (P : DK) (PX : DX) : Prop := o ρ C (fun x C1 => isIns Cl m x C1 ∧ a ρ C1 (fun ds C2 => R (x :: (ds ++ dd)) C2 P) PX) PX
def wMethX (Cl : Addr) (m : String) (R : DSpX) (dd : List D) (o : DE) (a : DA) (ρ : DEnv) (C : Cells) (P : DK) (PX : DX) : Prop := o ρ C (fun x C1 => isIns Cl m x C1 ∧ a ρ C1 (fun ds C2 => R (x :: (ds ++ dd)) C2 P (fun cls fs C3 => PX cls fs ρ C3)) PX) PX
/-- a new instance: a cell; one that does not change any more behind __init__ -/
def wMake (Cl : Addr) (R : DSp) (dd : List D) (a : DA) (ρ : DEnv) (C : Cells) (P : DK) (PX : DX) : Prop := a ρ C (fun ds C1 => ∀ p, C1 p = none → R (.ptr p :: (ds ++ dd)) (cput C1 p (.ins Cl [])) (fun r C2 => r = .non ∧ P (.ptr p) C2)) PX
def frzP (P : DK) (p : Addr) (C2 : Cells) : Prop := match C2 p with
  | some (.ins c fs) => ∃ C3, Sub C3 C2 ∧ C3 p = none ∧ P (.ins c fs) C3
  | _ => False
def wMakeF (Cl : Addr) (R : DSp) (dd : List D) (a : DA) (ρ : DEnv) (C : Cells) (P : DK) (PX : DX) : Prop := a ρ C (fun ds C1 => ∀ p, C1 p = none → R (.ptr p :: (ds ++ dd)) (cput C1 p (.ins Cl [])) (fun r C2 => r = .non ∧ frzP P p C2)) PX
def wMakeX (Cl : Addr) (R : DSpX) (dd : List D) (a : DA) (ρ : DEnv) (C : Cells) (P : DK) (PX : DX) : Prop := a ρ C (fun ds C1 => ∀ p, C1 p = none → R (.ptr p :: (ds ++ dd)) (cput C1 p (.ins Cl [])) (fun r C2 => r = .non ∧ P (.ptr p) C2) (fun cls fs C3 => PX cls fs ρ C3)) PX
def wMakeXF (Cl : Addr) (R : DSpX) (dd : List D) (a : DA) (ρ : DEnv) (C : Cells) (P : DK) (PX : DX) : Prop := a ρ C (fun ds C1 => ∀ p, C1 p = none → R (.ptr p :: (ds ++ dd)) (cput C1 p (.ins Cl [])) (fun r C2 => r = .non ∧ frzP P p C2) (fun cls fs C3 => PX cls fs ρ C3)) PX

section
variable {X : Cx} {W : WX} {K : PySem.W.Frag} {k : Nat} {f Cl : Addr} {fd : FuncData} {ps : List Str} {R : DSp} {RX : DSpX} {dvs : List V} {dd : List D} {dsv : List Value} {x m : Str} {p pos apos : Pos} {e o : Expr} {es : List Expr} {wa : DE} {wr : DA}
theorem KontX.of {F : Hp} {W : WX} {PX : DX} {σ : L2.St} {ρ : DEnv} (xr : ExR K F W PX) (en : EnvR K F σ ρ) : KontX K F (fun cls fs C2 => PX cls fs ρ C2) (WE W σ) :=
  fun cls d fs F' H C e hs r q => xr cls d fs σ F' H ρ C e hs (en.mono e) r q
theorem d_call (G : FnOk X.prog X.w X.K X.mg X.base CX0 k f fd ps (spD X.K R)) (hr : Room k X.A) (hm : X.mg x = some (.ref f)) (hk : PySem.W.keepIn X.K (.ref f) = true) (hb : Binds X.K fd ps dsv) (ha : PA X (e :: es) (tA X.K W wr)) (hd : Vals dvs dsv := by exact .nil) (hdd : ∀ F, RepL X.K F dvs dd := by exact fun _ => .nil) (hg : Gl X x := by rfl)
    (hdb : (x == ("__debug__" : Str)) = false := by decide) (he : starEach (e :: es) X.env = (false, eval e X.env) :: starEach es X.env := by rfl) (hpl : (backTo pos (starEach es X.env)).any (·.1) = false := by rfl) :
    PE X (.Call (.Name x p) (e :: es) [] pos) (tE X.K W (wCall R dd wr)) := PE.imp (pe_call (E := E0) G hr hg hm hk hb hd pass0 ha hdb he hpl) fun σ H Q ⟨F, C, ρ, P, PX, hs, en, xr, w, k⟩ =>
  ⟨F, C, ρ, _, PX, hs, en, xr, w, fun vs F1 H1 ds C1 e1 h1 r q => ⟨F1, C1, ds ++ dd, P, h1, r.append (hdd F1), q, k.mono e1⟩⟩
theorem d_call0 (G : FnOk X.prog X.w X.K X.mg X.base CX0 k f fd ps (spD X.K R)) (hr : Room k X.A) (hm : X.mg x = some (.ref f)) (hk : PySem.W.keepIn X.K (.ref f) = true) (hb : Binds X.K fd ps dsv) (hd : Vals dvs dsv := by exact .nil) (hdd : ∀ F, RepL X.K F dvs dd := by exact fun _ => .nil) (hg : Gl X x := by rfl)
    (hdb : (x == ("__debug__" : Str)) = false := by decide) : PE X (.Call (.Name x p) [] [] pos) (tE X.K W (wCall R dd wNil)) := PE.imp (pe_call0 (E := E0) G hr hg hm hk hb hd pass0 hdb) fun σ H Q ⟨F, C, ρ, P, PX, hs, en, xr, w, k⟩ =>
  ⟨F, C, dd, P, hs, by exact (hdd F), by exact w, k⟩
theorem d_callX (tk : Takes X W) (G : FnOk X.prog X.w X.K X.mg X.base (L2.CX X.prog X.w) k f fd ps (spX X.K RX)) (hr : Room k X.A) (hm : X.mg x = some (.ref f)) (hk : PySem.W.keepIn X.K (.ref f) = true) (hb : Binds X.K fd ps dsv) (ha : PA X (e :: es) (tA X.K W wr)) (hd : Vals dvs dsv := by exact .nil) (hdd : ∀ F, RepL X.K F dvs dd := by exact fun _ => .nil) (hg : Gl X x := by rfl)
    (hdb : (x == ("__debug__" : Str)) = false := by decide) (he : starEach (e :: es) X.env = (false, eval e X.env) :: starEach es X.env := by rfl) (hpl : (backTo pos (starEach es X.env)).any (·.1) = false := by rfl) :
    PE X (.Call (.Name x p) (e :: es) [] pos) (tE X.K W (wCallX RX dd wr)) := PE.imp (pe_callSD (E := WE W) G hr hg hm hk hb hd (fun σ => passAt tk σ) ha hdb he hpl) fun σ H Q ⟨F, C, ρ, P, PX, hs, en, xr, w, k⟩ =>
  ⟨F, C, ρ, _, PX, hs, en, xr, w, fun vs F1 H1 ds C1 e1 h1 r q => ⟨F1, C1, ds ++ dd, P, _, h1, r.append (hdd F1), q, k.mono e1, KontX.of (xr.mono e1) (en.mono e1)⟩⟩
theorem ins_of {F H : Hp} {C : Cells} {v : V} {d : D} (hs : Hs K F C H) (r : Rep K F v d) {mm : String} (h : isIns Cl mm d C) : ∃ a dx gs, v = .ref a ∧ H a = some (.ins Cl dx gs) ∧ gs.lookup (Str.ofString mm) = none := by
  cases r <;> first | exact h.elim | skip
  · rename_i a c dx gs fs hf rf
    obtain ⟨rfl, hl⟩ := h
    exact ⟨a, dx, gs, rfl, hs.ex.nd hf rfl, rf.lookup_none hl⟩
  · rename_i a
    revert h
    show (match C a with | some (.ins c fs) => _ | _ => False) → _
    split
    · rename_i c fs hc
      rintro ⟨rfl, hl⟩
      obtain ⟨_, dx, gs, hg, rf⟩ := hs.cell a _ hc
      exact ⟨a, dx, gs, rfl, hg, rf.lookup_none hl⟩
    · exact fun z => z.elim
theorem d_meth {mm : String} {pl : Sem Bool} (c : Cls X.K Cl) (hm : Meth X.K Cl (Str.ofString mm) f) (G : FnOk X.prog X.w X.K X.mg X.base CX0 k f fd ps (spD X.K R)) (hr : Room k X.A) (hb : Binds X.K fd ps dsv) (ho : PE X o (tE X.K W wa)) (ha : PA X (e :: es) (tA X.K W wr)) (hd : Vals dvs dsv := by exact .nil) (hdd : ∀ F, RepL X.K F dvs dd := by exact fun _ => .nil)
    (hst : starEach (e :: es) X.env = (false, eval e X.env) :: starEach es X.env := by rfl) (hpl : (backTo pos (starEach es X.env)).any (·.1) = false := by rfl)
    (ht : eval (.Call (.Attribute o (Str.ofString mm) apos) (e :: es) [] pos) X.env = (do
      let ov ← eval o X.env
      standAt apos.atName
      let (f, first) ← holding [ov] (getMethod ov (Str.ofString mm) pl)
      callWith pos f first (backTo pos (starEach (e :: es) X.env)) (backToKw pos (keywordEach [] X.env))) := by rfl) :
    PE X (.Call (.Attribute o (Str.ofString mm) apos) (e :: es) [] pos) (tE X.K W (wMeth Cl mm R dd wa wr)) := PE.imp (pe_meth (pl := pl) (E := E0) ho c hm G hr hb hd pass0 ha hst hpl ht) fun σ H Q ⟨F, C, ρ, P, PX, hs, en, xr, w, k⟩ =>
  ⟨F, C, ρ, _, PX, hs, en, xr, w, fun v F1 H1 d C1 e1 h1 rv q => by
    obtain ⟨qi, q⟩ := q
    obtain ⟨a, dx, gs, ev, ha, hl⟩ := ins_of h1 rv qi
    exact ⟨a, dx, gs, ev, ha, hl, F1, C1, ρ, _, PX, h1, en.mono e1, xr.mono e1, q, fun vs F2 H2 ds C2 e2 h2 rl q2 => ⟨F2, C2, d :: (ds ++ dd), P, h2, .cons (rv.mono e2) (rl.append (hdd F2)), q2, k.mono (e1.trans e2)⟩⟩⟩
theorem d_meth0 {mm : String} {pl : Sem Bool} (c : Cls X.K Cl) (hm : Meth X.K Cl (Str.ofString mm) f) (G : FnOk X.prog X.w X.K X.mg X.base CX0 k f fd ps (spD X.K R)) (hr : Room k X.A) (hb : Binds X.K fd ps dsv) (ho : PE X o (tE X.K W wa)) (hd : Vals dvs dsv := by exact .nil) (hdd : ∀ F, RepL X.K F dvs dd := by exact fun _ => .nil)
    (ht : eval (.Call (.Attribute o (Str.ofString mm) apos) [] [] pos) X.env = (do
      let ov ← eval o X.env
      standAt apos.atName
      let (f, first) ← holding [ov] (getMethod ov (Str.ofString mm) pl)
      callWith pos f first (backTo pos (starEach [] X.env)) (backToKw pos (keywordEach [] X.env))) := by rfl) :
    PE X (.Call (.Attribute o (Str.ofString mm) apos) [] [] pos) (tE X.K W (wMeth Cl mm R dd wa wNil)) := PE.imp (pe_meth0 (pl := pl) (E := E0) ho c hm G hr hb hd pass0 ht) fun σ H Q ⟨F, C, ρ, P, PX, hs, en, xr, w, k⟩ =>
  ⟨F, C, ρ, _, PX, hs, en, xr, w, fun v F1 H1 d C1 e1 h1 rv q => by
    obtain ⟨qi, q⟩ := q
    obtain ⟨a, dx, gs, ev, ha, hl⟩ := ins_of h1 rv qi
    exact ⟨a, dx, gs, ev, ha, hl, F1, C1, d :: dd, P, h1, .cons rv (hdd F1), q, k.mono e1⟩⟩
/-- a method that may raise -/
theorem pe_methSD {ta : TE} {t : TA} {E : L2.St → XK} {pl : Sem Bool} {sp : Sp} {CX : CXT} (he : PE X o ta) (c : Cls X.K Cl) (hm : Meth X.K Cl m f) (F : FnOk X.prog X.w X.K X.mg X.base CX k f fd ps sp) (hr : Room k X.A) (hb : Binds X.K fd ps dsv) (hd : Vals dvs dsv) (hx : ∀ σ, PassesAt CX X σ (E σ)) (ha : PA X (e :: es) t)
    (hst : starEach (e :: es) X.env = (false, eval e X.env) :: starEach es X.env := by rfl) (hpl : (backTo pos (starEach es X.env)).any (·.1) = false := by rfl)
    (ht : eval (.Call (.Attribute o m apos) (e :: es) [] pos) X.env = (do
      let ov ← eval o X.env
      standAt apos.atName
      let (f, first) ← holding [ov] (getMethod ov m pl)
      callWith pos f first (backTo pos (starEach (e :: es) X.env)) (backToKw pos (keywordEach [] X.env))) := by rfl) :
    PE X (.Call (.Attribute o m apos) (e :: es) [] pos) (fun σ H Q => ta σ H fun x H1 => ∃ a dx fs, x = .ref a ∧ H1 a = some (.ins Cl dx fs) ∧ fs.lookup m = none ∧ t σ H1 fun vs H2 => sp (x :: (vs ++ dvs)) H2 Q (E σ)) := by
  refine ⟨fun pins s σ H Q I h => ?_⟩
  refine PySem.W.methodCall_KW (pl := pl) (thn (he.run pins s σ H _ I h) fun u s1 ⟨x, H1, I1, rx, a, dx, fs, ex, ea, l, q⟩ => ?_) ht
  subst ex
  obtain rfl : u = Value.ref a := rx
  refine getmeth_ok I1 ea c hm l ?_
  refine PySem.W.callWith_K (first := [.ref a]) (h₀ := X.base) I.ok.mod.kin hm.kp (thn (ha.run pos pins s1 σ H1 _ I1 q) fun us s2 ⟨vs, H2, I2, r, q2⟩ => ⟨I2.kIn, ?_⟩) hst hpl
  exact run_fnSD (us := .ref a :: us) (vs := .ref a :: vs) F hr hb hd (hx σ) I2 (.cons rfl r) q2
theorem pe_methSD0 {ta : TE} {E : L2.St → XK} {pl : Sem Bool} {sp : Sp} {CX : CXT} (he : PE X o ta) (c : Cls X.K Cl) (hm : Meth X.K Cl m f) (F : FnOk X.prog X.w X.K X.mg X.base CX k f fd ps sp) (hr : Room k X.A) (hb : Binds X.K fd ps dsv) (hd : Vals dvs dsv) (hx : ∀ σ, PassesAt CX X σ (E σ))
    (ht : eval (.Call (.Attribute o m apos) [] [] pos) X.env = (do
      let ov ← eval o X.env
      standAt apos.atName
      let (f, first) ← holding [ov] (getMethod ov m pl)
      callWith pos f first (backTo pos (starEach [] X.env)) (backToKw pos (keywordEach [] X.env))) := by rfl) :
    PE X (.Call (.Attribute o m apos) [] [] pos) (fun σ H Q => ta σ H fun x H1 => ∃ a dx fs, x = .ref a ∧ H1 a = some (.ins Cl dx fs) ∧ fs.lookup m = none ∧ sp (x :: dvs) H1 Q (E σ)) := by
  refine ⟨fun pins s σ H Q I h => ?_⟩
  refine PySem.W.methodCall_KW (pl := pl) (thn (he.run pins s σ H _ I h) fun u s1 ⟨x, H1, I1, rx, a, dx, fs, ex, ea, l, q⟩ => ?_) ht
  subst ex
  obtain rfl : u = Value.ref a := rx
  refine getmeth_ok I1 ea c hm l ?_
  exact PySem.W.callWith_K0 (first := [.ref a]) I1.kIn hm.kp (run_fnSD (us := [.ref a]) (vs := [.ref a]) F hr hb hd (hx σ) I1 (.cons rfl .nil) q)
theorem d_methX {mm : String} {pl : Sem Bool} (tk : Takes X W) (c : Cls X.K Cl) (hm : Meth X.K Cl (Str.ofString mm) f) (G : FnOk X.prog X.w X.K X.mg X.base (L2.CX X.prog X.w) k f fd ps (spX X.K RX)) (hr : Room k X.A) (hb : Binds X.K fd ps dsv) (ho : PE X o (tE X.K W wa)) (ha : PA X (e :: es) (tA X.K W wr)) (hd : Vals dvs dsv := by exact .nil) (hdd : ∀ F, RepL X.K F dvs dd := by exact fun _ => .nil)
    (hst : starEach (e :: es) X.env = (false, eval e X.env) :: starEach es X.env := by rfl) (hpl : (backTo pos (starEach es X.env)).any (·.1) = false := by rfl)
    (ht : eval (.Call (.Attribute o (Str.ofString mm) apos) (e :: es) [] pos) X.env = (do
      let ov ← eval o X.env
      standAt apos.atName
      let (f, first) ← holding [ov] (getMethod ov (Str.ofString mm) pl)
      callWith pos f first (backTo pos (starEach (e :: es) X.env)) (backToKw pos (keywordEach [] X.env))) := by rfl) :
    PE X (.Call (.Attribute o (Str.ofString mm) apos) (e :: es) [] pos) (tE X.K W (wMethX Cl mm RX dd wa wr)) := PE.imp (pe_methSD (pl := pl) (E := WE W) ho c hm G hr hb hd (fun σ => passAt tk σ) ha hst hpl ht) fun σ H Q ⟨F, C, ρ, P, PX, hs, en, xr, w, k⟩ =>
  ⟨F, C, ρ, _, PX, hs, en, xr, w, fun v F1 H1 d C1 e1 h1 rv q => by
    obtain ⟨qi, q⟩ := q
    obtain ⟨a, dx, gs, ev, ha, hl⟩ := ins_of h1 rv qi
    exact ⟨a, dx, gs, ev, ha, hl, F1, C1, ρ, _, PX, h1, en.mono e1, xr.mono e1, q, fun vs F2 H2 ds C2 e2 h2 rl q2 => ⟨F2, C2, d :: (ds ++ dd), P, _, h2, .cons (rv.mono e2) (rl.append (hdd F2)), q2, k.mono (e1.trans e2), KontX.of (xr.mono (e1.trans e2)) (en.mono (e1.trans e2))⟩⟩⟩
theorem d_methX0 {mm : String} {pl : Sem Bool} (tk : Takes X W) (c : Cls X.K Cl) (hm : Meth X.K Cl (Str.ofString mm) f) (G : FnOk X.prog X.w X.K X.mg X.base (L2.CX X.prog X.w) k f fd ps (spX X.K RX)) (hr : Room k X.A) (hb : Binds X.K fd ps dsv) (ho : PE X o (tE X.K W wa)) (hd : Vals dvs dsv := by exact .nil) (hdd : ∀ F, RepL X.K F dvs dd := by exact fun _ => .nil)
    (ht : eval (.Call (.Attribute o (Str.ofString mm) apos) [] [] pos) X.env = (do
      let ov ← eval o X.env
      standAt apos.atName
      let (f, first) ← holding [ov] (getMethod ov (Str.ofString mm) pl)
      callWith pos f first (backTo pos (starEach [] X.env)) (backToKw pos (keywordEach [] X.env))) := by rfl) :
    PE X (.Call (.Attribute o (Str.ofString mm) apos) [] [] pos) (tE X.K W (wMethX Cl mm RX dd wa wNil)) := PE.imp (pe_methSD0 (pl := pl) (E := WE W) ho c hm G hr hb hd (fun σ => passAt tk σ) ht) fun σ H Q ⟨F, C, ρ, P, PX, hs, en, xr, w, k⟩ =>
  ⟨F, C, ρ, _, PX, hs, en, xr, w, fun v F1 H1 d C1 e1 h1 rv q => by
    obtain ⟨qi, q⟩ := q
    obtain ⟨a, dx, gs, ev, ha, hl⟩ := ins_of h1 rv qi
    exact ⟨a, dx, gs, ev, ha, hl, F1, C1, d :: dd, P, _, h1, .cons rv (hdd F1), q, k.mono e1, KontX.of (xr.mono e1) (en.mono e1)⟩⟩
/-- an object that no data speaks of -/
theorem Hs.skip {F : Hp} {C : Cells} {H : Hp} (h : Hs K F C H) {p : Addr} {o : HO} (hp : H p = none) : Hs K F C (upd H p o) := by
  obtain ⟨f0, c0⟩ := h.fresh hp
  exact ⟨h.ex.mut f0, fun a c e => ⟨(h.cell a c e).1, (h.cell a c e).2.at (upd_ne (cell_ne e c0))⟩⟩
theorem Hs.inst {F : Hp} {C : Cells} {H : Hp} (h : Hs K F C H) {q dx : Addr} (hq : H q = none) (hd : H dx = none) (ne : dx ≠ q) : C q = none ∧ Hs K F (cput C q (.ins Cl [])) (upd (upd H dx (.own q)) q (.ins Cl dx [])) := by
  obtain ⟨f0, c0⟩ := h.fresh hq
  refine ⟨c0, ?_⟩
  exact (h.skip (o := .own q) hd).put (c := .ins Cl []) f0 ⟨dx, [], upd_same, .nil⟩
theorem frz_kont {F : Hp} {P : DK} {Q : VK} {q : Addr} (k : Kont K F P Q) : Kont K F (fun r C2 => r = .non ∧ frzP P q C2) (fun v H2 => v = .non ∧ Q (.ref q) H2) := fun v F2 H2 d C2 e2 h2 rv ⟨ed, z⟩ => by
  subst ed
  cases rv
  refine ⟨rfl, ?_⟩
  revert z
  unfold frzP
  split
  · rename_i c fs hc
    rintro ⟨C3, s3, n3, z⟩
    obtain ⟨F3, e3, h3, r3⟩ := frz_go h2 hc s3 n3 trivial
    exact k _ F3 H2 _ C3 (e2.trans e3) h3 r3 z
  · exact fun z => z.elim
theorem ptr_kont {F : Hp} {P : DK} {Q : VK} {q : Addr} (k : Kont K F P Q) : Kont K F (fun r C2 => r = .non ∧ P (.ptr q) C2) (fun v H2 => v = .non ∧ Q (.ref q) H2) := fun v F2 H2 d C2 e2 h2 rv ⟨ed, z⟩ => by
  subst ed
  cases rv
  exact ⟨rfl, k _ F2 H2 _ C2 e2 h2 (.ptr q) z⟩
theorem d_make (M : Mk X.K Cl f) (G : FnOk X.prog X.w X.K X.mg X.base CX0 k f fd ps (spD X.K R)) (hr : Room (k + 1) X.A) (hm : X.mg x = some (.ref Cl)) (hb : Binds X.K fd ps dsv) (ha : PA X (e :: es) (tA X.K W wr)) (hd : Vals dvs dsv := by exact .nil) (hdd : ∀ F, RepL X.K F dvs dd := by exact fun _ => .nil) (hg : Gl X x := by rfl)
    (hdb : (x == ("__debug__" : Str)) = false := by decide) (he : starEach (e :: es) X.env = (false, eval e X.env) :: starEach es X.env := by rfl) (hpl : (backTo pos (starEach es X.env)).any (·.1) = false := by rfl) :
    PE X (.Call (.Name x p) (e :: es) [] pos) (tE X.K W (wMake Cl R dd wr)) := PE.imp (pe_make (E := E0) M G hr hg hm hb hd pass0 ha hdb he hpl) fun σ H Q ⟨F, C, ρ, P, PX, hs, en, xr, w, k⟩ =>
  ⟨F, C, ρ, _, PX, hs, en, xr, w, fun vs F1 H1 ds C1 e1 h1 r q => fun z dx hz hdx ne => by
    obtain ⟨c0, h2⟩ := h1.inst (Cl := Cl) hz hdx ne
    exact ⟨F1, _, .ptr z :: (ds ++ dd), _, h2, .cons (.ptr z) (r.append (hdd F1)), q z c0, ptr_kont (k.mono e1)⟩⟩
theorem d_make0 (M : Mk X.K Cl f) (G : FnOk X.prog X.w X.K X.mg X.base CX0 k f fd ps (spD X.K R)) (hr : Room (k + 1) X.A) (hm : X.mg x = some (.ref Cl)) (hb : Binds X.K fd ps dsv) (hd : Vals dvs dsv := by exact .nil) (hdd : ∀ F, RepL X.K F dvs dd := by exact fun _ => .nil) (hg : Gl X x := by rfl)
    (hdb : (x == ("__debug__" : Str)) = false := by decide) : PE X (.Call (.Name x p) [] [] pos) (tE X.K W (wMake Cl R dd wNil)) := PE.imp (pe_make0 (E := E0) M G hr hg hm hb hd pass0 hdb) fun σ H Q ⟨F, C, ρ, P, PX, hs, en, xr, w, k⟩ => fun z dx hz hdx ne => by
    obtain ⟨c0, h2⟩ := hs.inst (Cl := Cl) hz hdx ne
    exact ⟨F, _, .ptr z :: dd, _, h2, .cons (.ptr z) (hdd F), w z c0, ptr_kont k⟩
theorem d_makeF (M : Mk X.K Cl f) (G : FnOk X.prog X.w X.K X.mg X.base CX0 k f fd ps (spD X.K R)) (hr : Room (k + 1) X.A) (hm : X.mg x = some (.ref Cl)) (hb : Binds X.K fd ps dsv) (ha : PA X (e :: es) (tA X.K W wr)) (hd : Vals dvs dsv := by exact .nil) (hdd : ∀ F, RepL X.K F dvs dd := by exact fun _ => .nil) (hg : Gl X x := by rfl)
    (hdb : (x == ("__debug__" : Str)) = false := by decide) (he : starEach (e :: es) X.env = (false, eval e X.env) :: starEach es X.env := by rfl) (hpl : (backTo pos (starEach es X.env)).any (·.1) = false := by rfl) :
    PE X (.Call (.Name x p) (e :: es) [] pos) (tE X.K W (wMakeF Cl R dd wr)) := PE.imp (pe_make (E := E0) M G hr hg hm hb hd pass0 ha hdb he hpl) fun σ H Q ⟨F, C, ρ, P, PX, hs, en, xr, w, k⟩ =>
  ⟨F, C, ρ, _, PX, hs, en, xr, w, fun vs F1 H1 ds C1 e1 h1 r q => fun z dx hz hdx ne => by
    obtain ⟨c0, h2⟩ := h1.inst (Cl := Cl) hz hdx ne
    exact ⟨F1, _, .ptr z :: (ds ++ dd), _, h2, .cons (.ptr z) (r.append (hdd F1)), q z c0, frz_kont (k.mono e1)⟩⟩
end

/-! ### attributes -/
/-- the attribute f of an instance of the class at Cl -/
def fldOf (Cl : Addr) (f : String) (o : D) (C : Cells) : Option D := match o with
  | .ins c fs => if c = Cl then fs.lookup f else none
  | .ptr p => match C p with
    | some (.ins c fs) => if c = Cl then fs.lookup f else none
    | _ => none
  | _ => none
def wFld (Cl : Addr) (f : String) (o : DE) (ρ : DEnv) (C : Cells) (P : DK) (PX : DX) : Prop := o ρ C (fun x C1 => match fldOf Cl f x C1 with
  | some d => P d C1
  | none => False) PX
def wFldSet (Cl : Addr) (f : String) (o v : DE) (E : DEnds) (ρ : DEnv) (C : Cells) : Prop := v ρ C (fun d C1 => o ρ C1 (fun x C2 => match x with
  | .ptr p => match C2 p with
    | some (.ins c fs) => c = Cl ∧ fs.length < 1000 ∧ E.nx ρ (cput C2 p (.ins Cl (dput f d fs)))
    | _ => False
  | _ => False) E.ex) E.ex
section
variable {X : Cx} {W : WX} {K : PySem.W.Frag} {Cl : Addr} {f : String} {o value : Expr} {wa wv : DE} {pos pos' : Pos}
theorem fld_of {F H : Hp} {C : Cells} {v : V} {x d : D} (hs : Hs K F C H) (r : Rep K F v x) (h : fldOf Cl f x C = some d) : ∃ a dx gs u, v = .ref a ∧ H a = some (.ins Cl dx gs) ∧ gs.lookup (Str.ofString f) = some u ∧ Rep K F u d := by
  cases r <;> first | (simp [fldOf] at h; done) | skip
  · rename_i a c dx gs fs hf rf
    simp only [fldOf] at h
    split at h
    · rename_i e
      subst e
      obtain ⟨u, hu, ru⟩ := rf.lookup h
      exact ⟨a, dx, gs, u, rfl, hs.ex.nd hf rfl, hu, ru⟩
    · cases h
  · rename_i a
    simp only [fldOf] at h
    split at h
    · rename_i c fs hc
      split at h
      · rename_i e
        subst e
        obtain ⟨_, dx, gs, hg, rf⟩ := hs.cell a _ hc
        obtain ⟨u, hu, ru⟩ := rf.lookup h
        exact ⟨a, dx, gs, u, rfl, hg, hu, ru⟩
      · cases h
    · cases h
theorem d_fld (c : Cls X.K Cl) (n : NoAttr X.K Cl (Str.ofString f)) (he : PE X o (tE X.K W wa)) (hb : attributeBase o (Str.ofString f) X.env (eval o X.env) = eval o X.env := by rfl) : PE X (.Attribute o (Str.ofString f) pos) (tE X.K W (wFld Cl f wa)) :=
  PE.imp (pe_fld he hb) fun σ H Q ⟨F, C, ρ, P, PX, hs, en, xr, w, k⟩ => ⟨F, C, ρ, _, PX, hs, en, xr, w, fun v F1 H1 d C1 e1 h1 r q => by
    revert q
    dsimp only
    split
    · rename_i u hu
      intro q
      obtain ⟨a, dx, gs, u', rfl, ha, hl, ru⟩ := fld_of h1 r hu
      exact ⟨a, Cl, dx, gs, u', rfl, ha, c, n, hl, k u' F1 H1 u C1 e1 h1 ru q⟩
    · exact fun z => z.elim⟩
theorem ds_fld (c : Cls X.K Cl) (n : NoAttr X.K Cl (Str.ofString f)) (ho : PE X o (tE X.K W wa)) (hv : PE X value (tE X.K W wv)) (hs : swapsWith value (some (.Attribute o (Str.ofString f) pos')) pos.line X.env = pure false := by rfl) :
    PS X (.Assign [.Attribute o (Str.ofString f) pos'] value pos) (tS X.K W (wFldSet Cl f wa wv)) := PS.imp (ps_fld ho hv hs) fun Dn σ H ⟨F, C, ρ, DE, hs, en, xr, w, er⟩ =>
  ⟨F, C, ρ, _, _, hs, en, xr, w, fun y F1 H1 d C1 e1 h1 ry q => ⟨F1, C1, ρ, _, _, h1, en.mono e1, xr.mono e1, q, fun v F2 H2 x C2 e2 h2 rx q2 => by
    cases rx <;> first | exact q2.elim | skip
    rename_i p
    revert q2
    show (match C2 p with | some (.ins c fs) => _ | _ => False) → _
    split
    · rename_i cl fs hc
      rintro ⟨rfl, hl, q2⟩
      obtain ⟨f0, dx, gs, hg, rf⟩ := h2.cell p _ hc
      have h3 := h2.put (o := .ins cl dx (putF (Str.ofString f) y gs)) (c := .ins cl (dput f d fs)) f0 ⟨dx, _, upd_same, rf.put (ry.mono e2)⟩
      exact ⟨p, cl, dx, gs, rfl, hg, c, n, by rw [rf.length]; exact hl, er.nx σ F2 _ ρ _ (e1.trans e2) h3 (en.mono (e1.trans e2)) q2⟩
    · exact fun z => z.elim⟩⟩
end

/-! ### a def's body keeps its promise -/
def endsD (P : DK) : DEnds := { nx := fun _ C' => ∃ C2, Sub C2 C' ∧ P .non C2, rt := fun d C' => ∃ C2, Sub C2 C' ∧ P d C2, bk := fun _ _ => False, ct := fun _ _ => False, ex := fun _ _ _ _ => False }
def endsX (P : DK) (PX : XC) : DEnds := { nx := fun _ C' => ∃ C2, Sub C2 C' ∧ P .non C2, rt := fun d C' => ∃ C2, Sub C2 C' ∧ P d C2, bk := fun _ _ => False, ct := fun _ _ => False, ex := fun cls fs _ C' => ∃ C2, Sub C2 C' ∧ PX cls fs C2 }
def startD (N : List Str) (ds : List D) : DEnv := ds.map some ++ List.replicate (N.length - ds.length) none
theorem start_ok {K : PySem.W.Frag} {F : Hp} {N : List Str} {vs : List V} {ds : List D} (r : RepL K F vs ds) : EnvR K F (L2.start N vs) (startD N ds) := by
  have hl := r.length
  refine ⟨by simp [L2.start, startD, hl], fun i d h => ?_⟩
  unfold startD at h
  unfold L2.start
  rcases Nat.lt_or_ge i ds.length with z | z
  · rw [List.getElem?_append_left (by simpa using z), List.getElem?_map] at h
    cases e : ds[i]? with
    | none => rw [e] at h; cases h
    | some d' =>
      rw [e] at h
      simp only [Option.map_some, Option.some.injEq] at h
      subst h
      obtain ⟨v, hv, rv⟩ := r.get e
      exact ⟨v, by rw [List.getElem?_append_left (by simpa [hl] using z), List.getElem?_map, hv]; rfl, rv⟩
  · rw [List.getElem?_append_right (by simpa using z)] at h
    have := List.mem_of_getElem? h
    simp at this
section
variable {P : Program} {w : World} {K : PySem.W.Frag} {mg : Str → Option Value} {base : Heap} {x qual : Str} {st : Stmt} {f : Addr} {fd : FuncData} {N ps : List Str} {k : Nat} {R : DSp} {RX : DSpX} {ws : DS}
abbrev W0 : WX := fun _ _ _ _ => False
theorem ok_D (F : Fun K x qual st f fd) (S : FnScope N ps (defScope st)) (len : ∀ ds C Pk, R ds C Pk → ds.length = ps.length)
    (hbody : ∀ (cdv : Value) (A : Around) (outer : List Env) (s : Shared) (H : Hp) (E : XK), Room k (A.deeper (envOfC qual (defScope st) s.heap.objs.size f cdv)) → PSs (cxOf CX0 P w K mg base N qual (defScope st) f cdv A outer s H E).nox (defBody st) (tS K W0 ws))
    (hw : ∀ ds C Pk, R ds C Pk → ws (endsD Pk) (startD N ds) C) : FnOk P w K mg base CX0 (k + 1) f fd ps (spD K R) := by
  refine F.ok S (fun vs H Q E ⟨F1, C, ds, Pk, hs, r, h, _⟩ => by rw [r.length]; exact len ds C Pk h) fun cdv A outer s H vs Q E hr ⟨F1, C, ds, Pk, hs, r, h, kk⟩ => ?_
  refine ⟨_, hbody cdv A outer s H E hr, F1, C, startD N ds, endsD Pk, hs, start_ok r, fun _ _ _ _ _ _ _ _ _ _ _ _ z => z.elim, hw ds C Pk h, ?_⟩
  exact ⟨fun σ F2 H2 ρ C2 e2 h2 n2 ⟨C3, s3, q⟩ => kk _ F2 H2 _ C3 e2 (h2.sub s3) .non q, fun v F2 H2 d C2 e2 h2 rv ⟨C3, s3, q⟩ => kk v F2 H2 d C3 e2 (h2.sub s3) rv q, fun _ _ _ _ _ _ _ _ z => z.elim, fun _ _ _ _ _ _ _ _ z => z.elim⟩
/-- what leaves this def -/
abbrev WD (E : XK) : WX := fun cls d _ H => E cls d H
theorem ok_DX (F : Fun K x qual st f fd) (S : FnScope N ps (defScope st)) (len : ∀ ds C Pk PX, RX ds C Pk PX → ds.length = ps.length)
    (hbody : ∀ (cdv : Value) (A : Around) (outer : List Env) (s : Shared) (H : Hp) (E : XK), Room k (A.deeper (envOfC qual (defScope st) s.heap.objs.size f cdv)) → Takes (cxOf (L2.CX P w) P w K mg base N qual (defScope st) f cdv A outer s H E) (WD E) →
      PSs (cxOf (L2.CX P w) P w K mg base N qual (defScope st) f cdv A outer s H E) (defBody st) (tS K (WD E) ws))
    (hw : ∀ ds C Pk PX, RX ds C Pk PX → ws (endsX Pk PX) (startD N ds) C) : FnOk P w K mg base (L2.CX P w) (k + 1) f fd ps (spX K RX) := by
  refine F.okX S (fun vs H Q E ⟨F1, C, ds, Pk, PX, hs, r, h, _⟩ => by rw [r.length]; exact len ds C Pk PX h) fun cdv A outer s H vs Q E hr ⟨F1, C, ds, Pk, PX, hs, r, h, kk, kx⟩ => ?_
  refine ⟨_, hbody cdv A outer s H E hr (takes_of rfl rfl rfl rfl), F1, C, startD N ds, endsX Pk PX, hs, start_ok r, fun cls d fs σ F2 H2 ρ C2 e2 h2 n2 rx ⟨C3, s3, q⟩ => kx cls d fs F2 H2 C3 e2 (h2.sub s3) rx q, hw ds C Pk PX h, ?_⟩
  exact ⟨fun σ F2 H2 ρ C2 e2 h2 n2 ⟨C3, s3, q⟩ => kk _ F2 H2 _ C3 e2 (h2.sub s3) .non q, fun v F2 H2 d C2 e2 h2 rv ⟨C3, s3, q⟩ => kk v F2 H2 d C3 e2 (h2.sub s3) rv q, fun _ _ _ _ _ _ _ _ z => z.elim, fun _ _ _ _ _ _ _ _ z => z.elim⟩
end
end DD

set_option Elab.async false
set_option linter.all false
set_option maxRecDepth 100000
set_option maxHeartbeats 4000000
/-! Readings over data: lists, tuples, built-ins, equality, comprehensions. -/
namespace DD
open PySem L2 PyProof.Rows

/-! ### sequences -/
def seqOf (x : D) (C : Cells) : Option (List D) := match x with
  | .lst ds => some ds
  | .ptr a => match C a with
    | some (.lst ds) => some ds
    | _ => none
  | _ => none
/-- a list or a tuple -/
def itsOf (x : D) (C : Cells) : Option (List D) := match x with
  | .tup ds => some ds
  | .ktup ds => some ds
  | x => seqOf x C
section
variable {K : PySem.W.Frag} {F H : Hp} {C : Cells} {v : V} {x : D} {ds : List D}
theorem seq_of (hs : Hs K F C H) (r : Rep K F v x) (h : seqOf x C = some ds) : ∃ a xs, v = .ref a ∧ SqL K H a xs ∧ RepL K F xs ds := by
  cases r <;> first | (simp [seqOf] at h; done) | skip
  · rename_i a xs ds' hq hr
    simp only [seqOf, Option.some.injEq] at h
    subst h
    exact ⟨a, xs, rfl, ex_l hs.ex hq, hr⟩
  · rename_i a
    simp only [seqOf] at h
    split at h
    · rename_i ds' hc
      simp only [Option.some.injEq] at h
      subst h
      obtain ⟨_, xs, hx, r⟩ := hs.cell a _ hc
      exact ⟨a, xs, rfl, .of hx, r⟩
    · cases h
theorem its_of (hs : Hs K F C H) (r : Rep K F v x) (h : itsOf x C = some ds) : ∃ a xs, v = .ref a ∧ (SqL K H a xs ∨ SqT K H a xs) ∧ RepL K F xs ds := by
  have go : seqOf x C = some ds → ∃ a xs, v = .ref a ∧ (SqL K H a xs ∨ SqT K H a xs) ∧ RepL K F xs ds := fun h => by
    obtain ⟨a, xs, h1, h2, h3⟩ := seq_of hs r h
    exact ⟨a, xs, h1, .inl h2, h3⟩
  cases r <;> first
    | exact go h
    | (rename_i a xs ds' hq hr
       simp only [itsOf, Option.some.injEq] at h
       subst h
       exact ⟨a, xs, rfl, .inr (by first | exact .of (hs.ex.nd hq rfl) | exact ex_t hs.ex hq), hr⟩)
theorem atI_rep {xs : List V} {d : D} {i : Int} (r : RepL K F xs ds) (h : atI ds i = some d) : ∃ u, atI xs i = some u ∧ Rep K F u d := by
  unfold atI at h ⊢
  rw [r.length]
  cases e : ixN ds.length i with
  | none => rw [e] at h; cases h
  | some j =>
    rw [e] at h
    exact r.get h
end
/-- len(x) -/
def lenOf (x : D) (C : Cells) : Option Nat := match x with
  | .str z => if z.length ≤ 100000 then some z.length else none
  | x => (itsOf x C).map (·.length)
def dLen (ds : List D) (C : Cells) (P : DK) : Prop := match ds with
  | [x] => match lenOf x C with
    | some n => P (.int n) C
    | none => False
  | _ => False
/-- x[i] -/
def itemOf (x : D) (C : Cells) (i : Int) : Option D := match x with
  | .str z => if z.length ≤ 100000 then (atI z.cps.toList i).map fun c => .str ⟨#[c]⟩ else none
  | x => (itsOf x C).bind fun ds => atI ds i
def dIx (x : D) (y : D) (C : Cells) (P : DK) : Prop := match y with
  | .int i => match itemOf x C i with
    | some d => P d C
    | none => False
  | _ => False
section
variable {K : PySem.W.Frag}
theorem RepL.one {F : Hp} {xs : List V} {x : D} (r : RepL K F xs [x]) : ∃ v, xs = [v] ∧ Rep K F v x := by
  cases r with
  | cons r1 r2 =>
    cases r2
    exact ⟨_, rfl, r1⟩
theorem s_len : SimA K (fun xs H Q => ∃ x n, xs = [x] ∧ LenV K x H n ∧ Q (.int n) H) dLen := fun F C H xs ds P Q hs r w k => by
  revert w
  unfold dLen
  split
  · rename_i x
    split
    · rename_i n hn
      intro w
      obtain ⟨v, rfl, r1⟩ := r.one
      refine ⟨v, n, rfl, ?_, k _ F H _ C (Ex.refl F) hs (.int _) w⟩
      have go : ∀ ds', itsOf x C = some ds' → n = ds'.length → LenV K v H n := fun ds' e en => by
        obtain ⟨a, xs, rfl, h2, h3⟩ := its_of hs r1 e
        show (∃ xs, SqL K H a xs ∧ n = xs.length) ∨ ∃ xs, SqT K H a xs ∧ n = xs.length
        rcases h2 with h2 | h2
        · exact .inl ⟨xs, h2, by rw [en, h3.length]⟩
        · exact .inr ⟨xs, h2, by rw [en, h3.length]⟩
      cases r1 <;> first
        | (simp only [lenOf, Option.map_eq_some_iff] at hn
           obtain ⟨ds', e1, e2⟩ := hn
           exact go ds' e1 e2.symm)
        | (simp only [lenOf] at hn
           split at hn
           · rename_i hz
             cases hn
             exact ⟨sz_of hz, rfl⟩
           · cases hn)
    · exact fun z => z.elim
  · exact fun z => z.elim
theorem s_ix : SimR K (rIx K) dIx := fun F C H x y dx dy P Q hs rx ry w k => by
  revert w
  unfold dIx
  split
  · rename_i i
    cases ry
    split
    · rename_i d hd
      intro w
      have go : ∀ ds', itsOf dx C = some ds' → atI ds' i = some d → rIx K x (.int i) H Q := fun ds' e en => by
        obtain ⟨a, xs, rfl, h2, h3⟩ := its_of hs rx e
        obtain ⟨u, hu, ru⟩ := atI_rep h3 en
        rcases h2 with h2 | h2
        · exact .inl ⟨a, xs, i, u, rfl, rfl, h2, hu, k u F H d C (Ex.refl F) hs ru w⟩
        · exact .inr (.inl ⟨a, xs, i, u, rfl, rfl, h2, hu, k u F H d C (Ex.refl F) hs ru w⟩)
      cases rx <;> first
        | (simp only [itemOf, Option.bind_eq_some_iff] at hd
           obtain ⟨ds', e1, e2⟩ := hd
           exact go ds' e1 e2)
        | (simp only [itemOf] at hd
           split at hd
           · rename_i hz
             rw [Option.map_eq_some_iff] at hd
             obtain ⟨c, hc, rfl⟩ := hd
             exact .inr (.inr ⟨_, i, c, rfl, rfl, sz_of hz, hc, k _ F H _ C (Ex.refl F) hs (.str _) w⟩)
           · cases hd)
    · exact fun z => z.elim
  · exact fun z => z.elim
end

/-! ### a list that changes -/
def wSetL (o i e : DE) (E : DEnds) (ρ : DEnv) (C : Cells) : Prop := e ρ C (fun d C1 => o ρ C1 (fun x C2 => i ρ C2 (fun y C3 => match x, y with
  | .ptr a, .int n => match C3 a with
    | some (.lst ds) => match ixN ds.length n with
      | some j => E.nx ρ (cput C3 a (.lst (ds.set j d)))
      | none => False
    | _ => False
  | _, _ => False) E.ex) E.ex) E.ex
/-- o[i] op= e -/
def wAugL (o i e : DE) (r : DR2) (E : DEnds) (ρ : DEnv) (C : Cells) : Prop := o ρ C (fun x C1 => i ρ C1 (fun y C2 => match x, y with
  | .ptr a, .int n => match C2 a with
    | some (.lst ds) => match atI ds n with
      | some d => e ρ C2 (fun z C3 => r d z C3 (fun u C4 => match C4 a with
        | some (.lst ds') => match ixN ds'.length n with
          | some j => E.nx ρ (cput C4 a (.lst (ds'.set j u)))
          | none => False
        | _ => False)) E.ex
      | none => False
    | _ => False
  | _, _ => False) E.ex) E.ex
abbrev DRM := D → List D → Cells → DK → Prop
def isSeq (x : D) (C : Cells) : Prop := (seqOf x C).isSome = true
/-- a list's method -/
def wBML (r : DRM) (o : DE) (a : DA) (ρ : DEnv) (C : Cells) (P : DK) (PX : DX) : Prop := o ρ C (fun x C1 => isSeq x C1 ∧ a ρ C1 (fun ds C2 => r x ds C2 P) PX) PX
def SimM (K : PySem.W.Frag) (r : V → List V → Hp → VK → Prop) (rd : DRM) : Prop := ∀ F C H x dx xs ds P Q, Hs K F C H → Rep K F x dx → RepL K F xs ds → rd dx ds C P → Kont K F P Q → r x xs H Q
def dAppend (x : D) (ds : List D) (C : Cells) (P : DK) : Prop := match x, ds with
  | .ptr a, [d] => match C a with
    | some (.lst xs) => xs.length < 100000 ∧ P .non (cput C a (.lst (xs ++ [d])))
    | _ => False
  | _, _ => False
def dPop (x : D) (ds : List D) (C : Cells) (P : DK) : Prop := match x, ds with
  | .ptr a, [] => match C a with
    | some (.lst xs) => match xs[xs.length - 1]? with
      | some d => P d (cput C a (.lst xs.dropLast))
      | none => False
    | _ => False
  | _, _ => False
section
variable {X : Cx} {W : WX} {K : PySem.W.Frag} {o i e : Expr} {es : List Expr} {wo wi we : DE} {wr : DA} {pos tpos apos : Pos}
theorem i_setL {F H : Hp} {C : Cells} {a : Addr} {ds : List D} {d : D} {v : V} {j : Nat} (hs : Hs K F C H) (hc : C a = some (.lst ds)) (rv : Rep K F v d) :
    ∃ xs, H a = some (.lst xs) ∧ xs.length = ds.length ∧ RepL K F xs ds ∧ Hs K F (cput C a (.lst (ds.set j d))) (upd H a (.lst (xs.set j v))) := by
  obtain ⟨f0, xs, hx, r⟩ := hs.cell a _ hc
  exact ⟨xs, hx, r.length, r, hs.put (c := .lst (ds.set j d)) f0 ⟨_, upd_same, r.set rv j⟩⟩
theorem ds_setL (ho : PE X o (tE X.K W wo)) (hi : PE X i (tE X.K W wi)) (he : PE X e (tE X.K W we))
    (ha : ∀ v, assign (.Subscript o i pos) X.env v = (do
      let ov ← holding [v] (eval o X.env)
      let iv ← holding [v, ov] (eval i X.env)
      standAt pos
      holding [v, ov, iv] (setItem ov iv v)
      release [v, ov, iv] []) := by intro _; rfl)
    (hs : swapsWithSole [.Subscript o i pos] e tpos.line X.env = pure false := by rfl) (hw : swappedStores [.Subscript o i pos] e X.env = pure none := by rfl)
    (h1 : (assignEach [.Subscript o i pos] X.env).map (·.2) = [assign (.Subscript o i pos) X.env] := by rfl) : PS X (.Assign [.Subscript o i pos] e tpos) (tS X.K W (wSetL wo wi we)) :=
  PS.imp (ps_asg he (pg_sub ho hi set_list ha) hs hw h1) fun Dn σ H ⟨F, C, ρ, DE, hs, en, xr, w, er⟩ =>
  ⟨F, C, ρ, _, _, hs, en, xr, w, fun v F1 H1 d C1 e1 h1 rv q => ⟨F1, C1, ρ, _, _, h1, en.mono e1, xr.mono e1, q, fun x F2 H2 dx C2 e2 h2 rx q2 => ⟨F2, C2, ρ, _, _, h2, en.mono (e1.trans e2), xr.mono (e1.trans e2), q2, fun y F3 H3 dy C3 e3 h3 ry q3 => by
    revert q3
    dsimp only
    split
    · rename_i a n
      cases ry
      cases rx
      split
      · rename_i ds hc
        split
        · rename_i j hj
          intro q3
          obtain ⟨xs, hx, hl, r, h4⟩ := i_setL (j := j) h3 hc (rv.mono (e2.trans e3))
          exact ⟨a, xs, n, j, rfl, rfl, hx, by rw [hl]; exact hj, er.nx σ F3 _ ρ _ ((e1.trans e2).trans e3) h4 (en.mono ((e1.trans e2).trans e3)) q3⟩
        · exact fun z => z.elim
      · exact fun z => z.elim
    · exact fun z => z.elim⟩⟩⟩
theorem get_list : PGet X (rIxL X.K) := by
  intro pins s σ H x y v u Q I rx ry h
  obtain ⟨p, xs, i, z, rfl, rfl, hq, he, q⟩ := h
  cases rx
  obtain ⟨t, rfl⟩ := ry
  obtain ⟨its, r, pl, hz⟩ := I.list hq
  obtain ⟨j, h1, h2, h3, h4, h5⟩ := atI_get he
  obtain ⟨w, ew, rw'⟩ := r.get h2
  have hl := r.length
  have hn := line63
  have fin : EP X pins σ Q w s := ⟨z, H, I, rw', q⟩
  by_cases h0 : 0 ≤ i
  · have hj : i.toNat = j := by
      rw [seqIndex_of h0 h5] at h1
      exact Option.some.inj h1
    exact wpAny_getItem_list (x := w) pl.isList h0 (by omega) (by rw [hj]; simpa using ew) fin
  · have hj : (i + (its.toArray.size : Int)).toNat = j := by
      rw [seqIndex_neg (by omega) h4] at h1
      rw [List.size_toArray, ← hl]
      exact Option.some.inj h1
    exact wpAny_getItem_list_neg (x := w) pl.isList (by omega) (by rw [List.size_toArray] <;> omega) (by omega) (by rw [hj]; simpa using ew) fin
theorem ds_augL {op : Operator} {ti : TIp} {rd : DR2} (ho : PE X o (tE X.K W wo)) (hi : PE X i (tE X.K W wi)) (he : PE X e (tE X.K W we)) (hp : PIp X op ti) (hr : SimR X.K ti rd)
    (ha : ∀ ov iv new, augStore i ov iv new = (do holding [new, ov, iv] (setItem ov iv new); release [new, ov, iv] []; pure .next) := by intros; rfl) : PS X (.AugAssign (.Subscript o i tpos) op e pos) (tS X.K W (wAugL wo wi we rd)) :=
  PS.imp (ps_augS ho hi get_list he hp set_list ha) fun Dn σ H ⟨F, C, ρ, DE, hs, en, xr, w, er⟩ =>
  ⟨F, C, ρ, _, _, hs, en, xr, w, fun x F1 H1 dx C1 e1 h1 rx q => ⟨F1, C1, ρ, _, _, h1, en.mono e1, xr.mono e1, q, fun y F2 H2 dy C2 e2 h2 ry q2 => by
    revert q2
    dsimp only
    split
    · rename_i a n
      cases ry
      cases rx
      split
      · rename_i ds hc
        split
        · rename_i d hd
          intro q2
          obtain ⟨f0, xs, hx, r⟩ := h2.cell a _ hc
          obtain ⟨u, hu, ru⟩ := atI_rep r hd
          refine ⟨a, xs, n, u, rfl, rfl, .of hx, hu, F2, C2, ρ, _, _, h2, en.mono (e1.trans e2), xr.mono (e1.trans e2), q2, fun z F3 H3 dz C3 e3 h3 rz q3 => hr F3 C3 H3 u z d dz _ _ h3 (ru.mono e3) rz q3 fun g F4 H4 dg C4 e4 h4 rg q4 => ?_⟩
          revert q4
          split
          · rename_i ds' hc'
            split
            · rename_i j hj
              intro q4
              obtain ⟨xs', hx', hl', r', h5⟩ := i_setL (j := j) h4 hc' rg
              have ee := ((e1.trans e2).trans e3).trans e4
              exact ⟨a, xs', n, j, rfl, rfl, hx', by rw [hl']; exact hj, er.nx σ F4 _ ρ _ ee h5 (en.mono ee) q4⟩
            · exact fun z => z.elim
          · exact fun z => z.elim
        · exact fun z => z.elim
      · exact fun z => z.elim
    · exact fun z => z.elim⟩⟩
theorem isSeq_ty {F H : Hp} {C : Cells} {v : V} {x : D} (hs : Hs K F C H) (r : Rep K F v x) (h : isSeq x C) : tyV K "list" v H := by
  unfold isSeq at h
  obtain ⟨ds, hd⟩ := Option.isSome_iff_exists.mp h
  obtain ⟨a, xs, rfl, h2, _⟩ := seq_of hs r hd
  exact .inl ⟨rfl, xs, h2⟩
theorem d_bmL {id : String} {name : Str} {r : V → List V → Hp → VK → Prop} {rd : DRM} (pa : PlainAttrs "list") (slot : Slot "list" name id) (hty : typeOf (.builtin id) = pure (.type "method_descriptor")) (hm : MtR X id r) (hr : SimM X.K r rd) (ho : PE X o (tE X.K W wo)) (ha : PA X (e :: es) (tA X.K W wr))
    (hbase : attributeBase o name X.env (eval o X.env) = eval o X.env := by rfl)
    (hfew : ((backTo pos (starEach (e :: es) X.env)).all (fun x => !x.1) && (backToKw pos (keywordEach [] X.env)).all (fun x => x.1.isSome)
      && decide ((e :: es).length + ([] : List Keyword).length + (if ([] : List Keyword).isEmpty then 0 else 1) < 30)) = true := by rfl)
    (hline : (apos.endLine == pos.line) = true := by rfl) (hs : starEach (e :: es) X.env = (false, eval e X.env) :: starEach es X.env := by rfl) (hplain : (backTo pos (starEach es X.env)).any (·.1) = false := by rfl) :
    PE X (.Call (.Attribute o name apos) (e :: es) [] pos) (tE X.K W (wBML rd wo wr)) :=
  PE.imp (pe_bm pa slot hty hm ho ha hbase hfew hline hs hplain) fun σ H Q ⟨F, C, ρ, P, PX, hs, en, xr, w, k⟩ => ⟨F, C, ρ, _, PX, hs, en, xr, w, fun v F1 H1 d C1 e1 h1 rv q => ⟨isSeq_ty h1 rv q.1, F1, C1, ρ, _, PX, h1, en.mono e1, xr.mono e1, q.2, fun vs F2 H2 ds C2 e2 h2 rl q2 => hr F2 C2 H2 v d vs ds P Q h2 (rv.mono e2) rl q2 (k.mono (e1.trans e2))⟩⟩
theorem d_bmL0 {id : String} {name : Str} {r : V → List V → Hp → VK → Prop} {rd : DRM} (pa : PlainAttrs "list") (slot : Slot "list" name id) (hty : typeOf (.builtin id) = pure (.type "method_descriptor")) (hm : MtR X id r) (hr : SimM X.K r rd) (ho : PE X o (tE X.K W wo))
    (hbase : attributeBase o name X.env (eval o X.env) = eval o X.env := by rfl) (hline : (apos.endLine == pos.line) = true := by rfl) : PE X (.Call (.Attribute o name apos) [] [] pos) (tE X.K W (wBML rd wo wNil)) :=
  PE.imp (pe_bm0 pa slot hty hm ho hbase hline) fun σ H Q ⟨F, C, ρ, P, PX, hs, en, xr, w, k⟩ => ⟨F, C, ρ, _, PX, hs, en, xr, w, fun v F1 H1 d C1 e1 h1 rv q => ⟨isSeq_ty h1 rv q.1, hr F1 C1 H1 v d [] [] P Q h1 rv .nil q.2 (k.mono e1)⟩⟩
theorem s_append : SimM K rAppend dAppend := fun F C H x dx xs ds P Q hs rx rl w k => by
  revert w
  unfold dAppend
  split
  · rename_i a d
    cases rx
    split
    · rename_i ys hc
      rintro ⟨hl, w⟩
      cases rl with
      | cons r1 r2 =>
        cases r2
        obtain ⟨f0, zs, hx, r⟩ := hs.cell a _ hc
        exact ⟨a, zs, _, rfl, rfl, hx, by rw [r.length]; exact sz_lt hl, k _ F _ _ _ (Ex.refl F) (hs.put (c := .lst (ys ++ [d])) f0 ⟨_, upd_same, r.append (.cons r1 .nil)⟩) .non w⟩
    · exact fun z => z.elim
  · exact fun z => z.elim
theorem s_pop : SimM K rPop dPop := fun F C H x dx xs ds P Q hs rx rl w k => by
  revert w
  unfold dPop
  split
  · rename_i a
    cases rx
    cases rl
    split
    · rename_i ys hc
      split
      · rename_i d hd
        intro w
        obtain ⟨f0, zs, hx, r⟩ := hs.cell a _ hc
        obtain ⟨u, hu, ru⟩ := r.get hd
        exact ⟨a, zs, u, rfl, rfl, hx, by rw [r.length]; exact hu, k _ F _ _ _ (Ex.refl F) (hs.put (c := .lst ys.dropLast) f0 ⟨_, upd_same, r.dropLast⟩) ru w⟩
      · exact fun z => z.elim
    · exact fun z => z.elim
  · exact fun z => z.elim
end
/-! ### + and * of lists, slices, list(..) -/
def dCat (x : D) (y : D) (C : Cells) (P : DK) : Prop := match seqOf x C, seqOf y C with
  | some xs, some ys => xs.length + ys.length ≤ 100000 ∧ P (.lst (xs ++ ys)) C
  | _, _ => False
def rCatS (K : PySem.W.Frag) : R2 := fun x y H Q => ∃ l b xs zs, x = .ref l ∧ y = .ref b ∧ SqL K H l xs ∧ SqL K H b zs ∧ xs.length + zs.length ≤ sizeLine ∧ ∀ p, H p = none → Q (.ref p) (upd H p (.lst (xs ++ zs)))
theorem op_catS {X : Cx} : OpR X (binaryOp .Add) (rCatS X.K) := by
  intro pins s σ H x y v u Q I rx ry h
  obtain ⟨l, b, xs, zs, rfl, rfl, hH, hB, hz, q⟩ := h
  cases rx
  cases ry
  obtain ⟨its, r, pl, _⟩ := I.list hH
  obtain ⟨its2, r2, pl2, _⟩ := I.list hB
  obtain ⟨⟨cls, dd, data, sl⟩, ho, hc, n, hd⟩ := id pl.isList
  obtain ⟨⟨cls2, dd2, data2, sl2⟩, ho2, hc2, n2, hd2⟩ := id pl2.isList
  simp only at hc hd hc2 hd2
  subst hc hd hc2 hd2
  have hl := r.length
  have hl2 := r2.length
  have e : its.toArray ++ its2.toArray = (its ++ its2).toArray := by simp
  refine concat_meets ⟨_, ho, rfl⟩ ⟨_, ho2, rfl⟩ noFill_list_add seq_list_add PySem.F.slot_list_add PySem.F.entry_list_add (PySem.F.args_list_add_2 _ _) (list_addW l b its.toArray its2.toArray n n2 dd dd2 sl sl2 (by rw [List.size_toArray, List.size_toArray]; omega)) ⟨ho, ho2, ?_⟩
  rw [e]
  exact ⟨.ref _, _, I.lnew (t' := s.toks) (r.append r2) (by rw [List.length_append]; omega), rfl, q _ I.fresh⟩
section
variable {X : Cx} {W : WX} {K : PySem.W.Frag}
theorem s_cat : SimR K (rCatS K) dCat := fun F C H x y dx dy P Q hs rx ry w k => by
  revert w
  unfold dCat
  split
  · rename_i xs ys h1 h2
    rintro ⟨hz, w⟩
    obtain ⟨a, us, rfl, hu, ru⟩ := seq_of hs rx h1
    obtain ⟨b, vs, rfl, hv, rv⟩ := seq_of hs ry h2
    refine ⟨a, b, us, vs, rfl, rfl, hu, hv, by rw [ru.length, rv.length]; exact sz_of hz, fun p hp => ?_⟩
    obtain ⟨e2, h3, r3⟩ := hs.newL (ru.append rv) hp
    exact k _ _ _ _ C e2 h3 r3 w
  · exact fun z => z.elim
/-- [e, ..] * n, the new list frozen, or a cell -/
def wRep (a : DA) (n : DE) (ρ : DEnv) (C : Cells) (P : DK) (PX : DX) : Prop := a ρ C (fun ds C1 => ds.length ≤ 100000 ∧ n ρ C1 (fun y C2 => match y with
  | .int k => (-(2 ^ 63) ≤ k ∧ k < 2 ^ 63 ∧ ds.length * k.toNat ≤ 100000) ∧ P (.lst (List.replicate k.toNat ds).flatten) C2
  | _ => False) PX) PX
def wRepC (a : DA) (n : DE) (ρ : DEnv) (C : Cells) (P : DK) (PX : DX) : Prop := a ρ C (fun ds C1 => ds.length ≤ 100000 ∧ n ρ C1 (fun y C2 => match y with
  | .int k => (-(2 ^ 63) ≤ k ∧ k < 2 ^ 63 ∧ ds.length * k.toNat ≤ 100000) ∧ ∀ p, C2 p = none → P (.ptr p) (cput C2 p (.lst (List.replicate k.toNat ds).flatten))
  | _ => False) PX) PX
theorem RepL.flat {F : Hp} {xs : List V} {ds : List D} (r : RepL K F xs ds) : ∀ n, RepL K F (List.replicate n xs).flatten (List.replicate n ds).flatten
  | 0 => .nil
  | n + 1 => by
    rw [List.replicate_succ, List.flatten_cons, List.replicate_succ, List.flatten_cons]
    exact r.append (RepL.flat r n)
theorem d_rep {es : List Expr} {b : Expr} {wr : DA} {wb : DE} {pos p2 : Pos} (ha : PA X es (tA X.K W wr)) (hb : PE X b (tE X.K W wb)) : PE X (.BinOp (.List es p2) .Mult b pos) (tE X.K W (wRep wr wb)) :=
  PE.imp (pe_op op_rep (pe_lst ha) hb) fun σ H Q ⟨F, C, ρ, P, PX, hs, en, xr, w, k⟩ => by
  refine ⟨F, C, ρ, _, PX, hs, en, xr, w, fun vs F1 H1 ds C1 e1 h1 r q => ?_⟩
  obtain ⟨hz, q⟩ := q
  refine ⟨by rw [r.length]; exact sz_of hz, fun p hp => ?_⟩
  obtain ⟨e2, h2, r2⟩ := h1.newL r hp
  refine ⟨_, C1, ρ, _, PX, h2, en.mono (e1.trans e2), xr.mono (e1.trans e2), q, fun u F3 H3 dy C3 e3 h3 ry q3 => ?_⟩
  revert q3
  dsimp only
  split
  · rename_i n
    rintro ⟨⟨b1, b2, b3⟩, q3⟩
    cases ry
    refine ⟨p, n, vs, rfl, rfl, h3.ex.nd (e3.nd upd_same rfl) rfl, b1, b2, by rw [r.length]; exact sz_of b3, fun l hl => ?_⟩
    obtain ⟨e4, h4, r4⟩ := h3.newL ((r.mono (e2.trans e3)).flat n.toNat) hl
    exact k _ _ _ _ C3 (((e1.trans e2).trans e3).trans e4) h4 r4 q3
  · exact fun z => z.elim
theorem d_repC {es : List Expr} {b : Expr} {wr : DA} {wb : DE} {pos p2 : Pos} (ha : PA X es (tA X.K W wr)) (hb : PE X b (tE X.K W wb)) : PE X (.BinOp (.List es p2) .Mult b pos) (tE X.K W (wRepC wr wb)) :=
  PE.imp (pe_op op_rep (pe_lst ha) hb) fun σ H Q ⟨F, C, ρ, P, PX, hs, en, xr, w, k⟩ => by
  refine ⟨F, C, ρ, _, PX, hs, en, xr, w, fun vs F1 H1 ds C1 e1 h1 r q => ?_⟩
  obtain ⟨hz, q⟩ := q
  refine ⟨by rw [r.length]; exact sz_of hz, fun p hp => ?_⟩
  obtain ⟨e2, h2, r2⟩ := h1.newL r hp
  refine ⟨_, C1, ρ, _, PX, h2, en.mono (e1.trans e2), xr.mono (e1.trans e2), q, fun u F3 H3 dy C3 e3 h3 ry q3 => ?_⟩
  revert q3
  dsimp only
  split
  · rename_i n
    rintro ⟨⟨b1, b2, b3⟩, q3⟩
    cases ry
    refine ⟨p, n, vs, rfl, rfl, h3.ex.nd (e3.nd upd_same rfl) rfl, b1, b2, by rw [r.length]; exact sz_of b3, fun l hl => ?_⟩
    obtain ⟨c0, h4⟩ := h3.newC ((r.mono (e2.trans e3)).flat n.toNat) hl
    exact k _ _ _ _ _ ((e1.trans e2).trans e3) h4 (.ptr l) (q3 l c0)
  · exact fun z => z.elim
end
/-! ### slices -/
abbrev DO := DEnv → Cells → (Option Int → Cells → Prop) → DX → Prop
def wNoPart (_ : DEnv) (C : Cells) (P : Option Int → Cells → Prop) (_ : DX) : Prop := P none C
def wPart (e : DE) (ρ : DEnv) (C : Cells) (P : Option Int → Cells → Prop) (PX : DX) : Prop := e ρ C (fun d C1 => match d with | .int i => P (some i) C1 | _ => False) PX
def tO (K : PySem.W.Frag) (W : WX) (w : DO) : TO := fun σ H Q => ∃ F C ρ P PX, Hs K F C H ∧ EnvR K F σ ρ ∧ ExR K F W PX ∧ w ρ C P PX ∧ ∀ o F' H' C', Ex F F' → Hs K F' C' H' → P o C' → Q o H'
theorem PO.imp {X : Cx} {e : Option Expr} {t t' : TO} (h : PO X e t) (i : ∀ σ H Q, t' σ H Q → t σ H Q) : PO X e t' := ⟨fun pins s σ H Q I w => h.run pins s σ H Q I (i σ H Q w)⟩
def cutD (xs : List D) (lo hi : Option Int) : List D := (xs.drop (HT.sIx xs.length 0 lo)).take (HT.sIx xs.length xs.length hi - HT.sIx xs.length 0 lo)
def wSl (e : DE) (lo hi : DO) (ρ : DEnv) (C : Cells) (P : DK) (PX : DX) : Prop := e ρ C (fun x C1 => lo ρ C1 (fun l C2 => hi ρ C2 (fun h C3 => match seqOf x C3 with
  | some ds => P (.lst (cutD ds l h)) C3
  | none => False) PX) PX) PX
section
variable {X : Cx} {W : WX} {K : PySem.W.Frag}
theorem do_none : PO X none (tO X.K W wNoPart) := PO.imp po_none fun σ H Q ⟨F, C, ρ, P, PX, hs, en, xr, w, k⟩ => k _ F H C (Ex.refl F) hs w
theorem do_some {e : Expr} {we : DE} (he : PE X e (tE X.K W we)) : PO X (some e) (tO X.K W (wPart we)) := PO.imp (po_some he) fun σ H Q ⟨F, C, ρ, P, PX, hs, en, xr, w, k⟩ =>
  ⟨F, C, ρ, _, PX, hs, en, xr, w, fun v F1 H1 d C1 e1 h1 r q => by
    cases r <;> first | exact q.elim | exact ⟨_, rfl, k _ F1 H1 C1 e1 h1 q⟩⟩
theorem RepL.cut {F : Hp} {xs : List V} {ds : List D} (r : RepL K F xs ds) (lo hi : Option Int) : RepL K F (cutV xs lo hi) (cutD ds lo hi) := by
  unfold cutV cutD
  rw [r.length]
  exact (r.drop _).take _
theorem d_sl {e : Expr} {lo hi : Option Expr} {we : DE} {wl wh : DO} {p2 pos : Pos} (he : PE X e (tE X.K W we)) (hl : PO X lo (tO X.K W wl)) (hh : PO X hi (tO X.K W wh)) : PE X (.Subscript e (.Slice lo hi none p2) pos) (tE X.K W (wSl we wl wh)) :=
  PE.imp (pe_slice sl_list he hl hh) fun σ H Q ⟨F, C, ρ, P, PX, hs, en, xr, w, k⟩ =>
  ⟨F, C, ρ, _, PX, hs, en, xr, w, fun v F1 H1 x C1 e1 h1 rv q => ⟨F1, C1, ρ, _, PX, h1, en.mono e1, xr.mono e1, q, fun l F2 H2 C2 e2 h2 q2 => ⟨F2, C2, ρ, _, PX, h2, en.mono (e1.trans e2), xr.mono (e1.trans e2), q2, fun h F3 H3 C3 e3 h3 q3 => by
    revert q3
    dsimp only
    split
    · rename_i ds hd
      intro q3
      obtain ⟨a, us, rfl, hu, ru⟩ := seq_of h3 (rv.mono (e2.trans e3)) hd
      refine ⟨a, us, rfl, hu, fun p hp => ?_⟩
      obtain ⟨e4, h4, r4⟩ := h3.newL (ru.cut l h) hp
      exact k _ _ _ _ C3 (((e1.trans e2).trans e3).trans e4) h4 r4 q3
    · exact fun z => z.elim⟩⟩⟩
end

/-! ### built-ins -/
/-- list(x): frozen, a cell -/
def dList (ds : List D) (C : Cells) (P : DK) : Prop := match ds with
  | [x] => match itsOf x C with
    | some xs => P (.lst xs) C
    | none => False
  | _ => False
def dListC (ds : List D) (C : Cells) (P : DK) : Prop := match ds with
  | [x] => match itsOf x C with
    | some xs => ∀ p, C p = none → P (.ptr p) (cput C p (.lst xs))
    | none => False
  | _ => False
def dTupleOf (ds : List D) (C : Cells) (P : DK) : Prop := match ds with
  | [x] => match itsOf x C with
    | some xs => P (match x with | .ktup ys => .ktup ys | _ => .tup xs) C
    | none => False
  | _ => False
def dMax2 (ds : List D) (C : Cells) (P : DK) : Prop := match ds with
  | [.int i, .int j] => P (.int (max i j)) C
  | _ => False
def dMin2 (ds : List D) (C : Cells) (P : DK) : Prop := match ds with
  | [.int i, .int j] => P (.int (min i j)) C
  | _ => False
def dAbs (ds : List D) (C : Cells) (P : DK) : Prop := match ds with
  | [.int i] => P (.int i.natAbs) C
  | _ => False
def dInt (ds : List D) (C : Cells) (P : DK) : Prop := match ds with
  | [.int i] => P (.int i) C
  | [.bl b] => P (.int (if b then 1 else 0)) C
  | _ => False
/-- the whole numbers of a list -/
def IntsOf (x : D) (C : Cells) (ns : List Int) : Prop := seqOf x C = some (ns.map D.int)
def dSum (ds : List D) (C : Cells) (P : DK) : Prop := match ds with
  | [x] => ∃ ns, IntsOf x C ns ∧ P (.int ns.sum) C
  | _ => False
def maxI : List Int → Int
  | [] => 0
  | x :: r => r.foldl max x
def minI : List Int → Int
  | [] => 0
  | x :: r => r.foldl min x
def dMaxL (ds : List D) (C : Cells) (P : DK) : Prop := match ds with
  | [x] => ∃ ns, IntsOf x C ns ∧ ns ≠ [] ∧ P (.int (maxI ns)) C
  | _ => False
def dMinL (ds : List D) (C : Cells) (P : DK) : Prop := match ds with
  | [x] => ∃ ns, IntsOf x C ns ∧ ns ≠ [] ∧ P (.int (minI ns)) C
  | _ => False
def sortI (ns : List Int) : List Int := ns.mergeSort (fun a b => decide (a ≤ b))
def dSortI (ds : List D) (C : Cells) (P : DK) : Prop := match ds with
  | [x] => ∃ ns, IntsOf x C ns ∧ P (.lst ((sortI ns).map D.int)) C
  | _ => False
theorem foldl_max_spec : ∀ (r : List Int) (x : Int), (r.foldl max x = x ∨ r.foldl max x ∈ r) ∧ x ≤ r.foldl max x ∧ ∀ y ∈ r, y ≤ r.foldl max x
  | [], x => ⟨.inl rfl, Int.le_refl _, by simp⟩
  | z :: r, x => by
    obtain ⟨h1, h2, h3⟩ := foldl_max_spec r (max x z)
    simp only [List.foldl_cons]
    refine ⟨?_, by omega, fun y hy => ?_⟩
    · rcases h1 with h1 | h1
      · rcases Int.le_total x z with h | h
        · rw [h1, Int.max_eq_right h]; exact .inr List.mem_cons_self
        · rw [h1, Int.max_eq_left h]; exact .inl rfl
      · exact .inr (List.mem_cons_of_mem _ h1)
    · rcases List.mem_cons.mp hy with rfl | hy
      · omega
      · exact h3 y hy
theorem foldl_min_spec : ∀ (r : List Int) (x : Int), (r.foldl min x = x ∨ r.foldl min x ∈ r) ∧ r.foldl min x ≤ x ∧ ∀ y ∈ r, r.foldl min x ≤ y
  | [], x => ⟨.inl rfl, Int.le_refl _, by simp⟩
  | z :: r, x => by
    obtain ⟨h1, h2, h3⟩ := foldl_min_spec r (min x z)
    simp only [List.foldl_cons]
    refine ⟨?_, by omega, fun y hy => ?_⟩
    · rcases h1 with h1 | h1
      · rcases Int.le_total x z with h | h
        · rw [h1, Int.min_eq_left h]; exact .inl rfl
        · rw [h1, Int.min_eq_right h]; exact .inr List.mem_cons_self
      · exact .inr (List.mem_cons_of_mem _ h1)
    · rcases List.mem_cons.mp hy with rfl | hy
      · omega
      · exact h3 y hy
theorem maxI_spec : ∀ {ns : List Int}, ns ≠ [] → maxI ns ∈ ns ∧ ∀ y ∈ ns, y ≤ maxI ns
  | [], h => absurd rfl h
  | x :: r, _ => by
    obtain ⟨h1, h2, h3⟩ := foldl_max_spec r x
    refine ⟨?_, fun y hy => ?_⟩
    · show r.foldl max x ∈ x :: r
      rcases h1 with h1 | h1
      · rw [h1]; exact List.mem_cons_self
      · exact List.mem_cons_of_mem _ h1
    · show y ≤ r.foldl max x
      rcases List.mem_cons.mp hy with rfl | hy
      · exact h2
      · exact h3 y hy
theorem minI_spec : ∀ {ns : List Int}, ns ≠ [] → minI ns ∈ ns ∧ ∀ y ∈ ns, minI ns ≤ y
  | [], h => absurd rfl h
  | x :: r, _ => by
    obtain ⟨h1, h2, h3⟩ := foldl_min_spec r x
    refine ⟨?_, fun y hy => ?_⟩
    · show r.foldl min x ∈ x :: r
      rcases h1 with h1 | h1
      · rw [h1]; exact List.mem_cons_self
      · exact List.mem_cons_of_mem _ h1
    · show r.foldl min x ≤ y
      rcases List.mem_cons.mp hy with rfl | hy
      · exact h2
      · exact h3 y hy
theorem sortI_perm (ns : List Int) : (sortI ns).Perm ns := List.mergeSort_perm ns _
theorem sortI_pair (ns : List Int) : (sortI ns).Pairwise (· ≤ ·) := by
  have h := List.pairwise_mergeSort (le := fun a b : Int => decide (a ≤ b)) (by intro a b c; simp; omega) (by intro a b; simp; omega) ns
  exact h.imp (by intro a b; simp)
theorem sorted_unique : ∀ {xs ys : List Int}, xs.Perm ys → xs.Pairwise (· ≤ ·) → ys.Pairwise (· ≤ ·) → xs = ys := fun {xs ys} p h1 h2 =>
  p.eq_of_pairwise (fun a b _ _ h h' => by omega) h1 h2
section
variable {K : PySem.W.Frag}
theorem ints_of {F H : Hp} {C : Cells} {v : V} {x : D} {ns : List Int} (hs : Hs K F C H) (r : Rep K F v x) (h : IntsOf x C ns) : ∃ a, v = .ref a ∧ SqL K H a (ns.map V.int) := by
  obtain ⟨a, xs, rfl, h2, h3⟩ := seq_of hs r h
  rw [h3.of_ints] at h2
  exact ⟨a, rfl, h2⟩
theorem s_list : SimA K (fun xs H Q => ∃ p ys, xs = [.ref p] ∧ (SqL K H p ys ∨ SqT K H p ys) ∧ ∀ l, H l = none → Q (.ref l) (upd H l (.lst ys))) dList := fun F C H xs ds P Q hs r w k => by
  revert w
  unfold dList
  split
  · split
    · rename_i ys hy
      intro w
      cases r with
      | cons r1 r2 =>
        cases r2
        obtain ⟨a, us, rfl, h2, h3⟩ := its_of hs r1 hy
        refine ⟨a, us, rfl, h2, fun p hp => ?_⟩
        obtain ⟨e4, h4, r4⟩ := hs.newL h3 hp
        exact k _ _ _ _ C e4 h4 r4 w
    · exact fun z => z.elim
  · exact fun z => z.elim
theorem s_listC : SimA K (fun xs H Q => ∃ p ys, xs = [.ref p] ∧ (SqL K H p ys ∨ SqT K H p ys) ∧ ∀ l, H l = none → Q (.ref l) (upd H l (.lst ys))) dListC := fun F C H xs ds P Q hs r w k => by
  revert w
  unfold dListC
  split
  · split
    · rename_i ys hy
      intro w
      cases r with
      | cons r1 r2 =>
        cases r2
        obtain ⟨a, us, rfl, h2, h3⟩ := its_of hs r1 hy
        refine ⟨a, us, rfl, h2, fun p hp => ?_⟩
        obtain ⟨c0, h4⟩ := hs.newC h3 hp
        exact k _ _ _ _ _ (Ex.refl F) h4 (.ptr p) (w p c0)
    · exact fun z => z.elim
  · exact fun z => z.elim
theorem s_max2 : SimA K (fun xs H Q => ∃ i j, xs = [.int i, .int j] ∧ Q (.int (if j > i then j else i)) H) dMax2 := fun F C H xs ds P Q hs r w k => by
  revert w
  unfold dMax2
  split
  · rename_i i j
    intro w
    cases r with
    | cons r1 r2 =>
      cases r1
      cases r2 with
      | cons r3 r4 =>
        cases r3; cases r4
        refine ⟨i, j, rfl, k _ F H _ C (Ex.refl F) hs (.int _) ?_⟩
        rw [show (if j > i then j else i) = max i j by split <;> omega]
        exact w
  · exact fun z => z.elim
theorem s_min2 : SimA K (fun xs H Q => ∃ i j, xs = [.int i, .int j] ∧ Q (.int (if j < i then j else i)) H) dMin2 := fun F C H xs ds P Q hs r w k => by
  revert w
  unfold dMin2
  split
  · rename_i i j
    intro w
    cases r with
    | cons r1 r2 =>
      cases r1
      cases r2 with
      | cons r3 r4 =>
        cases r3; cases r4
        refine ⟨i, j, rfl, k _ F H _ C (Ex.refl F) hs (.int _) ?_⟩
        rw [show (if j < i then j else i) = min i j by split <;> omega]
        exact w
  · exact fun z => z.elim
theorem s_abs : SimA K (fun xs H Q => ∃ i, xs = [.int i] ∧ Q (.int (if i < 0 then -i else i)) H) dAbs := fun F C H xs ds P Q hs r w k => by
  revert w
  unfold dAbs
  split
  · rename_i i
    intro w
    cases r with
    | cons r1 r2 =>
      cases r1; cases r2
      refine ⟨i, rfl, k _ F H _ C (Ex.refl F) hs (.int _) ?_⟩
      rw [show (if i < 0 then -i else i) = (i.natAbs : Int) by split <;> omega]
      exact w
  · exact fun z => z.elim
theorem s_int : SimA K (fun xs H Q => (∃ i, xs = [.int i] ∧ Q (.int i) H) ∨ ∃ k, xs = [.bl k] ∧ Q (.int (if k then 1 else 0)) H) dInt := fun F C H xs ds P Q hs r w k => by
  revert w
  unfold dInt
  split
  · rename_i i
    intro w
    cases r with
    | cons r1 r2 =>
      cases r1; cases r2
      exact .inl ⟨i, rfl, k _ F H _ C (Ex.refl F) hs (.int _) w⟩
  · rename_i b
    intro w
    cases r with
    | cons r1 r2 =>
      cases r1; cases r2
      exact .inr ⟨b, rfl, k _ F H _ C (Ex.refl F) hs (.int _) w⟩
  · exact fun z => z.elim
theorem s_sum : SimA K (rSum K) dSum := fun F C H xs ds P Q hs r w k => by
  revert w
  unfold dSum
  split
  · rintro ⟨ns, hn, w⟩
    cases r with
    | cons r1 r2 =>
      cases r2
      obtain ⟨a, rfl, h2⟩ := ints_of hs r1 hn
      exact ⟨a, ns, rfl, h2, k _ F H _ C (Ex.refl F) hs (.int _) w⟩
  · exact fun z => z.elim
theorem s_maxL : SimA K (rMax K) dMaxL := fun F C H xs ds P Q hs r w k => by
  revert w
  unfold dMaxL
  split
  · rintro ⟨ns, hn, hne, w⟩
    cases r with
    | cons r1 r2 =>
      cases r2
      obtain ⟨a, rfl, h2⟩ := ints_of hs r1 hn
      refine ⟨a, ns, rfl, h2, List.length_pos_iff.mpr hne, fun m hm hle => ?_⟩
      obtain ⟨g1, g2⟩ := maxI_spec hne
      rw [show m = maxI ns from Int.le_antisymm (g2 m hm) (hle _ g1)]
      exact k _ F H _ C (Ex.refl F) hs (.int _) w
  · exact fun z => z.elim
theorem s_minL : SimA K (rMin K) dMinL := fun F C H xs ds P Q hs r w k => by
  revert w
  unfold dMinL
  split
  · rintro ⟨ns, hn, hne, w⟩
    cases r with
    | cons r1 r2 =>
      cases r2
      obtain ⟨a, rfl, h2⟩ := ints_of hs r1 hn
      refine ⟨a, ns, rfl, h2, List.length_pos_iff.mpr hne, fun m hm hle => ?_⟩
      obtain ⟨g1, g2⟩ := minI_spec hne
      rw [show m = minI ns from Int.le_antisymm (hle _ g1) (g2 m hm)]
      exact k _ F H _ C (Ex.refl F) hs (.int _) w
  · exact fun z => z.elim
theorem s_sortI : SimA K (rSortedI K) dSortI := fun F C H xs ds P Q hs r w k => by
  revert w
  unfold dSortI
  split
  · rintro ⟨ns, hn, w⟩
    cases r with
    | cons r1 r2 =>
      cases r2
      obtain ⟨a, rfl, h2⟩ := ints_of hs r1 hn
      refine ⟨a, ns, rfl, h2, fun ns' p hp hr hf => ?_⟩
      have e : ns' = sortI ns := sorted_unique (hp.trans (sortI_perm ns).symm) hr (sortI_pair ns)
      subst e
      obtain ⟨e4, h4, r4⟩ := hs.newL (RepL.ints _) hf
      exact k _ _ _ _ C e4 h4 r4 w
  · exact fun z => z.elim
end
end DD

set_option Elab.async false
set_option linter.all false
set_option maxRecDepth 100000
set_option maxHeartbeats 4000000
/-! Readings over data: == of nested data, in, comprehensions. -/
namespace DD
open PySem L2 PyProof.Rows

mutual
def D.py : D → PyData
  | .non => .none
  | .bl b => .bool b
  | .int i => .int i
  | .str x => .str x
  | .tup xs => .tuple (pys xs)
  | .lst xs => .list (pys xs)
  | .ins _ _ => .dict []
  | .ptr _ => .dict []
  | .dK _ => .dict []
  | .dT _ => .dict []
  | .ktup xs => .tuple (pys xs)
def pys : List D → List PyData
  | [] => []
  | d :: r => d.py :: pys r
end
/-- data of a depth, of nothing but None, bools, ints, texts, lists, tuples -/
inductive Dat : Nat → D → Prop where
  | non {n} : Dat n .non
  | bl {n} (b : Bool) : Dat n (.bl b)
  | int {n} (i : Int) : Dat n (.int i)
  | str {n} {x : Str} (h : PyData.canLay0 (.str x) = true) : Dat n (.str x)
  | tup {n} {ds : List D} (h : ∀ d, d ∈ ds → Dat n d) : Dat (n + 1) (.tup ds)
  | lst {n} {ds : List D} (h : ∀ d, d ∈ ds → Dat n d) : Dat (n + 1) (.lst ds)
  | ktup {n} {ds : List D} (h : ∀ d, d ∈ ds → Dat n d) : Dat (n + 1) (.ktup ds)
theorem dat_mono : ∀ {n m : Nat} {d : D}, Dat n d → n ≤ m → Dat m d
  | _, _, _, .non, _ => .non
  | _, _, _, .bl b, _ => .bl b
  | _, _, _, .int i, _ => .int i
  | _, _, _, .str h, _ => .str h
  | n + 1, m, _, .tup h, l => by
    obtain ⟨k, rfl⟩ : ∃ k, m = k + 1 := ⟨m - 1, by omega⟩
    exact .tup fun d hd => dat_mono (h d hd) (by omega)
  | n + 1, m, _, .lst h, l => by
    obtain ⟨k, rfl⟩ : ∃ k, m = k + 1 := ⟨m - 1, by omega⟩
    exact .lst fun d hd => dat_mono (h d hd) (by omega)
  | n + 1, m, _, .ktup h, l => by
    obtain ⟨k, rfl⟩ : ∃ k, m = k + 1 := ⟨m - 1, by omega⟩
    exact .ktup fun d hd => dat_mono (h d hd) (by omega)
theorem pys_lay {n : Nat} : ∀ ds : List D, (∀ d, d ∈ ds → PyData.canLay0 d.py = true ∧ d.py.depth ≤ n) → PyData.canLayAll0 (pys ds) = true ∧ PyData.depthAll (pys ds) ≤ n
  | [], _ => by simp [pys, PyData.canLayAll0, PyData.depthAll]
  | d :: r, h => by
    obtain ⟨h1, h2⟩ := h d List.mem_cons_self
    obtain ⟨h3, h4⟩ := pys_lay r fun e he => h e (List.mem_cons_of_mem _ he)
    refine ⟨by simp [pys, PyData.canLayAll0, h1, h3], ?_⟩
    simp only [pys, PyData.depthAll]
    omega
theorem dat_lay : ∀ {n : Nat} {d : D}, Dat n d → PyData.canLay0 d.py = true ∧ d.py.depth ≤ n
  | _, _, .non => by simp [D.py, PyData.canLay0, PyData.depth]
  | _, _, .bl b => by simp [D.py, PyData.canLay0, PyData.depth]
  | _, _, .int i => by simp [D.py, PyData.canLay0, PyData.depth]
  | _, _, .str h => ⟨h, by simp [D.py, PyData.depth]⟩
  | n + 1, _, .tup (ds := ds) h => by
    obtain ⟨h1, h2⟩ := pys_lay (n := n) ds fun d hd => dat_lay (h d hd)
    exact ⟨by simp only [D.py, PyData.canLay0, h1], by simp only [D.py, PyData.depth]; omega⟩
  | n + 1, _, .lst (ds := ds) h => by
    obtain ⟨h1, h2⟩ := pys_lay (n := n) ds fun d hd => dat_lay (h d hd)
    exact ⟨by simp only [D.py, PyData.canLay0, h1], by simp only [D.py, PyData.depth]; omega⟩
  | n + 1, _, .ktup (ds := ds) h => by
    obtain ⟨h1, h2⟩ := pys_lay (n := n) ds fun d hd => dat_lay (h d hd)
    exact ⟨by simp only [D.py, PyData.canLay0, h1], by simp only [D.py, PyData.depth]; omega⟩
theorem dat_shaped {n : Nat} {d : D} (h : Dat n d) (hn : n ≤ 60) : SeqAt.shaped d.py = true := by
  obtain ⟨h1, h2⟩ := dat_lay h
  unfold SeqAt.shaped
  rw [h1, decide_eq_true (by omega)]
  rfl
/-- == of data -/
def D.eqb (x y : D) : Bool := PyData.eqv x.py y.py
theorem eqb_self {n : Nat} {d : D} (h : Dat n d) : d.eqb d = true := SeqAt.eqv_refl _ (dat_lay h).1
/-- a list that is a cell, as data -/
def D.res (C : Cells) : D → D
  | .ptr a => match C a with
    | some (.lst ds) => .lst ds
    | _ => .ptr a
  | d => d
def dEqD (neg : Bool) (x : D) (y : D) (C : Cells) (P : DK) : Prop := ∃ n, n ≤ 60 ∧ Dat n (x.res C) ∧ Dat n (y.res C) ∧ P (.bl (neg ^^ (x.res C).eqb (y.res C))) C
section
variable {K : PySem.W.Frag} {F H : Hp} {C : Cells}
theorem dpAll_of {n : Nat} : ∀ {ds : List D} {xs : List V}, (∀ d, d ∈ ds → ∀ v, Rep K F v d → Dp K H v d.py) → RepL K F xs ds → DpAll K H xs (pys ds)
  | [], _, _, .nil => by simp only [pys]; exact .nil
  | d :: r, _, h, .cons h1 h2 => by
    simp only [pys]
    exact .cons (h d List.mem_cons_self _ h1) (dpAll_of (n := n) (fun e he => h e (List.mem_cons_of_mem _ he)) h2)
theorem rep_dp (ex : Ex F H) : ∀ {n : Nat} {d : D}, Dat n d → ∀ v, Rep K F v d → Dp K H v d.py
  | _, _, .non, v, r => by cases r; exact .non
  | _, _, .bl b, v, r => by cases r; exact .bl b
  | _, _, .int i, v, r => by cases r; exact .int i
  | _, _, .str h, v, r => by cases r; exact .str _
  | n + 1, _, .tup h, v, r => by
    cases r with
    | tup hq hr => exact .tup (.of (ex.nd hq rfl)) (dpAll_of (n := n) (fun d hd v r => rep_dp ex (h d hd) v r) hr)
  | n + 1, _, .ktup h, v, r => by
    cases r with
    | ktup hq hr => exact .tup (ex_t ex hq) (dpAll_of (n := n) (fun d hd v r => rep_dp ex (h d hd) v r) hr)
  | n + 1, _, .lst h, v, r => by
    cases r with
    | lst hq hr => exact .lst (ex_l ex hq) (dpAll_of (n := n) (fun d hd v r => rep_dp ex (h d hd) v r) hr)
theorem res_dp (hs : Hs K F C H) {n : Nat} {v : V} {x : D} (r : Rep K F v x) (h : Dat n (x.res C)) : Dp K H v (x.res C).py := by
  cases x with
  | ptr a =>
    cases r
    revert h
    show Dat n (match C a with | some (.lst ds) => .lst ds | _ => .ptr a) → Dp K H (.ref a) (D.py (match C a with | some (.lst ds) => .lst ds | _ => .ptr a))
    split
    · rename_i ds hc
      intro h
      obtain ⟨_, xs, hx, r⟩ := hs.cell a _ hc
      cases h with
      | lst h =>
        rename_i m
        exact .lst (.of hx) (dpAll_of (n := m) (fun d hd v r => rep_dp hs.ex (h d hd) v r) r)
    · intro h; cases h
  | _ => exact rep_dp hs.ex h v r
theorem s_eqD : SimR K (rEqD K) (dEqD false) := fun F C H x y dx dy P Q hs rx ry w k => by
  obtain ⟨n, hn, h1, h2, w⟩ := w
  refine ⟨_, _, res_dp hs rx h1, res_dp hs ry h2, dat_shaped h1 hn, dat_shaped h2 hn, ?_⟩
  rw [Bool.false_xor] at w
  exact k _ F H _ C (Ex.refl F) hs (.bl _) w
theorem s_neD : SimR K (rNeD K) (dEqD true) := fun F C H x y dx dy P Q hs rx ry w k => by
  obtain ⟨n, hn, h1, h2, w⟩ := w
  refine ⟨_, _, res_dp hs rx h1, res_dp hs ry h2, dat_shaped h1 hn, dat_shaped h2 hn, ?_⟩
  rw [Bool.true_xor] at w
  exact k _ F H _ C (Ex.refl F) hs (.bl _) w
end

/-! ### x in xs, of flat things -/
def toV : D → V
  | .non => .non
  | .bl b => .bl b
  | .int i => .int i
  | .str x => .str x
  | _ => .non
def flatD : D → Bool
  | .non => true
  | .bl _ => true
  | .int _ => true
  | .str _ => true
  | _ => false
/-- x is one of the items -/
def inD (x : D) (ds : List D) : Bool := ds.any fun y => eqV (toV y) (toV x)
def dIn (neg : Bool) (x : D) (y : D) (C : Cells) (P : DK) : Prop := match itsOf y C with
  | some ds => flatD x = true ∧ ds.all flatD = true ∧ P (.bl (neg ^^ inD x ds)) C
  | none => False
section
variable {K : PySem.W.Frag} {F H : Hp} {C : Cells}
theorem flat_rep {v : V} {x : D} (r : Rep K F v x) (h : flatD x = true) : v = toV x ∧ flatV v = true := by
  cases r <;> first | exact ⟨rfl, rfl⟩ | cases h
theorem flat_reps : ∀ {xs : List V} {ds : List D}, RepL K F xs ds → ds.all flatD = true → xs = ds.map toV ∧ xs.all flatV = true
  | _, _, .nil, _ => ⟨rfl, rfl⟩
  | _, _, .cons h r, a => by
    simp only [List.all_cons, Bool.and_eq_true] at a
    obtain ⟨e1, f1⟩ := flat_rep h a.1
    obtain ⟨e2, f2⟩ := flat_reps r a.2
    exact ⟨by rw [e1, e2]; rfl, by rw [List.all_cons, f1, f2]; rfl⟩
theorem s_inS {neg : Bool} : SimR K (rIn K neg) (dIn neg) := fun F C H x y dx dy P Q hs rx ry w k => by
  revert w
  unfold dIn
  split
  · rename_i ds hd
    rintro ⟨h1, h2, w⟩
    obtain ⟨a, xs, rfl, hq, hr⟩ := its_of hs ry hd
    obtain ⟨e1, f1⟩ := flat_rep rx h1
    obtain ⟨e2, f2⟩ := flat_reps hr h2
    refine ⟨a, xs, rfl, hq, f1, f2, ?_⟩
    have e : (if neg then !inV x xs else inV x xs) = (neg ^^ inD dx ds) := by
      rw [e1, e2]
      unfold inV inD
      rw [List.any_map]
      cases neg <;> simp [Function.comp_def]
    rw [e]
    exact k _ F H _ C (Ex.refl F) hs (.bl _) w
  · exact fun z => z.elim
end

/-! ### list comprehensions -/
def dwipe (ρ : DEnv) : List Nat → DEnv
  | [] => ρ
  | v :: vs => (dwipe ρ vs).set v none
abbrev noX : DX := fun _ _ _ _ => False
def wYes (_ : DEnv) (C : Cells) (P : Bool → Cells → Prop) (_ : DX) : Prop := P true C
def LcG (J : DIt) (t : Tgt) (wt : DT) (we : DE) (vs : List Nat) (ρ : DEnv) (C1 : Cells) (P : DK) : Prop := ∀ Dl, C1 Dl = none → ∃ Inv : Nat → Cells → Prop, Inv 0 (cput C1 Dl (.lst [])) ∧
  (∀ i C', Inv i C' → J.still C') ∧
  (∀ i d C', J.items[i]? = some d → Inv i C' → match t.dg d (dwipe ρ vs) with
    | some ρ2 => wt ρ2 C' (fun b C2 => if b = true then we ρ2 C2 (fun y C3 => match C3 Dl with
        | some (.lst acc) => acc.length < 100000 ∧ Inv (i + 1) (cput C3 Dl (.lst (acc ++ [y])))
        | _ => False) noX else Inv (i + 1) C2) noX
    | none => False) ∧
  (∀ C', Inv J.items.length C' → match C' Dl with
    | some (.lst acc) => ∃ C4, Sub C4 C' ∧ C4 Dl = none ∧ P (.lst acc) C4
    | _ => False)
def wLc (wi : DI) (t : Tgt) (wt : DT) (we : DE) (vs : List Nat) (ρ : DEnv) (C : Cells) (P : DK) (PX : DX) : Prop := wi ρ C (fun J C1 => LcG J t wt we vs ρ C1 P) PX
theorem EnvR.wipe {K : PySem.W.Frag} {F : Hp} {σ : L2.St} {ρ : DEnv} (h : EnvR K F σ ρ) : ∀ vs, EnvR K F (L2.wipe σ vs) (dwipe ρ vs)
  | [] => h
  | v :: vs => by
    obtain ⟨h1, h2⟩ := EnvR.wipe h vs
    refine ⟨by show ((L2.wipe σ vs).set v none).length = ((dwipe ρ vs).set v none).length; rw [List.length_set, List.length_set]; exact h1, fun i d q => ?_⟩
    have q' : ((dwipe ρ vs).set v none)[i]? = some (some d) := q
    by_cases e : v = i
    · subst e
      rw [List.getElem?_set] at q'
      simp only [if_true] at q'
      split at q' <;> cases q'
    · rw [List.getElem?_set_ne e] at q'
      obtain ⟨w, hw, rw'⟩ := h2 i d q'
      refine ⟨w, ?_, rw'⟩
      show ((L2.wipe σ vs).set v none)[i]? = some (some w)
      rw [List.getElem?_set_ne e]
      exact hw
section
variable {X : Cx} {W : WX} {K : PySem.W.Frag}
theorem i_lc {wi : DI} {t : Tgt} {wt : DT} {we : DE} {vs : List Nat} (ht : ∀ i ∈ t.slots, i ∈ vs) {σ : L2.St} {H : Hp} {Q : VK} (h : tE K W (wLc wi t wt we vs) σ H Q) : tLc (tI K W wi) (t.tg K) (tT K W0 wt) (tE K W0 we) vs σ H Q := by
  obtain ⟨F, C, ρ, P, PX, hs, en, xr, w, k⟩ := h
  refine ⟨F, C, ρ, _, PX, hs, en, xr, w, fun J F1 H1 Jd C1 e1 h1 ir q => fun Dl hD => ?_⟩
  obtain ⟨c0, h2⟩ := h1.newC (xs := []) (ds := []) .nil hD
  obtain ⟨Inv, i0, st, turn, done⟩ := q Dl c0
  refine ⟨fun i m H' => m = Jd.items.length - i ∧ i ≤ Jd.items.length ∧ ∃ F' C', Ex F1 F' ∧ Hs K F' C' H' ∧ Inv i C', ⟨_, rfl, Nat.zero_le _, F1, _, Ex.refl _, h2, i0⟩, ?_⟩
  rintro i m H' ⟨rfl, hl, F', C', e', h', p⟩
  obtain ⟨go, stop⟩ := ir F' H' C' e' h' (st i C' p)
  by_cases hi : i = Jd.items.length
  · subst hi
    have z := done C' p
    revert z
    split
    · rename_i acc hc
      rintro ⟨C4, s4, n4, z⟩
      obtain ⟨F5, e5, h5, r5⟩ := frz_go h' hc s4 n4 trivial
      exact .inl ⟨stop, k _ F5 H' _ C4 ((e1.trans e').trans e5) h5 r5 z⟩
    · exact fun z => z.elim
  · have hlt : i < Jd.items.length := by omega
    have hd : Jd.items[i]? = some Jd.items[i] := List.getElem?_eq_getElem hlt
    obtain ⟨g1, g2⟩ := go i _ hd
    have q := turn i _ C' hd p
    refine .inr ⟨g1, fun H2 => ∃ F2 C2, Ex F' F2 ∧ Hs K F2 C2 H2 ∧ Inv (i + 1) C2, ?_, ?_⟩
    · rintro H2 ⟨F2, C2, e2, h2, p2⟩
      exact ⟨_, by omega, rfl, hlt, F2, C2, e'.trans e2, h2, p2⟩
    · intro x H2 hy
      obtain ⟨F2, e2, h2, rx⟩ := g2 x H2 hy
      revert q
      split
      · rename_i ρ2 hdg
        intro q
        refine tg_ok t h2.ex rx (((en.mono (e1.trans e')).wipe vs).mono e2) hdg fun σ2 en2 hw => ?_
        refine ⟨by rw [hw vs ht, wipe_wipe], ?_⟩
        refine ⟨F2, C', ρ2, _, noX, h2, en2, fun _ _ _ _ _ _ _ _ _ _ _ _ z => z.elim, q, fun b F3 H3 C3 e3 h3 q3 => ?_⟩
        cases b with
        | false =>
          rw [if_neg Bool.false_ne_true] at q3
          rw [if_neg Bool.false_ne_true]
          exact ⟨F3, C3, e2.trans e3, h3, q3⟩
        | true =>
          rw [if_pos rfl] at q3
          rw [if_pos rfl]
          refine ⟨F3, C3, ρ2, _, noX, h3, en2.mono e3, fun _ _ _ _ _ _ _ _ _ _ _ _ z => z.elim, q3, fun y F4 H4 dy C4 e4 h4 ry q4 => ?_⟩
          revert q4
          dsimp only
          split
          · rename_i acc hc
            rintro ⟨hz, q4⟩
            obtain ⟨f0, us, hu, ru⟩ := h4.cell Dl _ hc
            exact ⟨us, hu, by rw [ru.length]; exact sz_lt hz, F4, _, (e2.trans e3).trans e4, h4.put (c := .lst (acc ++ [dy])) f0 ⟨_, upd_same, ru.append (.cons ry .nil)⟩, q4⟩
          · exact fun z => z.elim
      · exact fun z => z.elim
theorem dts_nil : PTs X [] (tT X.K W wYes) := ⟨fun pins s σ H Q I ⟨F, C, ρ, P, PX, hs, en, xr, w, k⟩ => pts_nil.run pins s σ H Q I (k _ F H C (Ex.refl F) hs w)⟩
theorem dts_one {c : Expr} {t : DT} (h : PT X c (tT X.K W t)) : PTs X [c] (tT X.K W t) := pts_one h
theorem d_lc {elt tg iter : Expr} {ifs : List Expr} {scope : Scope} {own : List (Str × Nat)} {pos : Pos} {wi : DI} {t : Tgt} {wt : DT} {we : DE} (hc : X.calm = true) (hN : X.N.Nodup) (hi : PI X tg iter (tI X.K W wi)) (ok : BlkOk X.N X.env.scope scope own) (hsl : ∀ i ∈ t.slots, i ∈ own.map (·.2))
    (hg : ∀ (s : Shared) (H : Hp) (C : Addr) (cl : List (Str × Addr)) (fp : List Addr), PG (X.blk s H scope (compEnvC scope cl C X.env) fp) tg (t.tg X.K)) (ht : ∀ (s : Shared) (H : Hp) (C : Addr) (cl : List (Str × Addr)) (fp : List Addr), PTs (X.blk s H scope (compEnvC scope cl C X.env) fp) ifs (tT X.K W0 wt))
    (he : ∀ (s : Shared) (H : Hp) (C : Addr) (cl : List (Str × Addr)) (fp : List Addr), PE (X.blk s H scope (compEnvC scope cl C X.env) fp) elt (tE X.K W0 we)) (hs : ∀ x, foldedSetIterable iter X.env x = pure x := by intro _; rfl) :
    PE X (.ListComp elt [⟨tg, iter, ifs, 0⟩] scope pos) (tE X.K W (wLc wi t wt we (own.map (·.2)))) := PE.imp (pe_lc hc hN hi ok hg ht he hs) fun _ _ _ => i_lc hsl
theorem ds_setLc (i : Nat) {y : Str} {py : Pos} {elt tg iter : Expr} {ifs : List Expr} {scope : Scope} {own : List (Str × Nat)} {pos spos : Pos} {wi : DI} {t : Tgt} {wt : DT} {we : DE} (hc : X.calm = true) (hN : X.N.Nodup) (hy : X.N[i]? = some y) (hyl : X.env.scope.names.lookup y = some .local)
    (hsw : swapsWith (.ListComp elt [⟨tg, iter, ifs, 0⟩] scope pos) (some (.Name y py)) spos.line X.env = pure true) (hi : PI X tg iter (tI X.K W wi)) (ok : BlkOk X.N X.env.scope scope own) (hsl : ∀ i ∈ t.slots, i ∈ own.map (·.2))
    (hg : ∀ (s : Shared) (H : Hp) (C : Addr) (cl : List (Str × Addr)) (fp : List Addr), PG (X.blk s H scope (compEnvC scope cl C X.env) fp) tg (t.tg X.K)) (ht : ∀ (s : Shared) (H : Hp) (C : Addr) (cl : List (Str × Addr)) (fp : List Addr), PTs (X.blk s H scope (compEnvC scope cl C X.env) fp) ifs (tT X.K W0 wt))
    (he : ∀ (s : Shared) (H : Hp) (C : Addr) (cl : List (Str × Addr)) (fp : List Addr), PE (X.blk s H scope (compEnvC scope cl C X.env) fp) elt (tE X.K W0 we)) (hs : ∀ x, foldedSetIterable iter X.env x = pure x := by intro _; rfl) :
    PS X (.Assign [.Name y py] (.ListComp elt [⟨tg, iter, ifs, 0⟩] scope pos) spos) (tS X.K W (wSet i (wLc wi t wt we (own.map (·.2))))) := PS.imp (ps_setLc hc hN hy hyl hsw hi ok hg ht he hs) fun Dn σ H ⟨F, C, ρ, DE, hs, en, xr, w, er⟩ => by
  have z : tE X.K W (wLc wi t wt we (own.map (·.2))) σ H (fun x H1 => Dn.nx (σ.set i (some x)) H1) := ⟨F, C, ρ, _, _, hs, en, xr, w, fun v F1 H1 d C1 e1 h1 r q => er.nx _ F1 H1 _ C1 e1 h1 ((en.mono e1).set r) q⟩
  exact i_lc hsl z
end
/-- a comprehension that changes nothing -/
theorem lc_pure {t : Tgt} {wt : DT} {we : DE} {vs : List Nat} {J : DIt} {C1 : Cells} {ρ : DEnv} {P : DK} (f : D → Option D) (hf : ∀ C', Sub C1 C' → J.still C') (hn : J.items.length ≤ 100000)
    (h : ∀ (i : Nat) d C' (Q : Option D → Cells → Prop), J.items[i]? = some d → Sub C1 C' → Q (f d) C' → match t.dg d (dwipe ρ vs) with
      | some ρ2 => wt ρ2 C' (fun b C2 => if b = true then we ρ2 C2 (fun y C3 => Q (some y) C3) noX else Q none C2) noX
      | none => False)
    (hP : P (.lst (J.items.filterMap f)) C1) : LcG J t wt we vs ρ C1 P := by
  intro Dl hD
  refine ⟨fun i C' => C' = cput C1 Dl (.lst ((J.items.take i).filterMap f)), by simp, fun i C' e => hf C' (by rw [e]; exact Sub.new hD), fun i d C' hd e => ?_, fun C' e => ?_⟩
  · have ht : J.items.take (i + 1) = J.items.take i ++ [d] := by rw [List.take_succ, hd]; rfl
    refine h i d C' (fun o C3 => match o with
      | some y => match C3 Dl with
        | some (.lst acc) => acc.length < 100000 ∧ cput C3 Dl (.lst (acc ++ [y])) = cput C1 Dl (.lst ((J.items.take (i + 1)).filterMap f))
        | _ => False
      | none => C3 = cput C1 Dl (.lst ((J.items.take (i + 1)).filterMap f))) hd (by rw [e]; exact Sub.new hD) ?_
    split
    · rename_i y hy
      rw [e, cput_same]
      refine ⟨?_, ?_⟩
      · have := List.length_filterMap_le f (J.items.take i)
        have hlt : i < J.items.length := (List.getElem?_eq_some_iff.mp hd).1
        rw [List.length_take] at this
        omega
      · rw [cput_cput, ht, List.filterMap_append]
        simp [hy]
    · rename_i hy
      rw [e, ht, List.filterMap_append]
      simp [hy]
  · rw [e, cput_same, List.take_length]
    exact ⟨C1, Sub.new hD, hD, hP⟩
end DD

set_option Elab.async false
set_option linter.all false
set_option maxRecDepth 100000
set_option maxHeartbeats 4000000
/-! Readings over data: constants of the module, further operators, the law's end, what loops ask. -/
namespace DD
open PySem L2 PyProof.Rows
section
variable {X : Cx} {W : WX} {K : PySem.W.Frag}
/-- a module's whole number -/
theorem d_kint {x : Str} {i : Int} {pos : Pos} (h : ∃ t, X.mg x = some (.int i t)) (hg : Gl X x := by rfl) (hd : (x == ("__debug__" : Str)) = false := by decide) : PE X (.Name x pos) (tE X.K W (wC (.int i))) := by
  obtain ⟨t, h⟩ := h
  exact d_glob (v := .int i) hg h ⟨t, rfl⟩ (fun _ => .int i) hd
/-- // by a divisor below 2 ^ 64 -/
abbrev dDivW : DR2 := dI (fun _ j => 0 < j ∧ j < 18446744073709551616) fun i j => .int (i / j)
theorem s_divW : SimR K (rI CDivW fun i j => .int (i / j)) dDivW := fun F C H x y dx dy P Q hs rx ry w k => by
  cases rx <;> cases ry <;> first
    | exact w.elim
    | exact ⟨_, _, rfl, rfl, wide_div (b := 64) w.1.1 (by have := w.1; omega) (by decide) (by decide), k _ F H _ C (Ex.refl F) hs (.int _) w.2⟩
def dPow : DR2 := dI CPow fun i j => .int (i ^ j.toNat)
theorem s_pow : SimR K (rI CPow fun i j => .int (i ^ j.toNat)) dPow := simI fun _ _ _ => .int _
theorem s_tupleOf : SimA K (fun xs H Q => ∃ p ys, xs = [.ref p] ∧ ((SqL K H p ys ∧ ∀ l, H l = none → Q (.ref l) (upd H l (.tup ys))) ∨ (SqT K H p ys ∧ Q (.ref p) H))) dTupleOf := fun F C H xs ds P Q hs r w k => by
  revert w
  unfold dTupleOf
  split
  · rename_i x
    obtain ⟨v, rfl, r1⟩ := r.one
    have go : ∀ ys, seqOf x C = some ys → P (.tup ys) C → ∃ p zs, [v] = [V.ref p] ∧ ((SqL K H p zs ∧ ∀ l, H l = none → Q (.ref l) (upd H l (.tup zs))) ∨ (SqT K H p zs ∧ Q (.ref p) H)) := fun ys hy w => by
      obtain ⟨a, us, rfl, h2, h3⟩ := seq_of hs r1 hy
      refine ⟨a, us, rfl, .inl ⟨h2, fun p hp => ?_⟩⟩
      obtain ⟨e4, h4, r4⟩ := hs.newT h3 hp
      exact k _ _ _ _ C e4 h4 r4 w
    cases r1 <;> first
      | (split
         · rename_i ys hy
           exact go ys hy
         · exact fun z => z.elim)
      | (rename_i a us ds hq hr
         exact fun w => ⟨a, us, rfl, .inr ⟨.of (hs.ex.nd hq rfl), k _ F H _ C (Ex.refl F) hs (.tup hq hr) w⟩⟩)
      | (rename_i a us ds hq hr
         exact fun w => ⟨a, us, rfl, .inr ⟨ex_t hs.ex hq, k _ F H _ C (Ex.refl F) hs (.ktup hq hr) w⟩⟩)
  · exact fun z => z.elim
/-- a, b = e1, e2 -/
def wPar (i j : Nat) (a : DA) (E : DEnds) (ρ : DEnv) (C : Cells) : Prop := a ρ C (fun ds C1 => match ds with
  | [x, y] => E.nx ((ρ.set i (some x)).set j (some y)) C1
  | _ => False) E.ex
theorem ds_par {i j : Nat} {x y : Str} {a b : Expr} {wr : DA} {px py pt pos : Pos} {kt k2 pt2} (hc : X.calm = true) (hN : X.N.Nodup) (hi : X.N[i]? = some x) (hj : X.N[j]? = some y) (hij : i ≠ j)
    (hx : X.env.scope.names.lookup x = some .local) (hy : X.env.scope.names.lookup y = some .local) (ha : PA X [a, b] (tA X.K W wr))
    (hw : swappedStores [.Tuple [.Name x px, .Name y py] kt pt] (.Tuple [a, b] k2 pt2) X.env = pure (some [x, y]))
    (hs : swapsWithSole [.Tuple [.Name x px, .Name y py] kt pt] (.Tuple [a, b] k2 pt2) pos.line X.env = pure false := by rfl) :
    PS X (.Assign [.Tuple [.Name x px, .Name y py] kt pt] (.Tuple [a, b] k2 pt2) pos) (tS X.K W (wPar i j wr)) := PS.imp (ps_par hc hN hi hj hij hx hy ha hw hs) fun Dn σ H ⟨F, C, ρ, DE, hs, en, xr, w, er⟩ =>
  ⟨F, C, ρ, _, _, hs, en, xr, w, fun vs F1 H1 ds C1 e1 h1 r q => by
    revert q
    dsimp only
    split
    · intro q
      cases r with
      | cons r1 r2 =>
        cases r2 with
        | cons r2 r3 =>
          cases r3
          exact ⟨_, _, rfl, er.nx _ F1 H1 _ C1 e1 h1 (((en.mono e1).set r1).set r2) q⟩
    · exact fun z => z.elim⟩
end

/-! ### the law's own promise -/
def spLawD (K : PySem.W.Frag) : Sp := fun vs H Q _ => ∃ (a : Addr) (ns : List Int), vs = [.ref a] ∧ SqL K H a (ns.map V.int) ∧ ns.length ≤ 63 ∧ ∀ H', Q (.bl true) H'
theorem spLaw_imp {K : PySem.W.Frag} (R : DSp) (go : ∀ (ns : List Int) (P : DK), ns.length ≤ 63 → (∀ C', P (.bl true) C') → R [.lst (ns.map D.int)] (fun _ => none) P) : ∀ vs H Q E, spLawD K vs H Q E → spD K R vs H Q E :=
  fun vs H Q E ⟨a, ns, hv, hs, hl, k⟩ => by
    subst hv
    refine ⟨H, fun _ => none, [.lst (ns.map D.int)], fun d _ => d = .bl true, ⟨Ex.refl H, fun _ _ e => by cases e⟩, .cons (.lst hs (RepL.ints ns)) .nil, go ns _ hl fun _ => rfl, fun v F' H' d C' _ _ r q => ?_⟩
    subst q
    cases r
    exact k H'
end DD

set_option Elab.async false
set_option linter.all false
set_option maxRecDepth 100000
set_option maxHeartbeats 4000000
/-! Readings over data: sorted(..) of data of any kind. -/
namespace DD
open PySem L2 PyProof.Rows PySem.W
def rSortedD (K : PySem.W.Frag) : List V → Hp → VK → Prop := fun vs H Q => ∃ (a : Addr) (xs : List V) (ps : List PyData), vs = [V.ref a] ∧ SqL K H a xs ∧ DpAll K H xs ps ∧ AllAlike ps ∧ Sortable ps ∧ (∀ d ∈ ps, d.depth ≤ 60) ∧
  ∀ p, H p = none → Q (.ref p) (upd H p (.lst (((xs.zip ps).mergeSort (dataLe false Prod.snd)).map Prod.fst)))
theorem dpAll_len {K : PySem.W.Frag} {H : Hp} : ∀ {xs : List V} {ps : List PyData}, DpAll K H xs ps → xs.length = ps.length
  | _, _, .nil => rfl
  | _, _, .cons _ r => congrArg (· + 1) (dpAll_len r)
theorem each_zip {xs : List V} {ps : List PyData} {vs : List Value} : ∀ {xs : List V} {ps : List PyData} {vs : List Value}, Vals xs vs → xs.length = ps.length → EachIs (fun v (b : V × PyData) => RelV b.1 v) vs (xs.zip ps)
  | _, [], _, .nil, _ => .nil
  | _, p :: ps, _, .cons r t, h => .cons r (each_zip (xs := xs) (ps := ps) (vs := vs) t (by simpa using h))
theorem each_reads {X : Cx} {pins : List (Addr × Obj)} {σ : L2.St} {H : Hp} {s : Shared} (I : Inv X pins σ H s) : ∀ {xs : List V} {ps : List PyData} {vs : List Value}, Vals xs vs → DpAll X.K H xs ps → EachIs (fun v (b : V × PyData) => ∃ as, Reads s.heap v b.2 as) vs (xs.zip ps)
  | _, _, _, .nil, .nil => .nil
  | _, _, _, .cons r t, .cons d e => .cons (Dp.reads I _ _ _ d r) (each_reads I t e)
theorem each_vals {bs : List (V × PyData)} {vs : List Value} : ∀ {bs : List (V × PyData)} {vs : List Value}, EachIs (fun v (b : V × PyData) => RelV b.1 v) vs bs → Vals (bs.map Prod.fst) vs
  | _, _, .nil => .nil
  | _, _, .cons r t => .cons r (each_vals (bs := bs) (vs := vs) t)
theorem zip_snd {xs : List V} {ps : List PyData} (h : xs.length = ps.length) : (xs.zip ps).map Prod.snd = ps := List.map_snd_zip (by omega)
theorem cr_sortedD {X : Cx} (hu : X.A.units + 64 < cLine) : CallR X (.builtin "sorted") (rSortedD X.K) := by
  intro pins s σ H vs us Q I r h
  obtain ⟨a, xs, ps, rfl, hs, hd, hal, hk, hdep, q⟩ := h
  obtain ⟨its, rv, hl, hz⟩ := I.list hs
  rw [Vals.ref1 r]
  have hlen := dpAll_len hd
  have hb : (xs.zip ps).length = xs.length := by rw [List.length_zip]; omega
  refine sorted_data (bs := xs.zip ps) (enc := Prod.snd) (R := fun v b => RelV b.1 v) hl.isList (each_zip (xs := xs) (ps := ps) (vs := its) rv hlen) (each_reads I rv hd) (by rw [zip_snd hlen]; exact hal) (by rw [zip_snd hlen]; exact hk) (by rw [hb]; exact hz) (fun b hb => ?_) fun out h1 h2 => ?_
  · have := hdep b.2 (by rw [← zip_snd hlen]; exact List.mem_map_of_mem hb)
    omega
  · obtain ⟨ep, he'⟩ := PyProof.Rows.sortedAll_at s.heap its out.toArray
    have k1 := each_vals (bs := []) (vs := []) h2
    have hlen2 : (((xs.zip ps).mergeSort (dataLe false Prod.snd)).map Prod.fst).length ≤ sizeLine := by
      rw [List.length_map, List.length_mergeSort, hb]; exact hz
    exact ⟨.ref _, upd H (s.heap.objs.size + 1) (.lst (((xs.zip ps).mergeSort (dataLe false Prod.snd)).map Prod.fst)), I.laid (t' := s.toks) (fun _ _ => PyProof.Rows.sortedAll_old) (Nat.le_succ _) ⟨hlen2, out, ep, k1, he'⟩, rfl, q _ (I.hok.fresh (Nat.le_succ _))⟩
/-- sorted(x), data of one kind -/
def leD : D → D → Bool := dataLe false D.py
structure SortsD (ds : List D) : Prop where
  dat : ∃ n, n ≤ 60 ∧ ∀ d ∈ ds, Dat n d
  alike : AllAlike (ds.map D.py)
  ok : Sortable (ds.map D.py)
def dSortD (ds : List D) (C : Cells) (P : DK) : Prop := match ds with
  | [x] => match itsOf x C with
    | some xs => SortsD xs ∧ seqOf x C = some xs ∧ P (.lst (xs.mergeSort leD)) C
    | none => False
  | _ => False
section
variable {K : PySem.W.Frag}
theorem pys_map : ∀ ds : List D, pys ds = ds.map D.py
  | [] => by simp [pys]
  | d :: r => by simp [pys, pys_map r]
theorem RepL.of_zip {F : Hp} : ∀ {L : List (V × D)}, (∀ p ∈ L, Rep K F p.1 p.2) → RepL K F (L.map Prod.fst) (L.map Prod.snd)
  | [], _ => .nil
  | p :: r, h => .cons (h p List.mem_cons_self) (RepL.of_zip fun q hq => h q (List.mem_cons_of_mem _ hq))
theorem RepL.zip_mem {F : Hp} : ∀ {xs : List V} {ds : List D}, RepL K F xs ds → ∀ p ∈ xs.zip ds, Rep K F p.1 p.2
  | _, _, .nil, p, hp => by simp at hp
  | _, _, .cons h r, p, hp => by
    simp only [List.zip_cons_cons, List.mem_cons] at hp
    rcases hp with rfl | hp
    · exact h
    · exact RepL.zip_mem r p hp
theorem RepL.sort {F : Hp} {xs : List V} {ds : List D} (r : RepL K F xs ds) : RepL K F (((xs.zip (pys ds)).mergeSort (dataLe false Prod.snd)).map Prod.fst) (ds.mergeSort leD) := by
  have hl := r.length
  have e1 : xs.zip (pys ds) = (xs.zip ds).map (fun p => (p.1, p.2.py)) := by rw [pys_map, List.zip_map_right]; congr
  have e2 : (((xs.zip ds).map (fun p => (p.1, p.2.py))).mergeSort (dataLe false Prod.snd)) = ((xs.zip ds).mergeSort (fun p q => leD p.2 q.2)).map (fun p => (p.1, p.2.py)) :=
    (List.map_mergeSort (r := fun p q : V × D => leD p.2 q.2) (s := dataLe false Prod.snd) (f := fun p : V × D => (p.1, p.2.py)) (fun a _ b _ => rfl)).symm
  have e3 : ds.mergeSort leD = ((xs.zip ds).mergeSort (fun p q => leD p.2 q.2)).map Prod.snd := by
    have e4 : ds = (xs.zip ds).map Prod.snd := (List.map_snd_zip (by omega)).symm
    conv => lhs; rw [e4]
    exact (List.map_mergeSort (r := fun p q : V × D => leD p.2 q.2) (s := leD) (f := Prod.snd) (fun a _ b _ => rfl)).symm
  rw [e1, e2, e3, List.map_map]
  exact RepL.of_zip (L := (xs.zip ds).mergeSort (fun p q => leD p.2 q.2)) fun p hp => r.zip_mem p (List.mem_mergeSort.mp hp)
theorem s_sortD : SimA K (rSortedD K) dSortD := fun F C H xs ds P Q hs r w k => by
  revert w
  unfold dSortD
  split
  · rename_i x
    split
    · rename_i ys hy
      rintro ⟨⟨⟨n, hn, hd⟩, hal, hok⟩, hsq, w⟩
      obtain ⟨v, rfl, r1⟩ := r.one
      obtain ⟨a, us, rfl, h2, h3⟩ := seq_of hs r1 hsq
      refine ⟨a, us, pys ys, rfl, h2, dpAll_of (n := n) (fun d hd' v r => rep_dp hs.ex (hd d hd') v r) h3, by rw [pys_map]; exact hal, by rw [pys_map]; exact hok, fun d hd' => ?_, fun p hp => ?_⟩
      · rw [pys_map, List.mem_map] at hd'
        obtain ⟨e, he, rfl⟩ := hd'
        have := (dat_lay (hd e he)).2
        omega
      · obtain ⟨e4, h4, r4⟩ := hs.newL h3.sort hp
        exact k _ _ _ _ C e4 h4 r4 w
    · exact fun z => z.elim
  · exact fun z => z.elim
end

/-! ### pairs of whole numbers -/
def pairD (p : Int × Int) : D := .tup [.int p.1, .int p.2]
def lePair (p q : Int × Int) : Bool := decide (p.1 < q.1 ∨ (p.1 = q.1 ∧ p.2 ≤ q.2))
theorem leD_pair (p q : Int × Int) : leD (pairD p) (pairD q) = lePair p q := by
  have := congrFun (congrFun (dataLe_ii (fun p : Int × Int => p.1) (fun p => p.2)) p) q
  exact this
theorem sorts_pairs (ps : List (Int × Int)) : SortsD (ps.map pairD) := by
  refine ⟨⟨1, by decide, fun d hd => ?_⟩, ?_, ?_⟩
  · obtain ⟨p, _, rfl⟩ := List.mem_map.mp hd
    exact .tup fun e he => by
      simp only [List.mem_cons, List.not_mem_nil, or_false] at he
      rcases he with rfl | rfl <;> exact .int _
  · rw [List.map_map]
    exact AllAlike.of fun b b' => by simp [pairD, D.py, pys, alike, alikeAll]
  · rw [List.map_map]
    exact Sortable.tuples fun b => ⟨.int b.1, [.int b.2], by simp [pairD, D.py, pys]⟩
theorem sort_pairs (ps : List (Int × Int)) : (ps.map pairD).mergeSort leD = (ps.mergeSort lePair).map pairD :=
  (List.map_mergeSort (fun a _ b _ => (leD_pair a b).symm)).symm
theorem lePair_sorted (ps : List (Int × Int)) : (ps.mergeSort lePair).Pairwise fun p q => p.1 < q.1 ∨ (p.1 = q.1 ∧ p.2 ≤ q.2) := by
  have h := List.pairwise_mergeSort (le := lePair) (by intro a b c; simp [lePair]; omega) (by intro a b; simp [lePair]; omega) ps
  exact h.imp (by intro a b; simp [lePair])
end DD

set_option Elab.async false
set_option linter.all false
set_option maxRecDepth 100000
set_option maxHeartbeats 4000000
/-! Tools for readings over data: loops, places. -/
namespace DD
open PySem L2

theorem for_rng {lo : Int} {n i : Nat} {b : DS} {E : DEnds} {ρ : DEnv} {C : Cells} (Inv : Nat → DEnv → Cells → Prop) (h0 : Inv 0 ρ C)
    (hs : ∀ (k : Nat) ρ' C', k < n → Inv k ρ' C' → b { nx := Inv (k + 1), ct := Inv (k + 1), bk := E.nx, rt := E.rt, ex := E.ex } (ρ'.set i (some (.int (lo + (k : Int))))) C')
    (hd : ∀ ρ' C', Inv n ρ' C' → E.nx ρ' C') : ForG ⟨rngD lo n, frozen⟩ (.name i) b E ρ C := by
  refine ⟨Inv, h0, fun _ _ _ _ => trivial, fun k d ρ' C' hk hI => ?_, fun ρ' C' hI => hd ρ' C' (by have e := rngD_len lo n; simp only [e] at hI; exact hI)⟩
  obtain ⟨hk2, rfl⟩ := rngD_get hk
  simp only [Tgt.dg]
  exact hs k ρ' C' hk2 hI
theorem for_items {ds : List D} {t : Tgt} {b : DS} {E : DEnds} {ρ : DEnv} {C : Cells} (Inv : Nat → DEnv → Cells → Prop) (h0 : Inv 0 ρ C)
    (hs : ∀ (k : Nat) d ρ' C', ds[k]? = some d → Inv k ρ' C' → match t.dg d ρ' with
      | some ρ2 => b { nx := Inv (k + 1), ct := Inv (k + 1), bk := E.nx, rt := E.rt, ex := E.ex } ρ2 C'
      | none => False)
    (hd : ∀ ρ' C', Inv ds.length ρ' C' → E.nx ρ' C') : ForG ⟨ds, frozen⟩ t b E ρ C := ⟨Inv, h0, fun _ _ _ _ => trivial, hs, hd⟩
theorem for_map {α : Type} {L : List α} {enc : α → D} {t : Tgt} {b : DS} {E : DEnds} {ρ : DEnv} {C : Cells} (Inv : Nat → DEnv → Cells → Prop) (h0 : Inv 0 ρ C)
    (hs : ∀ (k : Nat) a ρ' C', L[k]? = some a → Inv k ρ' C' → match t.dg (enc a) ρ' with
      | some ρ2 => b { nx := Inv (k + 1), ct := Inv (k + 1), bk := E.nx, rt := E.rt, ex := E.ex } ρ2 C'
      | none => False)
    (hd : ∀ ρ' C', Inv L.length ρ' C' → E.nx ρ' C') : ForG ⟨L.map enc, frozen⟩ t b E ρ C := by
  refine for_items Inv h0 (fun k d ρ' C' hk hI => ?_) (fun ρ' C' hI => hd ρ' C' (by rw [List.length_map] at hI; exact hI))
  rw [List.getElem?_map] at hk
  cases hL : L[k]? with
  | none => rw [hL] at hk; cases hk
  | some a =>
    rw [hL] at hk
    simp only [Option.map_some, Option.some.injEq] at hk
    subst hk
    exact hs k a ρ' C' hL hI
/-- a loop over a list that is a cell and stays as it is -/
theorem for_cell {α : Type} {L : List α} {enc : α → D} {a : Addr} {t : Tgt} {b : DS} {E : DEnds} {ρ : DEnv} {C : Cells} (Inv : Nat → DEnv → Cells → Prop) (h0 : Inv 0 ρ C) (hst : ∀ k ρ' C', Inv k ρ' C' → C' a = some (.lst (L.map enc)))
    (hs : ∀ (k : Nat) x ρ' C', L[k]? = some x → Inv k ρ' C' → match t.dg (enc x) ρ' with
      | some ρ2 => b { nx := Inv (k + 1), ct := Inv (k + 1), bk := E.nx, rt := E.rt, ex := E.ex } ρ2 C'
      | none => False)
    (hd : ∀ ρ' C', Inv L.length ρ' C' → E.nx ρ' C') : ForG ⟨L.map enc, fun C' => C' a = some (.lst (L.map enc))⟩ t b E ρ C := by
  refine ⟨Inv, h0, hst, (fun k d ρ' C' hk hI => ?_), (fun ρ' C' hI => hd ρ' C' (by simp only [List.length_map] at hI; exact hI))⟩
  simp only [List.getElem?_map] at hk
  cases hL : L[k]? with
  | none => rw [hL] at hk; cases hk
  | some a =>
    rw [hL] at hk
    simp only [Option.map_some, Option.some.injEq] at hk
    subst hk
    exact hs k a ρ' C' hL hI
/-- a comprehension over a range that changes nothing -/
theorem lc_rng {lo : Int} {n i : Nat} {wt : DT} {we : DE} {vs : List Nat} {C1 : Cells} {ρ : DEnv} {P : DK} (f : Int → Option D) (hn : n ≤ 100000)
    (h : ∀ (k : Nat) C' (Q : Option D → Cells → Prop), k < n → Sub C1 C' → Q (f (lo + (k : Int))) C' →
      wt ((dwipe ρ vs).set i (some (.int (lo + (k : Int))))) C' (fun b C2 => if b = true then we ((dwipe ρ vs).set i (some (.int (lo + (k : Int))))) C2 (fun y C3 => Q (some y) C3) noX else Q none C2) noX)
    (hP : P (.lst ((List.range n).filterMap fun (k : Nat) => f (lo + (k : Int)))) C1) : LcG ⟨rngD lo n, frozen⟩ (.name i) wt we vs ρ C1 P := by
  refine lc_pure (fun d => match d with | .int z => f z | _ => none) (fun _ _ => trivial) (by simpa [rngD_len] using hn) (fun k d C' Q hk hs hq => ?_) ?_
  · obtain ⟨hk2, rfl⟩ := rngD_get hk
    simp only [Tgt.dg]
    exact h k C' Q hk2 hs hq
  · have e : (rngD lo n).filterMap (fun d => match d with | .int z => f z | _ => none) = (List.range n).filterMap fun (k : Nat) => f (lo + (k : Int)) := by
      unfold rngD
      rw [List.filterMap_map]
      rfl
    show P (.lst ((rngD lo n).filterMap (fun d => match d with | .int z => f z | _ => none))) C1
    rw [e]
    exact hP
theorem lc_map {α : Type} {L : List α} {enc : α → D} {st : Cells → Prop} {t : Tgt} {wt : DT} {we : DE} {vs : List Nat} {C1 : Cells} {ρ : DEnv} {P : DK} (f : α → Option D) (hf : ∀ C', Sub C1 C' → st C') (hn : L.length ≤ 100000)
    (h : ∀ (k : Nat) a C' (Q : Option D → Cells → Prop), L[k]? = some a → Sub C1 C' → Q (f a) C' → match t.dg (enc a) (dwipe ρ vs) with
      | some ρ2 => wt ρ2 C' (fun b C2 => if b = true then we ρ2 C2 (fun y C3 => Q (some y) C3) noX else Q none C2) noX
      | none => False)
    (hP : P (.lst (L.filterMap f)) C1) : LcG ⟨L.map enc, st⟩ t wt we vs ρ C1 P := by
  intro Dl hD
  refine ⟨fun i C' => C' = cput C1 Dl (.lst ((L.take i).filterMap f)), by simp, fun i C' e => hf C' (by rw [e]; exact Sub.new hD), fun i d C' hd e => ?_, fun C' e => ?_⟩
  · simp only [List.getElem?_map] at hd
    cases hL : L[i]? with
    | none => rw [hL] at hd; cases hd
    | some a =>
      rw [hL] at hd
      simp only [Option.map_some, Option.some.injEq] at hd
      subst hd
      have ht : L.take (i + 1) = L.take i ++ [a] := by rw [List.take_succ, hL]; rfl
      refine h i a C' (fun o C3 => match o with
        | some y => match C3 Dl with
          | some (.lst acc) => acc.length < 100000 ∧ cput C3 Dl (.lst (acc ++ [y])) = cput C1 Dl (.lst ((L.take (i + 1)).filterMap f))
          | _ => False
        | none => C3 = cput C1 Dl (.lst ((L.take (i + 1)).filterMap f))) hL (by rw [e]; exact Sub.new hD) ?_
      split
      · rename_i y hy
        rw [e, cput_same]
        refine ⟨?_, ?_⟩
        · have := List.length_filterMap_le f (L.take i)
          have hlt : i < L.length := (List.getElem?_eq_some_iff.mp hL).1
          rw [List.length_take] at this
          omega
        · rw [cput_cput, ht, List.filterMap_append]
          simp [hy]
      · rename_i hy
        rw [e, ht, List.filterMap_append]
        simp [hy]
  · simp only [List.length_map, List.take_length] at e
    rw [e, cput_same]
    exact ⟨C1, Sub.new hD, hD, hP⟩
theorem atI_nat' {α : Type} (xs : List α) (j : Nat) : atI xs (j : Int) = xs[j]? := by
  unfold atI ixN
  rw [if_pos (by omega)]
  by_cases h : (j : Int) < xs.length
  · rw [if_pos h]
    simp
  · rw [if_neg h]
    rw [List.getElem?_eq_none (by omega)]
    rfl
theorem atI_at {α : Type} {xs : List α} {i : Int} (h0 : 0 ≤ i) : atI xs i = xs[i.toNat]? := by
  obtain ⟨j, rfl⟩ := Int.eq_ofNat_of_zero_le h0
  rw [atI_nat']
  simp
theorem atI_zero {α : Type} (x : α) (xs : List α) : atI (x :: xs) 0 = some x := by
  rw [atI_at (by omega)]; rfl
theorem ixN_at {n : Nat} {i : Int} (h0 : 0 ≤ i) (h1 : i < n) : ixN n i = some i.toNat := by
  unfold ixN
  rw [if_pos h0, if_pos h1]
theorem ixN_nat {n j : Nat} (h1 : j < n) : ixN n (j : Int) = some j := by
  rw [ixN_at (by omega) (by omega)]; simp
theorem sub_put {C : Cells} {p : Addr} {c : Cell} (h : C p = none) : Sub C (cput C p c) := Sub.new h
theorem seq_hide {a b : DS} {E : DEnds} {ρ : DEnv} {C : Cells} (h : ∀ E', { E with nx := fun ρ' C' => b E ρ' C' } = E' → a E' ρ C) : wSeqL a b E ρ C := h _ rfl
theorem while_hide {t : DT} {b : DS} {E : DEnds} {ρ : DEnv} {C : Cells} (h : ∀ b', b = b' → wWhile t b' E ρ C) : wWhile t b E ρ C := h _ rfl
section
variable {C : Cells} {a Cl : Addr} {ds : List D} {fs : List (String × D)} {f : String} {i : Int}
theorem seqOf_lst : seqOf (.lst ds) C = some ds := rfl
theorem seqOf_ptr : seqOf (.ptr a) C = match C a with | some (.lst ds) => some ds | _ => none := rfl
theorem itsOf_lst : itsOf (.lst ds) C = some ds := rfl
theorem itsOf_tup : itsOf (.tup ds) C = some ds := rfl
theorem itsOf_ptr : itsOf (.ptr a) C = match C a with | some (.lst ds) => some ds | _ => none := rfl
theorem lenOf_lst : lenOf (.lst ds) C = some ds.length := rfl
theorem lenOf_tup : lenOf (.tup ds) C = some ds.length := rfl
theorem lenOf_ptr : lenOf (.ptr a) C = match C a with | some (.lst ds) => some ds.length | _ => none := by
  show Option.map List.length (itsOf (.ptr a) C) = _
  rw [itsOf_ptr]
  split <;> simp_all
theorem lenOf_str {z : Str} (h : z.length ≤ 100000) : lenOf (.str z) C = some z.length := by simp only [lenOf, if_pos h]
theorem itemOf_lst : itemOf (.lst ds) C i = atI ds i := rfl
theorem itemOf_tup : itemOf (.tup ds) C i = atI ds i := rfl
theorem itemOf_ptr : itemOf (.ptr a) C i = match C a with | some (.lst ds) => atI ds i | _ => none := by
  show (itsOf (.ptr a) C).bind (fun ds => atI ds i) = _
  rw [itsOf_ptr]
  split <;> simp_all
theorem itemOf_str {z : Str} (h : z.length ≤ 100000) : itemOf (.str z) C i = (atI z.cps.toList i).map fun c => .str ⟨#[c]⟩ := by simp only [itemOf, if_pos h]
theorem isSeq_ptr : isSeq (.ptr a) C = match C a with | some (.lst _) => True | _ => False := by
  show ((seqOf (.ptr a) C).isSome = true) = _
  rw [seqOf_ptr]
  split <;> simp_all
theorem isSeq_lst : isSeq (.lst ds) C := rfl
theorem fldOf_ins : fldOf Cl f (.ins Cl fs) C = fs.lookup f := by simp only [fldOf, if_true]
theorem fldOf_ptr : fldOf Cl f (.ptr a) C = match C a with | some (.ins c fs) => if c = Cl then fs.lookup f else none | _ => none := rfl
theorem isIns_ins : isIns Cl f (.ins Cl fs) C = (fs.lookup f = none) := by simp only [isIns, true_and]
theorem isIns_ptr : isIns Cl f (.ptr a) C = match C a with | some (.ins c fs) => c = Cl ∧ fs.lookup f = none | _ => False := rfl
theorem res_lst : D.res C (.lst ds) = .lst ds := rfl
theorem res_tup : D.res C (.tup ds) = .tup ds := rfl
theorem res_ptr : D.res C (.ptr a) = match C a with | some (.lst ds) => .lst ds | _ => .ptr a := rfl
end
/-- a product that is no wide one -/
theorem cmul_l {i j : Int} (h : -(2 ^ 64) < i) (h' : i < 2 ^ 64) : CMul i j := .inl ⟨h, h'⟩
theorem cmul_r {i j : Int} (h : -(2 ^ 64) < j) (h' : j < 2 ^ 64) : CMul i j := .inr ⟨h, h'⟩
theorem mod_lo (a : Int) {m : Int} (h : 0 < m) : 0 ≤ a % m := Int.emod_nonneg _ (by omega)
theorem mod_hi (a : Int) {m : Int} (h : 0 < m) : a % m < m := Int.emod_lt_of_pos _ h
end DD

set_option Elab.async false
set_option linter.all false
set_option maxRecDepth 100000
set_option maxHeartbeats 4000000
/-! Tools for readings over data: cells taken away, == of lists, comprehensions over places. -/
namespace DD
open PySem L2
/-- without the cell at p -/
def crem (C : Cells) (p : Addr) : Cells := fun a => if a = p then none else C a
theorem crem_sub (C : Cells) (p : Addr) : Sub (crem C p) C := fun a c h => by
  unfold crem at h
  split at h
  · cases h
  · exact h
theorem crem_same {C : Cells} {p : Addr} : crem C p p = none := by unfold crem; rw [if_pos rfl]
theorem crem_ne {C : Cells} {p a : Addr} (h : a ≠ p) : crem C p a = C a := by unfold crem; rw [if_neg h]
theorem eqv_lists {α : Type} {enc : α → D} [DecidableEq α] (h : ∀ a b, (enc a).eqb (enc b) = decide (a = b)) : ∀ xs ys : List α, PyData.eqvAll (pys (xs.map enc)) (pys (ys.map enc)) = decide (xs = ys)
  | [], [] => by simp [pys, PyData.eqvAll]
  | [], y :: ys => by simp [pys, PyData.eqvAll]
  | x :: xs, [] => by simp [pys, PyData.eqvAll]
  | x :: xs, y :: ys => by
    have e := h x y
    unfold D.eqb at e
    simp only [List.map_cons, pys, PyData.eqvAll, e, eqv_lists h xs ys, List.cons.injEq]
    by_cases h1 : x = y <;> by_cases h2 : xs = ys <;> simp [h1, h2]
theorem eqb_lst {α : Type} {enc : α → D} [DecidableEq α] (h : ∀ a b, (enc a).eqb (enc b) = decide (a = b)) (xs ys : List α) : (D.lst (xs.map enc)).eqb (.lst (ys.map enc)) = decide (xs = ys) := by
  show PyData.eqv (D.lst (xs.map enc)).py (D.lst (ys.map enc)).py = _
  simp only [D.py, PyData.eqv]
  exact eqv_lists h xs ys
theorem eqb_tup {α : Type} {enc : α → D} [DecidableEq α] (h : ∀ a b, (enc a).eqb (enc b) = decide (a = b)) (xs ys : List α) : (D.tup (xs.map enc)).eqb (.tup (ys.map enc)) = decide (xs = ys) := by
  show PyData.eqv (D.tup (xs.map enc)).py (D.tup (ys.map enc)).py = _
  simp only [D.py, PyData.eqv]
  exact eqv_lists h xs ys
theorem eqb_int (a b : Int) : (D.int a).eqb (.int b) = decide (a = b) := by simp [D.eqb, D.py, PyData.eqv]; rfl
theorem eqb_str (a b : Str) : (D.str a).eqb (.str b) = decide (a = b) := by simp [D.eqb, D.py, PyData.eqv]; rfl
theorem eqb_ints (xs ys : List Int) : (D.lst (xs.map D.int)).eqb (.lst (ys.map D.int)) = decide (xs = ys) := eqb_lst eqb_int xs ys
theorem eqb_pair (p q : Int × Int) : (pairD p).eqb (pairD q) = decide (p = q) := by
  have e : (pairD p).eqb (pairD q) = decide ([p.1, p.2] = [q.1, q.2]) := eqb_tup eqb_int [p.1, p.2] [q.1, q.2]
  rw [e]
  cases p; cases q
  simp
theorem eqb_lst_nil {α : Type} (enc : α → D) : ∀ xs : List α, (D.lst (xs.map enc)).eqb (.lst []) = xs.isEmpty
  | [] => by simp [D.eqb, D.py, pys, PyData.eqv, PyData.eqvAll]
  | x :: xs => by simp [D.eqb, D.py, pys, PyData.eqv, PyData.eqvAll]
theorem dat_lst {α : Type} {enc : α → D} {n : Nat} (h : ∀ a, Dat n (enc a)) (xs : List α) : Dat (n + 1) (.lst (xs.map enc)) := .lst fun d hd => by
  obtain ⟨a, _, rfl⟩ := List.mem_map.mp hd
  exact h a
theorem dat_tup {α : Type} {enc : α → D} {n : Nat} (h : ∀ a, Dat n (enc a)) (xs : List α) : Dat (n + 1) (.tup (xs.map enc)) := .tup fun d hd => by
  obtain ⟨a, _, rfl⟩ := List.mem_map.mp hd
  exact h a
theorem dat_ints {n : Nat} (xs : List Int) : Dat (n + 1) (.lst (xs.map D.int)) := dat_lst (fun _ => .int _) xs
theorem dat_nil {n : Nat} : Dat (n + 1) (.lst []) := .lst fun d hd => by cases hd
theorem dat_pair {n : Nat} (p : Int × Int) : Dat (n + 1) (pairD p) := dat_tup (enc := D.int) (fun _ => .int _) [p.1, p.2]
/-- == of two lists of ints -/
theorem range_filterMap {α β : Type} (L : List α) (g : α → Option β) : (List.range L.length).filterMap (fun k => (L[k]?).bind g) = L.filterMap g := by
  suffices h : ∀ n, n ≤ L.length → (List.range n).filterMap (fun k => (L[k]?).bind g) = (L.take n).filterMap g by
    rw [h L.length (Nat.le_refl _), List.take_length]
  intro n
  induction n with
  | zero => intro _; rfl
  | succ n ih =>
    intro hn
    rw [List.range_succ, List.filterMap_append, ih (by omega), List.take_succ, List.filterMap_append]
    have e : L[n]? = some L[n] := List.getElem?_eq_getElem (by omega)
    simp only [e, List.filterMap_cons, List.filterMap_nil, Option.bind_some, Option.toList_some]
theorem take_snoc {α : Type} {L : List α} {k : Nat} {e : α} (h : L[k]? = some e) : L.take (k + 1) = L.take k ++ [e] := by
  rw [List.take_succ, h]; rfl
theorem filterMap_map {α β γ : Type} (L : List α) (g : α → Option β) (f : β → γ) : L.filterMap (fun a => (g a).map f) = (L.filterMap g).map f := by
  rw [List.map_filterMap]
theorem ints_ptr {C : Cells} {a : Addr} {ns : List Int} (h : C a = some (.lst (ns.map D.int))) : IntsOf (.ptr a) C ns := by simp only [IntsOf, seqOf, h]
theorem ints_lst {C : Cells} {ns : List Int} : IntsOf (.lst (ns.map D.int)) C ns := rfl
/-- the first of a sorted list -/
theorem sortI_head {l : List Int} (h : l ≠ []) : ∃ r, sortI l = minI l :: r := by
  obtain ⟨h1, h2⟩ := minI_spec h
  have hp := sortI_perm l
  have hs := sortI_pair l
  cases e : sortI l with
  | nil =>
    rw [e] at hp
    exact absurd hp.symm.eq_nil h
  | cons x r =>
    refine ⟨r, ?_⟩
    rw [e] at hp hs
    have hx : x ∈ l := hp.mem_iff.mp List.mem_cons_self
    have hm : minI l ∈ x :: r := hp.mem_iff.mpr h1
    have hle := h2 x hx
    rcases List.mem_cons.mp hm with q | q
    · rw [q]
    · have := (List.pairwise_cons.mp hs).1 _ q
      rw [show x = minI l by omega]
end DD

set_option Elab.async false
set_option linter.all false
set_option maxRecDepth 100000
set_option maxHeartbeats 4000000
/-! More: range with a step, the last of a list, cuts. -/
namespace DD
open PySem L2

def rngC (lo c : Int) (n : Nat) : List D := (List.range n).map fun (k : Nat) => D.int (lo + (k : Int) * c)
theorem rngC_len (lo c : Int) (n : Nat) : (rngC lo c n).length = n := by simp [rngC]
theorem rngC_get {lo c : Int} {n i : Nat} {d : D} (h : (rngC lo c n)[i]? = some d) : i < n ∧ d = .int (lo + (i : Int) * c) := by
  unfold rngC at h
  rw [List.getElem?_map] at h
  rcases Nat.lt_or_ge i n with z | z
  · rw [List.getElem?_range z] at h
    exact ⟨z, (Option.some.inj h).symm⟩
  · rw [List.getElem?_eq_none (by simpa using z)] at h; cases h
def wRng3 (a : DA) (ρ : DEnv) (C : Cells) (P : DIt → Cells → Prop) (PX : DX) : Prop := a ρ C (fun ds C1 => match ds with
  | [.int i, .int j, .int c] => ∃ n, RgC i j c n ∧ P ⟨rngC i c n, frozen⟩ C1
  | _ => False) PX
theorem itr_rngC {K : PySem.W.Frag} {F : Hp} {lo c : Int} {n : Nat} : ItR K F (Itc lo c n) ⟨rngC lo c n, frozen⟩ := fun F' H C e hs _ => by
  refine ⟨fun i d hd => ?_, by show n ≤ (rngC lo c n).length; rw [rngC_len]; exact Nat.le_refl _⟩
  obtain ⟨hi, rfl⟩ := rngC_get hd
  refine ⟨hi, fun x H' y => ?_⟩
  obtain ⟨rfl, rfl⟩ := y
  exact ⟨F', Ex.refl _, hs, .int _⟩
theorem di_rng3 {X : Cx} {W : WX} {tg : Expr} {wr : DA} {pos : Pos} {a b c : Expr} {p : Pos} (hg : Gl X "range") (hm : X.mg "range" = none) (ha : PA X [a, b, c] (tA X.K W wr))
    (hs : starEach [a, b, c] X.env = (false, eval a X.env) :: starEach [b, c] X.env := by rfl) (hpl : (backTo pos (starEach [b, c] X.env)).any (·.1) = false := by rfl) :
    PI X tg (.Call (.Name "range" p) [a, b, c] [] pos) (tI X.K W (wRng3 wr)) :=
  PI.imp (pi_range3 hg hm ha hs hpl) fun σ H R ⟨F, C, ρ, P, PX, hs, en, xr, w, k⟩ => ⟨F, C, ρ, _, PX, hs, en, xr, w, fun v F1 H1 d C1 e1 h1 r q => by
    revert q
    dsimp only
    split
    · rintro ⟨n, hn, q⟩
      rename_i i j c
      cases r with
      | cons r1 r2 =>
        cases r1
        cases r2 with
        | cons r2 r3 =>
          cases r2
          cases r3 with
          | cons r3 r4 =>
            cases r3; cases r4
            exact ⟨i, j, c, n, rfl, hn, k _ F1 H1 _ C1 e1 h1 itr_rngC q⟩
    · exact fun z => z.elim⟩
theorem for_rngC {lo c : Int} {n i : Nat} {b : DS} {E : DEnds} {ρ : DEnv} {C : Cells} (Inv : Nat → DEnv → Cells → Prop) (h0 : Inv 0 ρ C)
    (hs : ∀ (k : Nat) ρ' C', k < n → Inv k ρ' C' → b { nx := Inv (k + 1), ct := Inv (k + 1), bk := E.nx, rt := E.rt, ex := E.ex } (ρ'.set i (some (.int (lo + (k : Int) * c)))) C')
    (hd : ∀ ρ' C', Inv n ρ' C' → E.nx ρ' C') : ForG ⟨rngC lo c n, frozen⟩ (.name i) b E ρ C := by
  refine ⟨Inv, h0, fun _ _ _ _ => trivial, fun k d ρ' C' hk hI => ?_, fun ρ' C' hI => hd ρ' C' (by have e := rngC_len lo c n; simp only [e] at hI; exact hI)⟩
  obtain ⟨hk2, rfl⟩ := rngC_get hk
  simp only [Tgt.dg]
  exact hs k ρ' C' hk2 hI
theorem rgC_two {n : Nat} (h : n ≤ 1000000) : RgC 0 (n : Int) 2 ((n + 1) / 2) := by
  have e : Builtin.Range.rangeSize 0 (n : Int) 2 = (((n + 1) / 2 : Nat) : Int) := by
    unfold Builtin.Range.rangeSize
    split <;> omega
  refine ⟨by decide, by decide, ?_, e⟩
  unfold Builtin.Range.small
  rw [e]
  have e1 : ((2 : Int) > 0) = True := by simp
  have e2 : Builtin.Range.rangeFitsLong 2 = true := by decide
  have e3 : Builtin.Range.rangeFitsLong 0 = true := by decide
  have e4 : ∀ i : Int, 0 ≤ i → i ≤ 3000000 → Builtin.Range.rangeFitsLong i = true := fun i h1 h2 => by
    simp only [Builtin.Range.rangeFitsLong, Bool.and_eq_true, decide_eq_true_eq]; omega
  rw [e2, e3, e4 _ (by omega) (by omega)]
  simp only [Bool.and_eq_true, Bool.or_eq_true, decide_eq_true_eq, beq_iff_eq, e1, if_true, true_and]
  exact ⟨e4 _ (by omega) (by omega), .inr (e4 _ (by omega) (by omega))⟩

theorem atI_getLast {α : Type} (xs : List α) : atI xs (-1) = xs.getLast? := by
  unfold atI ixN
  rcases List.eq_nil_or_concat xs with h | ⟨r, x, h⟩
  · subst h; rfl
  · subst h
    simp only [List.concat_eq_append, List.length_append, List.length_singleton]
    rw [if_neg (by decide), if_pos (by omega)]
    have : (-1 + ((r.length + 1 : Nat) : Int)).toNat = r.length := by omega
    simp only [Option.bind_some, this]
    simp
theorem atI_snoc {α : Type} (xs : List α) (x : α) : atI (xs ++ [x]) (-1) = some x := by rw [atI_getLast, List.getLast?_concat]
theorem atI_succ {α : Type} (xs : List α) (j : Nat) : atI xs ((j : Int) + 1) = xs[j + 1]? := atI_nat' xs (j + 1)
theorem cut_init (xs : List D) : cutD xs none (some (-1)) = xs.dropLast := by
  unfold cutD
  simp only [HT.sIx, List.drop_zero, Nat.sub_zero]
  rw [if_pos (by decide), List.dropLast_eq_take]
  congr 1
  omega
theorem cut_from (xs : List D) (k : Nat) : cutD xs (some (k : Int)) none = xs.drop k := by
  unfold cutD
  simp only [HT.sIx_nat, HT.sIx_none]
  rw [List.take_of_length_le (by rw [List.length_drop]; omega)]
  rcases Nat.le_total k xs.length with h | h
  · rw [Nat.min_eq_left h]
  · rw [Nat.min_eq_right h, List.drop_eq_nil_of_le (Nat.le_refl _), List.drop_eq_nil_of_le h]
theorem cut_to (xs : List D) (k : Nat) : cutD xs none (some (k : Int)) = xs.take k := by
  unfold cutD
  simp only [HT.sIx_nat, HT.sIx_none, List.drop_zero, Nat.sub_zero]
  rcases Nat.le_total k xs.length with h | h
  · rw [Nat.min_eq_left h]
  · rw [Nat.min_eq_right h, List.take_of_length_le (Nat.le_refl _), List.take_of_length_le h]
end DD

set_option Elab.async false
set_option linter.all false
set_option maxRecDepth 100000
set_option maxHeartbeats 4000000
/-! More: a module's tuple, x in xs of data, tuples put together. -/
namespace DD
open PySem L2 PySem.Spec PyProof.Rows

/-! ### a tuple of the module -/
theorem rep_tupK {K : PySem.W.Frag} {a : Addr} {od : Option Addr} {its : Array Value} {n : Nat} {sl : Array (Option Value)} {vs : List V} {ds : List D} (h : K.lookup a = some ⟨.type "tuple", od, .seq its n, sl⟩) (hs : its.size ≤ sizeLine) (r : Vals vs its.toList)
    (q : ∀ F, RepL K F vs ds) : ∀ F, Rep K F (.ref a) (.ktup ds) := fun F => .ktup (.inr ⟨_, its, n, h, rfl, rfl, hs, r⟩) (q F)
theorem d_kdat {X : Cx} {W : WX} {x : Str} {d : D} {pos : Pos} (h : ∃ a, X.mg x = some (.ref a) ∧ ∀ F, Rep X.K F (.ref a) d) (hg : Gl X x := by rfl) (hd : (x == ("__debug__" : Str)) = false := by decide) : PE X (.Name x pos) (tE X.K W (wC d)) := by
  obtain ⟨a, hm, hr⟩ := h
  exact d_glob hg hm (v := .ref a) rfl hr hd

/-! ### x in xs, data of any depth -/
def rInQ (K : PySem.W.Frag) (neg : Bool) : R2 := fun x y H Q => ∃ d e ds, (e = .list ds ∨ e = .tuple ds) ∧ Dp K H x d ∧ Dp K H y e ∧ SeqAt.shaped d = true ∧ SeqAt.shaped e = true ∧ Q (.bl (neg ^^ ds.any fun z => PyData.eqv z d)) H
theorem room_in_tuple {A : Around} {xs : List PyData} {d : PyData} (hd : SeqAt.shaped d = true) (hu : A.units + 65 < cLine) : A.units + 1 + min (PyData.depthAll xs) d.depth < cLine := by
  unfold SeqAt.shaped at hd
  simp only [Bool.and_eq_true, decide_eq_true_eq] at hd
  have : min (PyData.depthAll xs) d.depth ≤ d.depth := Nat.min_le_right _ _
  omega
theorem op_inQ {X : Cx} (hu : X.A.units + 65 < cLine) : OpR X (compareOp .In) (rInQ X.K false) := by
  intro pins s σ H x y v u Q I rx ry h
  obtain ⟨d, e, ds, he, hd, hq, sd, se, q⟩ := h
  obtain ⟨as, r1⟩ := Dp.reads I d x v hd rx
  obtain ⟨bs, r2⟩ := Dp.reads I e y u hq ry
  rw [Bool.false_xor] at q
  rcases he with rfl | rfl
  · exact SeqAt.in_list_reads r2 r1 (SeqAt.canLay_of_shaped se) (SeqAt.canLay_of_shaped sd) (room_in_tuple sd hu) ⟨.bl _, H, I, rfl, q⟩
  · exact SeqAt.in_tuple_reads r2 r1 (SeqAt.canLay_of_shaped se) (SeqAt.canLay_of_shaped sd) (room_in_tuple sd hu) ⟨.bl _, H, I, rfl, q⟩
theorem op_notInQ {X : Cx} (hu : X.A.units + 65 < cLine) : OpR X (compareOp .NotIn) (rInQ X.K true) := by
  intro pins s σ H x y v u Q I rx ry h
  obtain ⟨d, e, ds, he, hd, hq, sd, se, q⟩ := h
  obtain ⟨as, r1⟩ := Dp.reads I d x v hd rx
  obtain ⟨bs, r2⟩ := Dp.reads I e y u hq ry
  rw [Bool.true_xor] at q
  rcases he with rfl | rfl
  · exact SeqAt.notIn_list_reads r2 r1 (SeqAt.canLay_of_shaped se) (SeqAt.canLay_of_shaped sd) (room_in_tuple sd hu) ⟨.bl _, H, I, rfl, q⟩
  · exact SeqAt.notIn_tuple_reads r2 r1 (SeqAt.canLay_of_shaped se) (SeqAt.canLay_of_shaped sd) (room_in_tuple sd hu) ⟨.bl _, H, I, rfl, q⟩
/-- the items of a list or a tuple that is data -/
def inItems : D → Option (List D)
  | .lst ds => some ds
  | .tup ds => some ds
  | .ktup ds => some ds
  | _ => none
def dInD (neg : Bool) (x : D) (y : D) (C : Cells) (P : DK) : Prop := match inItems (y.res C) with
  | some ds => ∃ n, n ≤ 60 ∧ Dat n (x.res C) ∧ Dat n (y.res C) ∧ P (.bl (neg ^^ ds.any fun z => z.eqb (x.res C))) C
  | none => False
theorem any_pys (d : PyData) : ∀ ds : List D, ((pys ds).any fun z => PyData.eqv z d) = ds.any fun z => PyData.eqv z.py d
  | [] => rfl
  | x :: r => by simp only [pys, List.any_cons, any_pys d r]
theorem s_inD {K : PySem.W.Frag} {neg : Bool} : SimR K (rInQ K neg) (dInD neg) := fun F C H x y dx dy P Q hs rx ry w k => by
  revert w
  unfold dInD
  split
  · rename_i ds hd
    rintro ⟨n, hn, h1, h2, w⟩
    have kk := k _ F H _ C (Ex.refl F) hs (.bl _) w
    have e : (fun z : D => z.eqb (dx.res C)) = fun z : D => PyData.eqv z.py (dx.res C).py := rfl
    rw [e, ← any_pys] at kk
    refine ⟨_, _, pys ds, ?_, res_dp hs rx h1, res_dp hs ry h2, dat_shaped h1 hn, dat_shaped h2 hn, kk⟩
    cases hy : dy.res C <;> rw [hy] at hd <;> cases hd
    · exact .inr (by rw [D.py])
    · exact .inl (by rw [D.py])
    · exact .inr (by rw [D.py])
  · exact fun z => z.elim

/-! ### tuples put together -/
def dCatT (x : D) (y : D) (C : Cells) (P : DK) : Prop := match x, y with
  | .tup xs, .tup ys => xs.length + ys.length ≤ 100000 ∧ P (.tup (xs ++ ys)) C
  | _, _ => False
theorem s_catT {K : PySem.W.Frag} : SimR K (rCatA K) dCatT := fun F C H x y dx dy P Q hs rx ry w k => by
  unfold dCatT at w
  split at w
  · rename_i xs ys
    cases rx with
    | tup h1 r1 =>
      cases ry with
      | tup h2 r2 =>
        rename_i a us b vs
        have e1 := r1.length
        have e2 := r2.length
        refine ⟨a, b, us, vs, rfl, rfl, .of (hs.ex.nd h1 rfl), .of (hs.ex.nd h2 rfl), by rw [e1, e2]; exact Nat.le_trans w.1 (by decide), fun e => ?_, fun _ e => ?_, fun _ _ p hp => ?_⟩
        · subst e
          cases r1
          exact k _ F H _ C (Ex.refl F) hs (.tup h2 r2) w.2
        · subst e
          cases r2
          have w2 := w.2
          rw [List.append_nil] at w2
          exact k _ F H _ C (Ex.refl F) hs (.tup h1 r1) w2
        · obtain ⟨ex, hs'⟩ := hs.lay (o := .tup (us ++ vs)) hp
          exact k _ _ _ _ C ex hs' (.tup (by unfold upd; rw [if_pos rfl]) ((r1.mono ex).append (r2.mono ex))) w.2
  · exact w.elim
theorem atI_lit {α : Type} (xs : List α) (n : Nat) : atI xs (no_index (@OfNat.ofNat Int n _)) = xs[n]? := atI_nat' xs n
theorem _root_.L2.Room.units2 {k : Nat} {A : Around} (r : L2.Room k A) : A.units + 65 < cLine := by have := r.un; omega
end DD

set_option Elab.async false
set_option linter.all false
set_option maxRecDepth 100000
set_option maxHeartbeats 4000000
/-! Exceptions: raise of an own class, try and except. -/
namespace DD
open PySem L2 PySem.Spec PyProof.Rows

/-- what is known of an own class of errors without an __init__ -/
structure XcT (K : PySem.W.Frag) (C : Addr) : Prop where
  xi : PySem.W.excIn K C [.type "ValueError", .type "Exception", .type "BaseException", .type "object"] "ValueError.__new__" = true
  xb : PySem.W.subIn K (.ref C) (.type "BaseException") = some true
  xt : PySem.W.typeIn K (.ref C) = some (.type "type")
  xk : PySem.W.keepIn K (.ref C) = true
theorem exm_is {K : PySem.W.Frag} {C1 C2 : Addr} {b : Bool} (h1 : PySem.W.subIn K (.ref C2) (.type "BaseException") = some true) (h2 : PySem.W.isClsIn K C2 = true) (h3 : PySem.W.typeIn K (.ref C2) = some (.type "type")) (h4 : PySem.W.subIn K (.ref C1) (.ref C2) = some b) :
    PySem.W.exmOne K (.ref C1) (.ref C2) = some b := by
  unfold PySem.W.exmOne PySem.W.kitCls
  have h5 : (PySem.W.clsIn K C2).isSome = true := h2
  rw [h1, if_pos (by decide)]
  dsimp only
  rw [h5, h3, if_pos (by decide), h4]

def wRaise (cls : Value) (E : DEnds) (ρ : DEnv) (C : Cells) : Prop := E.ex cls [] ρ C
section
variable {X : Cx} {W : WX} {K : PySem.W.Frag} {pos : Pos}
theorem ds_raise0 {x m : Str} {j : Nat} {p p2 pos' : Pos} {C : Addr} (hc : X.calm = true) (tk : Takes X W) (T : XcT X.K C) (gC : X.mg x = some (.ref C)) (hg : Gl X x) (hdb : (x == ("__debug__" : Str)) = false := by decide) :
    PS X (.Raise (some (.Call (.Name x p) [.Constant (.str m) j p2] [] pos)) none pos') (tS X.K W (wRaise (.ref C))) :=
  PS.imp (ps_raise hc tk (pmk_own PySem.F.excBase_ValueError T.xi gC T.xk (raises_own T.xb T.xt) hg hdb)) fun D σ H ⟨F, C', ρ, E, hs, en, xr, w, k⟩ =>
    xr _ none [] σ F H ρ C' (Ex.refl F) hs en (.inl ⟨rfl, rfl⟩) w

/-! try: .. except X: .. (the suite raises nothing) -/
def wTry (K : PySem.W.Frag) (c : Value) (wb ws : DS) (E : DEnds) (ρ : DEnv) (C : Cells) : Prop := wb { E with ex := fun cls fs ρ' C' => ∃ b, PySem.W.exmOne K cls c = some b ∧ (b = true → ws { E with ex := fun _ _ _ _ => False } ρ' C') ∧ (b = false → E.ex cls fs ρ' C') } ρ C
theorem EndsR.exx {F : Hp} {E : DEnds} {D : Ends} {px : DX} (h : EndsR K F E D) : EndsR K F { E with ex := px } D := ⟨h.nx, h.rt, h.bk, h.ct⟩
theorem ds_try {x : Str} {C : Addr} {K' : PySem.W.Frag} {body suite : List Stmt} {b₀ : Stmt} {np pos' : Pos} {wb ws : DS} (hs : X.stack = X.env :: X.outer) (hf : X.env.frame = some X.env.locals) (T : XcT K' C) (gC : X.mg x = some (.ref C)) (tk : Takes X W)
    (hb : ∀ (W' : WX) (pn : List (Addr × Obj)) (xe : Value → Shared → Prop), Takes (X.tr pn xe) W' → PassesOwn (model X.prog X.w) X.A X.env xe → PSs (X.tr pn xe) body (tS X.K W' wb))
    (hsu : ∀ (a : Addr) (oe : Obj) (cls : Value) (d : Option Addr) (pn : List (Addr × Obj)), Zc cls d oe → (∃ vs, oe.data = .fields vs) → PSs (X.suite a ((a, oe) :: pn)) (b₀ :: suite) (tS X.K (fun _ _ _ _ => False) ws))
    (hK : X.K = K' := by rfl) (hg : Gl X x := by rfl) (hdb : (x == ("__debug__" : Str)) = false := by decide) :
    PS X (.Try body [.ExceptHandler (some (.Name x np)) none (b₀ :: suite) pos'] [] [] pos) (tS X.K W (wTry K' (.ref C) wb ws)) := by
  subst hK
  exact PS.imp (ps_try_only (tb := fun W' => tS X.K W' wb) (ts := fun _ _ _ => tS X.K (fun _ _ _ _ => False) ws) hs hf ⟨hg, hdb, .inl gC⟩ tk hb hsu) fun D σ H ⟨F, C', ρ, E, hs', en, xr, w, k⟩ =>
    ⟨F, C', ρ, { E with ex := fun cls fs ρ' C' => ∃ b, PySem.W.exmOne X.K cls (.ref C) = some b ∧ (b = true → ws { E with ex := fun _ _ _ _ => False } ρ' C') ∧ (b = false → E.ex cls fs ρ' C') }, hs', en, fun cls d fs σ1 F1 H1 ρ1 C1 e1 h1 n1 rx ⟨b, hb1, hy, hn⟩ =>
      ⟨b, hb1, fun hbt a ha => ⟨F1, C1, ρ1, { E with ex := fun _ _ _ _ => False }, h1, n1, fun _ _ _ _ _ _ _ _ _ _ _ _ z => z.elim, hy hbt, (k.mono e1).exx⟩, fun hbf => xr cls d fs σ1 F1 H1 ρ1 C1 e1 h1 n1 rx (hn hbf)⟩, w, k.exx⟩
end

/-! an object made, its __init__ may raise -/
section
variable {X : Cx} {W : WX} {k : Nat} {f Cl : Addr} {fd : FuncData} {ps : List Str} {x : Str} {p pos : Pos} {e : Expr} {es : List Expr} {dvs : List V} {dsv : List Value}
theorem make_at {CX : CXT} {sp : Sp} {E : XK} {pins : List (Addr × Obj)} {σ : L2.St} {H : Hp} {s : Shared} {Q : VK} {us : List Value} {vs : List V} (M : Mk X.K Cl f) (F : FnOk X.prog X.w X.K X.mg X.base CX k f fd ps sp) (hr : Room (k + 1) X.A) (hb : Binds X.K fd ps dsv) (hd : Vals dvs dsv)
    (hx : PassesAt CX X σ E) (I : Inv X pins σ H s) (r : Vals vs us)
    (h : ∀ z dx, H z = none → H dx = none → dx ≠ z → sp (.ref z :: (vs ++ dvs)) (upd (upd H dx (.own z)) z (.ins Cl dx [])) (fun v H2 => v = .non ∧ Q (.ref z) H2) E) :
    wpAny (model X.prog X.w) X.A (call (.ref Cl) us) (EP X pins σ Q) X.xe s := by
  have q := h _ _ (I.hok.fresh (Nat.le_succ s.heap.objs.size)) (I.hok.fresh (Nat.le_refl s.heap.objs.size)) (Nat.ne_of_lt (Nat.lt_succ_self s.heap.objs.size))
  have J := Inv.made (C := Cl) I
  have rv : Vals (V.ref (s.heap.objs.size + 1) :: (vs ++ dvs)) (Value.ref (s.heap.objs.size + 1) :: (us ++ dsv)) := .cons rfl (r.append hd)
  have len : (Value.ref (s.heap.objs.size + 1) :: us ++ dsv).length = ps.length := rv.length.symm.trans (F.len _ _ _ _ q)
  refine wpAny_call (make_map (f := f) I.kIn M.makes M.init (beq_iff_eq.mp M.fn) (codeAny_mono (F.run _ X.stack _ _ ⟨Value.ref (s.heap.objs.size + 1) :: us, []⟩ (Value.ref (s.heap.objs.size + 1) :: (us ++ dsv)) _ _ E (hr.make Cl us []) (J.env0.make Cl us []) (hb _ (Value.ref (s.heap.objs.size + 1) :: us) J.kIn len) rv q) fun o s' z => ?_))
  match o, z with
  | .error e, z => exact hx pins _ _ e s' J z
  | .ok (.ret u), z =>
    obtain ⟨v, H', J2, _, ev, q3⟩ := J.after z
    subst ev
    exact ⟨by assumption, ⟨V.ref _, H', J2, rfl, q3⟩⟩
  | .ok .next, z => exact z.elim
  | .ok .brk, z => exact z.elim
  | .ok .cont, z => exact z.elim
theorem d_makeX {RX : DSpX} {dd : List D} {wr : DA} (tk : Takes X W) (M : Mk X.K Cl f) (G : FnOk X.prog X.w X.K X.mg X.base (L2.CX X.prog X.w) k f fd ps (spX X.K RX)) (hr : Room (k + 1) X.A) (hm : X.mg x = some (.ref Cl)) (hb : Binds X.K fd ps dsv) (ha : PA X (e :: es) (tA X.K W wr)) (hd : Vals dvs dsv := by exact .nil) (hdd : ∀ F, RepL X.K F dvs dd := by exact fun _ => .nil) (hg : Gl X x := by rfl)
    (hdb : (x == ("__debug__" : Str)) = false := by decide) (he : starEach (e :: es) X.env = (false, eval e X.env) :: starEach es X.env := by rfl) (hpl : (backTo pos (starEach es X.env)).any (·.1) = false := by rfl) :
    PE X (.Call (.Name x p) (e :: es) [] pos) (tE X.K W (wMakeX Cl RX dd wr)) := by
  refine ⟨fun pins s σ H Q I ⟨F, C, ρ, P, PX, hs, en, xr, w, kk⟩ => ?_⟩
  refine wpAny_Call_Name_kw (ld_glob I hg hm ?_ hdb)
  refine PySem.W.callWith_K (h₀ := X.base) I.ok.mod.kin M.kp (thn (ha.run pos pins s σ H (fun vs H1 => ∃ F1 C1 ds, Ex F F1 ∧ Hs X.K F1 C1 H1 ∧ RepL X.K F1 vs ds ∧ ∀ q, C1 q = none → RX (.ptr q :: (ds ++ dd)) (cput C1 q (.ins Cl [])) (fun r C2 => r = .non ∧ P (.ptr q) C2) (fun cls fs C3 => PX cls fs ρ C3)) I
    ⟨F, C, ρ, _, PX, hs, en, xr, w, fun vs F1 H1 ds C1 e1 h1 r q => ⟨F1, C1, ds, e1, h1, r, q⟩⟩) fun us s1 ⟨vs, H1, I1, r, F1, C1, ds, e1, h1, rr, q⟩ => ⟨I1.kIn, ?_⟩) he hpl
  refine make_at (E := WE W σ) M G hr hb hd (passAt tk σ) I1 r fun z dx hz hdx ne => ?_
  obtain ⟨c0, h2⟩ := h1.inst (Cl := Cl) hz hdx ne
  exact ⟨F1, _, .ptr z :: (ds ++ dd), _, _, h2, .cons (.ptr z) (rr.append (hdd F1)), q z c0, ptr_kont (kk.mono e1), KontX.of (xr.mono e1) (en.mono e1)⟩
end

/-! xs.index(y), flat items -/
def dIndex (x : D) (ds : List D) (C : Cells) (P : DK) : Prop := match ds with
  | [y] => ∃ xs, seqOf x C = some xs ∧ flatD y = true ∧ xs.all flatD = true ∧ ∃ (j : Nat) (z : D), xs[j]? = some z ∧ eqV (toV z) (toV y) = true ∧ (∀ (m : Nat) (z' : D), m < j → xs[m]? = some z' → eqV (toV z') (toV y) = false) ∧ P (.int (j : Int)) C
  | _ => False
theorem s_index {K : PySem.W.Frag} : SimM K (rIndex K) dIndex := fun F C H x dx xs ds P Q hs rx rl w k => by
  revert w
  unfold dIndex
  split
  · rename_i y
    rintro ⟨zs, hz, fy, fz, j, z, hj, hzy, hno, w⟩
    obtain ⟨a, us, rfl, hq, hr⟩ := seq_of hs rx hz
    cases rl with
    | cons r1 r2 =>
      cases r2
      obtain ⟨e1, f1⟩ := flat_rep r1 fy
      obtain ⟨e2, f2⟩ := flat_reps hr fz
      refine ⟨a, us, _, j, toV z, rfl, rfl, hq, f1, f2, ?_, by rw [e1]; exact hzy, fun m z' hm hz' => ?_, k _ F H _ C (Ex.refl F) hs (.int _) w⟩
      · rw [e2, List.getElem?_map, hj]; rfl
      · rw [e2, List.getElem?_map] at hz'
        cases hm' : zs[m]? with
        | none => rw [hm'] at hz'; cases hz'
        | some z2 =>
          rw [hm'] at hz'
          cases hz'
          rw [e1]
          exact hno m z2 hm hm'
  · exact fun z => z.elim
theorem eqV_int (a b : Int) : eqV (toV (.int a)) (toV (.int b)) = decide (a = b) := by
  simp only [toV, eqV]
  exact Bool.beq_eq_decide_eq a b
end DD

set_option Elab.async false
set_option linter.all false
set_option maxRecDepth 100000
set_option maxHeartbeats 4000000
/-! xs.extend(ys) of a cell by any list. -/
namespace DD
open PySem L2 HT PySem.Spec PyProof.Rows
open PySem.AutoSeq1 (wpAny_loadPart')

theorem list_extendW (l : Addr) (items : Array Value) (n : Nat) (b : Addr) (items2 : Array Value) (n2 : Nat) (sl2 : Array (Option Value)) (hc0 : ¬(!items.isEmpty && Builtin.List.listTooLong (items.size + items2.size)) = true) (hc1 : items.size ≤ sizeLine) (hs2 : items.size + items2.size ≤ sizeLine + 1) :
    Meets (Builtin.«list.extend» ⟨[.ref l, .ref b], []⟩) (fun _ R s => s.heap.get? l = some { cls := .type "list", dict := none, data := .seq items n, slots := #[] } ∧ s.heap.get? b = some { cls := .type "list", dict := none, data := .seq items2 n2, slots := sl2 } ∧ R (.ok (.ret Value.none)) { s with heap := s.heap.update l (Obj.mapSeq fun x => x ++ items2), toks := s.toks }) :=
  .of_wp fun prog w A R s h => by
    obtain ⟨hp, g, d, tk, os⟩ := s
    obtain ⟨hl, hb, h⟩ := h
    have f1 := AutoSeq1.idx_int
    have f2 := AutoSeq1.sub_tuple_tuple
    have f3 := AutoSeq1.sub_list_list
    have f4 := AutoSeq1.sub_tuple_list
    have f5 := AutoSeq1.sub_list_tuple
    have hz' : (items ++ items2).size ≤ sizeLine + 1 := by rw [Array.size_append]; exact hs2
    wp_walk using (wpAny_updateSeq hl rfl (hz := hc1) (_hz' := hz')), wpAny_loadPart' hl, wpAny_loadPart' hb
    exact ⟨_, rfl, h⟩
def rExtendS (K : PySem.W.Frag) : V → List V → Hp → VK → Prop := fun x vs H Q => ∃ l b xs zs, x = .ref l ∧ vs = [.ref b] ∧ H l = some (.lst xs) ∧ SqL K H b zs ∧ xs.length + zs.length ≤ sizeLine ∧ Q .non (upd H l (.lst (xs ++ zs)))
theorem mt_extendS {X : Cx} : MtR X "list.extend" (rExtendS X.K) := by
  intro pins s σ H x vs v us Q I rx rv h
  obtain ⟨l, b, xs, zs, rfl, rfl, hH, hB, hz, q⟩ := h
  cases rx
  obtain ⟨u, rfl, ru⟩ := rv.one
  cases ru
  obtain ⟨z, its, n, r, hl, e⟩ := I.lstM hH
  obtain ⟨its2, r2, pl2, _⟩ := I.list hB
  obtain ⟨⟨cls2, dd2, data2, sl2⟩, n2, ho2, hc2, hdd, hd2⟩ := pl2
  simp only at hc2 hdd hd2
  subst hc2 hdd hd2
  have hl2 := r2.length
  have hsz : its.toArray.size + its2.toArray.size ≤ sizeLine := by rw [List.size_toArray, List.size_toArray]; omega
  have hlong : ¬ (!its.toArray.isEmpty && Builtin.List.listTooLong (its.toArray.size + its2.toArray.size)) = true := by
    rw [notLongL hsz, Bool.and_false]
    exact Bool.false_ne_true
  refine call_meets F.slot_list_extend ⟨_, e, rfl⟩ F.entry_list_extend (F.args_list_extend_2 _ _)
    (list_extendW l its.toArray n b its2.toArray n2 sl2 hlong (by rw [List.size_toArray]; omega) (by omega)) ⟨e, ho2, ?_⟩
  refine ⟨.non, _, I.lset (its' := its ++ its2) hH e (by simp) (r.append r2) ?_, rfl, q⟩
  rw [List.length_append]
  omega
def dExtend (x : D) (ds : List D) (C : Cells) (P : DK) : Prop := match x, ds with
  | .ptr a, [d] => match C a, seqOf d C with
    | some (.lst xs), some ys => xs.length + ys.length ≤ 100000 ∧ P .non (cput C a (.lst (xs ++ ys)))
    | _, _ => False
  | _, _ => False
theorem s_extend {K : PySem.W.Frag} : SimM K (rExtendS K) dExtend := fun F C H x dx xs ds P Q hs rx rl w k => by
  revert w
  unfold dExtend
  split
  · rename_i a d
    cases rx
    split
    · rename_i ys zs hc hd
      rintro ⟨hl, w⟩
      cases rl with
      | cons r1 r2 =>
        cases r2
        obtain ⟨f0, us, hx, r⟩ := hs.cell a _ hc
        obtain ⟨b, vs, rfl, hv, rv⟩ := seq_of hs r1 hd
        exact ⟨a, b, us, vs, rfl, rfl, hx, hv, by rw [r.length, rv.length]; exact sz_of hl, k _ F _ _ _ (Ex.refl F) (hs.put (c := .lst (ys ++ zs)) f0 ⟨_, upd_same, r.append rv⟩) .non w⟩
    · exact fun z => z.elim
  · exact fun z => z.elim
section
variable {X : Cx} {W : WX} {K : PySem.W.Frag}
theorem d_extend {o e : Expr} {es : List Expr} {wo : DE} {wr : DA} {pos apos : Pos} (ho : PE X o (tE X.K W wo)) (ha : PA X (e :: es) (tA X.K W wr))
    (hbase : attributeBase o (Str.ofString "extend") X.env (eval o X.env) = eval o X.env := by rfl)
    (hfew : ((backTo pos (starEach (e :: es) X.env)).all (fun x => !x.1) && (backToKw pos (keywordEach [] X.env)).all (fun x => x.1.isSome)
      && decide ((e :: es).length + ([] : List Keyword).length + (if ([] : List Keyword).isEmpty then 0 else 1) < 30)) = true := by rfl)
    (hline : (apos.endLine == pos.line) = true := by rfl) (hs : starEach (e :: es) X.env = (false, eval e X.env) :: starEach es X.env := by rfl) (hplain : (backTo pos (starEach es X.env)).any (·.1) = false := by rfl) :
    PE X (.Call (.Attribute o (Str.ofString "extend") apos) (e :: es) [] pos) (tE X.K W (wBML dExtend wo wr)) :=
  d_bmL PySem.F.plainAttrs_list PySem.F.slot_list_extend PySem.F.type_list_extend mt_extendS s_extend ho ha hbase hfew hline hs hplain
end
end DD

set_option Elab.async false
set_option linter.all false
set_option maxRecDepth 100000
set_option maxHeartbeats 4000000
/-! Texts: what is walked, ord, chr, join; any and all of lists; a module's text; statements that are never reached. -/
namespace DD
open PySem L2 HT PySem.Spec PyProof.Rows

/-- a sign as a text -/
def chD (c : Nat) : D := .str ⟨#[c]⟩
def strDs (z : Str) : List D := z.cps.toList.map chD
def wItS (e : DE) (ρ : DEnv) (C : Cells) (P : DIt → Cells → Prop) (PX : DX) : Prop := e ρ C (fun d C1 => match d with
  | .str z => P ⟨strDs z, frozen⟩ C1
  | _ => False) PX
def dOrd (ds : List D) (C : Cells) (P : DK) : Prop := match ds with
  | [.str z] => z.length = 1 ∧ P (.int (z.cps.getD 0 0 : Nat)) C
  | _ => False
def dChr (ds : List D) (C : Cells) (P : DK) : Prop := match ds with
  | [.int i] => (0 ≤ i ∧ i ≤ 1114111) ∧ P (chD i.toNat) C
  | _ => False
def dAny (ds : List D) (C : Cells) (P : DK) : Prop := match ds with
  | [x] => ∃ bs : List Bool, seqOf x C = some (bs.map D.bl) ∧ P (.bl (bs.any id)) C
  | _ => False
def dAll (ds : List D) (C : Cells) (P : DK) : Prop := match ds with
  | [x] => ∃ bs : List Bool, seqOf x C = some (bs.map D.bl) ∧ P (.bl (bs.all id)) C
  | _ => False
/-- a text's method -/
def wBMS (r : DRM) (o : DE) (a : DA) (ρ : DEnv) (C : Cells) (P : DK) (PX : DX) : Prop := o ρ C (fun x C1 => match x with
  | .str z => a ρ C1 (fun ds C2 => r (.str z) ds C2 P) PX
  | _ => False) PX
def dJoin (x : D) (ds : List D) (C : Cells) (P : DK) : Prop := match x, ds with
  | .str a, [y] => ∃ ys : List Str, seqOf y C = some (ys.map D.str) ∧ (ys.map (·.length)).sum + ys.length * a.length ≤ 16777216 ∧ P (.str (Txt.join a ys)) C
  | _, _ => False
def wDead (E : DEnds) (ρ : DEnv) (C : Cells) : Prop := False
section
variable {X : Cx} {W : WX} {K : PySem.W.Frag} {e tg : Expr} {we wo : DE} {wr : DA} {pos : Pos}
theorem ds_dead {s : Stmt} : PS X s (tS X.K W wDead) := ⟨fun pins s σ H D I w => by obtain ⟨F, C, ρ, DE, _, _, _, h, _⟩ := w; exact h.elim⟩
theorem itr_str {F : Hp} {z : Str} : ItR K F (Its z) ⟨strDs z, frozen⟩ := fun F' H C e hs _ => by
  refine ⟨fun i d hd => ?_, by show z.cps.size ≤ (strDs z).length; unfold strDs; rw [List.length_map, Array.length_toList]; exact Nat.le_refl _⟩
  unfold strDs at hd
  rw [List.getElem?_map, Array.getElem?_toList] at hd
  cases hc : z.cps[i]? with
  | none => rw [hc] at hd; cases hd
  | some c =>
    rw [hc] at hd
    injection hd with hd
    subst hd
    refine ⟨(Array.getElem?_eq_some_iff.mp hc).1, fun x H' y => ?_⟩
    obtain ⟨rfl, c', h1, rfl⟩ := y
    rw [hc] at h1
    injection h1 with h1
    subst h1
    exact ⟨F', Ex.refl _, hs, .str _⟩
theorem di_str (he : PE X e (tE X.K W we)) : PI X tg e (tI X.K W (wItS we)) := PI.imp (pi_str he) fun σ H R ⟨F, C, ρ, P, PX, hs, en, xr, w, k⟩ =>
  ⟨F, C, ρ, _, PX, hs, en, xr, w, fun v F1 H1 d C1 e1 h1 r q => by
    cases r <;> first | exact q.elim | skip
    exact ⟨_, rfl, k _ F1 H1 _ C1 e1 h1 itr_str q⟩⟩
theorem s_ord : SimA K (fun xs H Q => ∃ x, xs = [.str x] ∧ x.length = 1 ∧ Q (.int (x.cps.getD 0 0 : Nat)) H) dOrd := fun F C H xs ds P Q hs r w k => by
  revert w
  unfold dOrd
  split
  · rename_i z
    rintro ⟨hl, w⟩
    cases r with
    | cons r1 r2 =>
      cases r2
      cases r1
      exact ⟨z, rfl, hl, k _ F H _ C (Ex.refl F) hs (.int _) w⟩
  · exact fun z => z.elim
theorem s_chr : SimA K (fun xs H Q => ∃ i, xs = [.int i] ∧ 0 ≤ i ∧ i ≤ 1114111 ∧ Q (.str ⟨#[i.toNat]⟩) H) dChr := fun F C H xs ds P Q hs r w k => by
  revert w
  unfold dChr
  split
  · rename_i i
    rintro ⟨hl, w⟩
    cases r with
    | cons r1 r2 =>
      cases r2
      cases r1
      exact ⟨i, rfl, hl.1, hl.2, k _ F H _ C (Ex.refl F) hs (.str _) w⟩
  · exact fun z => z.elim
theorem RepL.bools {F : Hp} : ∀ {xs : List V} {bs : List Bool}, RepL K F xs (bs.map D.bl) → xs = bs.map V.bl
  | _, [], r => by cases r; rfl
  | _, b :: bs, r => by
    cases r with
    | cons r1 r2 =>
      cases r1
      rw [RepL.bools r2]
      rfl
theorem RepL.strs {F : Hp} : ∀ {xs : List V} {ys : List Str}, RepL K F xs (ys.map D.str) → xs = ys.map V.str
  | _, [], r => by cases r; rfl
  | _, b :: bs, r => by
    cases r with
    | cons r1 r2 =>
      cases r1
      rw [RepL.strs r2]
      rfl
theorem s_any : SimA K (rAny K) dAny := fun F C H xs ds P Q hs r w k => by
  revert w
  unfold dAny
  split
  · rintro ⟨bs, hn, w⟩
    cases r with
    | cons r1 r2 =>
      cases r2
      obtain ⟨a, us, rfl, h2, r3⟩ := seq_of hs r1 hn
      rw [r3.bools] at h2
      exact ⟨a, bs, rfl, h2, k _ F H _ C (Ex.refl F) hs (.bl _) w⟩
  · exact fun z => z.elim
theorem s_all : SimA K (rAll K) dAll := fun F C H xs ds P Q hs r w k => by
  revert w
  unfold dAll
  split
  · rintro ⟨bs, hn, w⟩
    cases r with
    | cons r1 r2 =>
      cases r2
      obtain ⟨a, us, rfl, h2, r3⟩ := seq_of hs r1 hn
      rw [r3.bools] at h2
      exact ⟨a, bs, rfl, h2, k _ F H _ C (Ex.refl F) hs (.bl _) w⟩
  · exact fun z => z.elim
theorem d_bmS {es : List Expr} {apos : Pos} {id : String} {name : Str} {r : V → List V → Hp → VK → Prop} {rd : DRM} {o : Expr} (pa : PlainAttrs "str") (slot : Slot "str" name id) (hty : typeOf (.builtin id) = pure (.type "method_descriptor")) (hm : MtR X id r) (hr : SimM X.K r rd) (ho : PE X o (tE X.K W wo)) (ha : PA X (e :: es) (tA X.K W wr))
    (hbase : attributeBase o name X.env (eval o X.env) = eval o X.env := by rfl)
    (hfew : ((backTo pos (starEach (e :: es) X.env)).all (fun x => !x.1) && (backToKw pos (keywordEach [] X.env)).all (fun x => x.1.isSome)
      && decide ((e :: es).length + ([] : List Keyword).length + (if ([] : List Keyword).isEmpty then 0 else 1) < 30)) = true := by rfl)
    (hline : (apos.endLine == pos.line) = true := by rfl) (hs : starEach (e :: es) X.env = (false, eval e X.env) :: starEach es X.env := by rfl) (hplain : (backTo pos (starEach es X.env)).any (·.1) = false := by rfl) :
    PE X (.Call (.Attribute o name apos) (e :: es) [] pos) (tE X.K W (wBMS rd wo wr)) :=
  PE.imp (pe_bm pa slot hty hm ho ha hbase hfew hline hs hplain) fun σ H Q ⟨F, C, ρ, P, PX, hs, en, xr, w, k⟩ => ⟨F, C, ρ, _, PX, hs, en, xr, w, fun v F1 H1 d C1 e1 h1 rv q => by
    cases rv <;> first | exact q.elim | skip
    rename_i z
    exact ⟨rfl, F1, C1, ρ, _, PX, h1, en.mono e1, xr.mono e1, q, fun vs F2 H2 ds C2 e2 h2 rl q2 => hr F2 C2 H2 (.str z) (.str z) vs ds P Q h2 (.str z) rl q2 (k.mono (e1.trans e2))⟩⟩
theorem s_join : SimM K (fun x xs H Q => ∃ a p, ∃ ys : List Str, x = .str a ∧ xs = [.ref p] ∧ (SqL K H p (ys.map V.str) ∨ SqT K H p (ys.map V.str)) ∧ (ys.map (·.length)).sum + ys.length * a.length ≤ 16777216 ∧ Q (.str (Txt.join a ys)) H) dJoin := fun F C H x dx xs ds P Q hs rx rl w k => by
  revert w
  unfold dJoin
  split
  · rename_i a y
    rintro ⟨ys, hn, hl, w⟩
    cases rx
    cases rl with
    | cons r1 r2 =>
      cases r2
      obtain ⟨p, us, rfl, h2, r3⟩ := seq_of hs r1 hn
      rw [r3.strs] at h2
      exact ⟨a, p, ys, rfl, rfl, .inl h2, hl, k _ F H _ C (Ex.refl F) hs (.str _) w⟩
  · exact fun z => z.elim
/-- a module's text -/
theorem d_kstr {x : Str} {z : Str} {pos : Pos} (h : ∃ t, X.mg x = some (.str z t)) (hg : Gl X x := by rfl) (hd : (x == ("__debug__" : Str)) = false := by decide) : PE X (.Name x pos) (tE X.K W (wC (.str z))) := by
  obtain ⟨t, h⟩ := h
  exact d_glob (v := .str z) hg h ⟨t, rfl⟩ (fun _ => .str z) hd
end
end DD

set_option Elab.async false
set_option linter.all false
set_option maxRecDepth 100000
set_option maxHeartbeats 4000000
/-! max of three whole numbers; what is joined. -/
namespace DD
open PySem L2 HT PySem.Spec PyProof.Rows

def dMax3 (ds : List D) (C : Cells) (P : DK) : Prop := match ds with
  | [.int i, .int j, .int l] => P (.int (max (max i j) l)) C
  | _ => False
theorem nu_max2 (i j : Int) : nuMax2 (.int i) (.int j) = some (.int (max i j)) := by
  have e : nuLt (.int i) (.int j) = some (decide (i < j)) := rfl
  unfold nuMax2
  rw [e]
  show some (if decide (i < j) = true then V.int j else V.int i) = _
  by_cases h : i < j
  · rw [if_pos (by simpa using h)]; congr 2; omega
  · rw [if_neg (by simpa using h)]; congr 2; omega
theorem s_max3 {K : PySem.W.Frag} : SimA K (rNuC3 nuMax3) dMax3 := fun F C H xs ds P Q hs r w k => by
  revert w
  unfold dMax3
  split
  · rename_i i j l
    intro w
    cases r with
    | cons r1 r2 =>
      cases r1
      cases r2 with
      | cons r3 r4 =>
        cases r3
        cases r4 with
        | cons r5 r6 =>
          cases r5; cases r6
          refine ⟨.int i, .int j, .int l, .int (max (max i j) l), rfl, ?_, k _ F H _ C (Ex.refl F) hs (.int _) w⟩
          unfold nuMax3
          rw [nu_max2]
          exact nu_max2 _ _
  · exact fun z => z.elim
theorem strjoin_chars : ∀ cs : List Nat, Str.join ⟨#[]⟩ (cs.map fun c => (⟨#[c]⟩ : Str)) = ⟨cs.toArray⟩
  | [] => rfl
  | [c] => rfl
  | c :: d :: r => by
    have ih := strjoin_chars (d :: r)
    show (⟨#[c]⟩ : Str) ++ ⟨#[]⟩ ++ Str.join ⟨#[]⟩ ((d :: r).map fun c => (⟨#[c]⟩ : Str)) = _
    rw [ih]
    show (⟨(#[c] ++ #[]) ++ (d :: r).toArray⟩ : Str) = _
    simp
theorem join_chars (cs : List Nat) : Txt.join ⟨#[]⟩ (cs.map fun c => (⟨#[c]⟩ : Str)) = ⟨cs.toArray⟩ := by rw [TL.join_eq, strjoin_chars]
end DD

set_option Elab.async false
set_option linter.all false
set_option maxRecDepth 100000
set_option maxHeartbeats 4000000
/-! Comprehensions whose items are not known beforehand; slices by both ends. -/
namespace DD
open PySem L2
theorem lc_gen {α : Type} {J : DIt} {t : Tgt} {we : DE} {vs : List Nat} {C1 : Cells} {ρ : DEnv} {P : DK} (enc : α → D) (ok : α → Prop) (hst : ∀ C', Sub C1 C' → J.still C') (hn : J.items.length < 100000)
    (h : ∀ (i : Nat) d C' (Q : DK), J.items[i]? = some d → Sub C1 C' → (∀ a C3, ok a → Sub C' C3 → Q (enc a) C3) → match t.dg d (dwipe ρ vs) with
      | some ρ2 => we ρ2 C' Q noX
      | none => False)
    (hP : ∀ L : List α, L.length = J.items.length → (∀ a ∈ L, ok a) → P (.lst (L.map enc)) C1) : LcG J t wYes we vs ρ C1 P := by
  intro Dl hD
  refine ⟨fun i C' => ∃ L : List α, L.length = i ∧ (∀ a ∈ L, ok a) ∧ Sub C1 C' ∧ C' Dl = some (.lst (L.map enc)), ⟨[], rfl, (fun a ha => by cases ha), Sub.new hD, cput_same⟩, fun i C' ⟨L, _, _, hs, _⟩ => hst C' hs, fun i d C' hd ⟨L, hl, hok, hs, hc⟩ => ?_, fun C' ⟨L, hl, hok, hs, hc⟩ => ?_⟩
  · have hi := (List.getElem?_eq_some_iff.mp hd).1
    have := h i d C' (fun y C3 => match C3 Dl with
        | some (.lst acc) => acc.length < 100000 ∧ ∃ L : List α, L.length = i + 1 ∧ (∀ a ∈ L, ok a) ∧ Sub C1 (cput C3 Dl (.lst (acc ++ [y]))) ∧ cput C3 Dl (.lst (acc ++ [y])) Dl = some (.lst (L.map enc))
        | _ => False) hd hs (fun a C3 ha hs3 => ?_)
    · revert this
      cases t.dg d (dwipe ρ vs) with
      | none => exact fun z => z
      | some ρ2 => exact fun z => z
    · rw [hs3 _ _ hc]
      refine ⟨by rw [List.length_map]; omega, L ++ [a], by rw [List.length_append, List.length_singleton, hl], fun b hb => ?_, fun b c hb => ?_, ?_⟩
      · rcases List.mem_append.mp hb with hb | hb
        · exact hok b hb
        · simp only [List.mem_cons, List.not_mem_nil, or_false] at hb; subst hb; exact ha
      · have hne : b ≠ Dl := fun z => by rw [z, hD] at hb; cases hb
        rw [cput_ne hne]
        exact hs3 _ _ (hs _ _ hb)
      · rw [cput_same, List.map_append]
        rfl
  · rw [hc]
    exact ⟨C1, hs, hD, hP L hl hok⟩
theorem cut_mid (xs : List D) {a b : Nat} (h1 : a ≤ b) (h2 : b ≤ xs.length) : cutD xs (some (a : Int)) (some (b : Int)) = (xs.drop a).take (b - a) := by
  unfold cutD
  rw [HT.sIx_nat, HT.sIx_nat, Nat.min_eq_left h2, Nat.min_eq_left (Nat.le_trans h1 h2)]
end DD

set_option Elab.async false
set_option linter.all false
set_option maxRecDepth 100000
set_option maxHeartbeats 4000000
/-! Dicts: keys that are numbers and texts, or tuples of these. -/
namespace DD
open PySem L2 PyProof.Rows

/-! ### tables of data -/
section
variable {κ : Type} [DecidableEq κ]
def vaD (t : List (κ × D)) (k : κ) : Option D := (t.find? fun p => decide (p.1 = k)).map (·.2)
def puD (t : List (κ × D)) (k : κ) (d : D) : List (κ × D) := if (t.any fun p => decide (p.1 = k)) = true then t.map (fun p => if p.1 = k then (p.1, d) else p) else t ++ [(k, d)]
def drD (t : List (κ × D)) (k : κ) : List (κ × D) := t.filter fun p => decide (p.1 ≠ k)
theorem vaD_nil {k : κ} : vaD [] k = none := rfl
theorem vaD_hit {k : κ} {p : κ × D} {t : List (κ × D)} (e : p.1 = k) : vaD (p :: t) k = some p.2 := by unfold vaD; rw [List.find?_cons, decide_eq_true e]; rfl
theorem vaD_miss {k : κ} {p : κ × D} {t : List (κ × D)} (e : ¬ p.1 = k) : vaD (p :: t) k = vaD t k := by unfold vaD; rw [List.find?_cons, decide_eq_false e]
theorem any_vaD (k : κ) : ∀ t : List (κ × D), (t.any fun p => decide (p.1 = k)) = (vaD t k).isSome
  | [] => rfl
  | p :: t => by
    by_cases e : p.1 = k
    · rw [vaD_hit e, List.any_cons, decide_eq_true e]; rfl
    · rw [vaD_miss e, List.any_cons, decide_eq_false e, ← any_vaD k t]; rfl
theorem vaD_app (k : κ) (u : List (κ × D)) : ∀ t : List (κ × D), vaD (t ++ u) k = match vaD t k with | some d => some d | none => vaD u k
  | [] => rfl
  | p :: t => by
    by_cases e : p.1 = k
    · rw [List.cons_append, vaD_hit e, vaD_hit e]
    · rw [List.cons_append, vaD_miss e, vaD_miss e, vaD_app k u t]
theorem vaD_set (k j : κ) (d : D) : ∀ t : List (κ × D), vaD (t.map fun p => if p.1 = k then (p.1, d) else p) j = (vaD t j).map fun x => if j = k then d else x
  | [] => rfl
  | p :: t => by
    rw [List.map_cons]
    by_cases h : p.1 = k
    · rw [if_pos h]
      by_cases e : p.1 = j
      · rw [vaD_hit (p := (p.1, d)) e, vaD_hit e, Option.map_some, if_pos (by rw [← e, h])]
      · rw [vaD_miss (p := (p.1, d)) e, vaD_miss e, vaD_set k j d t]
    · rw [if_neg h]
      by_cases e : p.1 = j
      · rw [vaD_hit e, vaD_hit e, Option.map_some, if_neg (by rw [← e]; exact h)]
      · rw [vaD_miss e, vaD_miss e, vaD_set k j d t]
/-- what is read behind a store -/
theorem vaD_put (t : List (κ × D)) (k j : κ) (d : D) : vaD (puD t k d) j = if j = k then some d else vaD t j := by
  unfold puD
  rw [any_vaD]
  cases e : vaD t k with
  | some x =>
    rw [if_pos (show (some x).isSome = true from rfl), vaD_set]
    by_cases h : j = k
    · rw [if_pos h, h, e, Option.map_some, if_pos rfl]
    · rw [if_neg h]
      cases vaD t j with
      | none => rfl
      | some y => rw [Option.map_some, if_neg h]
  | none =>
    rw [if_neg (by decide), vaD_app]
    by_cases h : j = k
    · rw [if_pos h, h, e]
      exact vaD_hit rfl
    · rw [if_neg h]
      have : vaD [(k, d)] j = none := vaD_miss (p := (k, d)) (fun z => h z.symm)
      rw [this]
      cases vaD t j <;> rfl
theorem puD_new {t : List (κ × D)} {k : κ} (h : vaD t k = none) (d : D) : puD t k d = t ++ [(k, d)] := by
  unfold puD
  rw [any_vaD, h]
  rfl
theorem puD_len (t : List (κ × D)) (k : κ) (d : D) : (puD t k d).length ≤ t.length + 1 := by
  unfold puD
  split
  · rw [List.length_map]; omega
  · rw [List.length_append]; exact Nat.le_refl _
theorem vaD_drop (k j : κ) : ∀ t : List (κ × D), vaD (drD t k) j = if j = k then none else vaD t j
  | [] => by rw [show drD ([] : List (κ × D)) k = [] from rfl, vaD_nil]; split <;> rfl
  | p :: t => by
    have ih := vaD_drop k j t
    unfold drD at ih ⊢
    rw [List.filter_cons]
    by_cases h : p.1 = k
    · rw [if_neg (by simpa using h), ih]
      by_cases e : j = k
      · rw [if_pos e, if_pos e]
      · rw [if_neg e, if_neg e, vaD_miss (by rw [h]; exact fun z => e z.symm)]
    · rw [if_pos (by simpa using h)]
      by_cases e : p.1 = j
      · rw [vaD_hit e, vaD_hit e, if_neg (by rw [← e]; exact h)]
      · rw [vaD_miss e, vaD_miss e, ih]
end
/-- keys -/
def keyOf : D → Option L2.Key
  | .int i => some (.inl i)
  | .str z => some (.inr z)
  | _ => none
def keysAll : List D → Option (List L2.Key)
  | [] => some []
  | d :: r => match keyOf d, keysAll r with
    | some k, some ks => some (k :: ks)
    | _, _ => none
def keysOf : D → Option (List L2.Key)
  | .tup ds => keysAll ds
  | _ => none
def keyD : L2.Key → D
  | .inl i => .int i
  | .inr z => .str z
/-- a dict's entries: keys that are numbers and texts; tuples of these -/
def kvsK (x : D) (C : Cells) : Option (List (L2.Key × D)) := match x with
  | .dK t => some t
  | .ptr a => match C a with
    | some (.dK t) => some t
    | some (.lK t _ _) => some t
    | _ => none
  | _ => none
def kvsT (x : D) (C : Cells) : Option (List (List L2.Key × D)) := match x with
  | .dT t => some t
  | .ptr a => match C a with
    | some (.dT t) => some t
    | some (.lT t _ _) => some t
    | _ => none
  | _ => none
def dicGet (x : D) (C : Cells) (y : D) : Option (Option D) := match kvsK x C with
  | some t => (keyOf y).map (vaD t)
  | none => match kvsT x C with
    | some t => (keysOf y).map (vaD t)
    | none => none
def isDic (x : D) (C : Cells) : Prop := (kvsK x C).isSome = true ∨ (kvsT x C).isSome = true
section
variable {K : PySem.W.Frag} {F H : Hp} {C : Cells}
theorem RepK.pair {vs : List (L2.Key × V)} {t : List (L2.Key × D)} (r : RepK K F vs t) : Paired (fun p q => p.1 = q.1 ∧ Rep K F p.2 q.2) vs t := by
  match r with
  | .nil => exact .nil
  | .cons h r => exact .cons ⟨rfl, h⟩ (RepK.pair r)
theorem RepT.pair {vs : List (List L2.Key × V)} {t : List (List L2.Key × D)} (r : RepT K F vs t) : Paired (fun p q => p.1 = q.1 ∧ Rep K F p.2 q.2) vs t := by
  match r with
  | .nil => exact .nil
  | .cons h r => exact .cons ⟨rfl, h⟩ (RepT.pair r)
theorem RepK.of {vs : List (L2.Key × V)} {t : List (L2.Key × D)} (r : Paired (fun p q => p.1 = q.1 ∧ Rep K F p.2 q.2) vs t) : RepK K F vs t := by
  induction r with
  | nil => exact .nil
  | @cons p q _ _ h _ ih =>
    obtain ⟨k, v⟩ := p
    obtain ⟨k', d⟩ := q
    obtain ⟨rfl, h⟩ := h
    exact .cons h ih
theorem RepT.of {vs : List (List L2.Key × V)} {t : List (List L2.Key × D)} (r : Paired (fun p q => p.1 = q.1 ∧ Rep K F p.2 q.2) vs t) : RepT K F vs t := by
  induction r with
  | nil => exact .nil
  | @cons p q _ _ h _ ih =>
    obtain ⟨k, v⟩ := p
    obtain ⟨k', d⟩ := q
    obtain ⟨rfl, h⟩ := h
    exact .cons h ih
section
variable {κ : Type} [DecidableEq κ]
abbrev TP (K : PySem.W.Frag) (F : Hp) : List (κ × V) → List (κ × D) → Prop := Paired fun p q => p.1 = q.1 ∧ Rep K F p.2 q.2
theorem tp_val {vs : List (κ × V)} {t : List (κ × D)} (r : TP K F vs t) (k : κ) : (vaD t k = none ∧ valV vs k = none) ∨ ∃ v d, vaD t k = some d ∧ valV vs k = some v ∧ Rep K F v d := by
  induction r with
  | nil => exact .inl ⟨rfl, rfl⟩
  | @cons p q _ _ h _ ih =>
    by_cases e : q.1 = k
    · exact .inr ⟨p.2, q.2, vaD_hit e, valV_pos (h.1.trans e), h.2⟩
    · rw [vaD_miss e, valV_neg (fun z => e (h.1.symm.trans z))]
      exact ih
theorem tp_put {vs : List (κ × V)} {t : List (κ × D)} (r : TP K F vs t) (k : κ) {v : V} {d : D} (h : Rep K F v d) : TP K F (putK vs k v) (puD t k d) := by
  have e : (vs.any fun p => decide (p.1 = k)) = (t.any fun p => decide (p.1 = k)) := by
    rw [valV_any, any_vaD]
    rcases tp_val r k with ⟨e1, e2⟩ | ⟨_, _, e1, e2, _⟩ <;> rw [e1, e2] <;> rfl
  unfold putK puD
  rw [e]
  by_cases c : (t.any fun p => decide (p.1 = k)) = true
  · rw [if_pos c, if_pos c]
    clear e c
    induction r with
    | nil => exact .nil
    | @cons p q _ _ g _ ih =>
      rw [List.map_cons, List.map_cons]
      refine .cons ?_ ih
      by_cases z : q.1 = k
      · rw [if_pos z, if_pos (g.1.trans z)]; exact ⟨g.1, h⟩
      · rw [if_neg z, if_neg (fun y => z (g.1.symm.trans y))]; exact g
  · rw [if_neg c, if_neg c]
    exact Paired.snoc r ⟨rfl, h⟩
theorem tp_drop {vs : List (κ × V)} {t : List (κ × D)} (r : TP K F vs t) (k : κ) : TP K F (dropK vs k) (drD t k) := by
  unfold dropK drD
  induction r with
  | nil => exact .nil
  | @cons p q _ _ g _ ih =>
    rw [List.filter_cons, List.filter_cons]
    by_cases z : q.1 = k
    · rw [if_neg (by simpa using g.1.trans z), if_neg (by simpa using z)]; exact ih
    · rw [if_pos (by simpa using fun y => z (g.1.symm.trans y)), if_pos (by simpa using z)]; exact .cons g ih
theorem tp_keys {vs : List (κ × V)} {t : List (κ × D)} (r : TP K F vs t) : vs.map (·.1) = t.map (·.1) := by
  induction r with
  | nil => rfl
  | cons g _ ih => rw [List.map_cons, List.map_cons, ih, g.1]
theorem tp_len {vs : List (κ × V)} {t : List (κ × D)} (r : TP K F vs t) : vs.length = t.length := Paired.length r
end
theorem key_rep {v : V} {y : D} {k : L2.Key} (r : Rep K F v y) (h : keyOf y = some k) : v = kV k := by
  cases r <;> first | (cases h; rfl) | cases h
theorem keys_all : ∀ {vs : List V} {ds : List D} {ks : List L2.Key}, RepL K F vs ds → keysAll ds = some ks → vs = ks.map kV
  | _, _, ks, .nil, h => by cases h; rfl
  | _, _, ks, .cons (d := d) (ds := ds) h1 h2, h => by
    simp only [keysAll] at h
    split at h
    · rename_i k ks' e1 e2
      cases h
      rw [key_rep h1 e1, keys_all h2 e2, List.map_cons]
    · cases h
theorem keys_rep (hs : Hs K F C H) {v : V} {y : D} {ks : List L2.Key} (r : Rep K F v y) (h : keysOf y = some ks) : ∃ b, v = .ref b ∧ H b = some (.tup (ks.map kV)) := by
  cases r <;> first | cases h | skip
  rename_i a xs ds hq hr
  exact ⟨a, rfl, by rw [← keys_all hr h]; exact hs.ex.nd hq rfl⟩
theorem kvsK_rd (hs : Hs K F C H) {v : V} {x : D} {t : List (L2.Key × D)} (r : Rep K F v x) (h : kvsK x C = some t) : ∃ a vs, v = .ref a ∧ Rd H a (.dK vs) ∧ RepK K F vs t := by
  cases r <;> first | cases h | skip
  · rename_i a
    simp only [kvsK] at h
    split at h
    · rename_i t' hc
      cases h
      obtain ⟨_, vs, h1, h2⟩ := hs.cell a _ hc
      exact ⟨a, vs, rfl, .inl h1, h2⟩
    · rename_i t' hc
      cases h
      obtain ⟨_, h1, h2⟩ := hs.cell a _ hc
      exact ⟨a, _, rfl, .inr ⟨_, h1⟩, h2⟩
    · cases h
  · rename_i a od vs hd hr
    exact ⟨a, vs, rfl, .inr ⟨od, hs.ex.nd hd rfl⟩, hr⟩
theorem kvsT_rd (hs : Hs K F C H) {v : V} {x : D} {t : List (List L2.Key × D)} (r : Rep K F v x) (h : kvsT x C = some t) : ∃ a vs, v = .ref a ∧ Rd H a (.dT vs) ∧ RepT K F vs t := by
  cases r <;> first | cases h | skip
  · rename_i a
    simp only [kvsT] at h
    split at h
    · rename_i t' hc
      cases h
      obtain ⟨_, vs, h1, h2⟩ := hs.cell a _ hc
      exact ⟨a, vs, rfl, .inl h1, h2⟩
    · rename_i t' hc
      cases h
      obtain ⟨_, h1, h2⟩ := hs.cell a _ hc
      exact ⟨a, _, rfl, .inr ⟨_, h1⟩, h2⟩
    · cases h
  · rename_i a od vs hd hr
    exact ⟨a, vs, rfl, .inr ⟨od, hs.ex.nd hd rfl⟩, hr⟩
theorem isDic_rd (hs : Hs K F C H) {v : V} {x : D} (r : Rep K F v x) (h : isDic x C) : ∃ a, v = .ref a ∧ IsD H a := by
  rcases h with h | h
  · obtain ⟨t, e⟩ := Option.isSome_iff_exists.mp h
    obtain ⟨a, vs, h1, h2, _⟩ := kvsK_rd hs r e
    exact ⟨a, h1, .inl ⟨vs, h2⟩⟩
  · obtain ⟨t, e⟩ := Option.isSome_iff_exists.mp h
    obtain ⟨a, vs, h1, h2, _⟩ := kvsT_rd hs r e
    exact ⟨a, h1, .inr ⟨vs, h2⟩⟩
/-- what is found -/
theorem dicGet_rd (hs : Hs K F C H) {v u : V} {x y : D} {o : Option D} (rx : Rep K F v x) (ry : Rep K F u y) (h : dicGet x C y = some o) :
    ∃ a w, v = .ref a ∧ DGet H a u w ∧ ((o = none ∧ w = none) ∨ ∃ z d, o = some d ∧ w = some z ∧ Rep K F z d) := by
  unfold dicGet at h
  split at h
  · rename_i t ht
    obtain ⟨a, vs, h1, h2, h3⟩ := kvsK_rd hs rx ht
    rw [Option.map_eq_some_iff] at h
    obtain ⟨k, hk, ho⟩ := h
    refine ⟨a, _, h1, .inl ⟨vs, k, h2, key_rep ry hk, rfl⟩, ?_⟩
    rcases tp_val h3.pair k with ⟨e1, e2⟩ | ⟨z, d, e1, e2, e3⟩
    · exact .inl ⟨ho.symm.trans e1, e2⟩
    · exact .inr ⟨z, d, ho.symm.trans e1, e2, e3⟩
  · split at h
    · rename_i t ht
      obtain ⟨a, vs, h1, h2, h3⟩ := kvsT_rd hs rx ht
      rw [Option.map_eq_some_iff] at h
      obtain ⟨k, hk, ho⟩ := h
      obtain ⟨b, hb, hb2⟩ := keys_rep hs ry hk
      refine ⟨a, _, h1, .inr ⟨vs, k, b, h2, hb, hb2, rfl⟩, ?_⟩
      rcases tp_val h3.pair k with ⟨e1, e2⟩ | ⟨z, d, e1, e2, e3⟩
      · exact .inl ⟨ho.symm.trans e1, e2⟩
      · exact .inr ⟨z, d, ho.symm.trans e1, e2, e3⟩
    · cases h
end

/-! ### x[y], y in x, x.get(y), x.get(y, z) -/
def dDGet (x : D) (y : D) (C : Cells) (P : DK) : Prop := match dicGet x C y with
  | some (some d) => P d C
  | _ => False
def dDIn (neg : Bool) (y : D) (x : D) (C : Cells) (P : DK) : Prop := match dicGet x C y with
  | some o => P (.bl (neg ^^ o.isSome)) C
  | none => False
def wGet1 (o k : DE) (ρ : DEnv) (C : Cells) (P : DK) (PX : DX) : Prop := o ρ C (fun x C1 => isDic x C1 ∧ k ρ C1 (fun y C2 => match dicGet x C2 y with
  | some u => P (u.getD .non) C2
  | none => False) PX) PX
def wGet2 (o k e : DE) (ρ : DEnv) (C : Cells) (P : DK) (PX : DX) : Prop := o ρ C (fun x C1 => isDic x C1 ∧ k ρ C1 (fun y C2 => e ρ C2 (fun z C3 => match dicGet x C3 y with
  | some u => P (u.getD z) C3
  | none => False) PX) PX) PX
section
variable {X : Cx} {W : WX} {K : PySem.W.Frag} {o i e : Expr} {wo wi we : DE} {pos apos tpos : Pos} {n : Nat}
theorem d_dget (hr : Room n X.A) (ho : PE X o (tE X.K W wo)) (hi : PE X i (tE X.K W wi)) (hs : NoSl i := by exact fun _ _ => rfl) : PE X (.Subscript o i pos) (tE X.K W (wOp dDGet wo wi)) :=
  PE.imp (pe_dget (hu_of hr) ho hi hs) fun σ H Q ⟨F, C, ρ, P, PX, hs, en, xr, w, k⟩ =>
  ⟨F, C, ρ, _, PX, hs, en, xr, w, fun v F1 H1 x C1 e1 h1 rx q => ⟨F1, C1, ρ, _, PX, h1, en.mono e1, xr.mono e1, q, fun u F2 H2 y C2 e2 h2 ry q2 => by
    unfold dDGet at q2
    split at q2
    · rename_i d hd
      obtain ⟨a, w', rfl, g, ⟨e3, _⟩ | ⟨z, d', e3, rfl, rz⟩⟩ := dicGet_rd h2 (rx.mono e2) ry hd
      · cases e3
      · cases e3
        exact ⟨a, z, rfl, g, k z F2 H2 d C2 (e1.trans e2) h2 rz q2⟩
    · exact q2.elim⟩⟩
theorem i_din {neg : Bool} {σ : L2.St} {H : Hp} {Q : VK} (h : tE K W (wOp (dDIn neg) wi wo) σ H Q) : tE K W wi σ H fun y H1 => tE K W wo σ H1 fun x H2 => ∃ a w, x = .ref a ∧ DGet H2 a y w ∧ Q (.bl (neg ^^ w.isSome)) H2 := by
  obtain ⟨F, C, ρ, P, PX, hs, en, xr, w, k⟩ := h
  refine ⟨F, C, ρ, _, PX, hs, en, xr, w, fun v F1 H1 y C1 e1 h1 ry q => ⟨F1, C1, ρ, _, PX, h1, en.mono e1, xr.mono e1, q, fun u F2 H2 x C2 e2 h2 rx q2 => ?_⟩⟩
  unfold dDIn at q2
  split at q2
  · rename_i o hd
    obtain ⟨a, w', rfl, g, hw⟩ := dicGet_rd h2 rx (ry.mono e2) hd
    refine ⟨a, w', rfl, g, k _ F2 H2 _ C2 (e1.trans e2) h2 (.bl _) ?_⟩
    rcases hw with ⟨e3, e4⟩ | ⟨z, d', e3, e4, rz⟩ <;> (subst e3 e4; exact q2)
  · exact q2.elim
theorem c_din (hr : Room n X.A) (hi : PE X i (tE X.K W wi)) (ho : PE X o (tE X.K W wo)) : PC X .In i o (tE X.K W (wOp (dDIn false) wi wo)) := ⟨fun pins s σ H Q I h =>
  (pc_din (hu_of hr) hi ho).run pins s σ H Q I (by
    have z := i_din h
    simp only [Bool.false_xor] at z
    exact z)⟩
theorem c_dnotin (hr : Room n X.A) (hi : PE X i (tE X.K W wi)) (ho : PE X o (tE X.K W wo)) : PC X .NotIn i o (tE X.K W (wOp (dDIn true) wi wo)) := ⟨fun pins s σ H Q I h =>
  (pc_dnotin (hu_of hr) hi ho).run pins s σ H Q I (by
    have z := i_din h
    simp only [Bool.true_xor] at z
    exact z)⟩
theorem d_din (hr : Room n X.A) (hi : PE X i (tE X.K W wi)) (ho : PE X o (tE X.K W wo)) (hb : behindInMarks .In o = false := by rfl) : PE X (.Compare i [.In] [o] pos) (tE X.K W (wOp (dDIn false) wi wo)) := pe_cmp (c_din hr hi ho) hb
theorem d_dnotin (hr : Room n X.A) (hi : PE X i (tE X.K W wi)) (ho : PE X o (tE X.K W wo)) (hb : behindInMarks .NotIn o = false := by rfl) : PE X (.Compare i [.NotIn] [o] pos) (tE X.K W (wOp (dDIn true) wi wo)) := pe_cmp (c_dnotin hr hi ho) hb
theorem d_tdin (hr : Room n X.A) (hi : PE X i (tE X.K W wi)) (ho : PE X o (tE X.K W wo)) (hb : behindInMarks .In o = false := by rfl) : PT X (.Compare i [.In] [o] pos) (tT X.K W (wTest (wOp (dDIn false) wi wo))) :=
  PT.imp (pt_cmp (c_din hr hi ho) hb) fun σ H Q h => i_test h
theorem d_tdnotin (hr : Room n X.A) (hi : PE X i (tE X.K W wi)) (ho : PE X o (tE X.K W wo)) (hb : behindInMarks .NotIn o = false := by rfl) : PT X (.Compare i [.NotIn] [o] pos) (tT X.K W (wTest (wOp (dDIn true) wi wo))) :=
  PT.imp (pt_cmp (c_dnotin hr hi ho) hb) fun σ H Q h => i_test h
theorem dd_get1 (hr : Room n X.A) (ho : PE X o (tE X.K W wo)) (hi : PE X i (tE X.K W wi)) (m : M1 X o "get" apos i pos := by exact ⟨rfl, rfl, rfl, rfl⟩) : PE X (.Call (.Attribute o "get" apos) [i] [] pos) (tE X.K W (wGet1 wo wi)) :=
  PE.imp (pe_dget1 (hu_of hr) ho hi m) fun σ H Q ⟨F, C, ρ, P, PX, hs, en, xr, w, k⟩ =>
  ⟨F, C, ρ, _, PX, hs, en, xr, w, fun v F1 H1 x C1 e1 h1 rx q => by
    obtain ⟨qd, q⟩ := q
    obtain ⟨a, rfl, ha⟩ := isDic_rd h1 rx qd
    refine ⟨a, rfl, ha, F1, C1, ρ, _, PX, h1, en.mono e1, xr.mono e1, q, fun u F2 H2 y C2 e2 h2 ry q2 => ?_⟩
    split at q2
    · rename_i o hd
      obtain ⟨a', w', ea, g, hw⟩ := dicGet_rd h2 (rx.mono e2) ry hd
      cases ea
      refine ⟨w', g, ?_⟩
      rcases hw with ⟨rfl, rfl⟩ | ⟨z, d', rfl, rfl, rz⟩
      · exact k _ F2 H2 _ C2 (e1.trans e2) h2 .non q2
      · exact k _ F2 H2 _ C2 (e1.trans e2) h2 rz q2
    · exact q2.elim⟩
theorem dd_get2 (hr : Room n X.A) (ho : PE X o (tE X.K W wo)) (hi : PE X i (tE X.K W wi)) (he : PE X e (tE X.K W we)) (m : M2 X o "get" apos i e pos := by exact ⟨rfl, rfl, rfl, rfl⟩) : PE X (.Call (.Attribute o "get" apos) [i, e] [] pos) (tE X.K W (wGet2 wo wi we)) :=
  PE.imp (pe_dget2 (hu_of hr) ho hi he m) fun σ H Q ⟨F, C, ρ, P, PX, hs, en, xr, w, k⟩ =>
  ⟨F, C, ρ, _, PX, hs, en, xr, w, fun v F1 H1 x C1 e1 h1 rx q => by
    obtain ⟨qd, q⟩ := q
    obtain ⟨a, rfl, ha⟩ := isDic_rd h1 rx qd
    refine ⟨a, rfl, ha, F1, C1, ρ, _, PX, h1, en.mono e1, xr.mono e1, q, fun u F2 H2 y C2 e2 h2 ry q2 => ⟨F2, C2, ρ, _, PX, h2, en.mono (e1.trans e2), xr.mono (e1.trans e2), q2, fun z F3 H3 dz C3 e3 h3 rz q3 => ?_⟩⟩
    split at q3
    · rename_i o hd
      obtain ⟨a', w', ea, g, hw⟩ := dicGet_rd h3 (rx.mono (e2.trans e3)) (ry.mono e3) hd
      cases ea
      refine ⟨w', g, ?_⟩
      have ee := (e1.trans e2).trans e3
      rcases hw with ⟨rfl, rfl⟩ | ⟨z, d', rfl, rfl, rz'⟩
      · exact k _ F3 H3 _ C3 ee h3 rz q3
      · exact k _ F3 H3 _ C3 ee h3 rz' q3
    · exact q3.elim⟩
end

/-! ### stores -/
def dicPut (x y d : D) (C : Cells) (P : Cells → Prop) : Prop := match x with
  | .ptr a => match C a with
    | some (.dK t) => match keyOf y with
      | some k => t.length < 100000 ∧ P (cput C a (.dK (puD t k d)))
      | none => False
    | some (.dT t) => match keysOf y with
      | some k => t.length < 100000 ∧ P (cput C a (.dT (puD t k d)))
      | none => False
    | _ => False
  | _ => False
def wSetD (o i e : DE) (E : DEnds) (ρ : DEnv) (C : Cells) : Prop := e ρ C (fun d C1 => o ρ C1 (fun x C2 => i ρ C2 (fun y C3 => dicPut x y d C3 fun C4 => E.nx ρ C4) E.ex) E.ex) E.ex
def wDelD (o i : DE) (E : DEnds) (ρ : DEnv) (C : Cells) : Prop := o ρ C (fun x C1 => i ρ C1 (fun y C2 => match x with
  | .ptr a => match C2 a with
    | some (.dK t) => match keyOf y with
      | some k => (vaD t k).isSome = true ∧ E.nx ρ (cput C2 a (.dK (drD t k)))
      | none => False
    | _ => False
  | _ => False) E.ex) E.ex
/-- {}: its keys numbers and texts; tuples -/
def wNewK (_ : DEnv) (C : Cells) (P : DK) (_ : DX) : Prop := ∀ p, C p = none → P (.ptr p) (cput C p (.dK []))
def wNewT (_ : DEnv) (C : Cells) (P : DK) (_ : DX) : Prop := ∀ p, C p = none → P (.ptr p) (cput C p (.dT []))
/-- {} that is not written at -/
def wNew0 (_ : DEnv) (C : Cells) (P : DK) (_ : DX) : Prop := P (.dK []) C
section
variable {X : Cx} {W : WX} {K : PySem.W.Frag} {o i e : Expr} {wo wi we : DE} {pos pos' tpos : Pos} {n : Nat}
theorem dicPut_ok {F H : Hp} {C : Cells} {v u z : V} {x y d : D} {P : Cells → Prop} (hs : Hs K F C H) (rx : Rep K F v x) (ry : Rep K F u y) (rz : Rep K F z d) (h : dicPut x y d C P) : ∃ a H' C', v = .ref a ∧ DPut H a u z H' ∧ Hs K F C' H' ∧ P C' := by
  unfold dicPut at h
  split at h
  · rename_i a
    cases rx
    split at h
    · rename_i t hc
      split at h
      · rename_i k hk
        obtain ⟨f0, vs, h1, h2⟩ := hs.cell a _ hc
        refine ⟨a, _, _, rfl, .inl ⟨vs, k, h1, key_rep ry hk, ?_, rfl⟩, hs.put (c := .dK (puD t k d)) f0 ⟨_, upd_same, RepK.of (tp_put h2.pair k rz)⟩, h.2⟩
        rw [tp_len h2.pair]
        exact sz_lt h.1
      · exact h.elim
    · rename_i t hc
      split at h
      · rename_i k hk
        obtain ⟨f0, vs, h1, h2⟩ := hs.cell a _ hc
        obtain ⟨b, hb, hb2⟩ := keys_rep hs ry hk
        refine ⟨a, _, _, rfl, .inr ⟨vs, k, b, h1, hb, hb2, ?_, rfl⟩, hs.put (c := .dT (puD t k d)) f0 ⟨_, upd_same, RepT.of (tp_put h2.pair k rz)⟩, h.2⟩
        rw [tp_len h2.pair]
        exact sz_lt h.1
      · exact h.elim
    · exact h.elim
  · exact h.elim
theorem ds_setD (hr : Room n X.A) (ho : PE X o (tE X.K W wo)) (hi : PE X i (tE X.K W wi)) (he : PE X e (tE X.K W we)) (hs : swapsWith e (some (.Subscript o i pos')) pos.line X.env = pure false := by rfl) :
    PS X (.Assign [.Subscript o i pos'] e pos) (tS X.K W (wSetD wo wi we)) := PS.imp (ps_dput (hu_of hr) ho hi he hs) fun Dn σ H ⟨F, C, ρ, DE, hs, en, xr, w, er⟩ =>
  ⟨F, C, ρ, _, _, hs, en, xr, w, fun z F1 H1 d C1 e1 h1 rz q => ⟨F1, C1, ρ, _, _, h1, en.mono e1, xr.mono e1, q, fun v F2 H2 x C2 e2 h2 rx q2 => ⟨F2, C2, ρ, _, _, h2, en.mono (e1.trans e2), xr.mono (e1.trans e2), q2, fun u F3 H3 y C3 e3 h3 ry q3 => by
    obtain ⟨a, H4, C4, rfl, g, h4, q4⟩ := dicPut_ok h3 (rx.mono e3) ry (rz.mono (e2.trans e3)) q3
    have ee := (e1.trans e2).trans e3
    exact ⟨a, H4, rfl, g, er.nx σ F3 H4 ρ C4 ee h4 (en.mono ee) q4⟩⟩⟩⟩
theorem ds_delD (ho : PE X o (tE X.K W wo)) (hi : PE X i (tE X.K W wi)) : PS X (.Delete [.Subscript o i tpos] pos) (tS X.K W (wDelD wo wi)) := PS.imp (ps_ddel ho hi) fun Dn σ H ⟨F, C, ρ, DE, hs, en, xr, w, er⟩ =>
  ⟨F, C, ρ, _, _, hs, en, xr, w, fun v F1 H1 x C1 e1 h1 rx q => ⟨F1, C1, ρ, _, _, h1, en.mono e1, xr.mono e1, q, fun u F2 H2 y C2 e2 h2 ry q2 => by
    split at q2
    · rename_i a
      cases rx
      split at q2
      · rename_i t hc
        split at q2
        · rename_i k hk
          obtain ⟨f0, vs, g1, g2⟩ := h2.cell a _ hc
          refine ⟨a, vs, k, rfl, g1, key_rep ry hk, ?_, er.nx σ F2 _ ρ _ (e1.trans e2) (h2.put (c := .dK (drD t k)) f0 ⟨_, upd_same, RepK.of (tp_drop g2.pair k)⟩) (en.mono (e1.trans e2)) q2.2⟩
          rcases tp_val g2.pair k with ⟨z1, z2⟩ | ⟨_, _, z1, z2, _⟩
          · have := q2.1
            rw [z1] at this
            cases this
          · rw [z2]; rfl
        · exact q2.elim
      · exact q2.elim
    · exact q2.elim⟩⟩
theorem d_newK : PE X (.Dict [] [] pos) (tE X.K W wNewK) := PE.imp pe_dnewK fun σ H Q ⟨F, C, ρ, P, PX, hs, en, xr, w, k⟩ => fun p hp =>
  k _ F _ _ _ (Ex.refl F) (hs.put (c := .dK []) (hs.fresh hp).1 ⟨[], upd_same, .nil⟩) (.ptr p) (w p (hs.fresh hp).2)
theorem d_newT : PE X (.Dict [] [] pos) (tE X.K W wNewT) := PE.imp pe_dnewT fun σ H Q ⟨F, C, ρ, P, PX, hs, en, xr, w, k⟩ => fun p hp =>
  k _ F _ _ _ (Ex.refl F) (hs.put (c := .dT []) (hs.fresh hp).1 ⟨[], upd_same, .nil⟩) (.ptr p) (w p (hs.fresh hp).2)
theorem d_new0 : PE X (.Dict [] [] pos) (tE X.K W wNew0) := PE.imp (pe_fz pe_dnewK) fun σ H Q ⟨F, C, ρ, P, PX, hs, en, xr, w, k⟩ => fun p hp => .inr ⟨p, _, upd_same, trivial, fun od => by
  obtain ⟨e, h2⟩ := hs.lay (o := .frz od (.dK [])) hp
  rw [upd_upd]
  exact k _ _ _ _ C e h2 (.dK upd_same .nil) w⟩
end
end DD

set_option Elab.async false
set_option linter.all false
set_option maxRecDepth 100000
set_option maxHeartbeats 4000000
/-! Dicts: walks, locks, len, dict(..), sorted(..). -/
namespace DD
open PySem L2 PyProof.Rows

def keyTD (ks : List L2.Key) : D := .tup (ks.map keyD)
section
variable {K : PySem.W.Frag} {F H : Hp} {C : Cells}
theorem rep_key (k : L2.Key) : Rep K F (kV k) (keyD k) := by
  cases k with
  | inl i => exact .int i
  | inr z => exact .str z
theorem rep_keys : ∀ ks : List L2.Key, RepL K F (ks.map kV) (ks.map keyD)
  | [] => .nil
  | k :: r => .cons (rep_key k) (rep_keys r)
/-- a tuple that stands is data -/
theorem Hs.adopt (h : Hs K F C H) {q : Addr} {xs : List V} (hq : H q = some (.tup xs)) : ∃ F2, Ex F F2 ∧ Hs K F2 C H ∧ F2 q = some (.tup xs) := by
  cases e : F q with
  | some u =>
    have : u = .tup xs := by
      rcases h.ex q u e with z | ⟨_, od, z⟩
      · rw [hq] at z; exact (Option.some.inj z).symm
      · rw [hq] at z; cases z
    exact ⟨F, Ex.refl F, h, by rw [e, this]⟩
  | none =>
    have c0 : C q = none := by
      cases c : C q with
      | none => rfl
      | some c1 =>
        obtain ⟨_, r⟩ := h.cell q _ c
        cases c1 <;> first
          | (obtain ⟨_, z, _⟩ := r; rw [hq] at z; cases z)
          | (obtain ⟨_, _, z, _⟩ := r; rw [hq] at z; cases z)
          | (obtain ⟨z, _⟩ := r; rw [hq] at z; cases z)
    refine ⟨upd F q (.tup xs), Ex.new e, ⟨fun a u z => ?_, fun a c z => ?_⟩, upd_same⟩
    · by_cases ne : a = q
      · subst ne; rw [upd_same] at z; cases z; exact .inl hq
      · rw [upd_ne ne] at z; exact h.ex a u z
    · have ne : a ≠ q := cell_ne z c0
      obtain ⟨f1, r⟩ := h.cell a c z
      exact ⟨by rw [upd_ne ne]; exact f1, r.ex (Ex.new e)⟩
theorem Hs.adopts (h : Hs K F C H) : ∀ {vs : List (List L2.Key × V)} {bs : List Addr}, IsKeys H vs bs → ∃ F2, Ex F F2 ∧ Hs K F2 C H ∧ RepL K F2 (bs.map V.ref) (vs.map fun p => keyTD p.1) := by
  intro vs bs r
  unfold IsKeys at r
  induction r with
  | nil => exact ⟨F, Ex.refl F, h, .nil⟩
  | @cons p b _ _ g _ ih =>
    obtain ⟨F2, e2, h2, r2⟩ := ih
    obtain ⟨F3, e3, h3, f3⟩ := h2.adopt g
    exact ⟨F3, e2.trans e3, h3, .cons (.tup f3 (rep_keys p.1)) (r2.mono e3)⟩
end

/-! ### what is walked -/
def wItK (e : DE) (ρ : DEnv) (C : Cells) (P : DIt → Cells → Prop) (PX : DX) : Prop := e ρ C (fun d C1 => match d with
  | .dK t => P ⟨t.map fun p => keyD p.1, frozen⟩ C1
  | .dT t => P ⟨t.map fun p => keyTD p.1, frozen⟩ C1
  | .ptr a => match C1 a with
    | some (.lK t od vs) => P ⟨t.map fun p => keyD p.1, fun C' => C' a = some (.lK t od vs)⟩ C1
    | some (.lT t od vs) => P ⟨t.map fun p => keyTD p.1, fun C' => C' a = some (.lT t od vs)⟩ C1
    | _ => False
  | _ => False) PX
section
variable {K : PySem.W.Frag} {F : Hp} {a : Addr} {od : Obj}
theorem itk_at {vs : List (L2.Key × V)} {t : List (L2.Key × D)} {st : Cells → Prop} (r : RepK K F vs t) (hl : ∀ F' H C, Ex F F' → Hs K F' C H → st C → H a = some (.frz od (.dK vs))) : ItR K F (Itk a od vs) ⟨t.map fun p => keyD p.1, st⟩ := fun F' H C e hs hc => by
  have hH := hl F' H C e hs hc
  have ln := tp_len r.pair
  refine ⟨fun i d hd => ?_, hH, by show vs.length ≤ (t.map _).length; rw [List.length_map, ln]; exact Nat.le_refl _⟩
  have hi : i < t.length := by
    have := (List.getElem?_eq_some_iff.mp hd).1
    simpa using this
  refine ⟨⟨hH, by rw [ln]; exact hi⟩, fun x H' y => ?_⟩
  obtain ⟨rfl, k, v, hk, rfl⟩ := y
  refine ⟨F', Ex.refl _, hs, ?_⟩
  have ek : (vs.map (·.1))[i]? = some k := by rw [List.getElem?_map, hk]; rfl
  rw [tp_keys r.pair, List.getElem?_map] at ek
  have hd' : (t.map fun p => keyD p.1)[i]? = some d := hd
  rw [List.getElem?_map] at hd'
  cases ht : t[i]? with
  | none => rw [ht] at hd'; cases hd'
  | some p =>
    rw [ht] at ek hd'
    cases ek; cases hd'
    exact rep_key p.1
theorem itkt_at {vs : List (List L2.Key × V)} {t : List (List L2.Key × D)} {st : Cells → Prop} (r : RepT K F vs t) (hl : ∀ F' H C, Ex F F' → Hs K F' C H → st C → H a = some (.frz od (.dT vs))) : ItR K F (Itkt a od vs) ⟨t.map fun p => keyTD p.1, st⟩ := fun F' H C e hs hc => by
  have hH := hl F' H C e hs hc
  have ln := tp_len r.pair
  refine ⟨fun i d hd => ?_, hH, by show vs.length ≤ (t.map _).length; rw [List.length_map, ln]; exact Nat.le_refl _⟩
  have hi : i < t.length := by
    have := (List.getElem?_eq_some_iff.mp hd).1
    simpa using this
  refine ⟨⟨hH, by rw [ln]; exact hi⟩, fun x H' y => ?_⟩
  obtain ⟨rfl, k, v, q, hk, rfl, hq⟩ := y
  obtain ⟨F2, e2, h2, f2⟩ := hs.adopt hq
  refine ⟨F2, e2, h2, ?_⟩
  have ek : (vs.map (·.1))[i]? = some k := by rw [List.getElem?_map, hk]; rfl
  rw [tp_keys r.pair, List.getElem?_map] at ek
  have hd' : (t.map fun p => keyTD p.1)[i]? = some d := hd
  rw [List.getElem?_map] at hd'
  cases ht : t[i]? with
  | none => rw [ht] at hd'; cases hd'
  | some p =>
    rw [ht] at ek hd'
    cases ek; cases hd'
    exact .tup f2 (rep_keys p.1)
end
section
variable {X : Cx} {W : WX} {e tg : Expr} {we : DE}
theorem di_keys (he : PE X e (tE X.K W we)) : PI X tg e (tI X.K W (wItK we)) := PI.imp (pi_keys he) fun σ H R ⟨F, C, ρ, P, PX, hs, en, xr, w, k⟩ =>
  ⟨F, C, ρ, _, PX, hs, en, xr, w, fun v F1 H1 d C1 e1 h1 r q => by
    cases r <;> first | exact q.elim | skip
    · rename_i a
      revert q
      dsimp only
      split
      · rename_i t od vs hc
        intro q
        obtain ⟨_, g1, g2⟩ := h1.cell a _ hc
        exact ⟨a, od, rfl, .inl ⟨vs, g1, k _ F1 H1 _ C1 e1 h1 (itk_at g2 fun F' H' C' _ h' hc' => (h'.cell a (.lK t od vs) hc').2.1) q⟩⟩
      · rename_i t od vs hc
        intro q
        obtain ⟨_, g1, g2⟩ := h1.cell a _ hc
        exact ⟨a, od, rfl, .inr ⟨vs, g1, k _ F1 H1 _ C1 e1 h1 (itkt_at g2 fun F' H' C' _ h' hc' => (h'.cell a (.lT t od vs) hc').2.1) q⟩⟩
      · exact fun z => z.elim
    · rename_i a od vs t hf hr
      exact ⟨a, od, rfl, .inl ⟨vs, h1.ex.nd hf rfl, k _ F1 H1 _ C1 e1 h1 (itk_at hr fun F' H' C' e' h' _ => h'.ex.nd (e'.nd hf rfl) rfl) q⟩⟩
    · rename_i a od vs t hf hr
      exact ⟨a, od, rfl, .inr ⟨vs, h1.ex.nd hf rfl, k _ F1 H1 _ C1 e1 h1 (itkt_at hr fun F' H' C' e' h' _ => h'.ex.nd (e'.nd hf rfl) rfl) q⟩⟩⟩
end

/-! ### a dict locked while a statement, an expression runs -/
abbrev Pth := DEnv → Cells → Option D
def pVar (i : Nat) : Pth := fun ρ _ => match (ρ[i]? : Option (Option D)) with
  | some (some d) => some d
  | _ => none
def pFld (Cl : Addr) (f : String) (g : Pth) : Pth := fun ρ C => match g ρ C with
  | some x => fldOf Cl f x C
  | none => none
def unl (E : DEnds) (a : Addr) (c c' : Cell) : DEnds := { nx := fun ρ' C' => C' a = some c ∧ E.nx ρ' (cput C' a c'), rt := fun d C' => C' a = some c ∧ E.rt d (cput C' a c'), bk := fun ρ' C' => C' a = some c ∧ E.bk ρ' (cput C' a c'), ct := fun ρ' C' => C' a = some c ∧ E.ct ρ' (cput C' a c'), ex := E.ex }
def wLockS (g : Pth) (w : DS) (E : DEnds) (ρ : DEnv) (C : Cells) : Prop := match g ρ C with
  | some (.ptr a) => match C a with
    | some (.dK t) => ∀ od vs, w (unl E a (.lK t od vs) (.dK t)) ρ (cput C a (.lK t od vs))
    | some (.dT t) => ∀ od vs, w (unl E a (.lT t od vs) (.dT t)) ρ (cput C a (.lT t od vs))
    | some (.dN q t) => ∀ od vs, w (unl E a (.lN q t od vs) (.dN q t)) ρ (cput C a (.lN q t od vs))
    | some (.dO q t) => ∀ od vs, w (unl E a (.lO q t od vs) (.dO q t)) ρ (cput C a (.lO q t od vs))
    | _ => w E ρ C
  | _ => w E ρ C
def wLockE (g : Pth) (w : DE) (ρ : DEnv) (C : Cells) (P : DK) (PX : DX) : Prop := match g ρ C with
  | some (.ptr a) => match C a with
    | some (.dK t) => ∀ od vs, w ρ (cput C a (.lK t od vs)) (fun d C' => C' a = some (.lK t od vs) ∧ P d (cput C' a (.dK t))) PX
    | some (.dT t) => ∀ od vs, w ρ (cput C a (.lT t od vs)) (fun d C' => C' a = some (.lT t od vs) ∧ P d (cput C' a (.dT t))) PX
    | some (.dN q t) => ∀ od vs, w ρ (cput C a (.lN q t od vs)) (fun d C' => C' a = some (.lN q t od vs) ∧ P d (cput C' a (.dN q t))) PX
    | some (.dO q t) => ∀ od vs, w ρ (cput C a (.lO q t od vs)) (fun d C' => C' a = some (.lO q t od vs) ∧ P d (cput C' a (.dO q t))) PX
    | _ => w ρ C P PX
  | _ => w ρ C P PX
section
variable {X : Cx} {W : WX} {K : PySem.W.Frag} {st : Stmt} {e : Expr}
theorem ps_or {t1 t2 : TS} (h1 : PS X st t1) (h2 : PS X st t2) : PS X st (fun D σ H => t1 D σ H ∨ t2 D σ H) := ⟨fun pins s σ H D I w => w.elim (h1.run pins s σ H D I) (h2.run pins s σ H D I)⟩
theorem pe_or {t1 t2 : TE} (h1 : PE X e t1) (h2 : PE X e t2) : PE X e (fun σ H Q => t1 σ H Q ∨ t2 σ H Q) := ⟨fun pins s σ H Q I w => w.elim (h1.run pins s σ H Q I) (h2.run pins s σ H Q I)⟩
theorem unl_ends {F : Hp} {E : DEnds} {D : Ends} {a : Addr} {c c' : Cell} {od : Obj} {u : HO} (er : EndsR K F E D) (hc : ∀ F' H', Ex F F' → RepC K F' H' a c → H' a = some (.frz od u) ∧ RepC K F' (upd H' a u) a c') :
    EndsR K F (unl E a c c') ⟨fun σ' H' => H' a = some (.frz od u) ∧ D.nx σ' (upd H' a u), fun v H' => H' a = some (.frz od u) ∧ D.rt v (upd H' a u), fun σ' H' => H' a = some (.frz od u) ∧ D.bk σ' (upd H' a u), fun σ' H' => H' a = some (.frz od u) ∧ D.ct σ' (upd H' a u)⟩ :=
  ⟨fun σ' F' H' ρ' C' e' h' n' ⟨hq, q⟩ => by
    obtain ⟨f0, r⟩ := h'.cell a _ hq
    obtain ⟨z1, z2⟩ := hc F' H' e' r
    exact ⟨z1, er.nx σ' F' _ ρ' _ e' (h'.put f0 z2) n' q⟩,
  fun v F' H' d C' e' h' rv ⟨hq, q⟩ => by
    obtain ⟨f0, r⟩ := h'.cell a _ hq
    obtain ⟨z1, z2⟩ := hc F' H' e' r
    exact ⟨z1, er.rt v F' _ d _ e' (h'.put f0 z2) rv q⟩,
  fun σ' F' H' ρ' C' e' h' n' ⟨hq, q⟩ => by
    obtain ⟨f0, r⟩ := h'.cell a _ hq
    obtain ⟨z1, z2⟩ := hc F' H' e' r
    exact ⟨z1, er.bk σ' F' _ ρ' _ e' (h'.put f0 z2) n' q⟩,
  fun σ' F' H' ρ' C' e' h' n' ⟨hq, q⟩ => by
    obtain ⟨f0, r⟩ := h'.cell a _ hq
    obtain ⟨z1, z2⟩ := hc F' H' e' r
    exact ⟨z1, er.ct σ' F' _ ρ' _ e' (h'.put f0 z2) n' q⟩⟩
theorem ds_lock (g : Pth) {w : DS} (h : PS X st (tS X.K W w)) : PS X st (tS X.K W (wLockS g w)) := PS.imp (ps_or h (ps_lock h)) fun D σ H ⟨F, C, ρ, DE, hs, en, xr, q, er⟩ => by
  have go : w DE ρ C → tS X.K W w D σ H := fun q => ⟨F, C, ρ, DE, hs, en, xr, q, er⟩
  unfold wLockS at q
  split at q
  · rename_i a _
    split at q
    · rename_i t hc
      obtain ⟨f0, vs, h1, r⟩ := hs.cell a _ hc
      refine .inr ⟨a, .dK vs, h1, trivial, fun od => ⟨F, _, ρ, unl DE a (.lK t od vs) (.dK t), hs.put (c := .lK t od vs) f0 ⟨upd_same, r⟩, en, xr, q od vs, ?_⟩⟩
      exact unl_ends er fun F' H' e' z => ⟨z.1, vs, upd_same, z.2⟩
    · rename_i t hc
      obtain ⟨f0, vs, h1, r⟩ := hs.cell a _ hc
      refine .inr ⟨a, .dT vs, h1, trivial, fun od => ⟨F, _, ρ, unl DE a (.lT t od vs) (.dT t), hs.put (c := .lT t od vs) f0 ⟨upd_same, r⟩, en, xr, q od vs, ?_⟩⟩
      exact unl_ends er fun F' H' e' z => ⟨z.1, vs, upd_same, z.2⟩
    · rename_i qq t hc
      obtain ⟨f0, vs, h1, r⟩ := hs.cell a _ hc
      refine .inr ⟨a, ndO qq.w a vs, h1, trivial, fun od => ⟨F, _, ρ, unl DE a (.lN qq t od vs) (.dN qq t), hs.put (c := .lN qq t od vs) f0 ⟨upd_same, r⟩, en, xr, q od vs, ?_⟩⟩
      exact unl_ends er fun F' H' e' z => ⟨z.1, vs, upd_same, z.2⟩
    · rename_i qq t hc
      obtain ⟨f0, vs, h1, r⟩ := hs.cell a _ hc
      refine .inr ⟨a, ldO qq a vs, h1, trivial, fun od => ⟨F, _, ρ, unl DE a (.lO qq t od vs) (.dO qq t), hs.put (c := .lO qq t od vs) f0 ⟨upd_same, r⟩, en, xr, q od vs, ?_⟩⟩
      exact unl_ends er fun F' H' e' z => ⟨z.1, vs, upd_same, z.2⟩
    · exact .inl (go q)
  · exact .inl (go q)
theorem d_lock (g : Pth) {w : DE} (h : PE X e (tE X.K W w)) : PE X e (tE X.K W (wLockE g w)) := PE.imp (pe_or h (pe_lock h)) fun σ H Q ⟨F, C, ρ, P, PX, hs, en, xr, q, k⟩ => by
  have go : w ρ C P PX → tE X.K W w σ H Q := fun q => ⟨F, C, ρ, P, PX, hs, en, xr, q, k⟩
  unfold wLockE at q
  split at q
  · rename_i a _
    split at q
    · rename_i t hc
      obtain ⟨f0, vs, h1, r⟩ := hs.cell a _ hc
      refine .inr ⟨a, .dK vs, h1, trivial, fun od => ⟨F, _, ρ, _, PX, hs.put (c := .lK t od vs) f0 ⟨upd_same, r⟩, en, xr, q od vs, fun v F' H' d C' e' h' rv ⟨hq, q'⟩ => ?_⟩⟩
      obtain ⟨g0, g1, g2⟩ := h'.cell a _ hq
      exact ⟨g1, k v F' _ d _ e' (h'.put (c := .dK t) g0 ⟨vs, upd_same, g2⟩) rv q'⟩
    · rename_i t hc
      obtain ⟨f0, vs, h1, r⟩ := hs.cell a _ hc
      refine .inr ⟨a, .dT vs, h1, trivial, fun od => ⟨F, _, ρ, _, PX, hs.put (c := .lT t od vs) f0 ⟨upd_same, r⟩, en, xr, q od vs, fun v F' H' d C' e' h' rv ⟨hq, q'⟩ => ?_⟩⟩
      obtain ⟨g0, g1, g2⟩ := h'.cell a _ hq
      exact ⟨g1, k v F' _ d _ e' (h'.put (c := .dT t) g0 ⟨vs, upd_same, g2⟩) rv q'⟩
    · rename_i qq t hc
      obtain ⟨f0, vs, h1, r⟩ := hs.cell a _ hc
      refine .inr ⟨a, ndO qq.w a vs, h1, trivial, fun od => ⟨F, _, ρ, _, PX, hs.put (c := .lN qq t od vs) f0 ⟨upd_same, r⟩, en, xr, q od vs, fun v F' H' d C' e' h' rv ⟨hq, q'⟩ => ?_⟩⟩
      obtain ⟨g0, g1, g2⟩ := h'.cell a _ hq
      exact ⟨g1, k v F' _ d _ e' (h'.put (c := .dN qq t) g0 ⟨vs, upd_same, g2⟩) rv q'⟩
    · rename_i qq t hc
      obtain ⟨f0, vs, h1, r⟩ := hs.cell a _ hc
      refine .inr ⟨a, ldO qq a vs, h1, trivial, fun od => ⟨F, _, ρ, _, PX, hs.put (c := .lO qq t od vs) f0 ⟨upd_same, r⟩, en, xr, q od vs, fun v F' H' d C' e' h' rv ⟨hq, q'⟩ => ?_⟩⟩
      obtain ⟨g0, g1, g2⟩ := h'.cell a _ hq
      exact ⟨g1, k v F' _ d _ e' (h'.put (c := .dO qq t) g0 ⟨vs, upd_same, g2⟩) rv q'⟩
    · exact .inl (go q)
  · exact .inl (go q)
end

/-! ### len, dict(..), list(..) -/
def rLenDic : List V → Hp → VK → Prop := fun xs H Q => ∃ (p : Addr) (n : Nat), xs = [.ref p] ∧ ((∃ t : List (L2.Key × V), Rd H p (.dK t) ∧ n = t.length) ∨ ∃ t : List (List L2.Key × V), Rd H p (.dT t) ∧ n = t.length) ∧ Q (.int ((n : Nat) : Int)) H
theorem cr_lenDic {X : Cx} : CallR X (.builtin "len") rLenDic := by
  intro pins s σ H xs us Q I r h
  obtain ⟨p, n, rfl, hp, q⟩ := h
  rw [Vals.ref1 r]
  rcases hp with ⟨t, hp, rfl⟩ | ⟨t, hp, rfl⟩
  · exact d_len I hp fun tk s' I' => ⟨.int _, H, I', ⟨tk, rfl⟩, q⟩
  · obtain ⟨z, hd, ys, rel, dd⟩ := dt_rd I.hok hp
    have e : t.length = ys.length := Paired.length rel
    refine call_len_dictH hd dd (by rw [← e]; rw [sizeLine_eq] at z; omega) ?_
    rw [← e]
    exact ⟨.int _, H, I.tok _, ⟨_, rfl⟩, q⟩
def dLenDic (ds : List D) (C : Cells) (P : DK) : Prop := match ds with
  | [x] => match kvsK x C with
    | some t => P (.int (t.length : Nat)) C
    | none => match kvsT x C with
      | some t => P (.int (t.length : Nat)) C
      | none => False
  | _ => False
def dDictC (ds : List D) (C : Cells) (P : DK) : Prop := match ds with
  | [x] => match kvsK x C with
    | some t => ∀ p, C p = none → P (.ptr p) (cput C p (.dK t))
    | none => False
  | _ => False
def dKeyList (own : Bool) (ds : List D) (C : Cells) (P : DK) : Prop := match ds with
  | [x] => match kvsK x C with
    | some t => if own = true then ∀ p, C p = none → P (.ptr p) (cput C p (.lst (t.map fun p => keyD p.1))) else P (.lst (t.map fun p => keyD p.1)) C
    | none => False
  | _ => False
section
variable {K : PySem.W.Frag}
theorem s_lenDic : SimA K rLenDic dLenDic := fun F C H xs ds P Q hs r w k => by
  unfold dLenDic at w
  split at w
  · obtain ⟨v, rfl, r1⟩ := r.one
    split at w
    · rename_i t ht
      obtain ⟨a, vs, rfl, h2, h3⟩ := kvsK_rd hs r1 ht
      exact ⟨a, _, rfl, .inl ⟨vs, h2, (tp_len h3.pair).symm⟩, k _ F H _ C (Ex.refl F) hs (.int _) w⟩
    · split at w
      · rename_i t ht
        obtain ⟨a, vs, rfl, h2, h3⟩ := kvsT_rd hs r1 ht
        exact ⟨a, _, rfl, .inr ⟨vs, h2, (tp_len h3.pair).symm⟩, k _ F H _ C (Ex.refl F) hs (.int _) w⟩
      · exact w.elim
  · exact w.elim
theorem s_dictC : SimA K (fun xs H Q => ∃ (a : Addr) (t : List (L2.Key × V)), xs = [.ref a] ∧ Rd H a (.dK t) ∧ ∀ p, H p = none → Q (.ref p) (upd H p (.dK t))) dDictC := fun F C H xs ds P Q hs r w k => by
  unfold dDictC at w
  split at w
  · obtain ⟨v, rfl, r1⟩ := r.one
    split at w
    · rename_i t ht
      obtain ⟨a, vs, rfl, h2, h3⟩ := kvsK_rd hs r1 ht
      refine ⟨a, vs, rfl, h2, fun p hp => ?_⟩
      obtain ⟨f0, c0⟩ := hs.fresh hp
      exact k _ F _ _ _ (Ex.refl F) (hs.put (c := .dK t) f0 ⟨vs, upd_same, h3⟩) (.ptr p) (w p c0)
    · exact w.elim
  · exact w.elim
theorem rep_keyl : ∀ {F : Hp} {vs : List (L2.Key × V)} {t : List (L2.Key × D)}, RepK K F vs t → RepL K F (vs.map fun p => kV p.1) (t.map fun p => keyD p.1)
  | _, _, _, .nil => .nil
  | _, _, _, .cons _ r => .cons (rep_key _) (rep_keyl r)
theorem s_keyList (own : Bool) : SimA K (fun xs H Q => ∃ (a : Addr) (t : List (L2.Key × V)), xs = [.ref a] ∧ Rd H a (.dK t) ∧ ∀ p, H p = none → Q (.ref p) (upd H p (.lst (t.map fun kv => kV kv.1)))) (dKeyList own) := fun F C H xs ds P Q hs r w k => by
  unfold dKeyList at w
  split at w
  · obtain ⟨v, rfl, r1⟩ := r.one
    split at w
    · rename_i t ht
      obtain ⟨a, vs, rfl, h2, h3⟩ := kvsK_rd hs r1 ht
      refine ⟨a, vs, rfl, h2, fun p hp => ?_⟩
      cases own with
      | true =>
        rw [if_pos rfl] at w
        obtain ⟨c0, h4⟩ := hs.newC (rep_keyl h3) hp
        exact k _ F _ _ _ (Ex.refl F) h4 (.ptr p) (w p c0)
      | false =>
        rw [if_neg (by decide)] at w
        obtain ⟨e4, h4, r4⟩ := hs.newL (rep_keyl h3) hp
        exact k _ _ _ _ C e4 h4 r4 w
    · exact w.elim
  · exact w.elim
end
end DD

set_option Elab.async false
set_option linter.all false
set_option maxRecDepth 100000
set_option maxHeartbeats 4000000
/-! Dicts: sorted keys; == . -/
namespace DD
open PySem L2 PyProof.Rows PySem.W

def keyP : L2.Key → PyData
  | .inl i => .int i
  | .inr z => .str z
theorem keyP_py (k : L2.Key) : (keyD k).py = keyP k := by cases k <;> simp [keyD, keyP, D.py]
theorem key_reads {h : Heap} {k : L2.Key} {u : Value} (r : RelV (kV k) u) : Reads h u (keyP k) [] := by
  cases k with
  | inl i => obtain ⟨t, rfl⟩ := (show ∃ t, u = Value.int i t from r); exact .int i t
  | inr z => obtain ⟨t, rfl⟩ := (show ∃ t, u = Value.str z t from r); exact .str z t
theorem keys_reads {h : Heap} : ∀ {ks : List L2.Key} {us : List Value}, Vals (ks.map kV) us → ReadsAll h us (ks.map keyP) []
  | [], _, .nil => .nil
  | _ :: _, _, .cons a b => .cons (key_reads a) (keys_reads b)
theorem tupk_reads {P : Program} {w : World} {H : Hp} {h : Heap} {q : Addr} {ks : List L2.Key} (ok : HOk P w H h) (e : H q = some (.tup (ks.map kV))) : Reads h (.ref q) (.tuple (ks.map keyP)) [] := by
  obtain ⟨_, its, r, o, h1, h2, n, h3⟩ := (show ObjOk P w H h q (.tup (ks.map kV)) from ok q _ e)
  exact .tuple h1 h2 h3 (keys_reads (by simpa using r))
/-- what is sorted: values that read as ps, none of them a list -/
inductive Keys (h : Heap) : List V → List PyData → List Value → Prop
  | nil : Keys h [] [] []
  | cons {x : V} {p : PyData} {u : Value} {xs : List V} {ps : List PyData} {us : List Value} : RelV x u → Reads h u p [] → Keys h xs ps us → Keys h (x :: xs) (p :: ps) (u :: us)
theorem Keys.rel {h : Heap} {xs : List V} {ps : List PyData} {us : List Value} (k : Keys h xs ps us) : EachIs (fun v (b : V × PyData) => RelV b.1 v) us (xs.zip ps) := by
  induction k with
  | nil => exact .nil
  | cons a _ _ ih => exact .cons a ih
theorem Keys.rd {h h' : Heap} {a : Addr} (kp : ∀ b o, h.get? b = some o → h'.get? b = some o) {xs : List V} {ps : List PyData} {us : List Value} (k : Keys h xs ps us) : EachIs (fun v (b : V × PyData) => ∃ as, Reads h' v b.2 as ∧ a ∉ as) us (xs.zip ps) := by
  induction k with
  | nil => exact .nil
  | cons _ b _ ih => exact .cons ⟨[], PyProof.Rows.Reads.keeps kp b, by simp⟩ ih
theorem Keys.len {h : Heap} {xs : List V} {ps : List PyData} {us : List Value} (k : Keys h xs ps us) : xs.length = ps.length ∧ us.length = ps.length := by
  induction k with
  | nil => exact ⟨rfl, rfl⟩
  | cons _ _ _ ih => exact ⟨congrArg (· + 1) ih.1, congrArg (· + 1) ih.2⟩
theorem Keys.snd {h : Heap} {xs : List V} {ps : List PyData} {us : List Value} (k : Keys h xs ps us) : (xs.zip ps).map Prod.snd = ps := zip_snd k.len.1
/-- the new list is sorted -/
theorem sort_new {X : Cx} {pins : List (Addr × Obj)} {σ : L2.St} {H : Hp} {s : Shared} {xs : List V} {ps : List PyData} {acc : List Value} {Q : VK} {E : Value → Shared → Prop} (hu : X.A.units + 64 < cLine) (I : Inv X pins σ H s) (k : Keys s.heap xs ps acc) (hal : AllAlike ps) (hk : Sortable ps) (hd : ∀ d ∈ ps, d.depth ≤ 60)
    (hz : ps.length ≤ sizeLine) (q : ∀ p, H p = none → Q (.ref p) (upd H p (.lst (((xs.zip ps).mergeSort (dataLe false Prod.snd)).map Prod.fst)))) :
    wpAny (model X.prog X.w) X.A.in1 (do
      let l ← newList acc
      let _ ← holding [l] (call (.builtin "list.sort") [l])
      ret l) (fun f s' => ∃ v, f = .done (.ret v) ∧ ∃ x H', Inv X pins σ H' s' ∧ RelV x v ∧ Q x H') E s := by
  obtain ⟨l1, l2⟩ := k.len
  refine wpAny_bind (wpAny_newList ?_ (by rw [l2]; exact hz))
  have ho : (s.heap.push (seqObj "list" acc.toArray 0)).get? s.heap.objs.size = some (seqObj "list" acc.toArray 0) := Heap.get?_push_size _ rfl
  refine wpAny_bind (wpAny_holding (list_sort_data (bs := xs.zip ps) (enc := Prod.snd) (R := fun v b => RelV b.1 v) (s := { s with heap := s.heap.push (seqObj "list" acc.toArray 0) }) ho k.rel (k.rd fun _ _ e => Heap.get?_push_of_some _ e) (by rw [k.snd]; exact hal) (by rw [k.snd]; exact hk) (by rw [List.length_zip]; omega) (fun b hb => ?_) fun out h1 h2 => ?_))
  · have := hd b.2 (by rw [← k.snd]; exact List.mem_map_of_mem hb)
    show X.A.units + 1 + 1 + _ < cLine
    omega
  · obtain ⟨ep, he⟩ := PyProof.Rows.sortedHeap_at (vs := acc) (out := out.toArray) ho
    have k1 := each_vals (bs := []) (vs := []) h2
    have hl : (((xs.zip ps).mergeSort (dataLe false Prod.snd)).map Prod.fst).length ≤ sizeLine := by
      rw [List.length_map, List.length_mergeSort, List.length_zip]; omega
    refine wpAny_pure ⟨_, rfl, .ref s.heap.objs.size, upd H s.heap.objs.size (.lst (((xs.zip ps).mergeSort (dataLe false Prod.snd)).map Prod.fst)), I.laid (t' := s.toks) (fun b u e => ?_) (Nat.le_refl _) ⟨hl, out, ep, k1, he⟩, rfl, q _ (I.hok.fresh (Nat.le_refl _))⟩
    have hb : b < s.heap.objs.size := Heap.lt_size e
    exact (PyProof.Rows.sortedHeap_old (Nat.ne_of_lt hb) (by rw [size_push']; exact Nat.lt_succ_of_lt hb)).trans (Heap.get?_push_of_some _ e)
def rSortedDic : List V → Hp → VK → Prop := fun xs H Q => ∃ a ps, xs = [V.ref a] ∧ AllAlike ps ∧ Sortable ps ∧ (∀ d ∈ ps, d.depth ≤ 60) ∧
  ((∃ t : List (L2.Key × V), Rd H a (.dK t) ∧ ps = t.map (fun p => keyP p.1) ∧ ∀ p, H p = none → Q (.ref p) (upd H p (.lst ((((t.map fun p => kV p.1).zip ps).mergeSort (dataLe false Prod.snd)).map Prod.fst)))) ∨
  ∃ t : List (List L2.Key × V), Rd H a (.dT t) ∧ ps = t.map (fun p => PyData.tuple (p.1.map keyP)) ∧ ∀ bs p, IsKeys H t bs → H p = none → Q (.ref p) (upd H p (.lst ((((bs.map V.ref).zip ps).mergeSort (dataLe false Prod.snd)).map Prod.fst))))
theorem keys_K {h : Heap} {prog : Program} {w : World} : ∀ {t : List (L2.Key × V)} {vs : List (L2.Key × Value)} {acc : List Value}, KV t vs → acc.length = vs.length → (∀ (j : Nat) (v : Value), acc[j]? = some v → ∃ (k : L2.Key) (x : Value), vs[j]? = some (k, x) ∧ keyIs k v = true) → Keys h (t.map fun p => kV p.1) (t.map fun p => keyP p.1) acc := by
  intro t vs acc r
  unfold KV at r
  induction r generalizing acc with
  | nil => intro hl _; cases acc with
    | nil => exact .nil
    | cons _ _ => cases hl
  | @cons p q _ _ g _ ih => intro hl ha; cases acc with
    | nil => cases hl
    | cons u us =>
      obtain ⟨k, x, e1, e2⟩ := ha 0 u rfl
      cases e1
      have e3 : p.1 = k := g.1
      refine .cons (show RelV (kV p.1) u by rw [e3]; exact relV_key e2) (show Reads h u (keyP p.1) [] by rw [e3]; exact key_reads (relV_key e2)) (ih (by simpa using hl) fun j v e => ?_)
      obtain ⟨k', x', z1, z2⟩ := ha (j + 1) v (by simpa using e)
      exact ⟨k', x', by simpa using z1, z2⟩
theorem keys_T {P : Program} {w : World} {H : Hp} {h : Heap} (ok : HOk P w H h) : ∀ {t : List (List L2.Key × V)} {bs : List Addr}, IsKeys H t bs → Keys h (bs.map V.ref) (t.map fun p => PyData.tuple (p.1.map keyP)) (bs.map Value.ref) := by
  intro t bs r
  unfold IsKeys at r
  induction r with
  | nil => exact .nil
  | cons g _ ih => exact .cons rfl (tupk_reads ok g) ih
theorem cr_sortedDic {X : Cx} (hc : X.calm = true) (hu : X.A.units + 64 < cLine) : CallR X (.builtin "sorted") rSortedDic := by
  intro pins s σ H xs us Q I r h
  obtain ⟨a, ps, rfl, hal, hk, hd, h⟩ := h
  rw [Vals.ref1 r]
  refine Calls.call_function_entry PyProof.Rows.kind_sorted PyProof.Rows.plain_sorted PyProof.Rows.entry_sorted (PyProof.Rows.args_sorted1 _) ?_
  unfold Builtin.«sorted»
  refine wpAny_bind (m := checkCount "sorted" 1 1 _) (wpAny_pure ?_)
  rcases h with ⟨t, ht, rfl, q⟩ | ⟨t, ht, rfl, q⟩
  · obtain ⟨z, lo, vs, rel, dd⟩ := dk_rd I.hok ht
    obtain ⟨ep, hat⟩ := dd.dictAt
    have hl : t.length = vs.length := rel.length
    refine wpAny_bind (PySem.W.kdu_collect (A := X.A.in1) (PySem.W.kdl_dict (knd := mixKind X.prog X.w) (kvs := vs) (ep := ep) lo) (I.ok.hd hc) hat (by omega) fun h' tk acc hkp hacc => ?_)
    have I1 : Inv X pins σ H { s with heap := h', toks := tk } := I.kept hkp
    have kk : Keys h' (t.map fun p => kV p.1) (t.map fun p => keyP p.1) acc.toList := keys_K (prog := X.prog) (w := X.w) rel (by rw [Array.length_toList]; exact hacc.1) fun j v e => hacc.2 j v (by rw [← Array.getElem?_toList]; exact e)
    have fin := sort_new (E := fun a b => X.xe a b) hu I1 kk hal hk hd (by rw [List.length_map]; exact z) q
    exact fin
  · obtain ⟨z, hs, ks, pr, o, es, ep, ho, hx, hdt, he, hn⟩ := (show ObjOk X.prog X.w H s.heap a (.dT t) from ht.ok I.hok)
    have l1 : es.size = ks.length := size_of_entries he
    have l2 : t.length = ks.length := Paired.length pr
    refine wpAny_bind (PySem.W.kdu_collect (A := X.A.in1) (kdl_raw hs hx hdt) (I.ok.hd hc) ho (by omega) fun h' tk acc hkp hacc => ?_)
    have I1 : Inv X pins σ H { s with heap := h', toks := tk } := I.kept hkp
    have ib : IsKeys H t (ks.map fun x => x.2.1) := isKeys_of pr
    have ea : acc.toList = (ks.map fun x => x.2.1).map Value.ref := by
      have hl : acc.toList.length = ks.length := by rw [Array.length_toList, hacc.1]; exact l1
      refine List.ext_getElem? fun j => ?_
      rw [List.getElem?_map, List.getElem?_map]
      cases hj : acc.toList[j]? with
      | none =>
        have := List.getElem?_eq_none_iff.mp hj
        rw [List.getElem?_eq_none (show ks.length ≤ j by omega)]
        rfl
      | some v =>
        obtain ⟨en, hen, hv⟩ := hacc.2 j v (by rw [← Array.getElem?_toList]; exact hj)
        have qe := entry_at he j
        rw [hen] at qe
        cases hb : ks[j]? with
        | none => rw [hb] at qe; cases qe
        | some b =>
          rw [hb] at qe
          have e2 : en = entryOfKey (tupleKind (mixKind X.prog X.w)) b := Option.some.inj qe
          rw [hv, e2]
          rfl
    have kk := keys_T I1.hok ib
    rw [← ea] at kk
    have fin := sort_new (E := fun a b => X.xe a b) hu I1 kk hal hk hd (by rw [List.length_map]; exact z) fun p hp => q _ p ib hp
    exact fin
/-- sorted(d) -/
def dSortDic (ds : List D) (C : Cells) (P : DK) : Prop := match ds with
  | [x] => match kvsK x C with
    | some t => SortsD (t.map fun p => keyD p.1) ∧ P (.lst ((t.map fun p => keyD p.1).mergeSort leD)) C
    | none => match kvsT x C with
      | some t => SortsD (t.map fun p => keyTD p.1) ∧ P (.lst ((t.map fun p => keyTD p.1).mergeSort leD)) C
      | none => False
  | _ => False
theorem keyTD_py (ks : List L2.Key) : (keyTD ks).py = PyData.tuple (ks.map keyP) := by
  simp only [keyTD, D.py, pys_map, List.map_map]
  congr 1
  exact List.map_congr_left fun k _ => keyP_py k
theorem s_sortDic {K : PySem.W.Frag} : SimA K rSortedDic dSortDic := fun F C H xs ds P Q hs r w k => by
  unfold dSortDic at w
  split at w
  · obtain ⟨v, rfl, r1⟩ := r.one
    split at w
    · rename_i t ht
      obtain ⟨a, vs, rfl, h2, h3⟩ := kvsK_rd hs r1 ht
      obtain ⟨⟨⟨n, hn, hd⟩, hal, hok⟩, w⟩ := w
      have e1 : vs.map (fun p => keyP p.1) = (t.map fun p => keyD p.1).map D.py := by
        rw [List.map_map, show (D.py ∘ fun p : L2.Key × D => keyD p.1) = keyP ∘ (·.1) from funext fun p => keyP_py p.1, ← List.map_map, ← tp_keys h3.pair, List.map_map]
        rfl
      refine ⟨a, _, rfl, by rw [e1]; exact hal, by rw [e1]; exact hok, fun d hd' => ?_, .inl ⟨vs, h2, rfl, fun p hp => ?_⟩⟩
      · rw [e1] at hd'
        obtain ⟨d', hm, rfl⟩ := List.mem_map.mp hd'
        have := (dat_lay (hd d' hm)).2
        omega
      · have rr := rep_keyl h3
        have e2 : vs.map (fun p => keyP p.1) = pys (t.map fun p => keyD p.1) := by rw [pys_map]; exact e1
        rw [e2]
        obtain ⟨e4, h4, r4⟩ := hs.newL rr.sort hp
        exact k _ _ _ _ C e4 h4 r4 w
    · split at w
      · rename_i t ht
        obtain ⟨a, vs, rfl, h2, h3⟩ := kvsT_rd hs r1 ht
        obtain ⟨⟨⟨n, hn, hd⟩, hal, hok⟩, w⟩ := w
        have e1 : vs.map (fun p => PyData.tuple (p.1.map keyP)) = (t.map fun p => keyTD p.1).map D.py := by
          rw [List.map_map, show (D.py ∘ fun p : List L2.Key × D => keyTD p.1) = (fun k => PyData.tuple (k.map keyP)) ∘ (·.1) from funext fun p => keyTD_py p.1, ← List.map_map, ← tp_keys h3.pair, List.map_map]
          rfl
        refine ⟨a, _, rfl, by rw [e1]; exact hal, by rw [e1]; exact hok, fun d hd' => ?_, .inr ⟨vs, h2, rfl, fun bs p ib hp => ?_⟩⟩
        · rw [e1] at hd'
          obtain ⟨d', hm, rfl⟩ := List.mem_map.mp hd'
          have := (dat_lay (hd d' hm)).2
          omega
        · obtain ⟨F2, e2, h2', rr⟩ := hs.adopts ib
          have ek : (vs.map fun p => keyTD p.1) = t.map fun p => keyTD p.1 := by
            have := congrArg (List.map keyTD) (tp_keys h3.pair)
            rw [List.map_map, List.map_map] at this
            exact this
          rw [ek] at rr
          have e3 : vs.map (fun p => PyData.tuple (p.1.map keyP)) = pys (t.map fun p => keyTD p.1) := by rw [pys_map]; exact e1
          rw [e3]
          obtain ⟨e4, h4, r4⟩ := h2'.newL rr.sort hp
          exact k _ _ _ _ C (e2.trans e4) h4 r4 w
      · exact w.elim
  · exact w.elim
end DD

set_option Elab.async false
set_option linter.all false
set_option maxRecDepth 100000
set_option maxHeartbeats 4000000
/-! Dicts: == ; displays. -/
namespace DD
open PySem L2 PyProof.Rows PySem.W

section
variable {κ : Type} [DecidableEq κ]
def vaP (t : List (κ × PyData)) (k : κ) : Option PyData := (t.find? fun p => decide (p.1 = k)).map (·.2)
theorem vaP_hit {k : κ} {p : κ × PyData} {t : List (κ × PyData)} (e : p.1 = k) : vaP (p :: t) k = some p.2 := by unfold vaP; rw [List.find?_cons, decide_eq_true e]; rfl
theorem vaP_miss {k : κ} {p : κ × PyData} {t : List (κ × PyData)} (e : ¬ p.1 = k) : vaP (p :: t) k = vaP t k := by unfold vaP; rw [List.find?_cons, decide_eq_false e]
def hitP (u : List (κ × PyData)) (p : κ × PyData) : Bool := match vaP u p.1 with
  | some d => PyData.eqv p.2 d
  | none => false
def eqP (t u : List (κ × PyData)) : Bool := t.length == u.length && t.all (hitP u)
def hitD (u : List (κ × D)) (p : κ × D) : Bool := match vaD u p.1 with
  | some d => p.2.eqb d
  | none => false
/-- == of two dicts of data -/
def eqT (t u : List (κ × D)) : Bool := t.length == u.length && t.all (hitD u)
abbrev pyT (t : List (κ × D)) : List (κ × PyData) := t.map fun p => (p.1, p.2.py)
theorem vaP_py (k : κ) : ∀ t : List (κ × D), vaP (pyT t) k = (vaD t k).map D.py
  | [] => rfl
  | p :: t => by
    by_cases e : p.1 = k
    · rw [vaD_hit e]; exact vaP_hit (p := (p.1, p.2.py)) e
    · rw [vaD_miss e, ← vaP_py k t]; exact vaP_miss (p := (p.1, p.2.py)) e
theorem eqP_py (t u : List (κ × D)) : eqP (pyT t) (pyT u) = eqT t u := by
  unfold eqP eqT pyT
  rw [List.length_map, List.length_map, List.all_map]
  congr 2
  funext p
  show hitP (pyT u) (p.1, p.2.py) = hitD u p
  unfold hitP hitD
  rw [vaP_py]
  cases vaD u p.1 <;> rfl
/-- what stands at the values reads so -/
abbrev VKr (h : Heap) : List (κ × Value) → List (κ × PyData) → Prop := Paired fun p q => p.1 = q.1 ∧ (∃ as, Reads h p.2 q.2 as) ∧ SeqAt.shaped q.2 = true
theorem vk_at {h : Heap} {vs : List (κ × Value)} {t : List (κ × PyData)} (r : VKr h vs t) (k : κ) : (valueAt vs k = none ∧ vaP t k = none) ∨ ∃ v d, valueAt vs k = some v ∧ vaP t k = some d ∧ (∃ as, Reads h v d as) ∧ SeqAt.shaped d = true := by
  induction r with
  | nil => exact .inl ⟨rfl, rfl⟩
  | @cons p q _ _ g _ ih =>
    by_cases e : q.1 = k
    · refine .inr ⟨p.2, q.2, ?_, vaP_hit e, g.2.1, g.2.2⟩
      unfold valueAt
      rw [List.find?_cons, decide_eq_true (g.1.trans e)]
      rfl
    · rw [vaP_miss e]
      have : ∀ l : List (κ × Value), valueAt (p :: l) k = valueAt l k := fun l => by
        unfold valueAt
        rw [List.find?_cons, decide_eq_false (fun z => e (g.1.symm.trans z))]
      rw [this]
      exact ih
theorem vk_hits {A : Around} {s : Shared} {va vb : List (κ × Value)} {t u : List (κ × PyData)} (hu : A.in1.units + 64 < cLine) (ra : VKr s.heap va t) (rb : VKr s.heap vb u) : KeqHits A.in1 s vb va (t.all (hitP u)) := by
  induction ra with
  | nil => exact .nil
  | @cons p q ps qs g _ ih =>
    obtain ⟨k, v⟩ := p
    obtain ⟨e, ⟨as, r1⟩, s1⟩ := g
    have e : k = q.1 := e
    rw [List.all_cons]
    rcases vk_at rb k with ⟨z1, z2⟩ | ⟨y, d, z1, z2, ⟨bs, r2⟩, s2⟩
    · have : hitP u q = false := by unfold hitP; rw [← e, z2]
      rw [this, Bool.false_and]
      exact .miss z1
    · have : hitP u q = PyData.eqv q.2 d := by unfold hitP; rw [← e, z2]
      rw [this]
      exact .hit z1 (keq_at r1 r2 s1 s2 hu) ih
end
section
variable {prog : Program} {w : World} {κ : Type} [DecidableEq κ] {knd : HeapKind prog w κ} {A : Around} {E : Value → Shared → Prop} {s : Shared}
/-- the same pairs, keys that lie on the heap -/
theorem same_heap {nm : String} {a b : Addr} {xs ys : List (κ × Addr × Value)} {e : Nat → Bool} {Q : Bool → Shared → Prop} (ha : (a == sysModules) = false) (hb : (b == sysModules) = false) (da : s.heap.DictOfH knd a xs) (db : s.heap.DictOfH knd b ys) (hu : knd.room A)
    (hits : ∀ i k p v, xs[i]? = some (k, p, v) → (atKey ys k = none ∧ e i = false) ∨ ∃ q, atKey ys k = some q ∧ SeqAt.EqAt A s v q.2 (e i)) (h : Q (xs.length == ys.length && (List.range xs.length).all e) s) : wpAny (model prog w) A (Builtin.Dict.samePairs nm a b) Q E s := by
  obtain ⟨oa, es, ep, hoa, _, hda, hea, hia, hna⟩ := da
  obtain ⟨ob, fs, fp, hob, _, hdb, heb, hib, hnb⟩ := db
  have la := size_of_entries hea
  have lb := size_of_entries heb
  rw [← la, ← lb] at h
  unfold Builtin.Dict.samePairs Builtin.Dict.showsAll
  rw [if_neg (by rw [ha]; decide), if_neg (by rw [hb]; decide)]
  refine wpAny_bind (wpAny_pure <| wpAny_bind <| wpAny_pure ?_)
  refine wpAny_bind (wpAny_dictEntries hoa hda ?_); dsimp only
  refine wpAny_bind (wpAny_dictEntries hob hdb ?_)
  by_cases hsz : es.size = fs.size
  · have fin : ∀ r : Bool, (List.range es.size).all e = r → Q r s := fun r hr => by
      rw [show (es.size == fs.size) = true by simpa using hsz, Bool.true_and, hr] at h
      exact h
    rw [if_neg (by rw [hsz]; simp)]
    refine wpAny_bind (wpAny_dictEpoch hoa hda <| wpAny_bind ?_)
    rw [Std.Legacy.Range.forIn_eq_forIn_range']
    simp only [Std.Legacy.Range.size, Nat.sub_zero, Nat.add_sub_cancel, Nat.div_one]
    refine wpAny_forIn_list _ (fun rest q t => t = s ∧ q = (none, ()) ∧ ∃ i, i ≤ es.size ∧ rest = List.range' i (es.size - i) ∧ ∀ j, j < i → e j = true) _ ?_ ?_ _ _ ⟨rfl, rfl, 0, Nat.zero_le _, by simp, fun j hj => by cases hj⟩
    · rintro x rest q t ⟨rfl, rfl, i, hi, hr, hall⟩
      have hlt : i < es.size := Nat.lt_of_le_of_ne hi fun z => by rw [z, Nat.sub_self] at hr; cases hr
      rw [show es.size - i = (es.size - (i + 1)) + 1 by omega, List.range'_succ] at hr
      injection hr with hx hrest
      subst hx
      refine wpAny_bind (wpAny_dictEntries hoa hda ?_)
      obtain ⟨⟨k, p, v⟩, hk⟩ : ∃ y, xs[x]? = some y := ⟨_, List.getElem?_eq_getElem (by omega)⟩
      have hent : es[x]? = some (entryOfKey knd (k, p, v)) := by rw [entry_at hea, hk]; rfl
      rw [hent]
      show wpAny _ _ (holding [Value.ref p, v] _ >>= _) _ _ _
      refine wpAny_bind (wpAny_holding <| wpAny_bind (wpAny_dictFind_heap hu (hia _ (List.mem_of_getElem? hk)) hob hdb heb hib hnb (fun hno => ?_) fun j q hj => ?_))
      · rcases hits x k p v hk with ⟨_, e0⟩ | ⟨q, hq, _⟩
        · refine wpAny_pure ?_
          show wpAny _ _ (if (!false) = true then _ else _) _ _ _
          rw [if_pos (by decide)]
          exact wpAny_pure (wpAny_pure (fin false (List.all_eq_false.mpr ⟨x, List.mem_range.mpr hlt, by rw [e0]; decide⟩)))
        · rw [atKey_none_of_get hno] at hq; cases hq
      · have hq := atKey_of_get hnb hj
        have hfe : fs[j]? = some (entryOfKey knd (k, q)) := by rw [entry_at heb, hj]; rfl
        rcases hits x k p v hk with ⟨h0, _⟩ | ⟨q', hq', he⟩
        · rw [hq] at h0; cases h0
        · rw [hq] at hq'
          cases hq'
          refine wpAny_bind (wpAny_dictEntries hob hdb ?_)
          rw [hfe]
          show wpAny _ _ (holding [q.2] (eqBool v q.2)) _ _ _
          refine wpAny_holding (he prog w _ _ ?_)
          cases hx : e x with
          | false =>
            show wpAny _ _ (if (!false) = true then _ else _) _ _ _
            rw [if_pos (by decide)]
            exact wpAny_pure (wpAny_pure (fin false (List.all_eq_false.mpr ⟨x, List.mem_range.mpr hlt, by rw [hx]; decide⟩)))
          | true =>
            show wpAny _ _ (if (!true) = true then _ else _) _ _ _
            rw [if_neg (by decide)]
            refine wpAny_bind (wpAny_dictEpoch hoa hda ?_)
            rw [if_neg (by simp)]
            exact wpAny_pure ⟨rfl, rfl, x + 1, hlt, hrest, fun j hj => (Nat.lt_succ_iff_lt_or_eq.mp hj).elim (hall j) fun z => by rw [z]; exact hx⟩
    · rintro q t ⟨rfl, rfl, i, hi, hr, hall⟩
      have hin : i = es.size := Nat.le_antisymm hi (by
        rcases Nat.lt_or_ge i es.size with z | z
        · rw [show es.size - i = (es.size - (i + 1)) + 1 by omega, List.range'_succ] at hr; cases hr
        · exact z)
      exact wpAny_pure (fin true (List.all_eq_true.mpr fun j hj => hall j (by rw [hin]; exact List.mem_range.mp hj)))
  · rw [if_pos (by simpa using hsz)]
    rw [show (es.size == fs.size) = false by simpa using hsz, Bool.false_and] at h
    exact wpAny_bind (wpAny_rule (wpAny_pure h))
end

theorem heap_slot {prog : Program} {w : World} {A : Around} {E : Value → Shared → Prop} {s : Shared} {κ : Type} [DecidableEq κ] {knd : HeapKind prog w κ} {a b : Addr} {xs ys : List (κ × Addr × Value)} {e : Nat → Bool} {Q : Value → Shared → Prop} (ha : (a == sysModules) = false) (hb : (b == sysModules) = false) (da : s.heap.DictOfH knd a xs) (db : s.heap.DictOfH knd b ys) (hr : knd.room A.in1) (hu : A.units < cLine)
    (hits : ∀ i k p v, xs[i]? = some (k, p, v) → (atKey ys k = none ∧ e i = false) ∨ ∃ q, atKey ys k = some q ∧ SeqAt.EqAt A.in1 s v q.2 (e i)) :
    (Q (.bool (xs.length == ys.length && (List.range xs.length).all e)) s → wpAny (model prog w) A (compareOp .Eq (.ref a) (.ref b)) Q E s) ∧ (Q (.bool (!(xs.length == ys.length && (List.range xs.length).all e))) s → wpAny (model prog w) A (compareOp .NotEq (.ref a) (.ref b)) Q E s) := by
  have ta : s.TypeIs (.ref a) "dict" := da.typeIs
  have tb : s.TypeIs (.ref b) "dict" := db.typeIs
  constructor
  · intro h
    refine wpAny_richCompare_same_room (op := .Eq) ta tb PySem.F.slot_dict_eq (wpAny_call_entry PySem.F.slot_dict_eq ta PySem.F.entry_dict_eq ?_ (PySem.F.args_dict_eq_2 _ _)) hu
    show wpAny _ _ (Builtin.Dict.dictSlotArgs "__eq__" _ >>= _) _ _ s
    unfold Builtin.Dict.dictSlotArgs
    refine wpAny_bind (wpAny_bind (wpAny_notOrdered_dict ta ?_))
    show wpAny _ _ (pure (Value.ref a, Value.ref b)) _ _ s
    refine wpAny_pure (wpAny_bind (wpAny_isInstance (T := "dict") tb PySem.F.sub_dict_dict ?_))
    simp only [Bool.not_true, Bool.false_eq_true, if_false]
    refine wpAny_bind (wpAny_pure <| wpAny_bind <| wpAny_pure <| wpAny_bind (same_heap ha hb da db hr hits <| wpAny_pure ⟨_, rfl, ?_, ?_⟩))
    · exact fun z => by cases z
    · simpa using h
  · intro h
    refine wpAny_richCompare_same_room (op := .NotEq) ta tb PySem.F.slot_dict_ne (wpAny_call_entry PySem.F.slot_dict_ne ta PySem.F.entry_dict_ne ?_ (PySem.F.args_dict_ne_2 _ _)) hu
    show wpAny _ _ (Builtin.Dict.dictSlotArgs "__ne__" _ >>= _) _ _ s
    unfold Builtin.Dict.dictSlotArgs
    refine wpAny_bind (wpAny_bind (wpAny_notOrdered_dict ta ?_))
    show wpAny _ _ (pure (Value.ref a, Value.ref b)) _ _ s
    refine wpAny_pure (wpAny_bind (wpAny_isInstance (T := "dict") tb PySem.F.sub_dict_dict ?_))
    simp only [Bool.not_true, Bool.false_eq_true, if_false]
    refine wpAny_bind (wpAny_pure <| wpAny_bind <| wpAny_pure <| wpAny_bind (same_heap ha hb da db hr hits <| wpAny_pure ⟨_, rfl, ?_, ?_⟩))
    · exact fun z => by cases z
    · simpa using h
abbrev VP {κ : Type} (K : PySem.W.Frag) (H : Hp) : List (κ × V) → List (κ × PyData) → Prop := Paired fun p q => p.1 = q.1 ∧ Dp K H p.2 q.2 ∧ SeqAt.shaped q.2 = true
/-- two dicts of data -/
def rEqDic (K : PySem.W.Frag) (neg : Bool) : R2 := fun x y H Q => ∃ a b, x = .ref a ∧ y = .ref b ∧
  ((∃ (vs us : List (L2.Key × V)) (t u : List (L2.Key × PyData)), Rd H a (.dK vs) ∧ Rd H b (.dK us) ∧ VP K H vs t ∧ VP K H us u ∧ Q (.bl (neg ^^ eqP t u)) H) ∨
  ∃ (vs us : List (List L2.Key × V)) (t u : List (List L2.Key × PyData)), Rd H a (.dT vs) ∧ Rd H b (.dT us) ∧ VP K H vs t ∧ VP K H us u ∧ Q (.bl (neg ^^ eqP t u)) H)
section
variable {X : Cx} {pins : List (Addr × Obj)} {σ : L2.St} {H : Hp} {s : Shared}
theorem vk_of (I : Inv X pins σ H s) {κ : Type} [DecidableEq κ] {vs : List (κ × V)} {ws : List (κ × Value)} {t : List (κ × PyData)} (r : KV vs ws) (q : VP X.K H vs t) : VKr s.heap ws t := by
  unfold KV at r
  induction r generalizing t with
  | nil => cases q; exact .nil
  | @cons p p' _ _ g _ ih =>
    cases q with
    | cons h z => exact .cons ⟨g.1.symm.trans h.1, Dp.reads I _ _ _ h.2.1 g.2, h.2.2⟩ (ih z)
theorem kt_vk (I : Inv X pins σ H s) {vs : List (List L2.Key × V)} {xs : List (List L2.Key × Addr × Value)} {t : List (List L2.Key × PyData)} (r : KT H vs xs) (q : VP X.K H vs t) : VKr s.heap (xs.map fun x => (x.1, x.2.2)) t := by
  induction r generalizing t with
  | nil => cases q; exact .nil
  | @cons p p' _ _ g _ ih =>
    cases q with
    | cons h z => exact .cons ⟨g.1.symm.trans h.1, Dp.reads I _ _ _ h.2.1 g.2.2, h.2.2⟩ (ih z)
theorem atKey_vals {κ : Type} [DecidableEq κ] (k : κ) : ∀ xs : List (κ × Addr × Value), valueAt (xs.map fun x => (x.1, x.2.2)) k = (atKey xs k).map (·.2)
  | [] => rfl
  | x :: r => by
    have ih := atKey_vals k r
    unfold valueAt atKey at ih ⊢
    rw [List.map_cons, List.find?_cons, List.find?_cons]
    by_cases e : x.1 = k
    · rw [decide_eq_true e]; rfl
    · rw [decide_eq_false e]; exact ih
/-- the i-th pair is found alike -/
def eAt {κ : Type} [DecidableEq κ] (t u : List (κ × PyData)) (i : Nat) : Bool := match t[i]? with
  | some p => hitP u p
  | none => false
theorem eAt_all {κ : Type} [DecidableEq κ] (t u : List (κ × PyData)) : (List.range t.length).all (eAt t u) = t.all (hitP u) := by
  rw [Bool.eq_iff_iff, List.all_eq_true, List.all_eq_true]
  constructor
  · intro h p hp
    obtain ⟨i, hi, e⟩ := List.getElem_of_mem hp
    have := h i (List.mem_range.mpr hi)
    unfold eAt at this
    rw [List.getElem?_eq_getElem hi, e] at this
    exact this
  · intro h i hi
    have hi := List.mem_range.mp hi
    unfold eAt
    rw [List.getElem?_eq_getElem hi]
    exact h _ (List.getElem_mem hi)
theorem eq_dics (hu : X.A.units + 66 < cLine) {neg : Bool} (I : Inv X pins σ H s) {x y : V} {v u : Value} {Q : VK} (rx : RelV x v) (ry : RelV y u) (h : rEqDic X.K neg x y H Q) : wpAny (model X.prog X.w) X.A (compareOp (if neg = true then .NotEq else .Eq) v u) (EP X pins σ Q) X.xe s := by
  have h1 : X.A.in1.units + 64 < cLine := by show X.A.units + 1 + 64 < cLine; omega
  obtain ⟨a, b, rfl, rfl, h⟩ := h
  cases rx; cases ry
  rcases h with ⟨vs, us, t, u, ha, hb, ta, tb, q⟩ | ⟨vs, us, t, u, ha, hb, ta, tb, q⟩
  · obtain ⟨_, ya, va, ra, da⟩ := dk_rd I.hok ha
    obtain ⟨_, yb, vb, rb, db⟩ := dk_rd I.hok hb
    have ka := vk_of I ra ta
    have kb := vk_of I rb tb
    have hits := vk_hits (A := X.A) (by show X.A.units + 1 + 64 < cLine; omega) ka kb
    have el : (va.length == vb.length && t.all (hitP u)) = eqP t u := by unfold eqP; rw [Paired.length ka, Paired.length kb]
    cases neg with
    | false =>
      rw [if_neg (by decide)]
      refine keq_eq ya yb da db (by omega) (fun _ => hits) ?_
      rw [el]
      exact ⟨.bl _, H, I, rfl, by rw [Bool.false_xor] at q; exact q⟩
    | true =>
      rw [if_pos rfl]
      refine keq_ne ya yb da db (by omega) (fun _ => hits) ?_
      rw [el]
      exact ⟨.bl _, H, I, rfl, by rw [Bool.true_xor] at q; exact q⟩
  · obtain ⟨_, ya, xa, ra, da⟩ := dt_rd I.hok ha
    obtain ⟨_, yb, xb, rb, db⟩ := dt_rd I.hok hb
    have ka := kt_vk I ra ta
    have kb := kt_vk I rb tb
    have l1 : xa.length = t.length := by have := Paired.length ka; rwa [List.length_map] at this
    have l2 : xb.length = u.length := by have := Paired.length kb; rwa [List.length_map] at this
    have z := heap_slot (A := X.A) (E := X.xe) (e := eAt t u) (Q := EP X pins σ Q) ya yb da db (tupleKind_room_in1 (A := X.A) (by omega)) (by omega) fun i k p v hi => by
      have hi2 : (xa.map fun x => (x.1, x.2.2))[i]? = some (k, v) := by rw [List.getElem?_map, hi]; rfl
      obtain ⟨q', ht, g1, ⟨as, g2⟩, g3⟩ := paired_get ka hi2
      have g1 : k = q'.1 := g1
      have ee : eAt t u i = hitP u q' := by unfold eAt; rw [ht]
      rw [ee]
      rcases vk_at kb k with ⟨z1, z2⟩ | ⟨y, d, z1, z2, ⟨bs, r2⟩, s2⟩
      · refine .inl ⟨?_, by unfold hitP; rw [← g1, z2]⟩
        rw [atKey_vals] at z1
        exact Option.map_eq_none_iff.mp z1
      · rw [atKey_vals, Option.map_eq_some_iff] at z1
        obtain ⟨p2, z3, rfl⟩ := z1
        refine .inr ⟨p2, z3, ?_⟩
        have : hitP u q' = PyData.eqv q'.2 d := by unfold hitP; rw [← g1, z2]
        rw [this]
        exact keq_at g2 r2 g3 s2 h1
    have el : (xa.length == xb.length && (List.range xa.length).all (eAt t u)) = eqP t u := by unfold eqP; rw [← eAt_all, l1, l2]
    rw [el] at z
    cases neg with
    | false =>
      rw [if_neg (by decide)]
      exact z.1 ⟨.bl _, H, I, rfl, by rw [Bool.false_xor] at q; exact q⟩
    | true =>
      rw [if_pos rfl]
      exact z.2 ⟨.bl _, H, I, rfl, by rw [Bool.true_xor] at q; exact q⟩
end
section
variable {X : Cx} {K : PySem.W.Frag}
theorem op_eqDic (hu : X.A.units + 66 < cLine) : OpR X (compareOp .Eq) (rEqDic X.K false) := fun pins s σ H x y v u Q I rx ry h => by
  have := eq_dics hu I rx ry h
  rwa [if_neg (by decide)] at this
theorem op_neDic (hu : X.A.units + 66 < cLine) : OpR X (compareOp .NotEq) (rEqDic X.K true) := fun pins s σ H x y v u Q I rx ry h => by
  have := eq_dics hu I rx ry h
  rwa [if_pos rfl] at this
def datT {κ : Type} (n : Nat) (t : List (κ × D)) : Prop := ∀ p ∈ t, Dat n p.2
def dEqDic (neg : Bool) (x : D) (y : D) (C : Cells) (P : DK) : Prop := match kvsK x C, kvsK y C with
  | some t, some u => ∃ n, n ≤ 60 ∧ datT n t ∧ datT n u ∧ P (.bl (neg ^^ eqT t u)) C
  | _, _ => match kvsT x C, kvsT y C with
    | some t, some u => ∃ n, n ≤ 60 ∧ datT n t ∧ datT n u ∧ P (.bl (neg ^^ eqT t u)) C
    | _, _ => False
theorem vp_of {F H : Hp} (ex : Ex F H) {κ : Type} [DecidableEq κ] {n : Nat} (hn : n ≤ 60) {vs : List (κ × V)} {t : List (κ × D)} (r : TP K F vs t) : datT n t → VP K H vs (pyT t) := by
  induction r with
  | nil => exact fun _ => .nil
  | @cons p q _ _ g _ ih => exact fun h => .cons ⟨g.1, rep_dp ex (h q List.mem_cons_self) _ g.2, dat_shaped (h q List.mem_cons_self) hn⟩ (ih fun z hz => h z (List.mem_cons_of_mem _ hz))
theorem s_eqDic {neg : Bool} : SimR K (rEqDic K neg) (dEqDic neg) := fun F C H x y dx dy P Q hs rx ry w k => by
  unfold dEqDic at w
  split at w
  · rename_i t u h1 h2
    obtain ⟨n, hn, d1, d2, w⟩ := w
    obtain ⟨a, vs, rfl, g1, g2⟩ := kvsK_rd hs rx h1
    obtain ⟨b, us, rfl, g3, g4⟩ := kvsK_rd hs ry h2
    refine ⟨a, b, rfl, rfl, .inl ⟨vs, us, pyT t, pyT u, g1, g3, vp_of hs.ex hn g2.pair d1, vp_of hs.ex hn g4.pair d2, ?_⟩⟩
    rw [eqP_py]
    exact k _ F H _ C (Ex.refl F) hs (.bl _) w
  · split at w
    · rename_i t u h1 h2
      obtain ⟨n, hn, d1, d2, w⟩ := w
      obtain ⟨a, vs, rfl, g1, g2⟩ := kvsT_rd hs rx h1
      obtain ⟨b, us, rfl, g3, g4⟩ := kvsT_rd hs ry h2
      refine ⟨a, b, rfl, rfl, .inr ⟨vs, us, pyT t, pyT u, g1, g3, vp_of hs.ex hn g2.pair d1, vp_of hs.ex hn g4.pair d2, ?_⟩⟩
      rw [eqP_py]
      exact k _ F H _ C (Ex.refl F) hs (.bl _) w
    · exact w.elim
theorem _root_.L2.Room.units3 {k : Nat} {A : Around} (r : L2.Room k A) : A.units + 66 < cLine := by have := r.un; omega
end
end DD

set_option Elab.async false
set_option linter.all false
set_option maxRecDepth 100000
set_option maxHeartbeats 4000000
/-! Dicts: displays. -/
namespace DD
open PySem L2 PyProof.Rows PySem.W

def wPairs : List (DE × DE) → DEnv → Cells → (List (D × D) → Cells → Prop) → DX → Prop
  | [], _, C, P, _ => P [] C
  | (k, v) :: r, ρ, C, P, PX => k ρ C (fun x C1 => v ρ C1 (fun y C2 => wPairs r ρ C2 (fun ps C3 => P ((x, y) :: ps) C3) PX) PX) PX
def pairsK : List (D × D) → Option (List (L2.Key × D))
  | [] => some []
  | (x, y) :: r => match keyOf x, pairsK r with
    | some k, some t => some ((k, y) :: t)
    | _, _ => none
def mergeD (t : List (L2.Key × D)) : List (L2.Key × D) → List (L2.Key × D)
  | [] => t
  | p :: r => mergeD (puD t p.1 p.2) r
def wDisp (ts : List (DE × DE)) (ρ : DEnv) (C : Cells) (P : DK) (PX : DX) : Prop := ∀ p, C p = none → wPairs ts ρ (cput C p (.dK [])) (fun ps C2 => C2 p = some (.dK []) ∧ match pairsK ps with
  | some t => t.length ≤ 15 ∧ P (.ptr p) (cput C2 p (.dK (mergeD [] t)))
  | none => False) PX
/-- a display that does not change any more -/
def wDispF (ts : List (DE × DE)) (ρ : DEnv) (C : Cells) (P : DK) (PX : DX) : Prop := ∀ p, C p = none → wPairs ts ρ (cput C p (.dK [])) (fun ps C2 => C2 p = some (.dK []) ∧ match pairsK ps with
  | some t => t.length ≤ 15 ∧ ∃ C3, Sub C3 C2 ∧ C3 p = none ∧ P (.dK (mergeD [] t)) C3
  | none => False) PX
section
variable {X : Cx} {W : WX} {K : PySem.W.Frag}
abbrev tPs (K : PySem.W.Frag) (W : WX) (ts : List (DE × DE)) : List (TE × TE) := ts.map fun p => (tE K W p.1, tE K W p.2)
theorem pairs_ok {F : Hp} {t : List (L2.Key × D)} : ∀ {vs : List (V × V)} {ps : List (D × D)} {t : List (L2.Key × D)}, Paired (fun p q => Rep K F p.1 q.1 ∧ Rep K F p.2 q.2) vs ps → pairsK ps = some t → ∃ ks : List (L2.Key × V), vs = ks.map (fun kv => (kV kv.1, kv.2)) ∧ TP K F ks t
  | [], [], t, .nil, h => by cases h; exact ⟨[], rfl, .nil⟩
  | p :: _, (x, y) :: ps, t, .cons g r, h => by
    simp only [pairsK] at h
    split at h
    · rename_i k t' hk ht
      cases h
      obtain ⟨ks, e, z⟩ := pairs_ok (t := t') r ht
      refine ⟨(k, p.2) :: ks, ?_, .cons ⟨rfl, g.2⟩ z⟩
      rw [List.map_cons, ← e, ← key_rep g.1 hk]
    · cases h
theorem tp_merge {F : Hp} : ∀ {more : List (L2.Key × V)} {t : List (L2.Key × D)} {vs : List (L2.Key × V)} {u : List (L2.Key × D)}, TP K F more t → TP K F vs u → TP K F (mergeK vs more) (mergeD u t)
  | [], [], vs, u, .nil, q => q
  | p :: more, d :: t, vs, u, .cons g r, q => by
    show TP K F (mergeK (putK vs p.1 p.2) more) (mergeD (puD u d.1 d.2) t)
    exact tp_merge r (by rw [g.1]; exact tp_put q _ g.2)
theorem i_pairs {F0 : Hp} : ∀ {ts : List (DE × DE)} {σ : L2.St} {H : Hp} {F : Hp} {C : Cells} {ρ : DEnv} {P : List (D × D) → Cells → Prop} {PX : DX} {Q : List (V × V) → Hp → Prop}, Hs K F C H → EnvR K F σ ρ → ExR K F W PX → wPairs ts ρ C P PX →
    (∀ vs F' H' ps C', Ex F F' → Hs K F' C' H' → Paired (fun p q => Rep K F' p.1 q.1 ∧ Rep K F' p.2 q.2) vs ps → P ps C' → Q vs H') → tPairs (tPs K W ts) σ H Q
  | [], σ, H, F, C, ρ, P, PX, Q, hs, en, xr, w, k => k [] F H [] C (Ex.refl F) hs .nil w
  | (a, b) :: ts, σ, H, F, C, ρ, P, PX, Q, hs, en, xr, w, k =>
    ⟨F, C, ρ, _, PX, hs, en, xr, w, fun x F1 H1 dx C1 e1 h1 rx q => ⟨F1, C1, ρ, _, PX, h1, en.mono e1, xr.mono e1, q, fun y F2 H2 dy C2 e2 h2 ry q2 =>
      i_pairs (F0 := F0) h2 (en.mono (e1.trans e2)) (xr.mono (e1.trans e2)) q2 fun vs F3 H3 ps C3 e3 h3 r3 q3 =>
        k ((x, y) :: vs) F3 H3 ((dx, dy) :: ps) C3 ((e1.trans e2).trans e3) h3 (.cons ⟨rx.mono (e2.trans e3), ry.mono e3⟩ r3) q3⟩⟩
variable {pos : Pos} {keys : List (Option Expr)} {values : List Expr} {ts : List (DE × DE)}
theorem dps_nil : PPs X pos [] [] (tPs X.K W []) := pps_nil
theorem dps_cons {k v : Expr} {ks : List (Option Expr)} {vs : List Expr} {wk wv : DE} (hk : PE X k (tE X.K W wk)) (hv : PE X v (tE X.K W wv)) (hr : PPs X pos ks vs (tPs X.K W ts)) : PPs X pos (some k :: ks) (v :: vs) (tPs X.K W ((wk, wv) :: ts)) := pps_cons hk hv hr
theorem d_disp (h : PPs X pos keys values (tPs X.K W ts)) (hall : keys.all (·.isSome) = true := by rfl) (hl : keys.length = values.length := by rfl) (h0 : keys ≠ [] := by exact fun z => by cases z) (h15 : keys.length ≤ 15 := by decide) : PE X (.Dict keys values pos) (tE X.K W (wDisp ts)) :=
  PE.imp (pe_disp h hall hl h0 h15) fun σ H Q ⟨F, C, ρ, P, PX, hs, en, xr, w, k⟩ => fun p hp => by
  obtain ⟨f0, c0⟩ := hs.fresh hp
  refine i_pairs (F0 := F) (hs.put (c := .dK []) f0 ⟨[], upd_same, .nil⟩) en xr (w p c0) fun vs F1 H1 ps C1 e1 h1 r q => ?_
  obtain ⟨hc, q⟩ := q
  obtain ⟨g0, us, g1, g2⟩ := h1.cell p _ hc
  cases g2
  refine ⟨g1, ?_⟩
  split at q
  · rename_i t ht
    obtain ⟨ks, e, z⟩ := pairs_ok (t := t) r ht
    refine ⟨ks, e, by rw [tp_len z]; exact q.1, k _ F1 _ _ _ e1 (h1.put (c := .dK (mergeD [] t)) g0 ⟨_, upd_same, RepK.of (tp_merge z .nil)⟩) (.ptr p) q.2⟩
  · exact q.elim
theorem d_dispF (h : PPs X pos keys values (tPs X.K W ts)) (hall : keys.all (·.isSome) = true := by rfl) (hl : keys.length = values.length := by rfl) (h0 : keys ≠ [] := by exact fun z => by cases z) (h15 : keys.length ≤ 15 := by decide) : PE X (.Dict keys values pos) (tE X.K W (wDispF ts)) :=
  PE.imp (pe_fz (pe_disp h hall hl h0 h15)) fun σ H Q ⟨F, C, ρ, P, PX, hs, en, xr, w, k⟩ => fun p hp => by
  obtain ⟨f0, c0⟩ := hs.fresh hp
  refine i_pairs (F0 := F) (hs.put (c := .dK []) f0 ⟨[], upd_same, .nil⟩) en xr (w p c0) fun vs F1 H1 ps C1 e1 h1 r q => ?_
  obtain ⟨hc, q⟩ := q
  obtain ⟨g0, us, g1, g2⟩ := h1.cell p _ hc
  cases g2
  refine ⟨g1, ?_⟩
  split at q
  · rename_i t ht
    obtain ⟨ks, e, z⟩ := pairs_ok (t := t) r ht
    obtain ⟨hz, C3, s3, n3, q⟩ := q
    refine ⟨ks, e, by rw [tp_len z]; exact hz, .inr ⟨p, _, upd_same, trivial, fun od => ?_⟩⟩
    have h2 : Hs X.K F1 C3 H1 := h1.sub s3
    obtain ⟨e4, h4⟩ := frz_dic (o := .dK (mergeK [] ks)) (C2 := C3) h2 g0 (Sub.refl _) n3 od
    rw [upd_upd]
    exact k _ _ _ _ _ (e1.trans e4) h4 (.dK upd_same ((RepK.of (tp_merge z .nil)).mono e4)) q
  · exact q.elim
end
end DD

set_option Elab.async false
set_option linter.all false
set_option maxRecDepth 100000
set_option maxHeartbeats 4000000
/-! xs == [], xs != [] of lists of anything. -/
namespace DD
open PySem L2 PyProof.Rows PySem.W

def rEmp (K : PySem.W.Frag) (neg : Bool) : R2 := fun x y H Q => ∃ a b xs, x = .ref a ∧ y = .ref b ∧ SqL K H a xs ∧ SqL K H b [] ∧ Q (.bl (neg ^^ xs.isEmpty)) H
section
variable {X : Cx}
theorem op_eqEmp (hu : X.A.units + 64 < cLine) : OpR X (compareOp .Eq) (rEmp X.K false) := by
  intro pins s σ H x y v u Q I rx ry h
  obtain ⟨a, b, xs, rfl, rfl, ha, hb, q⟩ := h
  cases xs with
  | nil => exact op_eqD hu pins s σ H _ _ _ _ Q I rx ry ⟨.list [], .list [], .lst ha .nil, .lst hb .nil, rfl, rfl, q⟩
  | cons z zs =>
    cases rx; cases ry
    obtain ⟨i1, r1, p1, _⟩ := I.list ha
    obtain ⟨i2, r2, p2, _⟩ := I.list hb
    cases r2
    have hl := r1.length
    exact SeqAt.RcAt.lists_lengths p1.isList p2.isList (by rw [List.size_toArray, ← hl]; simp) (by omega) _ _ _ _ ⟨.bl _, H, I, rfl, q⟩
theorem op_neEmp (hu : X.A.units + 64 < cLine) : OpR X (compareOp .NotEq) (rEmp X.K true) := by
  intro pins s σ H x y v u Q I rx ry h
  obtain ⟨a, b, xs, rfl, rfl, ha, hb, q⟩ := h
  cases xs with
  | nil => exact op_neD hu pins s σ H _ _ _ _ Q I rx ry ⟨.list [], .list [], .lst ha .nil, .lst hb .nil, rfl, rfl, q⟩
  | cons z zs =>
    cases rx; cases ry
    obtain ⟨i1, r1, p1, _⟩ := I.list ha
    obtain ⟨i2, r2, p2, _⟩ := I.list hb
    cases r2
    have hl := r1.length
    exact SeqAt.RcNeAt.lists_lengths p1.isList p2.isList (by rw [List.size_toArray, ← hl]; simp) (by omega) _ _ _ _ ⟨.bl _, H, I, rfl, q⟩
end
def dEmp (neg : Bool) (x : D) (y : D) (C : Cells) (P : DK) : Prop := match seqOf x C, seqOf y C with
  | some ds, some [] => P (.bl (neg ^^ ds.isEmpty)) C
  | _, _ => False
theorem s_emp {K : PySem.W.Frag} {neg : Bool} : SimR K (rEmp K neg) (dEmp neg) := fun F C H x y dx dy P Q hs rx ry w k => by
  unfold dEmp at w
  split at w
  · rename_i ds h1 h2
    obtain ⟨a, xs, rfl, g1, g2⟩ := seq_of hs rx h1
    obtain ⟨b, ys, rfl, g3, g4⟩ := seq_of hs ry h2
    cases g4
    refine ⟨a, b, xs, rfl, rfl, g1, g3, ?_⟩
    have : xs.isEmpty = ds.isEmpty := by cases g2 <;> rfl
    rw [this]
    exact k _ F H _ C (Ex.refl F) hs (.bl _) w
  · exact w.elim
end DD

set_option Elab.async false
set_option linter.all false
set_option maxRecDepth 100000
set_option maxHeartbeats 4000000
/-! Tools for tables: keys, equal tables. -/
namespace DD
open PySem L2
section
variable {κ : Type} [DecidableEq κ]
theorem mem_keys (k : κ) : ∀ t : List (κ × D), k ∈ t.map (·.1) ↔ (vaD t k).isSome = true
  | [] => by simp [vaD]
  | p :: t => by
    by_cases e : p.1 = k
    · rw [vaD_hit e, List.map_cons]; simp [e]
    · rw [vaD_miss e, List.map_cons, List.mem_cons, ← mem_keys k t]
      constructor
      · rintro (h | h)
        · exact absurd h.symm e
        · exact h
      · exact .inr
theorem vaD_mem {k : κ} {d : D} : ∀ {t : List (κ × D)}, vaD t k = some d → (k, d) ∈ t
  | p :: t, h => by
    by_cases e : p.1 = k
    · rw [vaD_hit e] at h
      cases h
      rw [← e]
      exact List.mem_cons_self
    · rw [vaD_miss e] at h
      exact List.mem_cons_of_mem _ (vaD_mem h)
theorem vaD_of_mem {k : κ} {d : D} : ∀ {t : List (κ × D)}, (t.map (·.1)).Nodup → (k, d) ∈ t → vaD t k = some d
  | p :: t, hn, h => by
    rw [List.map_cons, List.nodup_cons] at hn
    rcases List.mem_cons.mp h with h | h
    · subst h; exact vaD_hit rfl
    · have : ¬ p.1 = k := fun e => hn.1 (by rw [e]; exact List.mem_map.mpr ⟨_, h, rfl⟩)
      rw [vaD_miss this]
      exact vaD_of_mem hn.2 h
theorem puD_nodup {t : List (κ × D)} (k : κ) (d : D) (h : (t.map (·.1)).Nodup) : ((puD t k d).map (·.1)).Nodup := by
  unfold puD
  split
  · have : ((t.map fun p => if p.1 = k then (p.1, d) else p).map (·.1)) = t.map (·.1) := by
      rw [List.map_map]
      refine List.map_congr_left fun p _ => ?_
      show (if p.1 = k then (p.1, d) else p).1 = p.1
      split <;> rfl
    rw [this]; exact h
  · rename_i hno
    rw [List.map_append, List.nodup_append]
    refine ⟨h, by simp, fun a ha b hb => ?_⟩
    simp only [List.map_cons, List.map_nil, List.mem_cons, List.not_mem_nil, or_false] at hb
    subst hb
    intro e
    subst e
    rw [mem_keys, ← any_vaD] at ha
    exact hno ha
theorem drD_nodup {t : List (κ × D)} (k : κ) (h : (t.map (·.1)).Nodup) : ((drD t k).map (·.1)).Nodup := by
  unfold drD
  exact (List.Sublist.map (fun p : κ × D => p.1) (List.filter_sublist (p := fun p => decide (p.1 ≠ k)) (l := t))).nodup h
theorem nd_map {α β : Type} {f : α → β} : ∀ {L : List α}, L.Nodup → (∀ x ∈ L, ∀ y ∈ L, f x = f y → x = y) → (L.map f).Nodup
  | [], _, _ => List.nodup_nil
  | x :: L, hn, h => by
    rw [List.nodup_cons] at hn
    rw [List.map_cons, List.nodup_cons]
    refine ⟨fun hm => ?_, nd_map hn.2 fun a ha b hb => h a (List.mem_cons_of_mem _ ha) b (List.mem_cons_of_mem _ hb)⟩
    obtain ⟨y, hy, e⟩ := List.mem_map.mp hm
    have := h y (List.mem_cons_of_mem _ hy) x List.mem_cons_self e
    subst this
    exact hn.1 hy
/-- two tables that answer alike are equal -/
theorem keys_perm {t u : List (κ × D)} (ht : (t.map (·.1)).Nodup) (hu : (u.map (·.1)).Nodup) (h : ∀ k, (vaD t k).isSome = (vaD u k).isSome) : (t.map (·.1)).Perm (u.map (·.1)) :=
  (List.perm_ext_iff_of_nodup ht hu).mpr fun k => by rw [mem_keys, mem_keys, h k]
theorem eqT_of {t u : List (κ × D)} {n : Nat} (ht : (t.map (·.1)).Nodup) (hu : (u.map (·.1)).Nodup) (hd : datT n t) (h : ∀ k, vaD t k = vaD u k) : eqT t u = true := by
  unfold eqT
  have hl : t.length = u.length := by
    have := (keys_perm ht hu fun k => by rw [h k]).length_eq
    rwa [List.length_map, List.length_map] at this
  rw [hl, beq_self_eq_true, Bool.true_and, List.all_eq_true]
  intro p hp
  unfold hitD
  rw [← h p.1, vaD_of_mem (d := p.2) ht hp]
  exact eqb_self (hd p hp)
/-- a table written by a list -/
theorem vaD_map {α : Type} {key : α → κ} {val : α → D} {a : α} : ∀ {Z : List α}, (∀ x ∈ Z, key x = key a → x = a) → a ∈ Z → vaD (Z.map fun x => (key x, val x)) (key a) = some (val a)
  | z :: Z, hi, h => by
    rw [List.map_cons]
    by_cases e : key z = key a
    · have := hi z List.mem_cons_self e
      subst this
      exact vaD_hit (p := (key z, val z)) rfl
    · rw [vaD_miss (p := (key z, val z)) e]
      refine vaD_map (fun x hx => hi x (List.mem_cons_of_mem _ hx)) ?_
      rcases List.mem_cons.mp h with h | h
      · subst h; exact absurd rfl e
      · exact h
theorem vaD_map_none {α : Type} {key : α → κ} {val : α → D} {k : κ} : ∀ {Z : List α}, (∀ x ∈ Z, key x ≠ k) → vaD (Z.map fun x => (key x, val x)) k = none
  | [], _ => rfl
  | z :: Z, h => by
    rw [List.map_cons, vaD_miss (p := (key z, val z)) (h z List.mem_cons_self)]
    exact vaD_map_none fun x hx => h x (List.mem_cons_of_mem _ hx)
end
end DD

set_option Elab.async false
set_option linter.all false
set_option maxRecDepth 100000
set_option maxHeartbeats 4000000
/-! min of a list of texts. -/
namespace DD
open PySem L2 PyProof.Rows PySem.W
def ltS (x y : Str) : Bool := dataLt (.str x) (.str y)
def minS : List Str → Str
  | [] => ⟨#[]⟩
  | z :: r => r.foldl (fun a y => if ltS y a then y else a) z
theorem minD_strs (z : Str) : ∀ zs : List Str, minD (.str z) (zs.map .str) = .str (zs.foldl (fun a y => if ltS y a then y else a) z)
  | [] => rfl
  | y :: r => by
    have h1 := minD_strs y r
    have h2 := minD_strs z r
    unfold minD at h1 h2 ⊢
    rw [List.map_cons, List.foldl_cons, List.foldl_cons]
    by_cases g : ltS y z = true
    · rw [if_pos g, if_pos (show dataLt (.str y) (.str z) = true from g)]; exact h1
    · rw [if_neg g, if_neg (show ¬ dataLt (.str y) (.str z) = true from g)]; exact h2
theorem strs_readsAll {h : Heap} : ∀ {zs : List Str} {us : List Value}, Vals (zs.map V.str) us → ReadsAll h us (zs.map PyData.str) []
  | [], _, .nil => .nil
  | z :: zs, _, .cons a b => by
    obtain ⟨t, rfl⟩ := (show ∃ t, _ = Value.str z t from a)
    exact .cons (.str z t) (strs_readsAll b)
theorem depth_strs : ∀ zs : List Str, PyData.depthAll (zs.map PyData.str) = 0
  | [] => rfl
  | z :: zs => by rw [List.map_cons]; simp [PyData.depthAll, PyData.depth, depth_strs zs]
def rMinS (K : PySem.W.Frag) : List V → Hp → VK → Prop := fun xs H Q => ∃ a zs, xs = [.ref a] ∧ SqL K H a (zs.map V.str) ∧ zs ≠ [] ∧ Q (.str (minS zs)) H
theorem cr_minS {X : Cx} (hc : X.calm = true) (hu : X.A.units + 64 < cLine) : CallR X (.builtin "min") (rMinS X.K) := by
  intro pins s σ H xs us Q I r h
  obtain ⟨a, zs, rfl, hs, hne, q⟩ := h
  rw [Vals.ref1 r]
  obtain ⟨its, rv, hl, _⟩ := I.list hs
  cases zs with
  | nil => exact absurd rfl hne
  | cons z zs =>
    refine min_list_data (I.ok.hd hc) hl.isList (xs := zs.map .str) (x := .str z) (as := []) (by simpa using strs_readsAll (zs := z :: zs) rv) ⟨?_, ?_⟩ ?_ fun i v h' tk bs hv hr hk => ?_
    · intro x hx y hy
      rw [← List.map_cons (f := PyData.str)] at hx hy
      obtain ⟨x', _, rfl⟩ := List.mem_map.mp hx
      obtain ⟨y', _, rfl⟩ := List.mem_map.mp hy
      simp [alike]
    · intro x hx
      rw [← List.map_cons (f := PyData.str)] at hx
      obtain ⟨x', _, rfl⟩ := List.mem_map.mp hx
      exact fun e => by cases e
    · rw [← List.map_cons (f := PyData.str), depth_strs]; omega
    · rw [minD_strs] at hr
      have hx : ∃ t, v = Value.str (minS (z :: zs)) t := by
        cases hr
        exact ⟨_, rfl⟩
      exact ⟨.str _, H, I.kept hk, hx, q⟩
def dMinS (ds : List D) (C : Cells) (P : DK) : Prop := match ds with
  | [x] => ∃ zs, seqOf x C = some (zs.map D.str) ∧ zs ≠ [] ∧ P (.str (minS zs)) C
  | _ => False
theorem s_minS {K : PySem.W.Frag} : SimA K (rMinS K) dMinS := fun F C H xs ds P Q hs r w k => by
  unfold dMinS at w
  split at w
  · obtain ⟨v, rfl, r1⟩ := r.one
    obtain ⟨zs, hz, hne, w⟩ := w
    obtain ⟨a, us, rfl, h2, h3⟩ := seq_of hs r1 hz
    rw [h3.of_strs] at h2
    exact ⟨a, zs, rfl, h2, hne, k _ F H _ C (Ex.refl F) hs (.str _) w⟩
  · exact w.elim
theorem leD_str (x y : Str) : leD (.str x) (.str y) = !ltS y x := by
  unfold leD ltS
  rw [dataLe_eq]
  simp [D.py]
end DD

set_option Elab.async false
set_option linter.all false
set_option maxRecDepth 100000
set_option maxHeartbeats 4000000
/-! Comprehensions over a dict's keys. -/
namespace DD
open PySem L2
theorem cput_self {C : Cells} {a : Addr} {c : Cell} (h : C a = some c) : cput C a c = C := by
  funext b
  unfold cput
  split
  · rename_i e; rw [e, h]
  · rfl
/-- a dict with these entries, data or a cell -/
def DicAt (x : D) (C : Cells) (t : List (L2.Key × D)) : Prop := x = .dK t ∨ ∃ a, x = .ptr a ∧ C a = some (.dK t)
theorem DicAt.sub {x : D} {C C' : Cells} {t : List (L2.Key × D)} (h : DicAt x C t) (s : Sub C C') : DicAt x C' t := by
  rcases h with h | ⟨a, h, g⟩
  · exact .inl h
  · exact .inr ⟨a, h, s _ _ g⟩
theorem DicAt.kvs {x : D} {C : Cells} {t : List (L2.Key × D)} (h : DicAt x C t) : kvsK x C = some t := by
  rcases h with rfl | ⟨a, rfl, g⟩
  · rfl
  · simp only [kvsK, g]
theorem pVar_of {ρ : DEnv} {C : Cells} {i : Nat} {x : D} (h : ρ[i]? = some (some x)) : pVar i ρ C = some x := by unfold pVar; rw [h]
theorem wVar_of {ρ : DEnv} {C : Cells} {P : DK} {PX : DX} {i : Nat} {x : D} (h : ρ[i]? = some (some x)) : wVar i ρ C P PX = P x C := by unfold wVar; rw [h]
theorem lc_keys {t : List (L2.Key × D)} {st : Cells → Prop} {j : Nat} {wt : DT} {we : DE} {vs : List Nat} {C1 : Cells} {ρ : DEnv} {P : DK} (p : L2.Key × D → Bool) (val : L2.Key × D → D) (hf : ∀ C', Sub C1 C' → st C') (hn : t.length ≤ 100000)
    (hwt : ∀ e ∈ t, ∀ C' (Q : Bool → Cells → Prop), Sub C1 C' → Q (p e) C' → wt ((dwipe ρ vs).set j (some (keyD e.1))) C' Q noX)
    (hwe : ∀ e ∈ t, ∀ C' (Q : DK), Sub C1 C' → Q (val e) C' → we ((dwipe ρ vs).set j (some (keyD e.1))) C' Q noX)
    (hP : P (.lst ((t.filter p).map val)) C1) : LcG ⟨t.map fun e => keyD e.1, st⟩ (.name j) wt we vs ρ C1 P := by
  refine lc_map (enc := fun e : L2.Key × D => keyD e.1) (fun e => if p e = true then some (val e) else none) hf hn (fun k e C' Q hk hs hQ => ?_) ?_
  · have he := List.mem_of_getElem? hk
    simp only [Tgt.dg]
    refine hwt e he C' _ hs ?_
    cases hp : p e with
    | true =>
      rw [if_pos rfl]
      refine hwe e he C' _ hs ?_
      rw [hp, if_pos rfl] at hQ
      exact hQ
    | false =>
      rw [if_neg (by decide)]
      rw [hp, if_neg (by decide)] at hQ
      exact hQ
  · have : (t.filterMap fun e => if p e = true then some (val e) else none) = (t.filter p).map val := by
      clear hwt hwe hP hn
      induction t with
      | nil => rfl
      | cons e t ih =>
        rw [List.filterMap_cons, List.filter_cons, ih]
        cases hp : p e <;> simp
    rw [this]
    exact hP
theorem lck_gen {t : List (L2.Key × D)} {x : D} {C : Cells} {ρ : DEnv} {P : DK} {PX : DX} {i j : Nat} {wt : DT} {we : DE} {vs : List Nat} (hx : DicAt x C t) (hi : ρ[i]? = some (some x)) (p : L2.Key × D → Bool) (val : L2.Key × D → D) (hn : t.length ≤ 100000)
    (hwt : ∀ e ∈ t, ∀ C' (Q : Bool → Cells → Prop), kvsK x C' = some t → Q (p e) C' → wt ((dwipe ρ vs).set j (some (keyD e.1))) C' Q noX)
    (hwe : ∀ e ∈ t, ∀ C' (Q : DK), kvsK x C' = some t → Q (val e) C' → we ((dwipe ρ vs).set j (some (keyD e.1))) C' Q noX)
    (hP : P (.lst ((t.filter p).map val)) C) : wLockE (pVar i) (wLc (wItK (wVar i)) (.name j) wt we vs) ρ C P PX := by
  rcases hx with rfl | ⟨a, rfl, ha⟩
  · unfold wLockE
    rw [pVar_of hi]
    show wLc _ _ _ _ _ ρ C P PX
    unfold wLc wItK
    rw [wVar_of hi]
    exact lc_keys p val (fun _ _ => trivial) hn (fun e he C' Q _ h => hwt e he C' Q rfl h) (fun e he C' Q _ h => hwe e he C' Q rfl h) hP
  · unfold wLockE
    rw [pVar_of hi]
    dsimp only
    rw [ha]
    intro od ws
    unfold wLc wItK
    rw [wVar_of hi]
    dsimp only
    rw [cput_same]
    have hk : ∀ C', Sub (cput C a (.lK t od ws)) C' → kvsK (.ptr a) C' = some t := fun C' s => by
      have := s a _ cput_same
      simp only [kvsK, this]
    refine lc_keys p val (fun C' s => s a _ cput_same) hn (fun e he C' Q s h => hwt e he C' Q (hk C' s) h) (fun e he C' Q s h => hwe e he C' Q (hk C' s) h) ⟨cput_same, ?_⟩
    rw [cput_cput, cput_self ha]
    exact hP
theorem lockS_set {g : Pth} {m : Nat} {w : DE} {E : DEnds} {ρ : DEnv} {C : Cells} (h : wLockE g w ρ C (fun d C1 => E.nx (ρ.set m (some d)) C1) E.ex) : wLockS g (wSet m w) E ρ C := by
  unfold wLockE at h
  unfold wLockS
  split at h
  · rename_i a e
    split at h
    all_goals exact h
  · exact h
/-- a loop over items while something stays as it is -/
theorem for_mapS {α : Type} {L : List α} {enc : α → D} {st : Cells → Prop} {t : Tgt} {b : DS} {E : DEnds} {ρ : DEnv} {C : Cells} (Inv : Nat → DEnv → Cells → Prop) (h0 : Inv 0 ρ C) (hst : ∀ k ρ' C', Inv k ρ' C' → st C')
    (hs : ∀ (k : Nat) x ρ' C', L[k]? = some x → Inv k ρ' C' → match t.dg (enc x) ρ' with
      | some ρ2 => b { nx := Inv (k + 1), ct := Inv (k + 1), bk := E.nx, rt := E.rt, ex := E.ex } ρ2 C'
      | none => False)
    (hd : ∀ ρ' C', Inv L.length ρ' C' → E.nx ρ' C') : ForG ⟨L.map enc, st⟩ t b E ρ C := by
  refine ⟨Inv, h0, hst, fun k d ρ' C' hk hI => ?_, fun ρ' C' hI => hd ρ' C' (by simp only [List.length_map] at hI; exact hI)⟩
  simp only [List.getElem?_map] at hk
  cases hL : L[k]? with
  | none => rw [hL] at hk; cases hk
  | some x =>
    rw [hL] at hk
    cases hk
    exact hs k x ρ' C' hL hI
end DD

set_option Elab.async false
set_option linter.all false
set_option maxRecDepth 100000
set_option maxHeartbeats 4000000
/-! Texts: +, <, >, <=, >=, x * n, cuts; a def as a value, called by a local name. -/
namespace DD
open PySem L2
section
variable {K : PySem.W.Frag}
def dCatX (x y : D) (C : Cells) (P : DK) : Prop := match x, y with
  | .str i, .str j => i.length + j.length ≤ 100000 ∧ P (.str (i ++ j)) C
  | _, _ => False
theorem line_ge : 100000 ≤ sizeLine := by rw [sizeLine_eq]; omega
theorem s_catX : SimR K (fun x y H Q => ∃ i j, x = .str i ∧ y = .str j ∧ i.length + j.length ≤ sizeLine ∧ Q (.str (i ++ j)) H) dCatX := fun F C H x y dx dy P Q hs rx ry w k => by
  revert w
  unfold dCatX
  split
  · rintro ⟨hl, w⟩
    cases rx; cases ry
    exact ⟨_, _, rfl, rfl, Nat.le_trans hl line_ge, k _ F H _ C (Ex.refl F) hs (.str _) w⟩
  · exact fun z => z.elim
/-- the order of texts, by their signs -/
def ltX (i j : Str) : Bool := decide (i.cps.toList < j.cps.toList)
def dCmpX (f : Str → Str → Bool) (x y : D) (C : Cells) (P : DK) : Prop := match x, y with
  | .str i, .str j => P (.bl (f i j)) C
  | _, _ => False
abbrev dLtX := dCmpX ltX
abbrev dGtX := dCmpX fun i j => ltX j i
abbrev dLeX := dCmpX fun i j => !ltX j i
abbrev dGeX := dCmpX fun i j => !ltX i j
theorem s_cmpX {f : Str → Str → Bool} : SimR K (fun x y H Q => ∃ i j, x = .str i ∧ y = .str j ∧ Q (.bl (f i j)) H) (dCmpX f) := fun F C H x y dx dy P Q hs rx ry w k => by
  revert w
  unfold dCmpX
  split
  · intro w
    cases rx; cases ry
    exact ⟨_, _, rfl, rfl, k _ F H _ C (Ex.refl F) hs (.bl _) w⟩
  · exact fun z => z.elim
theorem s_ltX : SimR K (fun x y H Q => ∃ i j, x = .str i ∧ y = .str j ∧ Q (.bl (decide (i.cps.toList < j.cps.toList))) H) dLtX := s_cmpX
theorem s_gtX : SimR K (fun x y H Q => ∃ i j, x = .str i ∧ y = .str j ∧ Q (.bl (decide (j.cps.toList < i.cps.toList))) H) dGtX := s_cmpX
theorem s_leX : SimR K (fun x y H Q => ∃ i j, x = .str i ∧ y = .str j ∧ Q (.bl (!decide (j.cps.toList < i.cps.toList))) H) dLeX := s_cmpX
theorem s_geX : SimR K (fun x y H Q => ∃ i j, x = .str i ∧ y = .str j ∧ Q (.bl (!decide (i.cps.toList < j.cps.toList))) H) dGeX := s_cmpX
/-- x * n -/
def repX (z : Str) (n : Nat) : Str := ⟨(List.replicate n z.cps).foldl (· ++ ·) #[]⟩
theorem repX_flat (z : Str) (n : Nat) : (repX z n).cps.toList = (List.replicate n z.cps.toList).flatten := by
  have h : ∀ (l : List (Array Nat)) (a : Array Nat), (l.foldl (· ++ ·) a).toList = a.toList ++ (l.map Array.toList).flatten := by
    intro l
    induction l with
    | nil => intro a; simp
    | cons x l ih => intro a; rw [List.foldl_cons, ih]; simp
  unfold repX
  rw [h]
  simp
def rRepX : V → V → Hp → VK → Prop := fun x y H Q => ∃ z k, x = .str z ∧ y = .int k ∧ 0 ≤ k ∧ k ≤ 1000 ∧ z.length ≤ 100 ∧ Q (.str (repX z k.toNat)) H
theorem op_repX {X : Cx} : OpR X (binaryOp .Mult) rRepX := by
  intro pins s σ H x y v u Q I rx ry h
  obtain ⟨z, k, rfl, rfl, h0, h1, hz, q⟩ := h
  obtain ⟨t, rfl⟩ := rx
  obtain ⟨t', rfl⟩ := ry
  refine P.mul_str ?_ (fun hk hg => ?_) (fun hk hg => ?_) ?_
  · have a1 : ¬ k < -(2 ^ 63 : Int) := by omega
    have a2 : ¬ k ≥ 2 ^ 63 := by omega
    rw [decide_eq_false a1, decide_eq_false a2]; rfl
  · have h3 : (1000 : Int) ≤ (2 ^ 63 - 1 : Int) / k := by
      rw [Int.le_ediv_iff_mul_le (by omega)]
      omega
    omega
  · have hm : z.length * k.toNat ≤ 100 * 1000 := Nat.mul_le_mul hz (by omega)
    have := line_ge
    unfold Builtin.Str.tooLong
    simp only [decide_eq_false_iff_not]
    omega
  · have hm : (repX z k.toNat).length ≤ 100000 := by
      have h4 : (repX z k.toNat).length = (repX z k.toNat).cps.toList.length := by rw [Array.length_toList]; rfl
      rw [h4, repX_flat]
      have h5 : ((List.replicate k.toNat z.cps.toList).flatten).length = k.toNat * z.length := by
        rw [List.length_flatten, List.map_replicate, List.sum_replicate_nat, Array.length_toList]; rfl
      rw [h5]
      exact Nat.le_trans (Nat.mul_le_mul (by omega : k.toNat ≤ 1000) hz) (by decide)
    by_cases hk : k < 1
    · rw [if_pos hk]
      have e : k.toNat = 0 := by omega
      rw [e] at q
      exact ⟨by decide, ⟨.str Str.empty, H, I.tok _, ⟨_, rfl⟩, q⟩⟩
    · rw [if_neg hk]
      by_cases hg : (k == 1 || z.length == 0) = true
      · rw [if_pos hg]
        have e : repX z k.toNat = z := by
          have h6 : (repX z k.toNat).cps.toList = z.cps.toList := by
            rw [repX_flat]
            simp only [Bool.or_eq_true, beq_iff_eq] at hg
            rcases hg with hg | hg
            · subst hg; simp
            · have : z.cps.toList = [] := List.length_eq_zero_iff.mp (by rw [Array.length_toList]; exact hg)
              rw [this]; simp
          have h7 : (repX z k.toNat).cps = z.cps := Array.toList_inj.mp h6
          cases z; cases hr : repX _ k.toNat; rw [hr] at h7; exact congrArg Str.mk h7
        rw [e] at q
        exact ⟨.str z, H, I, ⟨_, rfl⟩, q⟩
      · rw [if_neg hg]
        exact ⟨Nat.le_trans hm line_ge, ⟨.str (repX z k.toNat), H, I.tok _, ⟨_, rfl⟩, q⟩⟩
def dRepX (x y : D) (C : Cells) (P : DK) : Prop := match x, y with
  | .str z, .int k => (0 ≤ k ∧ k ≤ 1000 ∧ z.length ≤ 100) ∧ P (.str (repX z k.toNat)) C
  | _, _ => False
theorem s_repX : SimR K rRepX dRepX := fun F C H x y dx dy P Q hs rx ry w k => by
  revert w
  unfold dRepX
  split
  · rintro ⟨⟨h0, h1, h2⟩, w⟩
    cases rx; cases ry
    exact ⟨_, _, rfl, rfl, h0, h1, h2, k _ F H _ C (Ex.refl F) hs (.str _) w⟩
  · exact fun z => z.elim
/-- x[a:b] of a text -/
def wSlX (e : DE) (lo hi : DO) (ρ : DEnv) (C : Cells) (P : DK) (PX : DX) : Prop := e ρ C (fun x C1 => lo ρ C1 (fun l C2 => hi ρ C2 (fun h C3 => match x with
  | .str z => z.length ≤ 100000 ∧ P (.str (cutS z l h)) C3
  | _ => False) PX) PX) PX
theorem d_slX {X : Cx} {W : WX} {e : Expr} {lo hi : Option Expr} {we : DE} {wl wh : DO} {p2 pos : Pos} (he : PE X e (tE X.K W we)) (hl : PO X lo (tO X.K W wl)) (hh : PO X hi (tO X.K W wh)) : PE X (.Subscript e (.Slice lo hi none p2) pos) (tE X.K W (wSlX we wl wh)) :=
  PE.imp (pe_slice sl_str he hl hh) fun σ H Q ⟨F, C, ρ, P, PX, hs, en, xr, w, k⟩ =>
  ⟨F, C, ρ, _, PX, hs, en, xr, w, fun v F1 H1 x C1 e1 h1 rv q => ⟨F1, C1, ρ, _, PX, h1, en.mono e1, xr.mono e1, q, fun l F2 H2 C2 e2 h2 q2 => ⟨F2, C2, ρ, _, PX, h2, en.mono (e1.trans e2), xr.mono (e1.trans e2), q2, fun h F3 H3 C3 e3 h3 q3 => by
    cases rv <;> first | exact q3.elim | exact ⟨_, rfl, Nat.le_trans q3.1 line_ge, k _ F3 H3 _ C3 ((e1.trans e2).trans e3) h3 (.str _) q3.2⟩⟩⟩⟩
end
/-! ### a def as a value, called by a local name -/
section
variable {X : Cx} {W : WX} {pos p : Pos} {x : Str} {e : Expr} {es : List Expr} {wr : DA} {i : Nat}
theorem d_fnV {f : Addr} (hm : X.mg x = some (.ref f)) (hg : Gl X x := by rfl) (hd : (x == ("__debug__" : Str)) = false := by decide) : PE X (.Name x pos) (tE X.K W (wC (.ptr f))) :=
  d_glob hg hm (v := .ref f) rfl (fun _ => .ptr f) hd
def wCallV (ok : List Addr) (RV : Addr → DSpX) (i : Nat) (wr : DA) (ρ : DEnv) (C : Cells) (P : DK) (PX : DX) : Prop := match (ρ[i]? : Option (Option D)) with
  | some (some (.ptr a)) => a ∈ ok ∧ wr ρ C (fun ds C1 => RV a ds C1 P (fun cls fs C3 => PX cls fs ρ C3)) PX
  | _ => False
theorem d_callV {ok : List Addr} {RV : Addr → DSpX} (tk : Takes X W) (hk : ∀ a, a ∈ ok → PySem.W.keepIn X.K (.ref a) = true)
    (G : ∀ a ds C P PX, RV a ds C P PX → ∃ (R : DSpX) (k : Nat) (fd : FuncData) (ps : List Str), R ds C P PX ∧ FnOk X.prog X.w X.K X.mg X.base (L2.CX X.prog X.w) k a fd ps (spX X.K R) ∧ Room k X.A ∧ Binds X.K fd ps [])
    (hN : X.N[i]? = some x) (hv : Vis X.env.scope x) (ha : PA X (e :: es) (tA X.K W wr)) (hdb : (x == ("__debug__" : Str)) = false := by decide) (hcd : (x == ("__classdict__" : Str)) = false := by decide)
    (he : starEach (e :: es) X.env = (false, eval e X.env) :: starEach es X.env := by rfl) (hpl : (backTo pos (starEach es X.env)).any (·.1) = false := by rfl) :
    PE X (.Call (.Name x p) (e :: es) [] pos) (tE X.K W (wCallV ok RV i wr)) := by
  refine ⟨fun pins s σ H Q I ⟨F, C, ρ, P, PX, hs, en, xr, w, kk⟩ => ?_⟩
  revert w
  show (match (ρ[i]? : Option (Option D)) with | some (some (.ptr a)) => _ | _ => False) → _
  split
  · rename_i a hp
    rintro ⟨hok, w⟩
    obtain ⟨v, hvσ, rv⟩ := en.2 i _ hp
    cases rv
    refine wpAny_Call_Name_kw (wpAny_mono ((pe_var hN hv hdb hcd).run pins s σ H (fun v H1 => v = V.ref a ∧ H1 = H) I ⟨_, hvσ, rfl, rfl⟩) (fun u s1 ⟨v, H1, I1, r, ev, eH⟩ => ?_) (fun _ _ z => z))
    subst ev
    subst eH
    have eu : u = .ref a := r
    subst eu
    refine PySem.W.callWith_K (h₀ := X.base) I1.ok.mod.kin (hk a hok) (thn (ha.run pos pins s1 σ H1 (fun vs H2 => ∃ F1 C1 ds, Ex F F1 ∧ Hs X.K F1 C1 H2 ∧ RepL X.K F1 vs ds ∧ RV a ds C1 P (fun cls fs C3 => PX cls fs ρ C3)) I1
      ⟨F, C, ρ, _, PX, hs, en, xr, w, fun vs F1 H2 ds C1 e1 h1 r q => ⟨F1, C1, ds, e1, h1, r, q⟩⟩) fun us s2 ⟨vs, H2, I2, r2, F1, C1, ds, e1, h1, rr, q⟩ => ⟨I2.kIn, ?_⟩) he hpl
    obtain ⟨R, k, fd, ps, hq, hF, hr, hb⟩ := G a ds C1 P _ q
    have hz := run_fnSD (E := WE W) hF hr hb (ds := []) (dvs := []) .nil (passAt tk σ) I2 r2 (Q := Q) (by
      rw [List.append_nil]
      exact ⟨F1, C1, ds, P, _, h1, rr, hq, kk.mono e1, KontX.of (xr.mono e1) (en.mono e1)⟩)
    simpa using hz
  · exact fun z => z.elim
end
end DD

set_option Elab.async false
set_option linter.all false
set_option maxRecDepth 100000
set_option maxHeartbeats 4000000
/-! sorted(xs, key=f), f a def of the program that raises nothing and changes nothing. -/
namespace DD
open PySem L2 PyProof.Rows PySem.W

/-- the order by keys -/
def leK (key : D → D) (a b : D) : Bool := leD (key a) (key b)
def wSortK (R : DSp) (e : DE) (ρ : DEnv) (C : Cells) (P : DK) (PX : DX) : Prop := e ρ C (fun x C1 => match seqOf x C1 with
  | some ds => ∃ key : D → D, SortsD (ds.map key) ∧ (∀ d ∈ ds, R [d] C1 fun r C2 => r = key d ∧ Sub C1 C2) ∧ P (.lst (ds.mergeSort (leK key))) C1
  | none => False) PX
/-- the heap without the object at a -/
def gone (h : Heap) (a : Addr) : Heap := h.update a fun o => { o with data := .freed }
theorem gone_ne {h : Heap} {a b : Addr} (e : b ≠ a) : (gone h a).get? b = h.get? b := Heap.get?_update_ne _ _ _ _ e
theorem gone_at {h : Heap} {a : Addr} : (gone h a).get? a = none := by
  cases h with
  | mk objs life =>
    unfold gone Heap.update Heap.get?
    simp only [Array.getElem?_modify]
    cases objs[a]? <;> simp
theorem Hs.aside {K : PySem.W.Frag} {F H : Hp} {C : Cells} {p : Addr} {o : HO} (h : Hs K F C H) (hp : H p = none) : Hs K F C (upd H p o) := by
  obtain ⟨f0, c0⟩ := h.fresh hp
  refine ⟨fun a u e => ?_, fun a c e => ?_⟩
  · rw [upd_ne (ne_of_none e f0)]
    exact h.ex a u e
  · obtain ⟨f1, r⟩ := h.cell a c e
    exact ⟨f1, r.at (upd_ne (cell_ne e c0))⟩
section
variable {X : Cx} {W : WX} {k : Nat} {f : Addr} {fd : FuncData} {q : Str} {R : DSp} {pins : List (Addr × Obj)} {σ : L2.St} {H F : Hp} {C : Cells} {s : Shared}
/-- what stands while the keys are made -/
structure Mid (X : Cx) (pins : List (Addr × Obj)) (σ : L2.St) (F : Hp) (C : Cells) (ks : List D) (a b : Addr) (e1 : Nat) (s' : Shared) (F' H' : Hp) (ys : List Value) (e : Nat) (vs : List V) : Prop where
  iv : Inv X pins σ H' s'
  ex : Ex F F'
  hs : Hs X.K F' C H'
  va : Vals vs ys
  rp : RepL X.K F' vs ks
  na : H' a = none
  nb : H' b = none
  ga : s'.heap.get? a = some (seqObj "list" #[] e1)
  gb : s'.heap.get? b = some (seqObj "list" ys.toArray e)
theorem vals_get : ∀ {vs : List V} {us : List Value} {i : Nat} {v : V}, Vals vs us → vs[i]? = some v → ∃ u, us[i]? = some u ∧ RelV v u
  | _, _, _, _, .nil, e => by simp at e
  | _, _, 0, _, .cons h _, e => by simp at e; subst e; exact ⟨_, rfl, h⟩
  | _, _, i + 1, _, .cons _ r, e => by
    obtain ⟨u, h1, h2⟩ := vals_get (i := i) r (by simpa using e)
    exact ⟨u, by simpa using h1, h2⟩
theorem vals_getU : ∀ {vs : List V} {us : List Value} {i : Nat} {u : Value}, Vals vs us → us[i]? = some u → ∃ v, vs[i]? = some v ∧ RelV v u
  | _, _, _, _, .nil, e => by simp at e
  | _, _, 0, _, .cons h _, e => by simp at e; subst e; exact ⟨_, rfl, h⟩
  | _, _, i + 1, _, .cons _ r, e => by
    obtain ⟨u, h1, h2⟩ := vals_getU (i := i) r (by simpa using e)
    exact ⟨u, by simpa using h1, h2⟩
theorem vals_snoc {vs : List V} {us : List Value} {v : V} {u : Value} (r : Vals vs us) (h : RelV v u) : Vals (vs ++ [v]) (us ++ [u]) := r.append (.cons h .nil)
/-- the pairs of values and data that an item stands for -/
theorem each_zipD : ∀ {xs : List V} {ds : List D} {vs : List Value}, Vals xs vs → RepL X.K F xs ds → EachIs (fun v (b : V × D) => RelV b.1 v ∧ Rep X.K F b.1 b.2) vs (xs.zip ds)
  | _, _, _, .nil, .nil => .nil
  | _, _, _, .cons r t, .cons d e => .cons ⟨r, d⟩ (each_zipD t e)
theorem each_valsD : ∀ {bs : List (V × D)} {vs : List Value}, EachIs (fun v (b : V × D) => RelV b.1 v ∧ Rep X.K F b.1 b.2) vs bs → Vals (bs.map Prod.fst) vs ∧ RepL X.K F (bs.map Prod.fst) (bs.map Prod.snd)
  | _, _, .nil => ⟨.nil, .nil⟩
  | _, _, .cons r t => ⟨.cons r.1 (each_valsD t).1, .cons r.2 (each_valsD t).2⟩
/-- one key -/
theorem key_turn {a b : Addr} {e1 e : Nat} {s' : Shared} {F' H' : Hp} {ys : List Value} {vs : List V} {ks : List D} {v : V} {u : Value} {d kd : D}
    (G : FnOk X.prog X.w X.K X.mg X.base CX0 k f fd [q] (spD X.K R)) (hr : Room (k + 2) X.A) (hb : Binds X.K fd [q] []) (M : Mid X pins σ F C ks a b e1 s' F' H' ys e vs)
    (hfa : a ∉ frs X.stack) (hfb : b ∉ frs X.stack) (rv : Rep X.K F v d) (ru : RelV v u) (w : R [d] C fun r C2 => r = kd ∧ Sub C C2) :
    wpAny (model X.prog X.w) X.A.in1.in1 (call (.ref f) [u]) (fun y s'' => ∃ F'' H'' z, Mid X pins σ F C ks a b e1 s'' F'' H'' ys e vs ∧ RelV z y ∧ Rep X.K F'' z kd) (fun _ _ => False) s' := by
  have I := M.iv
  refine wpAny_call (codeAny_mono (G.run X.A.in1.in1 X.stack s' H' ⟨[u], []⟩ [u] [v] (fun z H'' => ∃ F'' C2, Ex F' F'' ∧ Hs X.K F'' C2 H'' ∧ Rep X.K F'' z kd ∧ Sub C C2) E0 (Room.in1 (Room.in1 hr)) I.env0.in1.in1 ?_ (.cons ru .nil) ?_) fun r s'' hq => ?_)
  · have := hb s' [u] I.kIn (by simp)
    simpa using this
  · exact ⟨F', C, [d], _, M.hs, .cons (rv.mono M.ex) .nil, w, fun z F2 H2 dz C2 e2 h2 rz q2 => ⟨F2, C2, e2, h2, by rw [← q2.1]; exact rz, q2.2⟩⟩
  · cases r with
    | error e => exact hq.elim
    | ok fl =>
      cases fl with
      | next => exact False.elim hq
      | brk => exact False.elim hq
      | cont => exact False.elim hq
      | ret y =>
        obtain ⟨z, H2, os, bare, un, hok, ry, F2, C2, e2, h2, rz, sb⟩ := hq
        exact ⟨F2, H2, z, ⟨I.call' (ch := []) os un hok bare (fun _ z => nomatch z), M.ex.trans e2, h2.sub sb, M.va, M.rp.mono e2, un.free a _ M.ga M.na (by simp), un.free b _ M.gb M.nb (by simp), un.keep a _ M.ga M.na hfa (by simp), un.keep b _ M.gb M.nb hfb (by simp)⟩, ry, rz⟩
theorem key_sort {xs : List V} {ds : List D} {l : Addr} {key : D → D} {Q : VK} (I : Inv X pins σ H s) (hs : Hs X.K F C H) (hl : SqL X.K H l xs) (r : RepL X.K F xs ds)
    (G : FnOk X.prog X.w X.K X.mg X.base CX0 k f fd [q] (spD X.K R)) (hr : Room (k + 2) X.A) (hb : Binds X.K fd [q] []) (S : SortsD (ds.map key)) (hk : ∀ d ∈ ds, R [d] C fun r C2 => r = key d ∧ Sub C C2)
    (kq : ∀ F' H' v, Ex F F' → Hs X.K F' C H' → Rep X.K F' v (.lst (ds.mergeSort (leK key))) → Q v H') :
    wpAny (model X.prog X.w) X.A (call (.builtin "sorted") [.ref l] [(Str.ofString "key", .ref f)]) (EP X pins σ Q) X.xe s := by
  obtain ⟨its, rv, pl, hz⟩ := I.list hl
  have hlen : its.length = xs.length := rv.length.symm
  have hld : xs.length = ds.length := r.length
  have zL : its.length ≤ sizeLine := by omega
  refine sorted_of_sort pl.isList zL (ksk_s1 _ _) (fun _ => ksk_l1 _ _) fun E' => ?_
  rw [ksk_t1]
  have c0 := copyHeap_at s.heap its
  obtain ⟨e1, c1⟩ : ∃ e1, ((copyHeap s.heap its).update (s.heap.objs.size + 1) (Obj.mapSeq fun _ => (#[] : Array Value))).get? (s.heap.objs.size + 1) = some (seqObj "list" #[] e1) := ⟨_, get?_update_seq c0 fun _ => #[]⟩
  have za : s.heap.objs.size + 1 < (copyHeap s.heap its).objs.size := Heap.lt_size c0
  unfold ksk_tree
  refine wpAny_bind (listItems_at c0 rfl ?_)
  refine wpAny_bind (listUpdate_at c0 rfl ?_ (by rw [List.size_toArray]; exact zL) (Nat.zero_le _))
  refine wpAny_bind (seqEpoch_at c1 rfl ?_)
  refine wpAny_bind (wpAny_newTuple ?_ (by show its.length ≤ _; exact zL))
  refine wpAny_bind (wpAny_newList ?_ (Nat.zero_le _))
  refine wpAny_holding ?_
  show wpAny _ _ (ksk_rest (s.heap.objs.size + 1) (.ref f) false its.toArray e1 (.ref (((copyHeap s.heap its).update (s.heap.objs.size + 1) (Obj.mapSeq fun _ => (#[] : Array Value))).push (seqObj "tuple" its.toArray 0)).objs.size)) _ _ { s with heap := sortingHeap (copyHeap s.heap its) (s.heap.objs.size + 1) its }
  have zb : (((copyHeap s.heap its).update (s.heap.objs.size + 1) (Obj.mapSeq fun _ => (#[] : Array Value))).push (seqObj "tuple" its.toArray 0)).objs.size = (copyHeap s.heap its).objs.size + 1 := by rw [size_push', Heap.size_update]
  have ga : (sortingHeap (copyHeap s.heap its) (s.heap.objs.size + 1) its).get? (s.heap.objs.size + 1) = some (seqObj "list" #[] e1) := Heap.get?_push_of_some _ (Heap.get?_push_of_some _ c1)
  have gb : (sortingHeap (copyHeap s.heap its) (s.heap.objs.size + 1) its).get? (((copyHeap s.heap its).update (s.heap.objs.size + 1) (Obj.mapSeq fun _ => (#[] : Array Value))).push (seqObj "tuple" its.toArray 0)).objs.size = some (seqObj "list" (([] : List Value).toArray) 0) := Heap.get?_push_size _ rfl
  rw [zb] at gb ⊢
  generalize ea : s.heap.objs.size + 1 = a at *
  generalize eb : (copyHeap s.heap its).objs.size + 1 = b at *
  have hab : b ≠ a := by omega
  have la : s.heap.objs.size ≤ a := by omega
  have lb : s.heap.objs.size ≤ b := by omega
  have hfa : a ∉ frs X.stack := fun z => by
    rcases List.mem_cons.mp (I.stkSub a z) with z | z
    · exact absurd z (Nat.ne_of_gt (Nat.lt_of_lt_of_le I.lt la))
    · exact I.nofs la z
  have hfb : b ∉ frs X.stack := fun z => by
    rcases List.mem_cons.mp (I.stkSub b z) with z | z
    · exact absurd z (Nat.ne_of_gt (Nat.lt_of_lt_of_le I.lt lb))
    · exact I.nofs lb z
  have I0 : Inv X pins σ H { s with heap := sortingHeap (copyHeap s.heap its) a its } := I.kept fun c u e => by
    rw [← ea]
    exact sorting_copy_old e
  have M0 : Mid X pins σ F C [] a b e1 { s with heap := sortingHeap (copyHeap s.heap its) a its } F H [] 0 [] := ⟨I0, Ex.refl F, hs, .nil, .nil, I.hok.fresh la, I.hok.fresh lb, ga, gb⟩
  generalize ({ s with heap := sortingHeap (copyHeap s.heap its) a its } : Shared) = s2 at *
  unfold ksk_rest
  refine wpAny_bind (wpAny_rule ?_)
  rw [List.forIn_toArray]
  refine wpAny_bind (ksk_fold (fun i s' => ∃ F' H' ys e vs, Mid X pins σ F C ((ds.take i).map key) a b e1 s' F' H' ys e vs) its 0 s2 ⟨F, H, [], 0, [], M0⟩ (fun j u s' hu hM => ?_) fun s' hM => ?_)
  · obtain ⟨F', H', ys, e, vs, M⟩ := hM
    obtain ⟨v, hv, ru⟩ := vals_getU rv hu
    obtain ⟨d, hd, rd⟩ := r.getV hv
    have hmem : d ∈ ds := List.mem_of_getElem? hd
    rw [Nat.zero_add] at M ⊢
    have ly : ys.length ≤ its.length := by
      rw [← M.va.length, M.rp.length, List.length_map, List.length_take]
      omega
    refine wpAny_bind (wpAny_attempt (wpAny_mono (key_turn G hr hb M hfa hfb rd ru (hk d hmem)) (fun y s'' hy => ?_) fun _ _ z => z.elim))
    obtain ⟨F2, H2, z, N, ry, rz⟩ := hy
    have g2 := N.gb
    obtain ⟨ep, g3⟩ : ∃ ep, (s''.heap.update b (Obj.mapSeq fun xs => xs.push y)).get? b = some (seqObj "list" (ys ++ [y]).toArray ep) := ⟨_, by
      have h := get?_update_seq g2 fun xs => xs.push y
      have e3 : ys.toArray.push y = (ys ++ [y]).toArray := by simp
      rw [e3] at h
      exact h⟩
    refine wpAny_bind (listUpdate_at g2 rfl ?_ (by rw [List.size_toArray]; omega) (by rw [Array.size_push, List.size_toArray]; omega))
    have old : ∀ c o, c ≠ b → s''.heap.get? c = some o → (s''.heap.update b (Obj.mapSeq fun xs => xs.push y)).get? c = some o := fun c o hc e => (Heap.get?_update_ne _ _ _ _ hc).trans e
    refine wpAny_pure ⟨rfl, F2, H2, ys ++ [y], ep, vs ++ [z], ?_⟩
    have e2 : (ds.take (j + 1)).map key = (ds.take j).map key ++ [key d] := by rw [List.take_add_one, hd]; simp
    rw [e2]
    refine ⟨N.iv.turned (it := b) (t' := s''.toks) old N.nb (Nat.ne_of_gt (Nat.lt_of_lt_of_le I.lt lb)) (.inr (Nat.le_trans I.sz lb)) (fun x c ec z => ?_) (fun p hp z => ?_), N.ex, N.hs, vals_snoc N.va ry, N.rp.append (.cons rz .nil), N.na, N.nb, old a _ (Ne.symm hab) N.ga, g3⟩
    · obtain ⟨w0, o, ho, _⟩ := I.cell x c ec
      exact absurd z (Nat.ne_of_lt (Nat.lt_of_lt_of_le (Heap.lt_size ho) lb))
    · exact absurd z (Nat.ne_of_lt (Nat.lt_of_lt_of_le (Heap.lt_size (I.pin p hp).1) lb))
  · obtain ⟨F', H', ys, e, vs, M⟩ := hM
    have et : ds.take (0 + its.length) = ds := List.take_of_length_le (by omega)
    rw [et] at M
    have ly : ys.length = its.length := by
      rw [← M.va.length, M.rp.length, List.length_map]
      omega
    obtain ⟨⟨n, hn, hdat⟩, hal, hok⟩ := S
    have hrd := each_reads M.iv M.va (dpAll_of (n := n) (fun d hd v r => rep_dp M.hs.ex (hdat d hd) v r) M.rp)
    have lk : vs.length = ((ds.map key).map D.py).length := by rw [M.rp.length]; simp
    have hkz : EachIs (fun v k => ∃ as, Reads s'.heap v k as) ys ((ds.map key).map D.py) := by
      have h1 := each_map (R := fun v k => ∃ as, Reads s'.heap v k as) Prod.snd hrd
      rw [pys_map, zip_snd lk] at h1
      exact h1
    refine wpAny_bind (listItems_at M.gb rfl ?_)
    refine keyH_end (κ := dataKind s'.heap ((ds.map key).map D.py)) (h₁ := gone s'.heap b) (fun c o hc ec => ?_) gone_at M.gb M.ga hab ?_ (by rw [List.size_toArray]; exact ly) zL fun h3 tk3 c3 k3 n3 => ⟨rfl, ?_⟩
    · by_cases z : c = b
      · rw [z, gone_at] at ec; cases ec
      · rw [gone_ne z] at ec; exact ec
    · refine SortsAt.data hkz hal hok fun d hd => ?_
      rw [List.mem_map] at hd
      obtain ⟨d', hd', rfl⟩ := hd
      have := (dat_lay (hdat d' hd')).2
      have := hr.un
      show X.A.units + 1 + 1 + _ < cLine
      omega
    · have ko : KeyedOut false ((xs.zip ds).map fun p => (key p.2).py) its (sortVals (dataKind s'.heap ((ds.map key).map D.py)) false ys its) := by
        have e5 : (xs.zip ds).map (fun p : V × D => (key p.2).py) = (ds.map key).map D.py := by
          rw [List.map_map]
          have e6 : ds = (xs.zip ds).map Prod.snd := (List.map_snd_zip (by omega)).symm
          conv => rhs; rw [e6]
          rw [List.map_map]
          rfl
        rw [e5]
        exact ⟨s'.heap, ys, hal, rfl, hkz⟩
      have ke := keyedOut_each (R := fun v (p : V × D) => RelV p.1 v ∧ Rep X.K F p.1 p.2) (bs := xs.zip ds) (fun p => (key p.2).py) ko (each_zipD rv r)
      obtain ⟨kv, kr⟩ := each_valsD ke
      have e7 : ((xs.zip ds).mergeSort (dataLe false fun p => (key p.2).py)).map Prod.snd = ds.mergeSort (leK key) := by
        have e6 : ds = (xs.zip ds).map Prod.snd := (List.map_snd_zip (by omega)).symm
        conv => rhs; rw [e6]
        exact List.map_mergeSort (r := dataLe false fun p : V × D => (key p.2).py) (s := leK key) (f := Prod.snd) fun _ _ _ _ => rfl
      rw [e7] at kr
      generalize ((xs.zip ds).mergeSort (dataLe false fun p => (key p.2).py)).map Prod.fst = zs at kv kr
      have lz : zs.length ≤ sizeLine := by rw [kr.length, List.length_mergeSort]; omega
      have hm : ∀ c u, H' c = some u → c ≠ a ∧ c ≠ b := fun c u z => ⟨fun y => (by rw [y, M.na] at z; cases z), fun y => (by rw [y, M.nb] at z; cases z)⟩
      have kp : ∀ c o, c ≠ a → c ≠ b → s'.heap.get? c = some o → h3.get? c = some o := fun c o z1 z2 z => k3 c o z1 (by rw [gone_ne z2]; exact z)
      have n4 : h3.get? a = some { cls := .type "list", data := .seq (sortVals (dataKind s'.heap ((ds.map key).map D.py)) false ys its).toArray c3 } := n3
      have hok3 : HOk X.prog X.w (upd H' a (.lst zs)) h3 := fun c u hc => by
        by_cases z : c = a
        · subst z
          rw [upd_same] at hc
          cases hc
          exact ⟨lz, _, c3, kv, n4⟩
        · rw [upd_ne z] at hc
          refine (M.iv.hok c u hc).stay (fun g o hg eg => ?_) (fun g hg => by rw [upd_ne (hm g _ hg).1]; exact hg) fun g o hg => by rw [upd_ne (hm g _ hg).1]; exact hg
          rcases hg with rfl | hg
          · exact kp g o (hm g _ hc).1 (hm g _ hc).2 eg
          · exact kp g o (hm g _ hg).1 (hm g _ hg).2 eg
      have un3 : Un (frs X.stack) [a, b] H' (upd H' a (.lst zs)) s'.heap h3 := by
        have nm : ∀ c : Addr, c ∉ [a, b] → c ≠ a ∧ c ≠ b := fun c h => by simpa [not_or] using h
        refine ⟨fun c o e1 e2 _ h => kp c o (nm c h).1 (nm c h).2 e1, fun c o e1 e2 _ h => ⟨o.slots, kp c o (nm c h).1 (nm c h).2 e1⟩, fun c o e1 e2 h => by rw [upd_ne (nm c h).1]; exact e2, fun c o e1 h => ⟨o, kp c o (nm c h).1 (nm c h).2 e1⟩, ?_, ?_, ?_⟩
        · intro c o hc
          rw [upd_ne (hm c _ hc).1]; exact hc
        · intro c o u hc
          rw [upd_ne (hm c _ hc).1]; exact hc
        · intro c ps hc
          exact ⟨#[], by rw [upd_ne (hm c _ hc).1, hc]; simp⟩
      have hs4 := (M.hs.aside (o := .lst zs) M.na)
      obtain ⟨e8, h8, r8⟩ := M.hs.newL (kr.mono M.ex) M.na
      have I9 : Inv X pins σ (upd H' a (.lst zs)) { s' with heap := h3, toks := tk3 } := M.iv.call' (ch := [a, b]) rfl un3 hok3 M.iv.bare fun c hc => by
        have hlc : s.heap.objs.size ≤ c := by
          simp only [List.mem_cons, List.not_mem_nil, or_false] at hc
          rcases hc with rfl | rfl <;> assumption
        refine ⟨.inr (Nat.le_trans I.sz hlc), Nat.ne_of_gt (Nat.lt_of_lt_of_le I.lt hlc), fun x c' ec z => ?_, fun p hp z => ?_⟩
        · obtain ⟨w0, o, ho, _⟩ := I.cell x c' ec
          exact absurd z (Nat.ne_of_lt (Nat.lt_of_lt_of_le (Heap.lt_size ho) hlc))
        · exact absurd z (Nat.ne_of_lt (Nat.lt_of_lt_of_le (Heap.lt_size (I.pin p hp).1) hlc))
      exact ⟨.ref a, _, I9, rfl, kq _ _ _ (M.ex.trans e8) h8 r8⟩
end
end DD

set_option Elab.async false
set_option linter.all false
set_option maxRecDepth 100000
set_option maxHeartbeats 4000000
/-! sorted(xs, key=f) as an expression; the truth of numbers, texts, lists and tuples; startswith. -/
namespace DD
open PySem L2 PyProof.Rows PySem.W

def rSortK (K : PySem.W.Frag) (f : Addr) (R : DSp) : List V → List V → Hp → VK → Prop := fun vs zs H Q => zs = [.ref f] ∧ ∃ l xs ds F C key, vs = [.ref l] ∧ Hs K F C H ∧ SqL K H l xs ∧ RepL K F xs ds ∧ SortsD (ds.map key) ∧
  (∀ d ∈ ds, R [d] C fun r C2 => r = key d ∧ Sub C C2) ∧ ∀ F' H' v, Ex F F' → Hs K F' C H' → Rep K F' v (.lst (ds.mergeSort (leK key))) → Q v H'
section
variable {X : Cx} {W : WX} {K : PySem.W.Frag} {k : Nat} {f : Addr} {fd : FuncData} {q : Str} {R : DSp} {e : Expr} {we : DE} {x fx : Str} {p p2 pos kp : Pos}
theorem cr_sortK (G : FnOk X.prog X.w X.K X.mg X.base CX0 k f fd [q] (spD X.K R)) (hr : Room (k + 2) X.A) (hb : Binds X.K fd [q] []) : CallRK X (.builtin "sorted") [Str.ofString "key"] (rSortK X.K f R) := by
  intro pins s σ H vs zs us ws Q I rv rz h
  obtain ⟨rfl, l, xs, ds, F, C, key, rfl, hs, hl, r, S, hk, kq⟩ := h
  obtain rfl := Vals.ref1 rv
  obtain ⟨w1, rfl, e1⟩ := vals1 rz
  obtain rfl : w1 = Value.ref f := e1
  exact key_sort I hs hl r G hr hb S hk kq
theorem d_sortK (G : FnOk X.prog X.w X.K X.mg X.base CX0 k f fd [q] (spD X.K R)) (hr : Room (k + 2) X.A) (hb : Binds X.K fd [q] []) (hm : X.mg fx = some (.ref f)) (hg : Gl X x) (hz : X.mg x = none) (hv : bootBuiltins x = some (.builtin "sorted")) (he : PE X e (tE X.K W we)) (hgf : Gl X fx := by rfl)
    (hn : x ≠ "__name__" := by decide) (hdb : (x == ("__debug__" : Str)) = false := by decide) (hdf : (fx == ("__debug__" : Str)) = false := by decide)
    (hse : starEach [e] X.env = (false, eval e X.env) :: starEach [] X.env := by rfl) (h1 : backTo pos (starEach [e] X.env) = (false, eval e X.env) :: backTo pos (starEach [] X.env) := by rfl) (hpl : (backTo pos (starEach [e] X.env)).any (·.1) = false := by rfl)
    (hall : (backToKw pos (keywordEach [⟨some (Str.ofString "key"), .Name fx p2, kp⟩] X.env)).all (·.1.isSome) = true := by rfl) (hnone : (backToKw pos (keywordEach [⟨some (Str.ofString "key"), .Name fx p2, kp⟩] X.env)).any (·.1.isNone) = false := by rfl)
    (hks : (backToKw pos (keywordEach [⟨some (Str.ofString "key"), .Name fx p2, kp⟩] X.env)).filterMap (·.1) = [Str.ofString "key"] := by rfl) :
    PE X (.Call (.Name x p) [e] [⟨some (Str.ofString "key"), .Name fx p2, kp⟩] pos) (tE X.K W (wSortK R we)) :=
  PE.imp (pe_callBK (cr_sortK G hr hb) hg hz hv (pa_cons he pa_nil hse) (pk_cons (pe_glob (v := .ref f) hgf hm rfl hdf) pk_nil) hn hdb h1 hpl hall hnone hks) fun σ H Q ⟨F, C, ρ, P, PX, hs, en, xr, w, kk⟩ => ⟨F, C, ρ, _, PX, hs, en, xr, w, fun v F1 H1 d C1 e1 h1 rv q => by
    revert q
    dsimp only
    split
    · rename_i ds hd
      rintro ⟨key, S, hk, q⟩
      obtain ⟨l, xs, rfl, hl, r⟩ := seq_of h1 rv hd
      exact ⟨rfl, l, xs, ds, F1, C1, key, rfl, h1, hl, r, S, hk, fun F' H' v e h r => kk v F' H' _ C1 (e1.trans e) h r q⟩
    · exact fun z => z.elim⟩
end
/-- a value's truth, over data -/
def truOf (x : D) (C : Cells) : Option Bool := match x with
  | .non => some false
  | .bl b => some b
  | .int i => some (i != 0)
  | .str z => if z.length ≤ 100000 then some ((z.length : Int) != 0) else none
  | x => (itsOf x C).map fun ds => !ds.isEmpty
def wTru (e : DE) (ρ : DEnv) (C : Cells) (P : Bool → Cells → Prop) (PX : DX) : Prop := e ρ C (fun x C1 => match truOf x C1 with
  | some k => P k C1
  | none => False) PX
theorem RepL.isEmpty {K : PySem.W.Frag} {F : Hp} {xs : List V} {ds : List D} (r : RepL K F xs ds) : xs.isEmpty = ds.isEmpty := by
  cases r <;> rfl
theorem tru_of {K : PySem.W.Frag} {F H : Hp} {C : Cells} {v : V} {x : D} {k : Bool} (hs : Hs K F C H) (r : Rep K F v x) (h : truOf x C = some k) : TruV K v H k := by
  have go : ∀ ds', itsOf x C = some ds' → k = !ds'.isEmpty → TruV K v H k := fun ds' e en => by
    obtain ⟨a, xs, rfl, h2, h3⟩ := its_of hs r e
    show (∃ xs, SqL K H a xs ∧ k = !xs.isEmpty) ∨ (∃ xs, SqT K H a xs ∧ k = !xs.isEmpty) ∨ _
    rcases h2 with h2 | h2
    · exact .inl ⟨xs, h2, by rw [en, h3.isEmpty]⟩
    · exact .inr (.inl ⟨xs, h2, by rw [en, h3.isEmpty]⟩)
  cases r <;> first
    | (simp only [truOf, Option.map_eq_some_iff] at h
       obtain ⟨ds', e1, e2⟩ := h
       exact go ds' e1 e2.symm)
    | (simp only [truOf, Option.some.injEq] at h
       exact h.symm)
    | (simp only [truOf] at h
       split at h
       · rename_i hz
         simp only [Option.some.injEq] at h
         exact ⟨sz_of hz, h.symm⟩
       · cases h)
theorem d_tru {X : Cx} {W : WX} {e : Expr} {we : DE} (he : PE X e (tE X.K W we)) (hi : ∀ whole, isTrue e X.env whole = (do let v ← whole; standAt e.pos; holding [v] (truthy v)) := by intro _; rfl) : PT X e (tT X.K W (wTru we)) :=
  PT.imp (pt_truth he hi) fun σ H Q ⟨F, C, ρ, P, PX, hs, en, xr, w, k⟩ => ⟨F, C, ρ, _, PX, hs, en, xr, w, fun v F1 H1 d C1 e1 h1 r q => by
    revert q
    dsimp only
    split
    · rename_i b hb
      exact fun q => ⟨b, tru_of h1 r hb, k b F1 H1 C1 e1 h1 q⟩
    · exact fun z => z.elim⟩
/-- s.startswith(t) -/
def dStarts (x : D) (ds : List D) (C : Cells) (P : DK) : Prop := match x, ds with
  | .str a, [.str b] => P (.bl (Txt.startswith a b)) C
  | _, _ => False
theorem s_starts {K : PySem.W.Frag} : SimM K (fun x xs H Q => ∃ a b, x = .str a ∧ xs = [.str b] ∧ Q (.bl (Txt.startswith a b)) H) dStarts := fun F C H x dx xs ds P Q hs rx rl w k => by
  revert w
  unfold dStarts
  split
  · rename_i a b
    intro w
    cases rx
    obtain ⟨v, rfl, r1⟩ := rl.one
    cases r1
    exact ⟨a, b, rfl, rfl, k _ F H _ C (Ex.refl F) hs (.bl _) w⟩
  · exact fun z => z.elim
end DD

set_option Elab.async false
set_option linter.all false
set_option maxRecDepth 100000
set_option maxHeartbeats 4000000
/-! Tables of plain values, and the dicts that hold them. -/
namespace DD
open PySem L2
section
variable {κ β : Type} [DecidableEq κ]
def lkA (t : List (κ × β)) (k : κ) : Option β := (t.find? fun p => decide (p.1 = k)).map fun p => p.2
def puA (t : List (κ × β)) (k : κ) (v : β) : List (κ × β) := if (t.any fun p => decide (p.1 = k)) = true then t.map (fun p => if p.1 = k then (p.1, v) else p) else t ++ [(k, v)]
theorem lkA_nil (k : κ) : lkA ([] : List (κ × β)) k = none := rfl
theorem lkA_cons (p : κ × β) (t : List (κ × β)) (k : κ) : lkA (p :: t) k = if p.1 = k then some p.2 else lkA t k := by
  unfold lkA
  rw [List.find?_cons]
  by_cases g : p.1 = k
  · rw [decide_eq_true g, if_pos g]; rfl
  · rw [decide_eq_false g, if_neg g]
theorem lkA_app (t u : List (κ × β)) (k : κ) : lkA (t ++ u) k = match lkA t k with
  | some v => some v
  | none => lkA u k := by
  induction t with
  | nil => rfl
  | cons p t ih =>
    rw [List.cons_append, lkA_cons, lkA_cons, ih]
    by_cases g : p.1 = k
    · rw [if_pos g, if_pos g]
    · rw [if_neg g, if_neg g]
theorem lkA_none {t : List (κ × β)} {k : κ} : lkA t k = none ↔ k ∉ t.map fun p => p.1 := by
  induction t with
  | nil => simp [lkA]
  | cons p t ih =>
    rw [lkA_cons, List.map_cons, List.mem_cons, not_or]
    by_cases g : p.1 = k
    · rw [if_pos g]; simp [g]
    · rw [if_neg g, ih]
      exact ⟨fun h => ⟨fun z => g z.symm, h⟩, fun h => h.2⟩
theorem lkA_some_mem {t : List (κ × β)} {k : κ} {v : β} (h : lkA t k = some v) : (k, v) ∈ t := by
  induction t with
  | nil => cases h
  | cons p t ih =>
    rw [lkA_cons] at h
    by_cases g : p.1 = k
    · rw [if_pos g] at h
      injection h with h
      rw [← g, ← h]
      exact List.mem_cons_self
    · rw [if_neg g] at h
      exact List.mem_cons_of_mem _ (ih h)
theorem lkA_mem {t : List (κ × β)} (nd : (t.map fun p => p.1).Nodup) {k : κ} {v : β} (h : (k, v) ∈ t) : lkA t k = some v := by
  induction t with
  | nil => cases h
  | cons p t ih =>
    rw [List.map_cons, List.nodup_cons] at nd
    rw [lkA_cons]
    rcases List.mem_cons.mp h with rfl | h
    · exact if_pos rfl
    · rw [if_neg (fun z => nd.1 (List.mem_map.mpr ⟨_, h, z.symm⟩))]
      exact ih nd.2 h
theorem puA_any {t : List (κ × β)} {k : κ} : (t.any fun p => decide (p.1 = k)) = (lkA t k).isSome := by
  induction t with
  | nil => rfl
  | cons p t ih =>
    rw [List.any_cons, lkA_cons, ih]
    by_cases g : p.1 = k
    · rw [decide_eq_true g, if_pos g]; rfl
    · rw [decide_eq_false g, if_neg g]; rfl
theorem lkA_map_put (t : List (κ × β)) (k k' : κ) (v : β) : lkA (t.map fun p => if p.1 = k then (p.1, v) else p) k' = if k' = k then (lkA t k).map fun _ => v else lkA t k' := by
  induction t with
  | nil => simp [lkA]
  | cons p t ih =>
    rw [List.map_cons, lkA_cons, ih, lkA_cons, lkA_cons]
    by_cases g : p.1 = k
    · simp only [if_pos g]
      by_cases g2 : k' = k
      · rw [if_pos g2, if_pos g2, if_pos (by rw [g, g2])]; rfl
      · rw [if_neg g2, if_neg (fun z => g2 (by rw [← z, g])), if_neg g2, if_neg (fun z => g2 (by rw [← z, g]))]
    · simp only [if_neg g]
      by_cases g2 : k' = k
      · rw [if_pos g2, if_neg (fun z => g (by rw [z, g2])), if_pos g2]
      · rw [if_neg g2, if_neg g2]
theorem lkA_pu (t : List (κ × β)) (k k' : κ) (v : β) : lkA (puA t k v) k' = if k' = k then some v else lkA t k' := by
  unfold puA
  rw [puA_any]
  cases h : lkA t k with
  | some w =>
    rw [Option.isSome_some, if_pos rfl, lkA_map_put, h]
    rfl
  | none =>
    rw [if_neg (by simp), lkA_app]
    by_cases g : k' = k
    · rw [if_pos g, g, h, lkA_cons, if_pos rfl]
    · rw [if_neg g, lkA_cons, if_neg (fun z => g z.symm), lkA_nil]
      cases lkA t k' <;> rfl
theorem puA_len (t : List (κ × β)) (k : κ) (v : β) : (puA t k v).length ≤ t.length + 1 := by
  unfold puA
  split <;> simp
theorem puA_keys (t : List (κ × β)) (k : κ) (v : β) : (puA t k v).map (fun p => p.1) = if (lkA t k).isSome = true then t.map (fun p => p.1) else t.map (fun p => p.1) ++ [k] := by
  unfold puA
  rw [puA_any]
  split
  · rw [List.map_map]
    refine List.map_congr_left fun p _ => ?_
    simp only [Function.comp]
    split <;> rfl
  · rw [List.map_append]; rfl
theorem puA_nodup {t : List (κ × β)} (h : (t.map fun p => p.1).Nodup) (k : κ) (v : β) : ((puA t k v).map fun p => p.1).Nodup := by
  rw [puA_keys]
  cases e : lkA t k with
  | some w => rw [Option.isSome_some, if_pos rfl]; exact h
  | none =>
    rw [if_neg (by simp)]
    refine List.nodup_append.mpr ⟨h, by simp, fun a ha b hb => ?_⟩
    rw [List.mem_singleton] at hb
    rw [hb]
    exact fun z => lkA_none.mp e (z ▸ ha)
variable {κ' : Type} [DecidableEq κ']
theorem va_tab (key : κ → κ') (inj : ∀ a b, key a = key b → a = b) (f : β → D) (k : κ) : ∀ t : List (κ × β), vaD (t.map fun p => (key p.1, f p.2)) (key k) = (lkA t k).map f
  | [] => rfl
  | p :: t => by
    have ih := va_tab key inj f k t
    rw [lkA_cons]
    unfold vaD at ih ⊢
    rw [List.map_cons, List.find?_cons]
    by_cases g : p.1 = k
    · rw [decide_eq_true (show key p.1 = key k by rw [g]), if_pos g]; rfl
    · rw [decide_eq_false (fun z => g (inj _ _ z)), if_neg g]
      exact ih
theorem pu_tab (key : κ → κ') (inj : ∀ a b, key a = key b → a = b) (f : β → D) (t : List (κ × β)) (k : κ) (v : β) : puD (t.map fun p => (key p.1, f p.2)) (key k) (f v) = (puA t k v).map fun p => (key p.1, f p.2) := by
  have e0 : ((t.map fun p => (key p.1, f p.2)).any fun p => decide (p.1 = key k)) = t.any fun p => decide (p.1 = k) := by
    rw [List.any_map]
    congr 1
    funext p
    exact decide_eq_decide.mpr ⟨fun z => inj _ _ z, fun z => congrArg key z⟩
  unfold puD puA
  rw [e0]
  split
  · rw [List.map_map, List.map_map]
    refine List.map_congr_left fun p _ => ?_
    simp only [Function.comp]
    by_cases g : p.1 = k
    · rw [if_pos g, if_pos (show key p.1 = key k by rw [g])]
    · rw [if_neg g, if_neg (fun z => g (inj _ _ z))]
  · rw [List.map_append]; rfl
end
end DD

set_option Elab.async false
set_option linter.all false
set_option maxRecDepth 100000
set_option maxHeartbeats 4000000
/-! Dicts whose keys are tuples: setdefault, {k: v}. Values handed back whole: what hangs below changes no more. -/
namespace DD
open PySem L2 PyProof.Rows PySem.W

section
variable {X : Cx} {pins : List (Addr × Obj)} {σ : L2.St} {H : Hp} {s : Shared} {a b : Addr} {A : Around} {E : Value → Shared → Prop}
theorem dt_laid {kvs : List (List L2.Key × V)} {ks : List L2.Key} {d : V} {h1 : Heap} {xs : List (List L2.Key × Addr × Value)} {n : Nat} (I : L2.Inv X pins σ H s) (e : H a = some (.dT kvs))
    (sb : Heap.SameBut a s.heap h1) (hd : (a == sysModules) = false) (l : (putK kvs ks d).length ≤ sizeLine) (rel : KT H (putK kvs ks d) xs) (dd : h1.DictOfH (tupleKind (mixKind X.prog X.w)) a xs) :
    L2.Inv X pins σ (upd H a (.dT (putK kvs ks d))) { s with heap := h1, toks := n } := by
  obtain ⟨q, es, ep, g1, g2, g3, g4, _, g5⟩ := dd
  have mu : Mut (H a) := e ▸ True.intro
  exact d_write I mu sb ⟨q, g1⟩ ⟨l, hd, xs, rel.keeps fun c ys ec => (upd_ne (ne_of ec e fun z => by cases z)).trans ec, q, es, ep, g1, g2, g3, g4, g5⟩
theorem d_setT {kvs : List (List L2.Key × V)} {ks : List L2.Key} {d : V} {r : Value} {Q : Value → Shared → Prop} (hu : A.units + 1 < cLine) (I : L2.Inv X pins σ H s) (e : H a = some (.dT kvs)) (eb : H b = some (.tup (ks.map kV)))
    (rd : RelV d r) (hl : kvs.length < sizeLine) (h1 : ∀ x, valV kvs ks = some x → ∀ w' s', L2.Inv X pins σ H s' → RelV x w' → Q w' s') (h2 : valV kvs ks = none → ∀ s', L2.Inv X pins σ (upd H a (.dT (putK kvs ks d))) s' → Q r s') :
    wpAny (model X.prog X.w) A (call (.builtin "dict.setdefault") [.ref a, .ref b, r]) Q E s := by
  obtain ⟨z, hd, xs, rel, dd⟩ := dt_of I.hok e
  have lx : xs.length ≤ sizeLine := (Paired.length rel) ▸ z
  have rv := rel.val ks
  refine call_setdefault_heap (hsz := lx) (tupleKind_room_in1 hu) (key_of I.hok eb) hd dd (fun p hp => ?_) fun hn h' dd' sb => ?_
  · rw [hp] at rv
    cases q : valV kvs ks with
    | none => rw [q] at rv; exact False.elim rv
    | some x => rw [q] at rv; exact h1 x q _ _ (I.tok _) rv
  · rw [hn] at rv
    cases q : valV kvs ks with
    | some x => rw [q] at rv; exact False.elim rv
    | none =>
      have l2 := length_putK kvs ks d
      exact h2 q _ (dt_laid I e sb hd (by omega) (rel.put ks eb rd) dd')
end
/-- x.setdefault(y, z), the keys tuples -/
def tSetT (td ty tx : TE) : TE := fun σ H Q => td σ H fun x H1 => ∃ a, x = .ref a ∧ IsD H1 a ∧ ty σ H1 fun y H2 => tx σ H2 fun z H3 => ∃ kvs ks b, H3 a = some (.dT kvs) ∧ y = .ref b ∧ H3 b = some (.tup (ks.map kV)) ∧ kvs.length < sizeLine ∧
  (∀ v, valV kvs ks = some v → Q v H3) ∧ (valV kvs ks = none → Q z (upd H3 a (.dT (putK kvs ks z))))
def wSetT (o k e : DE) (ρ : DEnv) (C : Cells) (P : DK) (PX : DX) : Prop := o ρ C (fun x C1 => isDic x C1 ∧ k ρ C1 (fun y C2 => e ρ C2 (fun z C3 => match x with
  | .ptr a => match C3 a with
    | some (.dT t) => match keysOf y with
      | some ks => t.length < 100000 ∧ match vaD t ks with
        | some d => P d C3
        | none => P z (cput C3 a (.dT (puD t ks z)))
      | none => False
    | _ => False
  | _ => False) PX) PX) PX
section
variable {X : Cx} {W : WX} {K : PySem.W.Frag} {o i e : Expr} {to ti tx : TE} {wo wi we : DE} {apos pos : Pos} {n : Nat}
theorem pe_setT (hu : X.A.units + 1 < cLine) (ho : PE X o to) (hi : PE X i ti) (he : PE X e tx) (m : M2 X o "setdefault" apos i e pos) : PE X (.Call (.Attribute o "setdefault" apos) [i, e] [] pos) (tSetT to ti tx) := ⟨fun pins s σ H Q I h => by
  refine wpAny_Call_method m.base m.few m.line PySem.F.plainAttrs_dict PySem.F.slot_dict_setdefault PySem.F.type_dict_setdefault (thn (ho.run pins s σ H _ I h) fun u s1 ⟨x, H1, I1, rx, a, ex, d, q1⟩ => ?_)
  cases ex
  cases (show u = Value.ref a from rx)
  have ⟨t1, t2, _⟩ := isD_at I1 d
  refine ⟨t1, t2, ?_⟩
  rw [m.trees]
  exact Calls.callWith_builtin rfl (Calls.evalArgs_plain (Calls.spliced_cons (thn (hi.run pins s1 σ H1 _ I1 q1) fun iv s2 ⟨y, H2, I2, ry, q2⟩ =>
    Calls.spliced_cons (thn (he.run pins s2 σ H2 _ I2 q2) fun ev s3 ⟨z, H3, I3, rz, kvs, ks, b, ea, ey, eb, hl, q3, q4⟩ => Calls.spliced_nil (by
      cases ey
      cases (show iv = Value.ref b from ry)
      exact d_setT hu I3 ea eb rz hl (fun v hv w' s4 I4 rw' => ⟨v, H3, I4, rw', q3 v hv⟩) fun hn s4 I4 => ⟨z, _, I4, rz, q4 hn⟩)))))⟩
theorem d_setdT (hr : Room n X.A) (ho : PE X o (tE X.K W wo)) (hi : PE X i (tE X.K W wi)) (he : PE X e (tE X.K W we)) (m : M2 X o "setdefault" apos i e pos := by exact ⟨rfl, rfl, rfl, rfl⟩) :
    PE X (.Call (.Attribute o "setdefault" apos) [i, e] [] pos) (tE X.K W (wSetT wo wi we)) := PE.imp (pe_setT (hu_of hr) ho hi he m) fun σ H Q ⟨F, C, ρ, P, PX, hs, en, xr, w, k⟩ =>
  ⟨F, C, ρ, _, PX, hs, en, xr, w, fun v F1 H1 x C1 e1 h1 rx q => by
    obtain ⟨qd, q⟩ := q
    obtain ⟨a, rfl, ha⟩ := isDic_rd h1 rx qd
    refine ⟨a, rfl, ha, F1, C1, ρ, _, PX, h1, en.mono e1, xr.mono e1, q, fun u F2 H2 y C2 e2 h2 ry q2 => ⟨F2, C2, ρ, _, PX, h2, en.mono (e1.trans e2), xr.mono (e1.trans e2), q2, fun z F3 H3 dz C3 e3 h3 rz q3 => ?_⟩⟩
    split at q3
    · rename_i a'
      cases rx
      split at q3
      · rename_i t hc
        split at q3
        · rename_i ks hk
          obtain ⟨f0, vs, g1, g2⟩ := h3.cell a _ hc
          obtain ⟨b, rfl, hb⟩ := keys_rep h3 (ry.mono e3) hk
          obtain ⟨hl, q3⟩ := q3
          have ee := (e1.trans e2).trans e3
          refine ⟨vs, ks, b, g1, rfl, hb, by rw [tp_len g2.pair]; exact sz_lt hl, fun v hv => ?_, fun hv => ?_⟩
          · rcases tp_val g2.pair ks with ⟨_, e5⟩ | ⟨v', d, e4, e5, rd⟩
            · rw [hv] at e5; cases e5
            · rw [hv] at e5
              cases e5
              rw [e4] at q3
              exact k v F3 H3 d C3 ee h3 rd q3
          · rcases tp_val g2.pair ks with ⟨e4, _⟩ | ⟨v', d, e4, e5, rd⟩
            · rw [e4] at q3
              exact k z F3 _ dz _ ee (h3.put (c := .dT (puD t ks dz)) f0 ⟨_, upd_same, RepT.of (tp_put g2.pair ks rz)⟩) rz q3
            · rw [hv] at e5; cases e5
        · exact q3.elim
      · exact q3.elim
    · exact q3.elim⟩
end

/-! ### {k: v}, the key a tuple -/
def tOneT (tk tv : TE) : TE := fun σ H Q => ∀ p, H p = none → tk σ (upd H p (.dT [])) fun y H1 => tv σ H1 fun z H2 => H2 p = some (.dT []) ∧ ∃ ks b, y = .ref b ∧ H2 b = some (.tup (ks.map kV)) ∧ Q (.ref p) (upd H2 p (.dT [(ks, z)]))
def wOneT (k v : DE) (ρ : DEnv) (C : Cells) (P : DK) (PX : DX) : Prop := ∀ p, C p = none → k ρ (cput C p (.dT [])) (fun y C1 => v ρ C1 (fun z C2 => C2 p = some (.dT []) ∧ match keysOf y with
  | some ks => P (.ptr p) (cput C2 p (.dT [(ks, z)]))
  | none => False) PX) PX
section
variable {X : Cx} {W : WX} {K : PySem.W.Frag} {k v : Expr} {tk tv : TE} {wk wv : DE} {pos : Pos} {n : Nat}
theorem pe_oneT (hu : X.A.units < cLine) (hk : PE X k tk) (hv : PE X v tv) : PE X (.Dict [some k] [v] pos) (tOneT tk tv) := ⟨fun pins s σ H Q I q => by
  have hn := I.hok.fresh (Nat.le_refl s.heap.objs.size)
  have I1 := I.laid (o := .dT []) (h' := s.heap.push { cls := .type "dict", data := .dict #[] }) (t' := s.toks) (fun _ _ q => Heap.get?_push_of_some _ q) (Nat.le_refl _) (dt_empty s.heap I.big)
  rw [arm_eval_Dict, zip_pairTrees [some k] [v] X.env pos rfl rfl, dictDisplay_pairs _ (fun z => by cases z) (Nat.lt_of_le_of_lt (Nat.le_of_eq (pairTrees_length [some k] [v] X.env pos rfl rfl)) (show 1 < 17 by decide))]
  refine wpAny_bind (wpAny_standAt (wpAny_bind (wpAny_subDictH (knd := tupleKind (mixKind X.prog X.w)) (show (tupleKind (mixKind X.prog X.w)).room X.A from hu) (Nat.le_trans (Nat.le_of_eq (pairTrees_length [some k] [v] X.env pos rfl rfl)) (show 1 ≤ 15 by decide)) ?_)))
  refine pairTrees_cons_walk (thn (hk.run pins _ σ _ _ I1 (q _ hn)) fun u s1 ⟨y, H1, I1, ry, q1⟩ => thn (hv.run pins s1 σ H1 _ I1 q1) fun w2 s2 ⟨z, H2, I2, rz, hp, ks, b, ey, eb, q2⟩ => pairTrees_nil_walk ?_)
  cases ey
  cases (show u = Value.ref b from ry)
  obtain ⟨z0, hd, xs, rel, dd⟩ := dt_of I2.hok hp
  cases rel
  refine ⟨[(ks, b, w2)], ⟨rfl, rfl, key_of I2.hok eb, True.intro⟩, dd, fun h' tk' dd' sb => wpAny_pure ⟨.ref s.heap.objs.size, _, dt_laid (kvs := []) (ks := ks) (d := z) I2 hp sb hd (by rw [sizeLine_eq]; exact (show 1 ≤ 16777216 by decide)) (.cons ⟨rfl, eb, rz⟩ .nil) dd', rfl, q2⟩⟩⟩
theorem d_oneT (hr : Room n X.A) (hk : PE X k (tE X.K W wk)) (hv : PE X v (tE X.K W wv)) : PE X (.Dict [some k] [v] pos) (tE X.K W (wOneT wk wv)) := PE.imp (pe_oneT (Nat.lt_of_succ_lt (hu_of hr)) hk hv) fun σ H Q ⟨F, C, ρ, P, PX, hs, en, xr, w, kk⟩ => fun p hp => by
  obtain ⟨f0, c0⟩ := hs.fresh hp
  refine ⟨F, _, ρ, _, PX, hs.put (c := .dT []) f0 ⟨[], upd_same, .nil⟩, en, xr, w p c0, fun y F1 H1 dy C1 e1 h1 ry q => ⟨F1, C1, ρ, _, PX, h1, en.mono e1, xr.mono e1, q, fun z F2 H2 dz C2 e2 h2 rz q2 => ?_⟩⟩
  obtain ⟨hc, q2⟩ := q2
  obtain ⟨g0, us, g1, g2⟩ := h2.cell p _ hc
  cases g2
  refine ⟨g1, ?_⟩
  split at q2
  · rename_i ks hk
    obtain ⟨b, rfl, hb⟩ := keys_rep h2 (ry.mono e2) hk
    exact ⟨ks, b, rfl, hb, kk _ F2 _ _ _ (e1.trans e2) (h2.put (c := .dT [(ks, dz)]) g0 ⟨_, upd_same, .cons rz .nil⟩) (.ptr p) q2⟩
  · exact q2.elim
end
end DD

set_option Elab.async false
set_option linter.all false
set_option maxRecDepth 100000
set_option maxHeartbeats 4000000
/-! Values handed back whole: the cells below change no more. -/
namespace DD
open PySem L2 PyProof.Rows PySem.W

mutual
/-- d, with the cells of S read as data -/
inductive Deep (S : Addr → Prop) (C : Cells) : D → D → Prop
  | refl (d : D) : Deep S C d d
  | ptrL {a : Addr} {ds es : List D} : S a → C a = some (.lst ds) → DeepL S C ds es → Deep S C (.ptr a) (.lst es)
  | ptrI {a Cl : Addr} {ds es : List (String × D)} : S a → C a = some (.ins Cl ds) → DeepF S C ds es → Deep S C (.ptr a) (.ins Cl es)
  | lst {ds es : List D} : DeepL S C ds es → Deep S C (.lst ds) (.lst es)
  | tup {ds es : List D} : DeepL S C ds es → Deep S C (.tup ds) (.tup es)
  | ins {Cl : Addr} {ds es : List (String × D)} : DeepF S C ds es → Deep S C (.ins Cl ds) (.ins Cl es)
inductive DeepL (S : Addr → Prop) (C : Cells) : List D → List D → Prop
  | nil : DeepL S C [] []
  | cons {d e : D} {ds es : List D} : Deep S C d e → DeepL S C ds es → DeepL S C (d :: ds) (e :: es)
inductive DeepF (S : Addr → Prop) (C : Cells) : List (String × D) → List (String × D) → Prop
  | nil : DeepF S C [] []
  | cons {f : String} {d e : D} {ds es : List (String × D)} : Deep S C d e → DeepF S C ds es → DeepF S C ((f, d) :: ds) ((f, e) :: es)
end
theorem DeepL_refl {S : Addr → Prop} {C : Cells} : ∀ ds : List D, DeepL S C ds ds
  | [] => .nil
  | d :: r => .cons (.refl d) (DeepL_refl r)
theorem DeepF_refl {S : Addr → Prop} {C : Cells} : ∀ ds : List (String × D), DeepF S C ds ds
  | [] => .nil
  | (_, d) :: r => .cons (.refl d) (DeepF_refl r)
inductive DeepT {κ : Type} (S : Addr → Prop) (C : Cells) : List (κ × D) → List (κ × D) → Prop
  | nil : DeepT S C [] []
  | cons {k : κ} {d e : D} {ds es : List (κ × D)} : Deep S C d e → DeepT S C ds es → DeepT S C ((k, d) :: ds) ((k, e) :: es)
inductive DeepC (S : Addr → Prop) (C : Cells) : Cell → Cell → Prop
  | refl (c : Cell) : DeepC S C c c
  | lst {ds es : List D} : DeepL S C ds es → DeepC S C (.lst ds) (.lst es)
  | ins {Cl : Addr} {ds es : List (String × D)} : DeepF S C ds es → DeepC S C (.ins Cl ds) (.ins Cl es)
  | dK {ds es : List (L2.Key × D)} : DeepT S C ds es → DeepC S C (.dK ds) (.dK es)
  | dT {ds es : List (List L2.Key × D)} : DeepT S C ds es → DeepC S C (.dT ds) (.dT es)
open Classical in
/-- what is known of the heap when S is known too -/
noncomputable def deepH (S : Addr → Prop) (F H : Hp) : Hp := fun a => if S a then H a else F a
section
variable {K : PySem.W.Frag} {F H : Hp} {C C2 : Cells} {S : Addr → Prop}
theorem deep_ex (h : Ex F H) : Ex F (deepH S F H) := fun a o q => by
  unfold deepH
  split
  · exact h a o q
  · exact .inl q
theorem deep_in {a : Addr} (s : S a) : deepH S F H a = H a := by unfold deepH; rw [if_pos s]
mutual
theorem Deep.rep (h : Hs K F C H) : ∀ {v : V} {d e : D}, Rep K F v d → Deep S C d e → Rep K (deepH S F H) v e
  | _, _, _, r, .refl _ => r.mono (deep_ex h.ex)
  | _, _, _, r, .ptrL s hc l => by
    cases r
    obtain ⟨_, xs, h1, h2⟩ := h.cell _ _ hc
    exact .lst (.of ((deep_in s).trans h1)) (DeepL.rep h h2 l)
  | _, _, _, r, .ptrI s hc l => by
    cases r
    obtain ⟨_, dx, xs, h1, h2⟩ := h.cell _ _ hc
    exact .ins ((deep_in s).trans h1) (DeepF.rep h h2 l)
  | _, _, _, r, .lst l => by
    cases r with
    | lst q r => exact .lst (ex_l (deep_ex h.ex) q) (DeepL.rep h r l)
  | _, _, _, r, .tup l => by
    cases r with
    | tup q r => exact .tup ((deep_ex h.ex).nd q rfl) (DeepL.rep h r l)
  | _, _, _, r, .ins l => by
    cases r with
    | ins q r => exact .ins ((deep_ex h.ex).nd q rfl) (DeepF.rep h r l)
theorem DeepL.rep (h : Hs K F C H) : ∀ {v : List V} {d e : List D}, RepL K F v d → DeepL S C d e → RepL K (deepH S F H) v e
  | _, _, _, r, .nil => by cases r; exact .nil
  | _, _, _, r, .cons l m => by
    cases r with
    | cons a b => exact .cons (Deep.rep h a l) (DeepL.rep h b m)
theorem DeepF.rep (h : Hs K F C H) : ∀ {v : List (Str × V)} {d e : List (String × D)}, RepF K F v d → DeepF S C d e → RepF K (deepH S F H) v e
  | _, _, _, r, .nil => by cases r; exact .nil
  | _, _, _, r, .cons l m => by
    cases r with
    | cons a b => exact .cons (Deep.rep h a l) (DeepF.rep h b m)
end
theorem DeepT.repK (h : Hs K F C H) {d e : List (L2.Key × D)} (l : DeepT S C d e) : ∀ {v : List (L2.Key × V)}, RepK K F v d → RepK K (deepH S F H) v e := by
  induction l with
  | nil => intro v r; cases r; exact .nil
  | cons l _ ih => intro v r; cases r with
    | cons a b => exact .cons (l.rep h a) (ih b)
theorem DeepT.repT (h : Hs K F C H) {d e : List (List L2.Key × D)} (l : DeepT S C d e) : ∀ {v : List (List L2.Key × V)}, RepT K F v d → RepT K (deepH S F H) v e := by
  induction l with
  | nil => intro v r; cases r; exact .nil
  | cons l _ ih => intro v r; cases r with
    | cons a b => exact .cons (l.rep h a) (ih b)
theorem DeepC.rep (h : Hs K F C H) {a : Addr} {c e : Cell} (r : RepC K F H a c) (l : DeepC S C c e) : RepC K (deepH S F H) H a e := by
  cases l with
  | refl => exact r.ex (deep_ex h.ex)
  | lst l => obtain ⟨xs, h1, h2⟩ := r; exact ⟨xs, h1, l.rep h h2⟩
  | ins l => obtain ⟨dx, xs, h1, h2⟩ := r; exact ⟨dx, xs, h1, l.rep h h2⟩
  | dK l => obtain ⟨xs, h1, h2⟩ := r; exact ⟨xs, h1, l.repK h h2⟩
  | dT l => obtain ⟨xs, h1, h2⟩ := r; exact ⟨xs, h1, l.repT h h2⟩
/-- the cells that stay -/
def Stay (S : Addr → Prop) (C C2 : Cells) : Prop := ∀ a e, C2 a = some e → ¬ S a ∧ ∃ c, C a = some c ∧ DeepC S C c e
theorem Stay.sub (s : Sub C2 C) (n : ∀ a, S a → C2 a = none) : Stay S C C2 := fun a e h => ⟨(fun z => by rw [n a z] at h; cases h), e, s a e h, .refl e⟩
theorem Stay.hs (h : Hs K F C H) (s : Stay S C C2) : Hs K (deepH S F H) C2 H := by
  refine ⟨fun a o q => ?_, fun a e q => ?_⟩
  · unfold deepH at q
    split at q
    · exact .inl q
    · exact h.ex a o q
  · obtain ⟨n, c, hc, l⟩ := s a e q
    obtain ⟨f0, r⟩ := h.cell a c hc
    refine ⟨?_, l.rep h r⟩
    unfold deepH
    rw [if_neg n]
    exact f0
end
/-- what a value handed back becomes -/
def retK (E : DEnds) (d : D) (C : Cells) : Prop := wRetF (fun _ C P _ => P d C) E [] C
def wRetD (e : DE) (E : DEnds) (ρ : DEnv) (C : Cells) : Prop := e ρ C (fun d C1 => ∃ S C2 d', Stay S C1 C2 ∧ Deep S C1 d d' ∧ retK E d' C2) E.ex
section
variable {X : Cx} {W : WX} {K : PySem.W.Frag} {e : Expr} {we : DE} {pos : Pos}
theorem retK_go {F H : Hp} {C : Cells} {DE : DEnds} {Dn : Ends} {v : V} {d : D} (h1 : Hs K F C H) (r : Rep K F v d) (q : retK DE d C) (k : Kont K F DE.rt Dn.rt) : Fz (Dn.rt v) H := by
  revert q
  unfold retK wRetF
  cases r <;> first
    | (exact fun q => .inl (k _ F H _ C (Ex.refl F) h1 (by constructor <;> assumption) q))
    | (rename_i p
       show (match C p with | some (.lst ds) => _ | some (.dK ds) => _ | some (.dT ds) => _ | some (.ins Cl ds) => _ | _ => False) → _
       cases ec : C p with
       | none => exact fun z => z.elim
       | some c =>
         cases c <;> first | exact fun z => z.elim |
         (rintro ⟨C2, s2, n2, q⟩
          exact frz_any h1 ec s2 n2 fun F2 H2 e2 h2 r2 => k _ F2 H2 _ C2 e2 h2 r2 q))
theorem ds_retD (he : PE X e (tE X.K W we)) : PS X (.Return (some e) pos) (tS X.K W (wRetD we)) := PS.imp (ps_fz (ps_ret he)) fun D σ H ⟨F, C, ρ, DE, hs, en, xr, w, er⟩ => ⟨F, C, ρ, _, _, hs, en, xr, w, fun v F1 H1 d C1 e1 h1 r ⟨S, C2, d', st, dp, q⟩ =>
  retK_go (DE := DE) (Dn := D) (st.hs h1) (dp.rep h1 r) q (er.rt.mono (e1.trans (deep_ex h1.ex)))⟩
end
end DD

set_option Elab.async false
set_option linter.all false
set_option maxRecDepth 100000
set_option maxHeartbeats 4000000
/-! Tuples of the module; t.index(text) of a tuple. -/
namespace DD
open PySem L2 PyProof.Rows PySem.W
section
variable {C : Cells} {ds : List D} {i : Int}
theorem itsOf_ktup : itsOf (.ktup ds) C = some ds := rfl
theorem lenOf_ktup : lenOf (.ktup ds) C = some ds.length := rfl
theorem itemOf_ktup : itemOf (.ktup ds) C i = atI ds i := rfl
theorem res_ktup : D.res C (.ktup ds) = .ktup ds := rfl
end
def tupOf : D → Option (List D)
  | .tup ds => some ds
  | .ktup ds => some ds
  | _ => none
/-- a tuple's method -/
def wBMK (r : DRM) (d : D) (a : DA) (ρ : DEnv) (C : Cells) (P : DK) (PX : DX) : Prop := a ρ C (fun ds C2 => r d ds C2 P) PX
/-- t.index(x), the texts of t all told -/
def dTIx (x : D) (ds : List D) (C : Cells) (P : DK) : Prop := match ds with
  | [.str z] => ∃ ys : List Str, tupOf x = some (ys.map D.str) ∧ ∃ j, ys[j]? = some z ∧ (∀ m, m < j → ys[m]? ≠ some z) ∧ P (.int (j : Nat)) C
  | _ => False
section
variable {X : Cx} {W : WX} {K : PySem.W.Frag} {o e : Expr} {wo : DE} {wr : DA} {pos : Pos}
theorem tup_of {F H : Hp} {C : Cells} {v : V} {x : D} {ds : List D} (hs : Hs K F C H) (r : Rep K F v x) (h : tupOf x = some ds) : ∃ a xs, v = .ref a ∧ SqT K H a xs ∧ RepL K F xs ds := by
  cases r <;> first | cases h | skip
  · rename_i a xs hq hr
    exact ⟨a, xs, rfl, .inl (.inl (hs.ex.nd hq rfl)), hr⟩
  · rename_i a xs hq hr
    exact ⟨a, xs, rfl, ex_t hs.ex hq, hr⟩
/-- a method of a tuple of the module -/
theorem d_bmK {es : List Expr} {apos npos : Pos} {x id : String} {name : Str} {d : D} {r : V → List V → Hp → VK → Prop} {rd : DRM} (pa : PlainAttrs "tuple") (slot : Slot "tuple" name id) (hty : typeOf (.builtin id) = pure (.type "method_descriptor")) (hm : MtR X id r) (hr : SimM X.K r rd)
    (hk : ∃ a o, X.mg x = some (.ref a) ∧ X.K.lookup a = some o ∧ o.cls = .type "tuple" ∧ o.dict = none ∧ ∀ F, Rep X.K F (.ref a) d) (ha : PA X (e :: es) (tA X.K W wr)) (hg : Gl X x := by rfl) (hd : ((x : Str) == ("__debug__" : Str)) = false := by decide)
    (hb : attributeBase (.Name x npos) name X.env (eval (.Name x npos) X.env) = eval (.Name x npos) X.env := by rfl)
    (hf : ((backTo pos (starEach (e :: es) X.env)).all (fun x => !x.1) && (backToKw pos (keywordEach [] X.env)).all (fun x => x.1.isSome) && decide ((e :: es).length + ([] : List Keyword).length + (if ([] : List Keyword).isEmpty then 0 else 1) < 30)) = true := by rfl)
    (hl : (apos.endLine == pos.line) = true := by rfl) (hs : starEach (e :: es) X.env = (false, eval e X.env) :: starEach es X.env := by rfl) (hp : (backTo pos (starEach es X.env)).any (·.1) = false := by rfl) :
    PE X (.Call (.Attribute (.Name x npos) name apos) (e :: es) [] pos) (tE X.K W (wBMK rd d wr)) := by
  obtain ⟨a, o, hx, ho, hc, hn, rp⟩ := hk
  exact PE.imp (pe_bm pa slot hty hm (pe_glob hg hx (v := .ref a) rfl hd) ha hb hf hl hs hp) fun σ H Q ⟨F, C, ρ, P, PX, hs, en, xr, w, k⟩ =>
    ⟨.inr (.inl ⟨rfl, o, ho, hc, hn⟩), F, C, ρ, _, PX, hs, en, xr, w, fun vs F2 H2 ds C2 e2 h2 rl q2 => hr F2 C2 H2 _ d vs ds P Q h2 (rp F2) rl q2 (k.mono e2)⟩
theorem s_tupIx : SimM K (fun x xs H Q => ∃ p, ∃ ys : List Str, ∃ z j, x = .ref p ∧ xs = [.str z] ∧ SqT K H p (ys.map V.str) ∧ ys[j]? = some z ∧ (∀ m, m < j → ys[m]? ≠ some z) ∧ Q (.int (j : Nat)) H) dTIx := fun F C H x dx xs ds P Q hs rx rl w k => by
  revert w
  unfold dTIx
  split
  · rename_i z
    rintro ⟨ys, h1, j, h2, h3, w⟩
    obtain ⟨a, us, rfl, h4, h5⟩ := tup_of hs rx h1
    cases rl with
    | cons r1 r2 =>
      cases r1
      cases r2
      rw [h5.of_strs] at h4
      exact ⟨a, ys, z, j, rfl, rfl, h4, h2, h3, k _ F H _ C (Ex.refl F) hs (.int _) w⟩
  · exact fun z => z.elim
end
end DD

set_option Elab.async false
set_option linter.all false
set_option maxRecDepth 100000
set_option maxHeartbeats 4000000
/-! Dicts whose keys are nested tuples, and dicts whose keys are numbers, texts and None. -/
namespace DD
open PySem L2 PySem.Spec PyProof.Rows

/-! ### keys -/
def keysNf (f : D → Option NestedKey) : List D → Option (List NestedKey)
  | [] => some []
  | d :: r => (f d).bind fun k => (keysNf f r).map fun ks => k :: ks
def keyN : Nat → D → Option NestedKey
  | _, .non => some .none
  | _, .int i => some (.num i)
  | _, .str x => some (.text x)
  | n + 1, .tup ds => (keysNf (keyN n) ds).map .tup
  | _, _ => none
/-- tuples (true), or numbers, texts and None -/
def keyB : Bool → D → Option NestedKey
  | true, .tup ds => (keysNf (keyN 7) ds).map .tup
  | false, .non => some .none
  | false, .int i => some (.num i)
  | false, .str x => some (.text x)
  | _, _ => none
def leafOf : D → Option Leaf
  | .non => some .none
  | .int i => some (.num i)
  | .str x => some (.text x)
  | _ => none
theorem keyB_leaf {y : D} {k : NestedKey} (h : keyB false y = some k) : ∃ l : Leaf, l.key = k ∧ leafOf y = some l := by
  cases y <;> simp only [keyB, Option.some.injEq, reduceCtorEq] at h
  · exact ⟨.none, h, rfl⟩
  · exact ⟨.num _, h, rfl⟩
  · exact ⟨.text _, h, rfl⟩
theorem leaf_is {K : PySem.W.Frag} {F : Hp} {v : V} {y : D} {l : Leaf} {u : Value} (r : Rep K F v y) (h : leafOf y = some l) (ru : RelV v u) : Leaf.isOf l u = true := by
  cases r <;> simp only [leafOf, Option.some.injEq, reduceCtorEq] at h
  · subst h
    obtain rfl : u = .none := ru
    rfl
  · subst h
    obtain ⟨t, rfl⟩ := ru
    exact decide_eq_true rfl
  · subst h
    obtain ⟨t, rfl⟩ := ru
    simp [Leaf.isOf, Value.isStrOf]
section
variable {P : Program} {w : World} {K : PySem.W.Frag} {F H : Hp} {h : Heap}
theorem keysN_is {f : D → Option NestedKey} {n : Nat} (hf : ∀ {v : V} {d : D} {k : NestedKey} {u : Value}, Rep K F v d → f d = some k → RelV v u → NestedIs h k u ∧ k.depth ≤ n) :
    ∀ {vs : List V} {ds : List D} {ks : List NestedKey} {us : List Value}, RepL K F vs ds → keysNf f ds = some ks → Vals vs us → NestedAll h ks us ∧ NestedKey.depthAll ks ≤ n
  | _, _, ks, _, .nil, e, .nil => by
    simp only [keysNf, Option.some.injEq] at e
    subst e
    exact ⟨.nil, Nat.zero_le _⟩
  | _, _, ks, _, .cons (d := d) (ds := ds) a b, e, .cons r s => by
    simp only [keysNf, Option.bind_eq_some_iff, Option.map_eq_some_iff] at e
    obtain ⟨k, hk, ks', hks, rfl⟩ := e
    obtain ⟨h1, h2⟩ := hf a hk r
    obtain ⟨h3, h4⟩ := keysN_is hf b hks s
    exact ⟨.cons h1 h3, by simp only [NestedKey.depthAll]; omega⟩
theorem tup_is (ok : HOk P w H h) {a : Addr} {xs : List V} (e : H a = some (.tup xs)) : ∃ o its n, h.get? a = some o ∧ o.cls = .type "tuple" ∧ o.data = .seq its n ∧ Vals xs its.toList := by
  obtain ⟨_, its, r, o, h1, h2, n, h3⟩ := (show ObjOk P w H h a (.tup xs) from ok a _ e)
  exact ⟨o, its.toArray, n, h1, h2, h3, by simpa using r⟩
theorem keyN_is (ok : HOk P w H h) (ex : Ex F H) : ∀ (n : Nat) {v : V} {d : D} {k : NestedKey} {u : Value}, Rep K F v d → keyN n d = some k → RelV v u → NestedIs h k u ∧ k.depth ≤ n := by
  intro n
  induction n with
  | zero =>
    intro v d k u r e ru
    cases r <;> simp only [keyN, Option.some.injEq, reduceCtorEq] at e
    · subst e; obtain rfl : u = .none := ru; exact ⟨.none, Nat.le_refl _⟩
    · subst e; obtain ⟨t, rfl⟩ := ru; exact ⟨.int _ _, Nat.le_refl _⟩
    · subst e; obtain ⟨t, rfl⟩ := ru; exact ⟨.text _ _, Nat.le_refl _⟩
  | succ n ih =>
    intro v d k u r e ru
    cases r <;> simp only [keyN, Option.some.injEq, Option.map_eq_some_iff, reduceCtorEq] at e
    · subst e; obtain rfl : u = .none := ru; exact ⟨.none, Nat.zero_le _⟩
    · subst e; obtain ⟨t, rfl⟩ := ru; exact ⟨.int _ _, Nat.zero_le _⟩
    · subst e; obtain ⟨t, rfl⟩ := ru; exact ⟨.text _ _, Nat.zero_le _⟩
    · obtain ⟨ks, hks, rfl⟩ := e
      rename_i a xs ds hF hr
      obtain rfl : u = .ref a := ru
      obtain ⟨o, its, m, h1, h2, h3, h4⟩ := tup_is ok (ex.nd hF rfl)
      obtain ⟨g1, g2⟩ := keysN_is (fun a b c => ih a b c) hr hks h4
      exact ⟨.tup h1 h2 h3 g1, by simp only [NestedKey.depth]; omega⟩
theorem keyB_is (ok : HOk P w H h) (ex : Ex F H) {v : V} {d : D} {k : NestedKey} {u : Value} (r : Rep K F v d) (e : keyB true d = some k) (ru : RelV v u) : ∃ b, v = .ref b ∧ u = .ref b ∧ (nestedKind P w).is h k b ∧ Rep K F (.ref b) d := by
  have e' : keyN 8 d = some k := by
    cases d <;> simp only [keyB, Option.map_eq_some_iff, reduceCtorEq] at e ⊢
    simp only [keyN, Option.map_eq_some_iff]
    exact e
  obtain ⟨h1, h2⟩ := keyN_is ok ex 8 r e' ru
  cases r <;> simp only [keyB, reduceCtorEq] at e
  rename_i a xs ds hF hr
  obtain rfl : u = .ref a := ru
  exact ⟨a, rfl, rfl, ⟨h1, h2⟩, .tup hF hr⟩
mutual
theorem nkD_keyN : ∀ (k : NestedKey) (n : Nat), k.depth ≤ n → keyN n (nkD k) = some k
  | .none, n, _ => by cases n <;> rfl
  | .num _, n, _ => by cases n <;> rfl
  | .text _, n, _ => by cases n <;> rfl
  | .tup ks, 0, h => by simp only [NestedKey.depth] at h; omega
  | .tup ks, n + 1, h => by
    simp only [NestedKey.depth] at h
    simp only [nkD, keyN, nkDs_keysN ks n (by omega), Option.map_some]
theorem nkDs_keysN : ∀ (ks : List NestedKey) (n : Nat), NestedKey.depthAll ks ≤ n → keysNf (keyN n) (nkDs ks) = some ks
  | [], n, _ => rfl
  | k :: ks, n, h => by
    simp only [NestedKey.depthAll] at h
    simp only [nkDs, keysNf, nkD_keyN k n (by omega), nkDs_keysN ks n (by omega), Option.bind_some, Option.map_some]
end
end
mutual
theorem keyN_nkD : ∀ (n : Nat) (d : D) (k : NestedKey), keyN n d = some k → d = nkD k
  | 0, d, k, e => by
    cases d <;> simp only [keyN, Option.some.injEq, reduceCtorEq] at e <;> (subst e; rfl)
  | n + 1, d, k, e => by
    cases d <;> simp only [keyN, Option.some.injEq, Option.map_eq_some_iff, reduceCtorEq] at e
    · subst e; rfl
    · subst e; rfl
    · subst e; rfl
    · obtain ⟨ks, hks, rfl⟩ := e
      rw [keysN_nkD n _ ks hks]; rfl
theorem keysN_nkD : ∀ (n : Nat) (ds : List D) (ks : List NestedKey), keysNf (keyN n) ds = some ks → ds = nkDs ks
  | n, [], ks, e => by
    simp only [keysNf, Option.some.injEq] at e
    subst e; rfl
  | n, d :: ds, ks, e => by
    simp only [keysNf, Option.bind_eq_some_iff, Option.map_eq_some_iff] at e
    obtain ⟨k, hk, ks', hks, rfl⟩ := e
    rw [keyN_nkD n d k hk, keysN_nkD n ds ks' hks]; rfl
end
theorem keyB_nkD {b : Bool} {d : D} {k : NestedKey} (e : keyB b d = some k) : d = nkD k := by
  cases b
  · cases d <;> simp only [keyB, Option.some.injEq, reduceCtorEq] at e <;> (subst e; rfl)
  · cases d <;> simp only [keyB, Option.map_eq_some_iff, reduceCtorEq] at e
    obtain ⟨ks, hks, rfl⟩ := e
    rw [keysN_nkD 7 _ ks hks]; rfl

/-! ### a dict that is a cell -/
/-- which kind, what it holds -/
def withN (q : Pgw) (x : D) (C : Cells) (P : Bool → List (NestedKey × D) → Prop) : Prop := match x with
  | .ptr a => match C a with
    | some (.dN q' t) => q' = q ∧ P true t
    | some (.lN q' t _ _) => q' = q ∧ P true t
    | some (.dO q' t) => q' = q ∧ P false t
    | some (.lO q' t _ _) => q' = q ∧ P false t
    | _ => False
  | _ => False
section
variable {X : Cx} {pins : List (Addr × Obj)} {σ : L2.St} {H F : Hp} {C : Cells} {s : Shared} {a : Addr} {t : List (NestedKey × D)}
abbrev NdV (K : PySem.W.Frag) (F : Hp) : List (NestedKey × D) → List (NestedKey × Addr × Value) → Prop := Paired fun p y => p.1 = y.1 ∧ p.1.depth ≤ 8 ∧ Rep K F (.ref y.2.1) (nkD p.1) ∧ ∃ v, RelV v y.2.2 ∧ Rep K F v p.2
abbrev LdV (K : PySem.W.Frag) (F : Hp) : List (NestedKey × D) → List (Leaf × Value) → Prop := Paired fun p y => p.1 = y.1.key ∧ ∃ v, RelV v y.2 ∧ Rep K F v p.2
theorem paired_comp {α β γ : Type} {f : α → β → Prop} {g : α → γ → Prop} {h : β → γ → Prop} (hc : ∀ a b c, f a b → g a c → h b c) : ∀ {as : List α} {bs : List β} {cs : List γ}, Paired f as bs → Paired g as cs → Paired h bs cs
  | _, _, _, .nil, .nil => .nil
  | _, _, _, .cons x xs, .cons y ys => .cons (hc _ _ _ x y) (paired_comp hc xs ys)
theorem paired_left {α β : Type} {f : α → β → Prop} {p : α → Prop} (hp : ∀ a b, f a b → p a) : ∀ {as : List α} {bs : List β}, Paired f as bs → ∀ a ∈ as, p a
  | _, _, .nil, a, h => by cases h
  | _, _, .cons x xs, a, h => by
    rcases List.mem_cons.mp h with rfl | h
    · exact hp _ _ x
    · exact paired_left hp xs a h
theorem paired_right {α β : Type} {f : α → β → Prop} {p : β → Prop} (hp : ∀ a b, f a b → p b) : ∀ {as : List α} {bs : List β}, Paired f as bs → ∀ b ∈ bs, p b
  | _, _, .nil, a, h => by cases h
  | _, _, .cons x xs, b, h => by
    rcases List.mem_cons.mp h with rfl | h
    · exact hp _ _ x
    · exact paired_right hp xs b h
theorem nd_open {w : World} {xs : List (NestedKey × Addr × V)} (h : NdAt w a xs s.heap) (r : NdR X.K F xs t) (hw : w = X.w) (hs : Hs X.K F C H) (ok : HOk X.prog X.w H s.heap) :
    t.length ≤ sizeLine ∧ (a == sysModules) = false ∧ ∃ ys, s.heap.DictOfH (nestedKind X.prog X.w) a ys ∧ NdV X.K F t ys := by
  subst hw
  obtain ⟨z, sm, ys, pr, o, es, ep, ho, hx, hd, he, hn⟩ := h
  have l1 : xs.length = t.length := Paired.length r
  have nv : NdV X.K F t ys := paired_comp (fun x p y (h1 : x.1 = p.1 ∧ p.1.depth ≤ 8 ∧ Rep X.K F (.ref x.2.1) (nkD p.1) ∧ Rep X.K F x.2.2 p.2) (h2 : x.1 = y.1 ∧ x.2.1 = y.2.1 ∧ RelV x.2.2 y.2.2) =>
    ⟨h1.1.symm.trans h2.1, h1.2.1, by rw [← h2.2.1]; exact h1.2.2.1, x.2.2, h2.2.2, h1.2.2.2⟩) r pr
  refine ⟨by omega, sm, ys, ⟨o, es, ep, ho, hx, hd, he, fun y hy => ?_, hn⟩, nv⟩
  refine paired_right (p := fun y => (nestedKind X.prog X.w).is s.heap y.1 y.2.1) (fun p y hz => ?_) nv y hy
  obtain ⟨h1, h2, h3, _⟩ := hz
  have := keyN_is ok hs.ex 8 h3 (nkD_keyN p.1 8 h2) (u := .ref y.2.1) rfl
  rw [h1] at this
  exact this
theorem nd_at {q : Pgw} (I : Inv X pins σ H s) (hs : Hs X.K F C H) (hq : q = ⟨X.prog, X.w⟩) (hc : C a = some (.dN q t) ∨ ∃ od xs, C a = some (.lN q t od xs)) :
    t.length ≤ sizeLine ∧ (a == sysModules) = false ∧ ∃ ys, s.heap.DictOfH (nestedKind X.prog X.w) a ys ∧ NdV X.K F t ys := by
  rcases hc with hc | ⟨od, xs, hc⟩
  · obtain ⟨_, xs, h1, h2⟩ := hs.cell a _ hc
    exact nd_open (show ObjOk X.prog X.w H s.heap a (ndO q.w a xs) from I.hok a _ h1).1 h2 (by rw [hq]) hs I.hok
  · obtain ⟨_, h1, h2⟩ := hs.cell a _ hc
    obtain ⟨_, h3⟩ := (show ObjOk X.prog X.w H s.heap a (.frz od (ndO q.w a xs)) from I.hok a _ h1)
    exact nd_open (show ObjOk X.prog X.w H s.heap a (ndO q.w a xs) from h3).1 h2 (by rw [hq]) hs I.hok
theorem ld_open {q : Pgw} {xs : List (Leaf × V)} (h : LdAt q a xs s.heap) (r : LdR X.K F xs t) (hq : q = ⟨X.prog, X.w⟩) :
    t.length ≤ sizeLine ∧ (a == sysModules) = false ∧ ∃ vs, s.heap.DictOf (leafKind X.prog X.w) a vs ∧ LdV X.K F t vs := by
  subst hq
  obtain ⟨z, sm, vs, pr, hd⟩ := h
  have l1 : xs.length = t.length := Paired.length r
  exact ⟨by omega, sm, vs, hd, paired_comp (fun x p y (h1 : x.1.key = p.1 ∧ Rep X.K F x.2 p.2) (h2 : x.1 = y.1 ∧ RelV x.2 y.2) => ⟨by rw [← h1.1, h2.1], x.2, h2.2, h1.2⟩) r pr⟩
theorem ld_at {q : Pgw} (I : Inv X pins σ H s) (hs : Hs X.K F C H) (hq : q = ⟨X.prog, X.w⟩) (hc : C a = some (.dO q t) ∨ ∃ od xs, C a = some (.lO q t od xs)) :
    t.length ≤ sizeLine ∧ (a == sysModules) = false ∧ ∃ vs, s.heap.DictOf (leafKind X.prog X.w) a vs ∧ LdV X.K F t vs := by
  rcases hc with hc | ⟨od, xs, hc⟩
  · obtain ⟨_, xs, h1, h2⟩ := hs.cell a _ hc
    exact ld_open (show ObjOk X.prog X.w H s.heap a (ldO q a xs) from I.hok a _ h1).1 h2 hq
  · obtain ⟨_, h1, h2⟩ := hs.cell a _ hc
    obtain ⟨_, h3⟩ := (show ObjOk X.prog X.w H s.heap a (.frz od (ldO q a xs)) from I.hok a _ h1)
    exact ld_open (show ObjOk X.prog X.w H s.heap a (ldO q a xs) from h3).1 h2 hq
theorem withN_dict {q : Pgw} {x : D} {v : V} {u : Value} {P : Bool → List (NestedKey × D) → Prop} (I : Inv X pins σ H s) (hs : Hs X.K F C H) (hq : q = ⟨X.prog, X.w⟩) (r : Rep X.K F v x) (ru : RelV v u) (h : withN q x C P) :
    ∃ a, v = .ref a ∧ u = .ref a ∧ x = .ptr a ∧ (a == sysModules) = false ∧ s.TypeIs (.ref a) "dict" ∧ (∀ b, Value.ref a = .ref b → ∃ ob, s.heap.get? b = some ob ∧ ob.dict = none) ∧
      ((∃ t ys, P true t ∧ t.length ≤ sizeLine ∧ s.heap.DictOfH (nestedKind X.prog X.w) a ys ∧ NdV X.K F t ys) ∨ ∃ t vs, P false t ∧ t.length ≤ sizeLine ∧ s.heap.DictOf (leafKind X.prog X.w) a vs ∧ LdV X.K F t vs) := by
  unfold withN at h
  split at h
  · rename_i a
    cases r
    obtain rfl : u = .ref a := ru
    refine ⟨a, rfl, rfl, rfl, ?_⟩
    have tN : ∀ {ys}, s.heap.DictOfH (nestedKind X.prog X.w) a ys → s.TypeIs (.ref a) "dict" ∧ (∀ b, Value.ref a = .ref b → ∃ ob, s.heap.get? b = some ob ∧ ob.dict = none) := fun hd => by
      refine ⟨hd.typeIs, fun b e => ?_⟩
      cases e
      obtain ⟨o, _, _, h1, h2, _⟩ := hd
      exact ⟨o, h1, h2.2.1⟩
    have tL : ∀ {vs}, s.heap.DictOf (leafKind X.prog X.w) a vs → s.TypeIs (.ref a) "dict" ∧ (∀ b, Value.ref a = .ref b → ∃ ob, s.heap.get? b = some ob ∧ ob.dict = none) := fun hd => by
      refine ⟨hd.typeIs, fun b e => ?_⟩
      cases e
      obtain ⟨o, _, _, h1, h2, _⟩ := hd
      exact ⟨o, h1, h2.2.1⟩
    split at h
    · rename_i q' t hc
      obtain ⟨rfl, h⟩ := h
      obtain ⟨z, sm, ys, hd, nv⟩ := nd_at I hs hq (.inl hc)
      exact ⟨sm, (tN hd).1, (tN hd).2, .inl ⟨t, ys, h, z, hd, nv⟩⟩
    · rename_i q' t od xs hc
      obtain ⟨rfl, h⟩ := h
      obtain ⟨z, sm, ys, hd, nv⟩ := nd_at I hs hq (.inr ⟨_, _, hc⟩)
      exact ⟨sm, (tN hd).1, (tN hd).2, .inl ⟨t, ys, h, z, hd, nv⟩⟩
    · rename_i q' t hc
      obtain ⟨rfl, h⟩ := h
      obtain ⟨z, sm, ys, hd, nv⟩ := ld_at I hs hq (.inl hc)
      exact ⟨sm, (tL hd).1, (tL hd).2, .inr ⟨t, ys, h, z, hd, nv⟩⟩
    · rename_i q' t od xs hc
      obtain ⟨rfl, h⟩ := h
      obtain ⟨z, sm, ys, hd, nv⟩ := ld_at I hs hq (.inr ⟨_, _, hc⟩)
      exact ⟨sm, (tL hd).1, (tL hd).2, .inr ⟨t, ys, h, z, hd, nv⟩⟩
    · exact h.elim
  · exact h.elim
/-- what is found -/
theorem nv_val {K : PySem.W.Frag} {ys : List (NestedKey × Addr × Value)} (r : NdV K F t ys) (k : NestedKey) : (vaD t k = none ∧ atKey ys k = none) ∨ ∃ d p v, vaD t k = some d ∧ atKey ys k = some p ∧ RelV v p.2 ∧ Rep K F v d := by
  induction r with
  | nil => exact .inl ⟨rfl, rfl⟩
  | @cons p y ps qs hz _ ih =>
    obtain ⟨h1, _, _, v, h3, h4⟩ := hz
    by_cases e : p.1 = k
    · have e' : y.1 = k := h1 ▸ e
      refine .inr ⟨p.2, y.2, v, vaD_hit e, ?_, h3, h4⟩
      simp [atKey, List.find?_cons, e']
    · have e' : ¬ y.1 = k := h1 ▸ e
      rw [vaD_miss e, show atKey (y :: qs) k = atKey qs k by simp [atKey, List.find?_cons, e']]
      exact ih
theorem lv_val {K : PySem.W.Frag} {vs : List (Leaf × Value)} (r : LdV K F t vs) (l : Leaf) : (vaD t l.key = none ∧ valueAt vs l = none) ∨ ∃ d u v, vaD t l.key = some d ∧ valueAt vs l = some u ∧ RelV v u ∧ Rep K F v d := by
  induction r with
  | nil => exact .inl ⟨rfl, rfl⟩
  | @cons p y ps qs hz _ ih =>
    obtain ⟨h1, v, h3, h4⟩ := hz
    by_cases e : y.1 = l
    · have e' : p.1 = l.key := by rw [h1, e]
      refine .inr ⟨p.2, y.2, v, vaD_hit e', ?_, h3, h4⟩
      simp [valueAt, List.find?_cons, e]
    · have e' : ¬ p.1 = l.key := fun z => e (Leaf.key_inj (h1.symm.trans z))
      rw [vaD_miss e', show valueAt (y :: qs) l = valueAt qs l by simp [valueAt, List.find?_cons, e]]
      exact ih
end
end DD

set_option Elab.async false
set_option linter.all false
set_option maxRecDepth 100000
set_option maxHeartbeats 4000000
/-! Rules for dicts whose keys are nested tuples, or numbers, texts and None. -/
namespace DD
open PySem L2 PySem.Spec PyProof.Rows

/-- a reading as an operation of its own -/
def rdR (K : PySem.W.Frag) (rd : DR2) : R2 := fun x y H Q => ∃ F C dx dy P, Hs K F C H ∧ Rep K F x dx ∧ Rep K F y dy ∧ rd dx dy C P ∧ Kont K F P Q
theorem s_rd {K : PySem.W.Frag} {rd : DR2} : SimR K (rdR K rd) rd := fun F C H x y dx dy P Q hs rx ry w k => ⟨F, C, dx, dy, P, hs, rx, ry, w, k⟩
def rdA (K : PySem.W.Frag) (rd : DRA) : List V → Hp → VK → Prop := fun xs H Q => ∃ F C ds P, Hs K F C H ∧ RepL K F xs ds ∧ rd ds C P ∧ Kont K F P Q
theorem s_rdA {K : PySem.W.Frag} {rd : DRA} : SimA K (rdA K rd) rd := fun F C H xs ds P Q hs r w k => ⟨F, C, ds, P, hs, r, w, k⟩

def dNGet (q : Pgw) (x : D) (y : D) (C : Cells) (P : DK) : Prop := withN q x C fun b t => match keyB b y with
  | some k => match vaD t k with
    | some d => P d C
    | none => False
  | none => False
def dNIn (q : Pgw) (neg : Bool) (y : D) (x : D) (C : Cells) (P : DK) : Prop := withN q x C fun b t => match keyB b y with
  | some k => P (.bl (neg ^^ (vaD t k).isSome)) C
  | none => False
def isN (q : Pgw) (x : D) (C : Cells) : Prop := withN q x C fun _ _ => True
def wNGet1 (q : Pgw) (o k : DE) (ρ : DEnv) (C : Cells) (P : DK) (PX : DX) : Prop := o ρ C (fun x C1 => isN q x C1 ∧ k ρ C1 (fun y C2 => withN q x C2 fun b t => match keyB b y with
  | some k => P ((vaD t k).getD .non) C2
  | none => False) PX) PX
def wNGet2 (q : Pgw) (o k e : DE) (ρ : DEnv) (C : Cells) (P : DK) (PX : DX) : Prop := o ρ C (fun x C1 => isN q x C1 ∧ k ρ C1 (fun y C2 => e ρ C2 (fun z C3 => withN q x C3 fun b t => match keyB b y with
  | some k => P ((vaD t k).getD z) C3
  | none => False) PX) PX) PX
section
variable {X : Cx} {W : WX} {K : PySem.W.Frag} {o i e : Expr} {wo wi we : DE} {pos apos tpos : Pos} {n : Nat} {q : Pgw}
theorem room_N (hu : X.A.units + 64 < cLine) : (nestedKind X.prog X.w).room X.A.in1 := by
  show X.A.units + 1 + 8 < cLine
  omega
theorem room_N2 (hu : X.A.units + 64 < cLine) : (nestedKind X.prog X.w).room X.A.in1.in1 := by
  show X.A.units + 1 + 1 + 8 < cLine
  omega
/-- the value at a key -/
theorem withN_key {pins : List (Addr × Obj)} {σ : L2.St} {H F : Hp} {C : Cells} {s : Shared} {x y : D} {v z : V} {u r : Value} {R : Bool → NestedKey → Option D → Prop} (I : Inv X pins σ H s) (hs : Hs X.K F C H) (hq : q = ⟨X.prog, X.w⟩)
    (rx : Rep X.K F v x) (rv : RelV v u) (ry : Rep X.K F z y) (rz : RelV z r) (h : withN q x C fun b t => match keyB b y with | some k => R b k (vaD t k) | none => False) :
    ∃ a, u = .ref a ∧ (a == sysModules) = false ∧ s.TypeIs (.ref a) "dict" ∧ (∀ b, Value.ref a = .ref b → ∃ ob, s.heap.get? b = some ob ∧ ob.dict = none) ∧ ∃ (b : Bool) (k : NestedKey) (o : Option D), R b k o ∧ ∃ (w : Option Value), ((o = none ∧ w = none) ∨ ∃ d v' u', o = some d ∧ w = some u' ∧ RelV v' u' ∧ Rep X.K F v' d) ∧
      ((∃ c ys, r = .ref c ∧ (nestedKind X.prog X.w).is s.heap k c ∧ s.heap.DictOfH (nestedKind X.prog X.w) a ys ∧ (atKey ys k).map (·.2) = w) ∨ ∃ l : Leaf, ∃ vs, l.key = k ∧ (leafKind X.prog X.w).is l r = true ∧ s.heap.DictOf (leafKind X.prog X.w) a vs ∧ valueAt vs l = w) := by
  obtain ⟨a, rfl, rfl, rfl, sm, ty, nd, h⟩ := withN_dict I hs hq rx rv h
  refine ⟨a, rfl, sm, ty, nd, ?_⟩
  rcases h with ⟨t, ys, h, hl, hd, nv⟩ | ⟨t, vs, h, hl, hd, nv⟩
  · split at h
    · rename_i k hk
      obtain ⟨c, rfl, rfl, hkc, _⟩ := keyB_is I.hok hs.ex ry hk rz
      refine ⟨true, k, _, h, (atKey ys k).map (·.2), ?_, .inl ⟨c, ys, rfl, hkc, hd, rfl⟩⟩
      rcases nv_val nv k with ⟨h1, h2⟩ | ⟨d, p, v', h1, h2, h3, h4⟩
      · exact .inl ⟨h1, by rw [h2]; rfl⟩
      · exact .inr ⟨d, v', p.2, h1, by rw [h2]; rfl, h3, h4⟩
    · exact h.elim
  · split at h
    · rename_i k hk
      obtain ⟨l, rfl, hl2⟩ := keyB_leaf hk
      have hkl : (leafKind X.prog X.w).is l r = true := leaf_is ry hl2 rz
      refine ⟨false, _, _, h, valueAt vs l, ?_, .inr ⟨l, vs, rfl, hkl, hd, rfl⟩⟩
      rcases lv_val nv l with ⟨h1, h2⟩ | ⟨d, u', v', h1, h2, h3, h4⟩
      · exact .inl ⟨h1, h2⟩
      · exact .inr ⟨d, v', u', h1, h2, h3, h4⟩
    · exact h.elim
/-- x[y] -/
theorem ix_N (hu : X.A.units + 64 < cLine) (hq : q = ⟨X.prog, X.w⟩) : IxR X (rdR X.K (dNGet q)) := by
  intro value slice pins s σ H x y v u Q I rx ry ⟨F, C, dx, dy, P, hs, r1, r2, w, k⟩ hsl
  obtain ⟨a, rfl, sm, hT, nd, b, kk, o, hR, w', hw, hkk⟩ := withN_key (R := fun _ _ o => match o with | some d => P d C | none => False) I hs hq r1 rx r2 ry w
  unfold subscriptTail
  refine wpAny_bind ?_
  rw [getitemInPython_of_ne hT.not_modules]
  refine wpAny_bind (wpAny_specialOf hT PySem.F.slot_dict_getitem.lookup ?_)
  have fin : wpAny (model X.prog X.w) X.A (subscripted slice false (.ref a) u) (fun r s₃ => wpAny (model X.prog X.w) X.A (letTemporaryGo value (.ref a) r >>= fun _ => pure r) (EP X pins σ Q) X.xe s₃) X.xe s := by
    rw [hsl]
    refine wpAny_operating (wpAny_mono (Q := EP X pins σ Q) (E := X.xe) ?_ (fun r s₃ h₃ => wpAny_bind (wpAny_letTemporaryGo (wpAny_pure h₃))) fun _ _ x => x)
    rcases hw with ⟨rfl, rfl⟩ | ⟨d, v', u', rfl, rfl, h3, h4⟩
    · exact hR.elim
    · rcases hkk with ⟨c, ys, rfl, hc, hd, hv⟩ | ⟨l, vs, _, hl, hd, hv⟩
      · obtain ⟨p, hp, hp2⟩ := Option.map_eq_some_iff.mp hv
        refine wpAny_getItem_heap (room_N hu) hc hd hp ?_
        rw [hp2]
        exact ⟨v', H, I.tok _, h3, k v' F H d C (Ex.refl F) hs h4 hR⟩
      · exact wpAny_getItem_of hl hd.mapOf hv ⟨v', H, I.tok _, h3, k v' F H d C (Ex.refl F) hs h4 hR⟩
  first
    | exact wpAny_pure (wpAny_bind fin)
    | exact wpAny_bind (wpAny_pure (wpAny_bind fin))
    | exact wpAny_bind fin
/-- y in x, y not in x -/
theorem op_inN (hu : X.A.units + 64 < cLine) (hq : q = ⟨X.prog, X.w⟩) : OpR X (compareOp .In) (rdR X.K (dNIn q false)) := by
  intro pins s σ H y x v u Q I ry rx ⟨F, C, dy, dx, P, hs, r1, r2, w, k⟩
  obtain ⟨a, rfl, sm, hT, nd, b, kk, o, hR, w', hw, hkk⟩ := withN_key (R := fun _ _ o => P (.bl (false ^^ o.isSome)) C) I hs hq r2 rx r1 ry w
  have e : w'.isSome = o.isSome := by rcases hw with ⟨rfl, rfl⟩ | ⟨_, _, _, rfl, rfl, _, _⟩ <;> rfl
  rw [Bool.false_xor] at hR
  rcases hkk with ⟨c, ys, rfl, hc, hd, hv⟩ | ⟨l, vs, _, hl, hd, hv⟩
  · refine wpAny_in_heap (room_N hu) hc sm hd ?_
    have e2 : (atKey ys kk).isSome = o.isSome := by rw [← e, ← hv, Option.isSome_map]
    rw [e2]
    exact ⟨.bl o.isSome, H, I.tok _, rfl, k _ F H _ C (Ex.refl F) hs (.bl _) hR⟩
  · refine wpAny_in_of hl sm hd.mapOf ?_
    rw [hv, e]
    exact ⟨.bl o.isSome, H, I.tok _, rfl, k _ F H _ C (Ex.refl F) hs (.bl _) hR⟩
theorem op_notInN (hu : X.A.units + 64 < cLine) (hq : q = ⟨X.prog, X.w⟩) : OpR X (compareOp .NotIn) (rdR X.K (dNIn q true)) := by
  intro pins s σ H y x v u Q I ry rx ⟨F, C, dy, dx, P, hs, r1, r2, w, k⟩
  obtain ⟨a, rfl, sm, hT, nd, b, kk, o, hR, w', hw, hkk⟩ := withN_key (R := fun _ _ o => P (.bl (true ^^ o.isSome)) C) I hs hq r2 rx r1 ry w
  have e : w'.isSome = o.isSome := by rcases hw with ⟨rfl, rfl⟩ | ⟨_, _, _, rfl, rfl, _, _⟩ <;> rfl
  rw [Bool.true_xor] at hR
  rcases hkk with ⟨c, ys, rfl, hc, hd, hv⟩ | ⟨l, vs, _, hl, hd, hv⟩
  · refine wpAny_notIn_heap (room_N hu) hc sm hd ?_
    have e2 : (atKey ys kk).isSome = o.isSome := by rw [← e, ← hv, Option.isSome_map]
    rw [e2]
    exact ⟨.bl (!o.isSome), H, I.tok _, rfl, k _ F H _ C (Ex.refl F) hs (.bl _) hR⟩
  · refine wpAny_notIn_of hl sm hd.mapOf ?_
    rw [hv, e]
    exact ⟨.bl (!o.isSome), H, I.tok _, rfl, k _ F H _ C (Ex.refl F) hs (.bl _) hR⟩
/-- x.get(y), x.get(y, z) -/
theorem d_nget1 (hu : X.A.units + 64 < cLine) (hq : q = ⟨X.prog, X.w⟩) (ho : PE X o (tE X.K W wo)) (hi : PE X i (tE X.K W wi)) (m : M1 X o "get" apos i pos := by exact ⟨rfl, rfl, rfl, rfl⟩) : PE X (.Call (.Attribute o "get" apos) [i] [] pos) (tE X.K W (wNGet1 q wo wi)) := by
  refine ⟨fun pins s σ H Q I ⟨F, C, ρ, P, PX, hs, en, xr, w, k⟩ => ?_⟩
  refine wpAny_Call_method m.base m.few m.line PySem.F.plainAttrs_dict PySem.F.slot_dict_get PySem.F.type_dict_get (thn (ho.run pins s σ H (fun v H1 => ∃ F1 C1 x, Ex F F1 ∧ Hs X.K F1 C1 H1 ∧ Rep X.K F1 v x ∧ isN q x C1 ∧ wi ρ C1 (fun y C2 => withN q x C2 fun b t => match keyB b y with
    | some k => P ((vaD t k).getD .non) C2
    | none => False) PX) I ⟨F, C, ρ, _, PX, hs, en, xr, w, fun v F1 H1 x C1 e1 h1 rx q => ⟨F1, C1, x, e1, h1, rx, q.1, q.2⟩⟩) fun u s1 ⟨v, H1, I1, rv, F1, C1, x, e1, h1, rx, hn, w1⟩ => ?_)
  obtain ⟨a, _, rfl, _, sm, hT, nd, _⟩ := withN_dict I1 h1 hq rx rv hn
  refine ⟨hT, nd, ?_⟩
  rw [m.trees]
  refine Calls.callWith_builtin rfl (Calls.evalArgs_plain (Calls.spliced_cons (thn (hi.run pins s1 σ H1 (fun z H2 => ∃ F2 C2 y, Ex F1 F2 ∧ Hs X.K F2 C2 H2 ∧ Rep X.K F2 z y ∧ withN q x C2 fun b t => match keyB b y with
    | some k => P ((vaD t k).getD .non) C2
    | none => False) I1 ⟨F1, C1, ρ, _, PX, h1, en.mono e1, xr.mono e1, w1, fun z F2 H2 y C2 e2 h2 ry q2 => ⟨F2, C2, y, e2, h2, ry, q2⟩⟩) fun r s2 ⟨z, H2, I2, rz, F2, C2, y, e2, h2, ry, w2⟩ => Calls.spliced_nil ?_)))
  obtain ⟨a', ea, sm, hT, nd, b, kk, o, hR, w', hw, hkk⟩ := withN_key (R := fun _ _ o => P (o.getD .non) C2) I2 h2 hq (rx.mono e2) rv ry rz w2
  cases ea
  have fin : ∀ (w'' : Option Value), w'' = w' → ∀ s', Inv X pins σ H2 s' → EP X pins σ Q (w''.getD .none) s' := fun w'' ew s' I3 => by
    subst ew
    rcases hw with ⟨rfl, rfl⟩ | ⟨d, v', u', rfl, rfl, h3, h4⟩
    · exact ⟨.non, H2, I3, rfl, k _ F2 H2 _ C2 (e1.trans e2) h2 .non hR⟩
    · exact ⟨v', H2, I3, h3, k v' F2 H2 d C2 (e1.trans e2) h2 h4 hR⟩
  rcases hkk with ⟨c, ys, rfl, hc, hd, hv⟩ | ⟨l, vs, _, hl, hd, hv⟩
  · exact call_meetsIn PySem.F.slot_dict_get hd.typeIs PySem.F.entry_dict_get (PySem.F.args_dict_get_2 _ _) (meetsH_dict_get (nestedKind X.prog X.w) a c sm) ⟨room_N hu, kk, ys, hc, hd, fin _ hv _ (I2.tok _)⟩
  · exact call_meetsIn PySem.F.slot_dict_get hd.typeIs PySem.F.entry_dict_get (PySem.F.args_dict_get_2 _ _) (meets_dict_get (leafKind X.prog X.w) a hl sm) ⟨_, hd.mapOf, fin _ hv _ (I2.tok _)⟩
theorem d_nget2 (hu : X.A.units + 64 < cLine) (hq : q = ⟨X.prog, X.w⟩) (ho : PE X o (tE X.K W wo)) (hi : PE X i (tE X.K W wi)) (he : PE X e (tE X.K W we)) (m : M2 X o "get" apos i e pos := by exact ⟨rfl, rfl, rfl, rfl⟩) : PE X (.Call (.Attribute o "get" apos) [i, e] [] pos) (tE X.K W (wNGet2 q wo wi we)) := by
  refine ⟨fun pins s σ H Q I ⟨F, C, ρ, P, PX, hs, en, xr, w, k⟩ => ?_⟩
  refine wpAny_Call_method m.base m.few m.line PySem.F.plainAttrs_dict PySem.F.slot_dict_get PySem.F.type_dict_get (thn (ho.run pins s σ H (fun v H1 => ∃ F1 C1 x, Ex F F1 ∧ Hs X.K F1 C1 H1 ∧ Rep X.K F1 v x ∧ isN q x C1 ∧ wi ρ C1 (fun y C2 => we ρ C2 (fun z C3 => withN q x C3 fun b t => match keyB b y with
    | some k => P ((vaD t k).getD z) C3
    | none => False) PX) PX) I ⟨F, C, ρ, _, PX, hs, en, xr, w, fun v F1 H1 x C1 e1 h1 rx q => ⟨F1, C1, x, e1, h1, rx, q.1, q.2⟩⟩) fun u s1 ⟨v, H1, I1, rv, F1, C1, x, e1, h1, rx, hn, w1⟩ => ?_)
  obtain ⟨a, _, rfl, _, sm, hT, nd, _⟩ := withN_dict I1 h1 hq rx rv hn
  refine ⟨hT, nd, ?_⟩
  rw [m.trees]
  refine Calls.callWith_builtin rfl (Calls.evalArgs_plain (Calls.spliced_cons (thn (hi.run pins s1 σ H1 (fun z H2 => ∃ F2 C2 y, Ex F1 F2 ∧ Hs X.K F2 C2 H2 ∧ Rep X.K F2 z y ∧ we ρ C2 (fun z C3 => withN q x C3 fun b t => match keyB b y with
    | some k => P ((vaD t k).getD z) C3
    | none => False) PX) I1 ⟨F1, C1, ρ, _, PX, h1, en.mono e1, xr.mono e1, w1, fun z F2 H2 y C2 e2 h2 ry q2 => ⟨F2, C2, y, e2, h2, ry, q2⟩⟩) fun r s2 ⟨z, H2, I2, rz, F2, C2, y, e2, h2, ry, w2⟩ =>
    Calls.spliced_cons (thn (he.run pins s2 σ H2 (fun g H3 => ∃ F3 C3 dg, Ex F2 F3 ∧ Hs X.K F3 C3 H3 ∧ Rep X.K F3 g dg ∧ withN q x C3 fun b t => match keyB b y with
    | some k => P ((vaD t k).getD dg) C3
    | none => False) I2 ⟨F2, C2, ρ, _, PX, h2, en.mono (e1.trans e2), xr.mono (e1.trans e2), w2, fun g F3 H3 dg C3 e3 h3 rg q3 => ⟨F3, C3, dg, e3, h3, rg, q3⟩⟩) fun gr s3 ⟨g, H3, I3, rg, F3, C3, dg, e3, h3, rdg, w3⟩ => Calls.spliced_nil ?_))))
  obtain ⟨a', ea, sm, hT, nd, b, kk, o, hR, w', hw, hkk⟩ := withN_key (R := fun _ _ o => P (o.getD dg) C3) I3 h3 hq (rx.mono (e2.trans e3)) rv (ry.mono e3) rz w3
  cases ea
  have fin : ∀ (w'' : Option Value), w'' = w' → ∀ s', Inv X pins σ H3 s' → EP X pins σ Q (w''.getD gr) s' := fun w'' ew s' I4 => by
    subst ew
    rcases hw with ⟨rfl, rfl⟩ | ⟨d, v', u', rfl, rfl, g3, g4⟩
    · exact ⟨g, H3, I4, rg, k _ F3 H3 _ C3 ((e1.trans e2).trans e3) h3 rdg hR⟩
    · exact ⟨v', H3, I4, g3, k v' F3 H3 d C3 ((e1.trans e2).trans e3) h3 g4 hR⟩
  rcases hkk with ⟨c, ys, rfl, hc, hd, hv⟩ | ⟨l, vs, _, hl, hd, hv⟩
  · exact call_meetsIn PySem.F.slot_dict_get hd.typeIs PySem.F.entry_dict_get (PySem.F.args_dict_get_3 _ _ _) (meetsH_dict_get_default (nestedKind X.prog X.w) a c sm gr) ⟨room_N hu, kk, ys, hc, hd, fin _ hv _ (I3.tok _)⟩
  · exact call_meetsIn PySem.F.slot_dict_get hd.typeIs PySem.F.entry_dict_get (PySem.F.args_dict_get_3 _ _ _) (meets_dict_get_default (leafKind X.prog X.w) a hl sm gr) ⟨_, hd.mapOf, fin _ hv _ (I3.tok _)⟩
end

/-! ### {} -/
def wNewN (q : Pgw) (_ : DEnv) (C : Cells) (P : DK) (_ : DX) : Prop := ∀ p, C p = none → P (.ptr p) (cput C p (.dN q []))
def wNewO (q : Pgw) (_ : DEnv) (C : Cells) (P : DK) (_ : DX) : Prop := ∀ p, C p = none → P (.ptr p) (cput C p (.dO q []))
theorem ndO_ok {P : Program} {w : World} {H : Hp} {h : Heap} {a : Addr} {w0 : World} {xs : List (NestedKey × Addr × V)} (x : NdAt w0 a xs h) : ObjOk P w H h a (ndO w0 a xs) := by
  refine ⟨x, ?_, fun h1 h2 g1 k => ?_⟩
  · obtain ⟨_, _, _, _, o, _, _, ho, _⟩ := x
    exact ⟨o, ho⟩
  · obtain ⟨z, sm, ys, pr, o, es, ep, ho, r⟩ := g1
    exact ⟨z, sm, ys, pr, o, es, ep, k o ho, r⟩
theorem ldO_ok {P : Program} {w : World} {H : Hp} {h : Heap} {a : Addr} {q : Pgw} {xs : List (Leaf × V)} (x : LdAt q a xs h) : ObjOk P w H h a (ldO q a xs) := by
  refine ⟨x, ?_, fun h1 h2 g1 k => ?_⟩
  · obtain ⟨_, _, _, _, o, _, _, ho, _⟩ := x
    exact ⟨o, ho⟩
  · obtain ⟨z, sm, vs, pr, o, es, ep, ho, r⟩ := g1
    exact ⟨z, sm, vs, pr, o, es, ep, k o ho, r⟩
section
variable {X : Cx} {W : WX} {pos : Pos} {q : Pgw}
theorem d_newN : PE X (.Dict [] [] pos) (tE X.K W (wNewN q)) := ⟨fun pins s σ H Q I ⟨F, C, ρ, P, PX, hs, en, xr, w, k⟩ => by
  have hp : H s.heap.objs.size = none := I.hok.fresh (Nat.le_refl _)
  have sm : (s.heap.objs.size == sysModules) = false := beq_eq_false_iff_ne.mpr (Ne.symm (Nat.ne_of_lt I.big))
  refine wpAny_Dict_empty ⟨.ref s.heap.objs.size, _, I.laid (a := s.heap.objs.size) (o := ndO q.w s.heap.objs.size []) (t' := s.toks) (fun _ _ q => Heap.get?_push_of_some _ q) (Nat.le_refl _) (ndO_ok ⟨Nat.zero_le _, sm, [], .nil, _, #[], 0, Heap.get?_push_size _ rfl, ⟨rfl, rfl, rfl⟩, rfl, rfl, List.nodup_nil⟩), rfl, ?_⟩
  exact k _ F _ _ _ (Ex.refl F) (hs.put (c := .dN q []) (hs.fresh hp).1 ⟨[], upd_same, .nil⟩) (.ptr _) (w _ (hs.fresh hp).2)⟩
theorem d_newO : PE X (.Dict [] [] pos) (tE X.K W (wNewO q)) := ⟨fun pins s σ H Q I ⟨F, C, ρ, P, PX, hs, en, xr, w, k⟩ => by
  have hp : H s.heap.objs.size = none := I.hok.fresh (Nat.le_refl _)
  have sm : (s.heap.objs.size == sysModules) = false := beq_eq_false_iff_ne.mpr (Ne.symm (Nat.ne_of_lt I.big))
  refine wpAny_Dict_empty ⟨.ref s.heap.objs.size, _, I.laid (a := s.heap.objs.size) (o := ldO q s.heap.objs.size []) (t' := s.toks) (fun _ _ q => Heap.get?_push_of_some _ q) (Nat.le_refl _) (ldO_ok ⟨Nat.zero_le _, sm, [], .nil, Heap.DictOf.new s.heap⟩), rfl, ?_⟩
  exact k _ F _ _ _ (Ex.refl F) (hs.put (c := .dO q []) (hs.fresh hp).1 ⟨[], upd_same, .nil⟩) (.ptr _) (w _ (hs.fresh hp).2)⟩
end

/-! ### x[y] = z, del x[y] -/
def nPut (q : Pgw) (x y d : D) (C : Cells) (P : Cells → Prop) : Prop := match x with
  | .ptr a => match C a with
    | some (.dN q' t) => q' = q ∧ match keyB true y with
      | some k => t.length < 100000 ∧ P (cput C a (.dN q (puD t k d)))
      | none => False
    | some (.dO q' t) => q' = q ∧ match keyB false y with
      | some k => t.length < 100000 ∧ P (cput C a (.dO q (puD t k d)))
      | none => False
    | _ => False
  | _ => False
def nDel (q : Pgw) (x y : D) (C : Cells) (P : Cells → Prop) : Prop := match x with
  | .ptr a => match C a with
    | some (.dN q' t) => q' = q ∧ match keyB true y with
      | some k => (vaD t k).isSome = true ∧ P (cput C a (.dN q (drD t k)))
      | none => False
    | _ => False
  | _ => False
def wSetN (q : Pgw) (o i e : DE) (E : DEnds) (ρ : DEnv) (C : Cells) : Prop := e ρ C (fun d C1 => o ρ C1 (fun x C2 => i ρ C2 (fun y C3 => nPut q x y d C3 fun C4 => E.nx ρ C4) E.ex) E.ex) E.ex
def wDelN (q : Pgw) (o i : DE) (E : DEnds) (ρ : DEnv) (C : Cells) : Prop := o ρ C (fun x C1 => i ρ C1 (fun y C2 => nDel q x y C2 fun C3 => E.nx ρ C3) E.ex) E.ex
def stoX (xs : List (NestedKey × Addr × V)) (k : NestedKey) (b : Addr) (v : V) : List (NestedKey × Addr × V) := if (xs.any fun x => decide (x.1 = k)) = true then xs.map (fun x => if x.1 = k then (x.1, x.2.1, v) else x) else xs ++ [(k, b, v)]
theorem stoX_len (xs : List (NestedKey × Addr × V)) (k : NestedKey) (b : Addr) (v : V) : (stoX xs k b v).length ≤ xs.length + 1 := by
  unfold stoX
  split
  · rw [List.length_map]; omega
  · rw [List.length_append]; exact Nat.le_refl _
theorem paired_map {α β γ δ : Type} {f : α → β → Prop} {g : γ → δ → Prop} {m : α → γ} {n : β → δ} (h : ∀ a b, f a b → g (m a) (n b)) : ∀ {as : List α} {bs : List β}, Paired f as bs → Paired g (as.map m) (bs.map n)
  | _, _, .nil => .nil
  | _, _, .cons x xs => .cons (h _ _ x) (paired_map h xs)
theorem paired_any {α β : Type} {f : α → β → Prop} {p : α → Bool} {q : β → Bool} (h : ∀ a b, f a b → p a = q b) : ∀ {as : List α} {bs : List β}, Paired f as bs → as.any p = bs.any q
  | _, _, .nil => rfl
  | _, _, .cons x xs => by rw [List.any_cons, List.any_cons, h _ _ x, paired_any h xs]
theorem paired_filter {α β : Type} {f : α → β → Prop} {p : α → Bool} {q : β → Bool} (h : ∀ a b, f a b → p a = q b) : ∀ {as : List α} {bs : List β}, Paired f as bs → Paired f (as.filter p) (bs.filter q)
  | _, _, .nil => .nil
  | _, _, .cons (a := a) (b := b) x xs => by
    rw [List.filter_cons, List.filter_cons, ← h _ _ x]
    cases p a with
    | true => exact .cons x (paired_filter h xs)
    | false => exact paired_filter h xs
theorem paired_snoc {α β : Type} {f : α → β → Prop} {a : α} {b : β} (x : f a b) : ∀ {as : List α} {bs : List β}, Paired f as bs → Paired f (as ++ [a]) (bs ++ [b])
  | _, _, .nil => .cons x .nil
  | _, _, .cons y ys => .cons y (paired_snoc x ys)
theorem sto_ys {xs : List (NestedKey × Addr × V)} {ys : List (NestedKey × Addr × Value)} (r : Paired (fun (x : NestedKey × Addr × V) (y : NestedKey × Addr × Value) => x.1 = y.1 ∧ x.2.1 = y.2.1 ∧ RelV x.2.2 y.2.2) xs ys) (k : NestedKey) (b : Addr) {v : V} {u : Value} (rv : RelV v u) :
    Paired (fun (x : NestedKey × Addr × V) (y : NestedKey × Addr × Value) => x.1 = y.1 ∧ x.2.1 = y.2.1 ∧ RelV x.2.2 y.2.2) (stoX xs k b v) (storedH ys k b u) := by
  have ha : (xs.any fun x => decide (x.1 = k)) = (atKey ys k).isSome := by
    rw [paired_any (q := fun y => decide (y.1 = k)) (fun x y z => by rw [z.1]) r, ← any_pairsH]
    unfold pairsH
    rw [List.any_map]
    rfl
  unfold stoX storedH
  rw [ha]
  by_cases g : (atKey ys k).isSome = true
  · rw [if_pos g, if_pos g]
    refine paired_map (fun x y z => ?_) r
    unfold putAt
    by_cases e : x.1 = k
    · rw [if_pos e, if_pos (z.1.symm.trans e)]
      exact ⟨z.1, z.2.1, rv⟩
    · rw [if_neg e, if_neg (fun w => e (z.1.trans w))]
      exact z
  · rw [if_neg g, if_neg g]
    exact paired_snoc ⟨rfl, rfl, rv⟩ r
theorem sto_t {K : PySem.W.Frag} {F : Hp} {xs : List (NestedKey × Addr × V)} {t : List (NestedKey × D)} (r : NdR K F xs t) {k : NestedKey} {b : Addr} {v : V} {d : D} (hk : k.depth ≤ 8) (hb : Rep K F (.ref b) (nkD k)) (rv : Rep K F v d) : NdR K F (stoX xs k b v) (puD t k d) := by
  have ha : (xs.any fun x => decide (x.1 = k)) = t.any fun p => decide (p.1 = k) := paired_any (fun x p z => by rw [z.1]) r
  unfold stoX puD
  rw [ha]
  by_cases g : (t.any fun p => decide (p.1 = k)) = true
  · rw [if_pos g, if_pos g]
    refine paired_map (fun x p z => ?_) r
    by_cases e : x.1 = k
    · rw [if_pos e, if_pos (z.1.symm.trans e)]
      exact ⟨z.1, z.2.1, z.2.2.1, rv⟩
    · rw [if_neg e, if_neg (fun w => e (z.1.trans w))]
      exact z
  · rw [if_neg g, if_neg g]
    exact paired_snoc ⟨rfl, hk, hb, rv⟩ r
section
variable {X : Cx} {W : WX} {K : PySem.W.Frag} {o i e : Expr} {wo wi we : DE} {pos pos' tpos : Pos} {q : Pgw}
variable {pins : List (Addr × Obj)} {σ : L2.St} {H F : Hp} {C : Cells} {s : Shared}
theorem nPut_go {x y d : D} {v z g : V} {u r gr : Value} {P : Cells → Prop} {Q : Unit → Shared → Prop} {E : Value → Shared → Prop} (hu : X.A.units + 64 < cLine) (hq : q = ⟨X.prog, X.w⟩) (I : Inv X pins σ H s) (hs : Hs X.K F C H)
    (rx : Rep X.K F v x) (rv : RelV v u) (ry : Rep X.K F z y) (rz : RelV z r) (rd : Rep X.K F g d) (rg : RelV g gr) (h : nPut q x y d C P)
    (fin : ∀ H' C' s', Inv X pins σ H' s' → Hs X.K F C' H' → P C' → Q () s') : wpAny (model X.prog X.w) X.A (setItem u r gr) Q E s := by
  unfold nPut at h
  split at h
  · rename_i a
    cases rx
    obtain rfl : u = .ref a := rv
    split at h
    · rename_i q' t hc
      obtain ⟨rfl, h⟩ := h
      split at h
      · rename_i k hk
        obtain ⟨f0, xs, h1, h2⟩ := hs.cell a _ hc
        obtain ⟨c, rfl, rfl, hkc, rcd⟩ := keyB_is I.hok hs.ex ry hk rz
        obtain ⟨z, sm, ys, pr, ob, es, ep, ho, hx, hd, he, hn⟩ := (show ObjOk X.prog X.w H s.heap a (ndO q'.w a xs) from I.hok a _ h1).1
        obtain ⟨_, _, ys2, hdo, _⟩ := nd_open ⟨z, sm, ys, pr, ob, es, ep, ho, hx, hd, he, hn⟩ h2 (by rw [hq]) hs I.hok
        have hdo : s.heap.DictOfH (nestedKind X.prog X.w) a ys := by
          have hw : q'.w = X.w := by rw [hq]
          refine ⟨ob, es, ep, ho, hx, hd, by rw [he, hw]; rfl, fun y hy => ?_, hn⟩
          have nv : NdV X.K F t ys := paired_comp (fun x p y (h1 : x.1 = p.1 ∧ p.1.depth ≤ 8 ∧ Rep X.K F (.ref x.2.1) (nkD p.1) ∧ Rep X.K F x.2.2 p.2) (h2 : x.1 = y.1 ∧ x.2.1 = y.2.1 ∧ RelV x.2.2 y.2.2) =>
            ⟨h1.1.symm.trans h2.1, h1.2.1, by rw [← h2.2.1]; exact h1.2.2.1, x.2.2, h2.2.2, h1.2.2.2⟩) h2 pr
          refine paired_right (p := fun y => (nestedKind X.prog X.w).is s.heap y.1 y.2.1) (fun p y hz => ?_) nv y hy
          obtain ⟨g1, g2, g3, _⟩ := hz
          have := keyN_is I.hok hs.ex 8 g3 (nkD_keyN p.1 8 g2) (u := .ref y.2.1) rfl
          rw [g1] at this
          exact this
        have l1 : xs.length = t.length := Paired.length h2
        have l2 : xs.length = ys.length := Paired.length pr
        have l3 := sz_lt h.1
        refine wpAny_setItem_heap (hsz := by omega) (room_N hu) hkc hdo fun h' hd' hsb => ?_
        obtain ⟨ob', es', ep', ho', hx', hdd', he', _, hn'⟩ := hd'
        have hnd : NdAt q'.w a (stoX xs k c g) h' := by
          refine ⟨by have := stoX_len xs k c g; omega, sm, _, sto_ys pr k c rg, ob', es', ep', ho', hx', hdd', ?_, hn'⟩
          rw [he', show q'.w = X.w by rw [hq]]
          rfl
        have I2 := d_write (t' := s.toks + (nestedKind X.prog X.w).draws k) I (by rw [h1]; exact True.intro) hsb ⟨ob', ho'⟩ (ndO_ok (P := X.prog) (w := X.w) (H := upd H a (ndO q'.w a (stoX xs k c g))) hnd)
        refine fin _ _ _ I2 (hs.put (c := .dN q' (puD t k d)) f0 ⟨_, upd_same, sto_t h2 hkc.2 ?_ rd⟩) h.2
        rw [← keyB_nkD hk]
        exact rcd
      · exact h.elim
    · rename_i q' t hc
      obtain ⟨rfl, h⟩ := h
      split at h
      · rename_i k hk
        obtain ⟨f0, xs, h1, h2⟩ := hs.cell a _ hc
        obtain ⟨l, rfl, hl2⟩ := keyB_leaf hk
        obtain ⟨z, sm, vs, pr, hd⟩ := (show ObjOk X.prog X.w H s.heap a (ldO q' a xs) from I.hok a _ h1).1
        have l1 : xs.length = t.length := Paired.length h2
        have l2 : xs.length = vs.length := Paired.length pr
        have l3 := sz_lt h.1
        have hkl : (leafKind X.prog X.w).is l r = true := leaf_is ry hl2 rz
        have hd2 : s.heap.DictOf (leafKind X.prog X.w) a vs := by rw [hq] at hd; exact hd
        refine wpAny_setItem_pairs (hsz := by omega) hkl hd2 fun h' hd' hsb => ?_
        obtain ⟨ob', es', ep', ho', r'⟩ := id hd'
        have hnd : LdAt q' a (putK xs l g) h' := ⟨by have := length_putK xs l g; omega, sm, _, KV.put pr l rg, by rw [hq]; exact hd'⟩
        have I2 := d_write (t' := s.toks + 1) I (by rw [h1]; exact True.intro) hsb ⟨ob', ho'⟩ (ldO_ok (P := X.prog) (w := X.w) (H := upd H a (ldO q' a (putK xs l g))) hnd)
        refine fin _ _ _ I2 (hs.put (c := .dO q' (puD t l.key d)) f0 ⟨_, upd_same, ?_⟩) h.2
        have ha : (xs.any fun x => decide (x.1 = l)) = t.any fun p => decide (p.1 = l.key) := paired_any (fun x p z => by
          rw [← z.1]
          exact decide_eq_decide.mpr ⟨fun e => by rw [e], fun e => Leaf.key_inj e⟩) h2
        unfold putK puD
        rw [ha]
        by_cases gg : (t.any fun p => decide (p.1 = l.key)) = true
        · rw [if_pos gg, if_pos gg]
          refine paired_map (fun x p z => ?_) h2
          by_cases e : x.1 = l
          · rw [if_pos e, if_pos (by rw [← z.1, e])]
            exact ⟨z.1, rd⟩
          · rw [if_neg e, if_neg (fun w => e (Leaf.key_inj (z.1.trans w)))]
            exact z
        · rw [if_neg gg, if_neg gg]
          exact paired_snoc ⟨rfl, rd⟩ h2
      · exact h.elim
    · exact h.elim
  · exact h.elim
theorem ds_setN (hu : X.A.units + 64 < cLine) (hq : q = ⟨X.prog, X.w⟩) (ho : PE X o (tE X.K W wo)) (hi : PE X i (tE X.K W wi)) (he : PE X e (tE X.K W we)) (hsw : swapsWith e (some (.Subscript o i pos')) pos.line X.env = pure false := by rfl) :
    PS X (.Assign [.Subscript o i pos'] e pos) (tS X.K W (wSetN q wo wi we)) := by
  refine ⟨fun pins s σ H Dn I ⟨F, C, ρ, DE, hs, en, xr, w, er⟩ => ?_⟩
  refine wpAny_Assign_Subscript (thn (he.run pins s σ H (fun g H1 => ∃ F1 C1 d, Ex F F1 ∧ Hs X.K F1 C1 H1 ∧ Rep X.K F1 g d ∧ wo ρ C1 (fun x C2 => wi ρ C2 (fun y C3 => nPut q x y d C3 fun C4 => DE.nx ρ C4) DE.ex) DE.ex) I
    ⟨F, C, ρ, _, _, hs, en, xr, w, fun g F1 H1 d C1 e1 h1 rd q => ⟨F1, C1, d, e1, h1, rd, q⟩⟩) fun gr s1 ⟨g, H1, I1, rg, F1, C1, d, e1, h1, rd, w1⟩ =>
    thn (ho.run pins s1 σ H1 (fun v H2 => ∃ F2 C2 x, Ex F1 F2 ∧ Hs X.K F2 C2 H2 ∧ Rep X.K F2 v x ∧ wi ρ C2 (fun y C3 => nPut q x y d C3 fun C4 => DE.nx ρ C4) DE.ex) I1
    ⟨F1, C1, ρ, _, _, h1, en.mono e1, xr.mono e1, w1, fun v F2 H2 x C2 e2 h2 rx q => ⟨F2, C2, x, e2, h2, rx, q⟩⟩) fun u s2 ⟨v, H2, I2, rv, F2, C2, x, e2, h2, rx, w2⟩ =>
    thn (hi.run pins s2 σ H2 (fun z H3 => ∃ F3 C3 y, Ex F2 F3 ∧ Hs X.K F3 C3 H3 ∧ Rep X.K F3 z y ∧ nPut q x y d C3 fun C4 => DE.nx ρ C4) I2
    ⟨F2, C2, ρ, _, _, h2, en.mono (e1.trans e2), xr.mono (e1.trans e2), w2, fun z F3 H3 y C3 e3 h3 ry q => ⟨F3, C3, y, e3, h3, ry, q⟩⟩) fun r s3 ⟨z, H3, I3, rz, F3, C3, y, e3, h3, ry, w3⟩ => ?_) hsw
  have ee := (e1.trans e2).trans e3
  exact nPut_go hu hq I3 h3 (rx.mono e3) rv ry rz (rd.mono (e2.trans e3)) rg w3 fun H' C' s' I' h' p => ⟨σ, H', I', er.nx σ F3 H' ρ C' ee h' (en.mono ee) p⟩
theorem nDel_go {x y : D} {v z : V} {u r : Value} {P : Cells → Prop} {Q : Unit → Shared → Prop} {E : Value → Shared → Prop} (hu : X.A.units + 64 < cLine) (hq : q = ⟨X.prog, X.w⟩) (I : Inv X pins σ H s) (hs : Hs X.K F C H)
    (rx : Rep X.K F v x) (rv : RelV v u) (ry : Rep X.K F z y) (rz : RelV z r) (h : nDel q x y C P)
    (fin : ∀ H' C' s', Inv X pins σ H' s' → Hs X.K F C' H' → P C' → Q () s') : wpAny (model X.prog X.w) X.A (delItem u r) Q E s := by
  unfold nDel at h
  split at h
  · rename_i a
    cases rx
    obtain rfl : u = .ref a := rv
    split at h
    · rename_i q' t hc
      obtain ⟨rfl, h⟩ := h
      split at h
      · rename_i k hk
        obtain ⟨f0, xs, h1, h2⟩ := hs.cell a _ hc
        obtain ⟨c, rfl, rfl, hkc, rcd⟩ := keyB_is I.hok hs.ex ry hk rz
        obtain ⟨z, sm, ys, pr, ob, es, ep, ho, hx, hd, he, hn⟩ := (show ObjOk X.prog X.w H s.heap a (ndO q'.w a xs) from I.hok a _ h1).1
        have hw : q'.w = X.w := by rw [hq]
        have nv : NdV X.K F t ys := paired_comp (fun x p y (h1 : x.1 = p.1 ∧ p.1.depth ≤ 8 ∧ Rep X.K F (.ref x.2.1) (nkD p.1) ∧ Rep X.K F x.2.2 p.2) (h2 : x.1 = y.1 ∧ x.2.1 = y.2.1 ∧ RelV x.2.2 y.2.2) =>
          ⟨h1.1.symm.trans h2.1, h1.2.1, by rw [← h2.2.1]; exact h1.2.2.1, x.2.2, h2.2.2, h1.2.2.2⟩) h2 pr
        have hdo : s.heap.DictOfH (nestedKind X.prog X.w) a ys := by
          refine ⟨ob, es, ep, ho, hx, hd, by rw [he, hw]; rfl, fun y hy => ?_, hn⟩
          refine paired_right (p := fun y => (nestedKind X.prog X.w).is s.heap y.1 y.2.1) (fun p y hz => ?_) nv y hy
          obtain ⟨g1, g2, g3, _⟩ := hz
          have := keyN_is I.hok hs.ex 8 g3 (nkD_keyN p.1 8 g2) (u := .ref y.2.1) rfl
          rw [g1] at this
          exact this
        have l2 : xs.length = ys.length := Paired.length pr
        obtain ⟨p, hp⟩ : ∃ p, atKey ys k = some p := by
          rcases nv_val nv k with ⟨g1, _⟩ | ⟨_, p, _, _, g2, _⟩
          · have := h.1
            rw [g1] at this
            cases this
          · exact ⟨p, g2⟩
        refine wpAny_delItem_heap (hsz := by omega) (room_N hu) hkc sm hdo hp fun h' hd' hsb => ?_
        obtain ⟨ob', es', ep', ho', hx', hdd', he', _, hn'⟩ := hd'
        have hnd : NdAt q'.w a (xs.filter fun x => decide (x.1 ≠ k)) h' := by
          refine ⟨by have := List.length_filter_le (fun x : NestedKey × Addr × V => decide (x.1 ≠ k)) xs; omega, sm, _, paired_filter (p := fun x : NestedKey × Addr × V => decide (x.1 ≠ k)) (q := fun y : NestedKey × Addr × Value => decide (y.1 ≠ k)) (fun x y z => by rw [z.1]) pr, ob', es', ep', ho', hx', hdd', ?_, hn'⟩
          rw [he', hw]
          rfl
        have I2 := d_write (t' := s.toks + (nestedKind X.prog X.w).draws k) I (by rw [h1]; exact True.intro) hsb ⟨ob', ho'⟩ (ndO_ok (P := X.prog) (w := X.w) (H := upd H a (ndO q'.w a (xs.filter fun x => decide (x.1 ≠ k)))) hnd)
        exact fin _ _ _ I2 (hs.put (c := .dN q' (drD t k)) f0 ⟨_, upd_same, paired_filter (fun x p z => by rw [z.1]) h2⟩) h.2
      · exact h.elim
    · exact h.elim
  · exact h.elim
theorem ds_delN (hu : X.A.units + 64 < cLine) (hq : q = ⟨X.prog, X.w⟩) (ho : PE X o (tE X.K W wo)) (hi : PE X i (tE X.K W wi)) : PS X (.Delete [.Subscript o i tpos] pos) (tS X.K W (wDelN q wo wi)) := by
  refine ⟨fun pins s σ H Dn I ⟨F, C, ρ, DE, hs, en, xr, w, er⟩ => ?_⟩
  refine wpAny_Delete (wpAny_deleteEach_cons (wpAny_delete_Subscript (thn (ho.run pins s σ H (fun v H2 => ∃ F2 C2 x, Ex F F2 ∧ Hs X.K F2 C2 H2 ∧ Rep X.K F2 v x ∧ wi ρ C2 (fun y C3 => nDel q x y C3 fun C4 => DE.nx ρ C4) DE.ex) I
    ⟨F, C, ρ, _, _, hs, en, xr, w, fun v F2 H2 x C2 e2 h2 rx q => ⟨F2, C2, x, e2, h2, rx, q⟩⟩) fun u s2 ⟨v, H2, I2, rv, F2, C2, x, e2, h2, rx, w2⟩ =>
    thn (hi.run pins s2 σ H2 (fun z H3 => ∃ F3 C3 y, Ex F2 F3 ∧ Hs X.K F3 C3 H3 ∧ Rep X.K F3 z y ∧ nDel q x y C3 fun C4 => DE.nx ρ C4) I2
    ⟨F2, C2, ρ, _, _, h2, en.mono e2, xr.mono e2, w2, fun z F3 H3 y C3 e3 h3 ry q => ⟨F3, C3, y, e3, h3, ry, q⟩⟩) fun r s3 ⟨z, H3, I3, rz, F3, C3, y, e3, h3, ry, w3⟩ => ?_)))
  have ee := e2.trans e3
  exact nDel_go hu hq I3 h3 (rx.mono e3) rv ry rz w3 fun H' C' s' I' h' p => wpAny_deleteEach_nil ⟨σ, H', I', er.nx σ F3 H' ρ C' ee h' (en.mono ee) p⟩
end
end DD

set_option Elab.async false
set_option linter.all false
set_option maxRecDepth 100000
set_option maxHeartbeats 4000000
/-! Walks over the keys of such dicts; sorted(..) and len(..) of them. -/
namespace DD
open PySem L2 PySem.Spec PyProof.Rows PySem.W

theorem keyB_T (ds : List D) : keyB true (.tup ds) = (keysNf (keyN 7) ds).map .tup := rfl
theorem keyB_0 : keyB false .non = some .none := rfl
theorem keyB_S (x : Str) : keyB false (.str x) = some (.text x) := rfl
theorem keyB_I (i : Int) : keyB false (.int i) = some (.num i) := rfl
section
variable {X : Cx} {pins : List (Addr × Obj)} {σ : L2.St} {H : Hp} {s : Shared} {d : Addr} {o : Obj}
theorem frzN {w : World} {xs : List (NestedKey × Addr × V)} (I : Inv X pins σ H s) (h : H d = some (.frz o (ndO w d xs))) :
    (d == sysModules) = false ∧ s.heap.get? d = some o ∧ o.ExactDict ∧ xs.length ≤ sizeLine ∧ ∃ (es : Array DictEntry) (ep : Nat), o.data = .dict es ep ∧ es.size = xs.length ∧
      ∀ (i : Nat) (k : NestedKey) (b : Addr) (v : V), xs[i]? = some (k, b, v) → ∃ en, es[i]? = some en ∧ en.key = .ref b := by
  obtain ⟨hd, h2⟩ := (show ObjOk X.prog X.w H s.heap d (.frz o (ndO w d xs)) from I.hok d _ h)
  obtain ⟨z, sm, ys, pr, ob, es, ep, ho, hx, hdt, he, hn⟩ := (show ObjOk X.prog X.w H s.heap d (ndO w d xs) from h2).1
  rw [hd] at ho
  cases ho
  have l1 : es.size = ys.length := by rw [← Array.length_toList, he, List.length_map]
  refine ⟨sm, hd, hx, z, es, ep, hdt, by rw [l1, Paired.length pr], fun i k b v e => ?_⟩
  obtain ⟨y, hy, e1, e2, _⟩ := paired_get pr e
  refine ⟨ndEnt w y, by rw [← Array.getElem?_toList, he, List.getElem?_map, hy]; rfl, ?_⟩
  show Value.ref y.2.1 = .ref b
  rw [← e2]
theorem frzO {q : Pgw} {xs : List (Leaf × V)} (I : Inv X pins σ H s) (h : H d = some (.frz o (ldO q d xs))) :
    (d == sysModules) = false ∧ s.heap.get? d = some o ∧ o.ExactDict ∧ xs.length ≤ sizeLine ∧ ∃ (es : Array DictEntry) (ep : Nat), o.data = .dict es ep ∧ es.size = xs.length ∧
      ∀ (i : Nat) (k : Leaf) (v : V), xs[i]? = some (k, v) → ∃ en, es[i]? = some en ∧ Leaf.isOf k en.key = true := by
  obtain ⟨hd, h2⟩ := (show ObjOk X.prog X.w H s.heap d (.frz o (ldO q d xs)) from I.hok d _ h)
  obtain ⟨z, sm, vs, pr, ob, es, ep, ho, hx, hdt, hk, hp, hn⟩ := (show ObjOk X.prog X.w H s.heap d (ldO q d xs) from h2).1
  rw [hd] at ho
  cases ho
  have l1 : es.size = vs.length := by rw [← Array.length_toList]; exact hp.length
  refine ⟨sm, hd, hx, z, es, ep, hdt, by rw [l1]; exact (Paired.length pr).symm, fun i k v e => ?_⟩
  obtain ⟨y, hy, e1, e2⟩ := paired_get pr e
  have hi : i < es.size := by
    rw [l1]
    exact (List.getElem?_eq_some_iff.mp hy).1
  obtain ⟨y1, y2⟩ := y
  have hen : es.toList[i]? = some es[i] := by rw [Array.getElem?_toList]; exact Array.getElem?_eq_getElem hi
  have := hp.get? hen hy
  refine ⟨es[i], Array.getElem?_eq_getElem hi, ?_⟩
  have e1' : k = y1 := e1
  rw [e1']
  exact this.1
end
/-- the keys of a locked dict, in their order -/
def Itn (w : World) (d : Addr) (o : Obj) (xs : List (NestedKey × Addr × V)) : It :=
  ⟨fun i H => H d = some (.frz o (ndO w d xs)) ∧ i < xs.length, fun i H x H' => H' = H ∧ ∃ k b v, xs[i]? = some (k, b, v) ∧ x = .ref b, fun i H => H d = some (.frz o (ndO w d xs)) ∧ xs.length ≤ i⟩
/-- None and texts -/
def lfV : Leaf → V
  | .none => .non
  | .num i => .int i
  | .text x => .str x
def noNum : Leaf → Bool
  | .num _ => false
  | _ => true
def Itz (q : Pgw) (d : Addr) (o : Obj) (xs : List (Leaf × V)) : It :=
  ⟨fun i H => H d = some (.frz o (ldO q d xs)) ∧ i < xs.length ∧ (xs.all fun x => noNum x.1) = true, fun i H x H' => H' = H ∧ ∃ k v, xs[i]? = some (k, v) ∧ x = lfV k, fun i H => H d = some (.frz o (ldO q d xs)) ∧ xs.length ≤ i⟩
theorem lf_rel {k : Leaf} {u : Value} (h : Leaf.isOf k u = true) (n : noNum k = true) : RelV (lfV k) u := by
  cases k with
  | none => cases u <;> first | rfl | cases h
  | num i => cases n
  | text x =>
    obtain ⟨t, rfl⟩ := Value.isStrOf_shape (show Value.isStrOf x u = true from h)
    exact ⟨t, rfl⟩
section
variable {P : Program} {w : World} {K : PySem.W.Frag} {tg : Expr} {d : Addr} {o : Obj} {es : Array DictEntry} {ep : Nat}
theorem turn_keysN {w0 : World} {xs : List (NestedKey × Addr × V)} (it : Addr) (hod : o.data = .dict es ep) : Turn P w K tg (Itn w0 d o xs) [it] it (fun i h => h.IsKeyIter it d i xs.length ep) where
  mem := by simp
  obj := fun i h st b hb => by
    have e : b = it := by simpa using hb
    subst e
    obtain ⟨oi, e, c, dd⟩ := st
    exact ⟨oi, e, fun v z => by rw [dd] at z; cases z⟩
  keep := fun i h h' st k => st.at fun oi e => k it (by simp) oi e
  item := by
    intro X hP hw hK hc i pins s σ H E I hf st hg
    subst hP hw hK
    obtain ⟨hd, hi⟩ := hg
    obtain ⟨f0, f1, f2, f3, f4, f5⟩ := hf it (by simp)
    obtain ⟨hs, hgd, hx, _, es', ep', hdt, hsz, ent⟩ := frzN I hd
    obtain ⟨rfl, rfl⟩ := dict_ep hod hdt
    obtain ⟨⟨k, b, v⟩, hkv⟩ : ∃ p, xs[i]? = some p := ⟨xs[i], List.getElem?_eq_getElem hi⟩
    obtain ⟨en, hen, hkey⟩ := ent i k b v hkv
    refine next_key_item st hgd hdt hsz hen fun h' st' sb => ?_
    have I1 : Inv X pins σ H { s with heap := h' } := I.turned (t' := s.toks) (fun b ob hb e => (sb.2 b hb).trans e) f0 f1 f3 f4 f5
    obtain ⟨oi, e, c, dd⟩ := id st'
    exact ⟨en.key, rfl, go_of (s := { s with heap := h' }) e c dd (by decide) ⟨.ref b, H, I1, hkey, ⟨rfl, k, b, v, hkv, rfl⟩, st', fun b hb => (hf b hb).1⟩⟩
  done := by
    intro X hP hw hK hc i pins s σ H E I hf st hg
    subst hP hw hK
    obtain ⟨hd, hi⟩ := hg
    obtain ⟨f0, f1, f2, f3, f4, f5⟩ := hf it (by simp)
    obtain ⟨hs, hgd, hx, _, es', ep', hdt, hsz, ent⟩ := frzN I hd
    obtain ⟨rfl, rfl⟩ := dict_ep hod hdt
    exact next_key_end (I.ok.hd hc) st hgd hdt hsz hi fun h' eb => ⟨rfl, I.turned (t' := s.toks) (fun b ob hb e => eb b ob hb e) f0 f1 f3 f4 f5⟩
  self := fun A i s Q E st h => by
    refine wpAny_pyIter_slot st.typeIs F.slot_dict_keyiterator_iter (wpAny_call_entry F.slot_dict_keyiterator_iter st.typeIs F.entry_dict_keyiterator_iter ?_ (F.args_dict_keyiterator_iter_1 _))
    show wpAny _ _ (ret (.ref it)) _ _ s
    exact wpAny_pure ⟨_, rfl, "dict_keyiterator", _, st.typeIs, F.slot_dict_keyiterator_next.lookup, h⟩
theorem turn_keysO {q : Pgw} {xs : List (Leaf × V)} (it : Addr) (hod : o.data = .dict es ep) : Turn P w K tg (Itz q d o xs) [it] it (fun i h => h.IsKeyIter it d i xs.length ep) where
  mem := by simp
  obj := fun i h st b hb => by
    have e : b = it := by simpa using hb
    subst e
    obtain ⟨oi, e, c, dd⟩ := st
    exact ⟨oi, e, fun v z => by rw [dd] at z; cases z⟩
  keep := fun i h h' st k => st.at fun oi e => k it (by simp) oi e
  item := by
    intro X hP hw hK hc i pins s σ H E I hf st hg
    subst hP hw hK
    obtain ⟨hd, hi, hnn⟩ := hg
    obtain ⟨f0, f1, f2, f3, f4, f5⟩ := hf it (by simp)
    obtain ⟨hs, hgd, hx, _, es', ep', hdt, hsz, ent⟩ := frzO I hd
    obtain ⟨rfl, rfl⟩ := dict_ep hod hdt
    obtain ⟨⟨k, v⟩, hkv⟩ : ∃ p, xs[i]? = some p := ⟨xs[i], List.getElem?_eq_getElem hi⟩
    obtain ⟨en, hen, hkey⟩ := ent i k v hkv
    have hnk : noNum k = true := List.all_eq_true.mp hnn _ (List.mem_of_getElem? hkv)
    refine next_key_item st hgd hdt hsz hen fun h' st' sb => ?_
    have I1 : Inv X pins σ H { s with heap := h' } := I.turned (t' := s.toks) (fun b ob hb e => (sb.2 b hb).trans e) f0 f1 f3 f4 f5
    obtain ⟨oi, e, c, dd⟩ := id st'
    exact ⟨en.key, rfl, go_of (s := { s with heap := h' }) e c dd (by decide) ⟨lfV k, H, I1, lf_rel hkey hnk, ⟨rfl, k, v, hkv, rfl⟩, st', fun b hb => (hf b hb).1⟩⟩
  done := by
    intro X hP hw hK hc i pins s σ H E I hf st hg
    subst hP hw hK
    obtain ⟨hd, hi⟩ := hg
    obtain ⟨f0, f1, f2, f3, f4, f5⟩ := hf it (by simp)
    obtain ⟨hs, hgd, hx, _, es', ep', hdt, hsz, ent⟩ := frzO I hd
    obtain ⟨rfl, rfl⟩ := dict_ep hod hdt
    exact next_key_end (I.ok.hd hc) st hgd hdt hsz hi fun h' eb => ⟨rfl, I.turned (t' := s.toks) (fun b ob hb e => eb b ob hb e) f0 f1 f3 f4 f5⟩
  self := fun A i s Q E st h => by
    refine wpAny_pyIter_slot st.typeIs F.slot_dict_keyiterator_iter (wpAny_call_entry F.slot_dict_keyiterator_iter st.typeIs F.entry_dict_keyiterator_iter ?_ (F.args_dict_keyiterator_iter_1 _))
    show wpAny _ _ (ret (.ref it)) _ _ s
    exact wpAny_pure ⟨_, rfl, "dict_keyiterator", _, st.typeIs, F.slot_dict_keyiterator_next.lookup, h⟩
end
/-- no number among the keys -/
def noNumK : NestedKey → Bool
  | .num _ => false
  | _ => true
def wItN (e : DE) (ρ : DEnv) (C : Cells) (P : DIt → Cells → Prop) (PX : DX) : Prop := e ρ C (fun d C1 => match d with
  | .ptr a => match C1 a with
    | some (.lN q t od xs) => P ⟨t.map fun p => nkD p.1, fun C' => C' a = some (.lN q t od xs)⟩ C1
    | some (.lO q t od xs) => (t.all fun p => noNumK p.1) = true ∧ P ⟨t.map fun p => nkD p.1, fun C' => C' a = some (.lO q t od xs)⟩ C1
    | _ => False
  | _ => False) PX
section
variable {K : PySem.W.Frag} {F : Hp} {a : Addr} {od : Obj}
theorem itr_N {q : Pgw} {t : List (NestedKey × D)} {xs : List (NestedKey × Addr × V)} : ItR K F (Itn q.w a od xs) ⟨t.map fun p => nkD p.1, fun C' => C' a = some (.lN q t od xs)⟩ := fun F' H C e hs hc => by
  obtain ⟨_, h1, h2⟩ := hs.cell a _ hc
  have l1 : xs.length = t.length := Paired.length h2
  refine ⟨fun i d hd => ?_, h1, by rw [List.length_map]; omega⟩
  rw [List.getElem?_map] at hd
  cases ht : t[i]? with
  | none => rw [ht] at hd; cases hd
  | some p =>
    rw [ht] at hd
    cases hd
    have hit := (List.getElem?_eq_some_iff.mp ht).1
    refine ⟨⟨h1, by omega⟩, fun x H' y => ?_⟩
    obtain ⟨rfl, k, b, v, hx, rfl⟩ := y
    obtain ⟨p', hp', e1, e2, e3, _⟩ := paired_get h2 hx
    rw [ht] at hp'
    cases hp'
    exact ⟨F', Ex.refl _, hs, e3⟩
theorem itr_O {q : Pgw} {t : List (NestedKey × D)} {xs : List (Leaf × V)} (hn : (t.all fun p => noNumK p.1) = true) : ItR K F (Itz q a od xs) ⟨t.map fun p => nkD p.1, fun C' => C' a = some (.lO q t od xs)⟩ := fun F' H C e hs hc => by
  obtain ⟨_, h1, h2⟩ := hs.cell a _ hc
  have l1 : xs.length = t.length := Paired.length h2
  have hn2 : (xs.all fun x => noNum x.1) = true := by
    rw [List.all_eq_true] at hn ⊢
    intro x hx
    obtain ⟨i, hi⟩ := List.getElem?_of_mem hx
    obtain ⟨p, hp, e1, _⟩ := paired_get h2 hi
    have := hn p (List.mem_of_getElem? hp)
    rw [← e1] at this
    cases hk : x.1 with
    | num j => rw [hk] at this; cases this
    | none => rfl
    | text z => rfl
  refine ⟨fun i d hd => ?_, h1, by rw [List.length_map]; omega⟩
  rw [List.getElem?_map] at hd
  cases ht : t[i]? with
  | none => rw [ht] at hd; cases hd
  | some p =>
    rw [ht] at hd
    cases hd
    have hit := (List.getElem?_eq_some_iff.mp ht).1
    refine ⟨⟨h1, by omega, hn2⟩, fun x H' y => ?_⟩
    obtain ⟨rfl, k, v, hx, rfl⟩ := y
    obtain ⟨p', hp', e1, _⟩ := paired_get h2 hx
    rw [ht] at hp'
    cases hp'
    refine ⟨F', Ex.refl _, hs, ?_⟩
    have e1' : k.key = p.1 := e1
    show Rep K F' (lfV k) (nkD p.1)
    rw [← e1']
    cases k
    · exact .non
    · exact .int _
    · exact .str _
end
section
variable {X : Cx} {W : WX} {e tg : Expr} {we : DE}
theorem di_keysN (he : PE X e (tE X.K W we)) : PI X tg e (tI X.K W (wItN we)) := by
  refine ⟨fun pins s σ H R I ⟨F, C, ρ, P, PX, hs, en, xr, w, k⟩ => ?_⟩
  refine thn (he.run pins s σ H (fun v H1 => ∃ F1 C1 d, Ex F F1 ∧ Hs X.K F1 C1 H1 ∧ Rep X.K F1 v d ∧ (match d with
    | .ptr a => match C1 a with
      | some (.lN q t od xs) => P ⟨t.map fun p => nkD p.1, fun C' => C' a = some (.lN q t od xs)⟩ C1
      | some (.lO q t od xs) => (t.all fun p => noNumK p.1) = true ∧ P ⟨t.map fun p => nkD p.1, fun C' => C' a = some (.lO q t od xs)⟩ C1
      | _ => False
    | _ => False)) I ⟨F, C, ρ, _, PX, hs, en, xr, w, fun v F1 H1 d C1 e1 h1 r q => ⟨F1, C1, d, e1, h1, r, q⟩⟩) fun u s1 ⟨v, H1, I1, rv, F1, C1, d, e1, h1, r, q⟩ => ?_
  split at q
  · rename_i a
    cases r
    obtain rfl : u = .ref a := rv
    split at q
    · rename_i qq t od xs hc
      obtain ⟨_, g1, g2⟩ := h1.cell a _ hc
      obtain ⟨hs', hgd, hx, hz, es, ep, hdt, hsz, ent⟩ := frzN I1 g1
      refine iter_keys hs' hgd hx hdt (pi_one (tk := s1.toks) I1 _ (turn_keysN _ hdt) ⟨_, Heap.get?_push_size _ rfl, rfl, ?_⟩ (k _ F1 H1 _ C1 e1 h1 itr_N q))
      rw [hsz] <;> rfl
    · rename_i qq t od xs hc
      obtain ⟨_, g1, g2⟩ := h1.cell a _ hc
      obtain ⟨hs', hgd, hx, hz, es, ep, hdt, hsz, ent⟩ := frzO I1 g1
      refine iter_keys hs' hgd hx hdt (pi_one (tk := s1.toks) I1 _ (turn_keysO _ hdt) ⟨_, Heap.get?_push_size _ rfl, rfl, ?_⟩ (k _ F1 H1 _ C1 e1 h1 (itr_O q.1) q.2))
      rw [hsz] <;> rfl
    · exact q.elim
  · exact q.elim
end

/-! ### sorted(x), of nested keys -/
mutual
theorem nk_reads {P : Program} {w : World} {K : PySem.W.Frag} {F H : Hp} {h : Heap} (ok : HOk P w H h) (ex : Ex F H) : ∀ (k : NestedKey) {v : V} {u : Value}, Rep K F v (nkD k) → RelV v u → Reads h u (nkD k).py []
  | .none, v, u, r, ru => by
    simp only [nkD] at r
    cases r
    obtain rfl : u = .none := ru
    simp only [nkD, D.py]
    exact .none
  | .num i, v, u, r, ru => by
    simp only [nkD] at r
    cases r
    obtain ⟨t, rfl⟩ := ru
    simp only [nkD, D.py]
    exact .int i t
  | .text x, v, u, r, ru => by
    simp only [nkD] at r
    cases r
    obtain ⟨t, rfl⟩ := ru
    simp only [nkD, D.py]
    exact .str x t
  | .tup ks, v, u, r, ru => by
    simp only [nkD] at r
    cases r with
    | tup hF hr =>
      rename_i a xs
      obtain rfl : u = .ref a := ru
      obtain ⟨o, its, m, h1, h2, h3, h4⟩ := tup_is ok (ex.nd hF rfl)
      simp only [nkD, D.py]
      exact .tuple h1 h2 h3 (nks_reads ok ex ks hr h4)
theorem nks_reads {P : Program} {w : World} {K : PySem.W.Frag} {F H : Hp} {h : Heap} (ok : HOk P w H h) (ex : Ex F H) : ∀ (ks : List NestedKey) {vs : List V} {us : List Value}, RepL K F vs (nkDs ks) → Vals vs us → ReadsAll h us (pys (nkDs ks)) []
  | [], vs, us, r, ru => by
    simp only [nkDs] at r
    cases r
    cases ru
    simp only [nkDs, pys]
    exact .nil
  | k :: ks, vs, us, r, ru => by
    simp only [nkDs] at r
    cases r with
    | cons a b =>
      cases ru with
      | cons c d =>
        simp only [nkDs, pys]
        exact .cons (nk_reads ok ex k a c) (nks_reads ok ex ks b d)
end
def dSortN (q : Pgw) (ds : List D) (C : Cells) (P : DK) : Prop := match ds with
  | [x] => withN q x C fun b t => b = true ∧ SortsD (t.map fun p => nkD p.1) ∧ P (.lst ((t.map fun p => nkD p.1).mergeSort leD)) C
  | _ => False
def dLenN (q : Pgw) (ds : List D) (C : Cells) (P : DK) : Prop := match ds with
  | [x] => withN q x C fun _ t => P (.int (t.length : Int)) C
  | _ => False
section
variable {X : Cx} {q : Pgw}
theorem cr_sortedN (hc : X.calm = true) (hu : X.A.units + 64 < cLine) (hq : q = ⟨X.prog, X.w⟩) : CallR X (.builtin "sorted") (rdA X.K (dSortN q)) := by
  intro pins s σ H xs us Q I r ⟨F, C, ds, P, hs, rl, w, k⟩
  unfold dSortN at w
  split at w
  · rename_i x
    obtain ⟨v, rfl, r1⟩ := rl.one
    cases r with
    | cons ru rr =>
      cases rr
      rename_i u
      obtain ⟨a, rfl, rfl, rfl, sm, ty, nd, h⟩ := withN_dict I hs hq r1 ru w
      rcases h with ⟨t, ys, ⟨_, ⟨⟨n, hn, hd⟩, hal, hok⟩, w⟩, hl, hdo, nv⟩ | ⟨t, vs, ⟨hb, _⟩, _⟩
      · refine Calls.call_function_entry PyProof.Rows.kind_sorted PyProof.Rows.plain_sorted PyProof.Rows.entry_sorted (PyProof.Rows.args_sorted1 _) ?_
        unfold Builtin.«sorted»
        refine wpAny_bind (m := checkCount "sorted" 1 1 _) (wpAny_pure ?_)
        obtain ⟨o, es, ep, ho, hx, hdt, he, hkn, hnd⟩ := hdo
        have l1 : es.size = ys.length := size_of_entries he
        have l2 : t.length = ys.length := Paired.length nv
        refine wpAny_bind (PySem.W.kdu_collect (A := X.A.in1) (kdl_raw sm hx hdt) (I.ok.hd hc) ho (by omega) fun h' tk acc hkp hacc => ?_)
        have I1 : Inv X pins σ H { s with heap := h', toks := tk } := I.kept hkp
        have ea : acc.toList = ys.map fun y => Value.ref y.2.1 := by
          have hl : acc.toList.length = ys.length := by rw [Array.length_toList, hacc.1]; exact l1
          refine List.ext_getElem? fun j => ?_
          rw [List.getElem?_map]
          cases hj : acc.toList[j]? with
          | none =>
            have := List.getElem?_eq_none_iff.mp hj
            rw [List.getElem?_eq_none (show ys.length ≤ j by omega)]
            rfl
          | some v =>
            obtain ⟨en, hen, hv⟩ := hacc.2 j v (by rw [← Array.getElem?_toList]; exact hj)
            have qe := entry_at he j
            rw [hen] at qe
            cases hb : ys[j]? with
            | none => rw [hb] at qe; cases qe
            | some b =>
              rw [hb] at qe
              have e2 : en = entryOfKey (nestedKind X.prog X.w) b := Option.some.inj qe
              rw [hv, e2]
              rfl
        have rr : RepL X.K F (ys.map fun y => V.ref y.2.1) (t.map fun p => nkD p.1) := by
          clear l1 l2 hl he ea hd hal hok w hacc hkn hnd
          induction nv with
          | nil => exact .nil
          | cons z _ ih => exact .cons z.2.2.1 ih
        have kk : Keys h' (ys.map fun y => V.ref y.2.1) (pys (t.map fun p => nkD p.1)) (ys.map fun y => Value.ref y.2.1) := by
          clear l1 l2 hl he ea hd hal hok w rr hacc hkn hnd
          induction nv with
          | nil => exact .nil
          | cons z _ ih => exact .cons rfl (nk_reads I1.hok hs.ex _ z.2.2.1 rfl) ih
        rw [← ea] at kk
        have e1 : pys (t.map fun p => nkD p.1) = (t.map fun p => nkD p.1).map D.py := pys_map _
        refine sort_new (E := fun a b => X.xe a b) hu I1 kk (by rw [e1]; exact hal) (by rw [e1]; exact hok) (fun d hd' => ?_) (by rw [e1, List.length_map, List.length_map]; exact hl) fun p hp => ?_
        · rw [e1] at hd'
          obtain ⟨d', hm, rfl⟩ := List.mem_map.mp hd'
          have := (dat_lay (hd d' hm)).2
          omega
        · obtain ⟨e4, h4, r4⟩ := hs.newL rr.sort hp
          exact k _ _ _ _ C e4 h4 r4 w
      · cases hb
  · exact w.elim
end
end DD

set_option Elab.async false
set_option linter.all false
set_option maxRecDepth 100000
set_option maxHeartbeats 4000000
/-! x < y of data that are alike; {k: v} with a key that is None, a number or a text. -/
namespace DD
open PySem L2 PySem.Spec PyProof.Rows PySem.W

/-! ### x < y -/
def dLtD (x : D) (y : D) (C : Cells) (P : DK) : Prop := ∃ n, n ≤ 60 ∧ Dat n x ∧ Dat n y ∧ PySem.W.alike x.py y.py = true ∧ x.py ≠ .none ∧ P (.bl (PySem.W.dataLt x.py y.py)) C
section
variable {X : Cx}
theorem op_ltG (hu : X.A.units + 64 < cLine) : OpR X (compareOp .Lt) (rdR X.K dLtD) := by
  intro pins s σ H x y v u Q I rx ry ⟨F, C, dx, dy, P, hs, r1, r2, ⟨n, hn, h1, h2, ha, hz, w⟩, k⟩
  obtain ⟨as, g1⟩ := Dp.reads I _ x v (rep_dp hs.ex h1 _ r1) rx
  obtain ⟨bs, g2⟩ := Dp.reads I _ y u (rep_dp hs.ex h2 _ r2) ry
  refine rcLt_alike _ _ X.A s v u _ _ g1 g2 ha hz ?_ X.prog X.w _ _ ?_
  · have l1 := (dat_lay h1).2
    have := Nat.min_le_left dx.py.depth dy.py.depth
    omega
  · exact ⟨.bl _, H, I, rfl, k _ F H _ C (Ex.refl F) hs (.bl _) w⟩
end

/-! ### {k: v} -/
def wOneO (q : Pgw) (k v : DE) (ρ : DEnv) (C : Cells) (P : DK) (PX : DX) : Prop := ∀ p, C p = none → k ρ (cput C p (.dO q [])) (fun y C1 => v ρ C1 (fun z C2 => C2 p = some (.dO q []) ∧ match keyB false y with
  | some k => P (.ptr p) (cput C2 p (.dO q [(k, z)]))
  | none => False) PX) PX
section
variable {X : Cx} {q : Pgw} {W : WX} {k v : Expr} {wk wv : DE} {pos : Pos}
theorem d_oneO (hq : q = ⟨X.prog, X.w⟩) (hk : PE X k (tE X.K W wk)) (hv : PE X v (tE X.K W wv)) : PE X (.Dict [some k] [v] pos) (tE X.K W (wOneO q wk wv)) := ⟨fun pins s σ H Q I ⟨F, C, ρ, P, PX, hs, en, xr, w, kk⟩ => by
  have hn := I.hok.fresh (Nat.le_refl s.heap.objs.size)
  have sm : (s.heap.objs.size == sysModules) = false := beq_eq_false_iff_ne.mpr (Ne.symm (Nat.ne_of_lt I.big))
  have I1 := I.laid (a := s.heap.objs.size) (o := ldO q s.heap.objs.size []) (h' := s.heap.push { cls := .type "dict", data := .dict #[] }) (t' := s.toks) (fun _ _ q => Heap.get?_push_of_some _ q) (Nat.le_refl _) (ldO_ok ⟨Nat.zero_le _, sm, [], .nil, Heap.DictOf.new s.heap⟩)
  have h0 := hs.put (c := .dO q []) (hs.fresh hn).1 ⟨[], upd_same, .nil⟩
  have w := w _ (hs.fresh hn).2
  rw [arm_eval_Dict, zip_pairTrees [some k] [v] X.env pos rfl rfl, dictDisplay_pairs _ (fun z => by cases z) (Nat.lt_of_le_of_lt (Nat.le_of_eq (pairTrees_length [some k] [v] X.env pos rfl rfl)) (show 1 < 17 by decide))]
  refine wpAny_bind (wpAny_standAt (wpAny_bind (wpAny_subDict (knd := leafKind X.prog X.w) (Nat.le_trans (Nat.le_of_eq (pairTrees_length [some k] [v] X.env pos rfl rfl)) (show 1 ≤ 15 by decide)) ?_)))
  refine pairTrees_cons_walk (thn (hk.run pins _ σ _ (fun y H1 => ∃ F1 C1 dy, Ex F F1 ∧ Hs X.K F1 C1 H1 ∧ Rep X.K F1 y dy ∧ wv ρ C1 (fun z C2 => C2 s.heap.objs.size = some (.dO q []) ∧ match keyB false dy with
    | some k => P (.ptr s.heap.objs.size) (cput C2 s.heap.objs.size (.dO q [(k, z)]))
    | none => False) PX) I1 ⟨F, _, ρ, _, PX, h0, en, xr, w, fun y F1 H1 dy C1 e1 h1 ry q => ⟨F1, C1, dy, e1, h1, ry, q⟩⟩) fun u s1 ⟨y, H1, I1, ry, F1, C1, dy, e1, h1, rdy, w1⟩ =>
    thn (hv.run pins s1 σ H1 (fun z H2 => ∃ F2 C2 dz, Ex F1 F2 ∧ Hs X.K F2 C2 H2 ∧ Rep X.K F2 z dz ∧ (C2 s.heap.objs.size = some (.dO q []) ∧ match keyB false dy with
    | some k => P (.ptr s.heap.objs.size) (cput C2 s.heap.objs.size (.dO q [(k, dz)]))
    | none => False)) I1 ⟨F1, C1, ρ, _, PX, h1, en.mono e1, xr.mono e1, w1, fun z F2 H2 dz C2 e2 h2 rz q => ⟨F2, C2, dz, e2, h2, rz, q⟩⟩) fun w2 s2 ⟨z, H2, I2, rz, F2, C2, dz, e2, h2, rdz, hc, w2'⟩ => pairTrees_nil_walk ?_)
  split at w2'
  · rename_i kk' hkk
    obtain ⟨f0, xs, g1, g2⟩ := h2.cell _ _ hc
    cases g2
    obtain ⟨l, rfl, hl2⟩ := keyB_leaf hkk
    obtain ⟨z0, sm2, vs, pr, hd⟩ := (show ObjOk X.prog X.w H2 s2.heap s.heap.objs.size (ldO q s.heap.objs.size []) from I2.hok _ _ g1).1
    cases pr
    have hkl : (leafKind X.prog X.w).is l u = true := leaf_is (rdy.mono e2) hl2 ry
    have hd2 : s2.heap.DictOf (leafKind X.prog X.w) s.heap.objs.size [] := by rw [hq] at hd; exact hd
    refine ⟨[(l, w2)], ⟨hkl, rfl, True.intro⟩, hd2, fun h' dd' sb => wpAny_pure ?_⟩
    obtain ⟨ob', es', ep', ho', r'⟩ := id dd'
    have hnd : LdAt q s.heap.objs.size [(l, z)] h' := ⟨by rw [sizeLine_eq]; exact (show 1 ≤ 16777216 by decide), sm, [(l, w2)], .cons ⟨rfl, rz⟩ .nil, by rw [hq]; exact dd'⟩
    have I3 := d_write (t' := s2.toks + 1) I2 (by rw [g1]; exact True.intro) sb ⟨ob', ho'⟩ (ldO_ok (P := X.prog) (w := X.w) (H := upd H2 s.heap.objs.size (ldO q s.heap.objs.size [(l, z)])) hnd)
    exact ⟨.ref s.heap.objs.size, _, I3, rfl, kk _ F2 _ _ _ (e1.trans e2) (h2.put (c := .dO q [(l.key, dz)]) f0 ⟨_, upd_same, .cons ⟨rfl, rdz⟩ .nil⟩) (.ptr _) w2'⟩
  · exact w2'.elim⟩
end
end DD

set_option Elab.async false
set_option linter.all false
set_option maxRecDepth 100000
set_option maxHeartbeats 4000000
/-! list(d) of a dict with nested keys. -/
namespace DD
open PySem L2 PySem.Spec PyProof.Rows
def dListN (q : Pgw) (ds : List D) (C : Cells) (P : DK) : Prop := match ds with
  | [x] => withN q x C fun b t => b = true ∧ P (.lst (t.map fun p => nkD p.1)) C
  | _ => False
theorem vals_refs : ∀ {ys : List (NestedKey × Addr × Value)} {us : List Value}, us = ys.map (fun y => Value.ref y.2.1) → Vals (ys.map fun y => V.ref y.2.1) us
  | [], us, h => by subst h; exact .nil
  | y :: ys, us, h => by subst h; exact .cons rfl (vals_refs rfl)
section
variable {X : Cx} {q : Pgw}
theorem cr_listN (hc : X.calm = true) (hq : q = ⟨X.prog, X.w⟩) : CallR X (.type "list") (rdA X.K (dListN q)) := by
  intro pins s σ H xs us Q I r ⟨F, C, ds, P, hs, rl, w, k⟩
  unfold dListN at w
  split at w
  · rename_i x
    obtain ⟨v, rfl, r1⟩ := rl.one
    cases r with
    | cons ru rr =>
      cases rr
      rename_i u
      obtain ⟨a, rfl, rfl, rfl, sm, ty, nd, h⟩ := withN_dict I hs hq r1 ru w
      rcases h with ⟨t, ys, ⟨_, w⟩, hl, hdo, nv⟩ | ⟨t, vs, ⟨hb, _⟩, _⟩
      · obtain ⟨o, es, ep, ho, hx, hdt, he, hkn, hnd⟩ := hdo
        have l1 : es.size = ys.length := size_of_entries he
        have l2 : t.length = ys.length := Paired.length nv
        refine PySem.W.kdl_call (kdl_raw sm hx hdt) (I.ok.hd hc) ho (by omega) fun h' tk acc c' hk hD hacc => ?_
        have ea : acc.toList = ys.map fun y => Value.ref y.2.1 := by
          have hl : acc.toList.length = ys.length := by rw [Array.length_toList, hacc.1]; exact l1
          refine List.ext_getElem? fun j => ?_
          rw [List.getElem?_map]
          cases hj : acc.toList[j]? with
          | none =>
            have := List.getElem?_eq_none_iff.mp hj
            rw [List.getElem?_eq_none (show ys.length ≤ j by omega)]
            rfl
          | some v =>
            obtain ⟨en, hen, hv⟩ := hacc.2 j v (by rw [← Array.getElem?_toList]; exact hj)
            have qe := entry_at he j
            rw [hen] at qe
            cases hb : ys[j]? with
            | none => rw [hb] at qe; cases qe
            | some b =>
              rw [hb] at qe
              have e2 : en = entryOfKey (nestedKind X.prog X.w) b := Option.some.inj qe
              rw [hv, e2]
              rfl
        have rr : RepL X.K F (ys.map fun y => V.ref y.2.1) (t.map fun p => nkD p.1) := by
          clear l1 l2 hl he ea w hacc hkn hnd
          induction nv with
          | nil => exact .nil
          | cons z _ ih => exact .cons z.2.2.1 ih
        have hp : H s.heap.objs.size = none := I.hok.fresh (Nat.le_refl _)
        obtain ⟨e4, h4, r4⟩ := hs.newL rr hp
        refine ⟨.ref s.heap.objs.size, upd H s.heap.objs.size (.lst (ys.map fun y => V.ref y.2.1)), I.laid (t' := tk) hk (Nat.le_refl _)
          (show ObjOk X.prog X.w _ _ _ (.lst (ys.map fun y => V.ref y.2.1)) from ⟨by rw [List.length_map]; omega, acc.toList, c', vals_refs ea, by rw [Array.toArray_toList]; exact hD⟩), rfl, ?_⟩
        exact k _ _ _ _ C e4 h4 r4 w
      · cases hb
  · exact w.elim
end
end DD

set_option Elab.async false
set_option linter.all false
set_option maxRecDepth 100000
set_option maxHeartbeats 4000000
/-! raise C(f'.. {int}') of an own class without an own __init__. -/
namespace DD
open PySem L2 PySem.Spec PyProof.Rows
def wRaiseI (cls : Value) (we : DE) (E : DEnds) (ρ : DEnv) (C : Cells) : Prop := we ρ C (fun x C1 => (match x with
  | .int i => i.natAbs.log2 < 1920
  | .str y => y.length ≤ 1000
  | _ => False) ∧ E.ex cls [] ρ C1) E.ex
section
variable {X : Cx} {W : WX} {K : PySem.W.Frag} {pos : Pos}
/-- an own class as a value of the text's words, handed to raise -/
theorem mod_int_len {m : Str} {i : Int} (hm : m.length ≤ 1000) (h : i.natAbs.log2 < 1920) : (m ++ (toString i : Str)).length ≤ sizeLine := by
  have e := int_text_length_le (k := 1920) (by decide) h
  have e2 : ((toString i : String) : Str).length = (toString i).length := PySem.ofString_length _
  rw [sizeLine_eq, Str.length_append]
  have e3 : (Str.ofString (toString i)).length = (toString i).length := PySem.ofString_length _
  omega
theorem ds_raiseI {x m : Str} {j : Nat} {p p2 p3 p4 pos' : Pos} {C : Addr} {e : Expr} {we : DE} (hc : X.calm = true) (tk : Takes X W) (T : XcT X.K C) (gC : X.mg x = some (.ref C)) (hg : Gl X x) (he : PE X e (tE X.K W we)) (hm : m.length ≤ 1000 := by decide) (hdb : (x == ("__debug__" : Str)) = false := by decide) (hs : starEach [(.JoinedStr [.Constant (.str m) j p2, .FormattedValue e (-1) none p3] p4 : Expr)] X.env = (false, eval (.JoinedStr [.Constant (.str m) j p2, .FormattedValue e (-1) none p3] p4) X.env) :: starEach [] X.env := by rfl) :
    PS X (.Raise (some (.Call (.Name x p) [.JoinedStr [.Constant (.str m) j p2, .FormattedValue e (-1) none p3] p4] [] pos)) none pos') (tS X.K W (wRaiseI (.ref C) we)) := by
  refine PS.imp (ps_raise hc tk (SkE.pmk_own1 PySem.F.excBase_ValueError T.xi gC T.xk (raises_own T.xb T.xt) hg (pe_joined (.cons pe_str (.cons (pe_fmt he) .nil))) hs hdb)) fun D σ H ⟨F, C', ρ, E, hs, en, xr, w, k⟩ => ?_
  refine ⟨m, rfl, ?_, ?_⟩
  · rw [sizeLine_eq, Str.length_append]
    have : Str.empty.length = 0 := rfl
    omega
  refine ⟨F, C', ρ, _, _, hs, en, xr, w, fun v F1 H1 d C1 e1 h1 rv ⟨hd, hx⟩ => ?_⟩
  cases rv with
  | int i =>
    refine .inr ⟨i, rfl, hd, _, rfl, ?_, ?_⟩
    · exact mod_int_len (by rw [Str.length_append]; have : Str.empty.length = 0 := rfl; omega) hd
    · exact xr _ none [] σ F1 H1 ρ C1 e1 h1 (en.mono e1) (.inl ⟨rfl, rfl⟩) hx
  | str y =>
    have hd : y.length ≤ 1000 := hd
    refine .inl ⟨y, rfl, by rw [sizeLine_eq]; omega, _, rfl, ?_, ?_⟩
    · rw [sizeLine_eq, Str.length_append, Str.length_append]
      have : Str.empty.length = 0 := rfl
      omega
    · exact xr _ none [] σ F1 H1 ρ C1 e1 h1 (en.mono e1) (.inl ⟨rfl, rfl⟩) hx
  | _ => exact hd.elim
end
end DD

set_option Elab.async false
set_option linter.all false
set_option maxRecDepth 100000
set_option maxHeartbeats 4000000
/-! An own class of errors below ValueError whose __init__ says super().__init__(f'..{what}') and keeps what. -/
namespace DD
open PySem L2 PySem.Spec PyProof.Rows

section
variable {X : Cx} {pins : List (Addr × Obj)} {σ : L2.St} {H : Hp} {s : Shared} {A : Around} {E : Value → Shared → Prop}
/-- the wrapper of ValueError.__init__ bound to an exception that is being made, called -/
theorem call_mw {a C u : Addr} {rest : List Value} {Q : Value → Shared → Prop} (T : OexC X.K C) (I : Inv X pins σ H s) (e : H a = some (exo a C none)) (hu : s.heap.get? u = some (PySem.W.kxs_mw "ValueError.__init__" a)) (hl : rest.length ≤ sizeLine)
    (h : ∀ s', Inv X pins σ H s' → Q .none s') : wpAny (model X.prog X.w) A (call (.ref u) rest) Q E s := by
  obtain ⟨nm, q, N, bs, bm, sn, sub, ab, col, dd, k0, k1, k2, k3, k5, hC, hbm⟩ := T.cls
  obtain ⟨t1, ho⟩ := exo_at I.hok e
  obtain ⟨hp, g, d, t, os⟩ := s
  have hC' := I.kIn _ _ hC
  refine wpAny_call (codeAny_of_tree ?_)
  show wpAny _ A.in1 (callAny (.ref u) ⟨rest, []⟩) _ _ _
  simp only [callAny]
  refine wpAny_bind (wpAny_load hu ?_)
  simp only [PySem.W.kxs_mw, show (Value.type "method-wrapper" == Value.type "method" || Value.type "method-wrapper" == Value.type "builtin_function_or_method" || Value.type "method-wrapper" == Value.type "method-wrapper") = true by decide, if_true]
  refine PySem.W.KFB.if_so (by decide) ?_
  refine wpAny_bind (PySem.W.check_bound_init F.excBase_ValueError.toExcCallFacts hC' ho rfl ?_)
  refine wpAny_bind (wpAny_pure (wpAny_pure ?_))
  refine ⟨plainId_quiet F.excBase_ValueError.init.plain _, codeAny_builtin F.excBase_ValueError.initEntry ?_⟩
  refine PySem.W.exc_init_tree (cls := .ref C) (t0 := t1) (dv := none) (c2 := .none) (c3 := .none) (b4 := .bool false) ho hl fun h' k hx _ => ?_
  have J := I.write (t' := t) (x := a) (e := a) (o := exo a C none) (by rw [e]; exact True.intro) (.inl rfl) k ⟨_, hx⟩ (exo_ok hx)
  have eu : upd H a (exo a C none) = H := by
    funext b
    by_cases hb : b = a
    · rw [hb, upd_same, e]
    · rw [upd_ne hb]
  rw [eu] at J
  exact h _ J
end

/-- what the __init__ promises -/
def spInit (C : Addr) (fld : Str) : Sp := fun vs H Q _ => ∃ (a : Addr) (y : Str), vs = [.ref a, .str y] ∧ y.length ≤ 1000 ∧ H a = some (exo a C none) ∧ ∀ dx, H dx = none → dx ≠ a → Q .non (upd (upd H dx (exd dx [(fld, .str y)])) a (exo a C (some dx)))

def iniScope : Scope := { kind := .function, names := [(Str.ofString "self", NameKind.local), (Str.ofString "what", NameKind.local), (Str.ofString "__class__", NameKind.free), (Str.ofString "super", NameKind.globalImplicit)], isGenerator := false, isCoroutine := false, more := [] }
/-- what the written part says of the class and its __init__ -/
structure IniT (P : Program) (K : PySem.W.Frag) (mg : Str → Option Value) (C f : Addr) (fd : FuncData) (qual : Str) (sc : Scope) (body : List Stmt) (fld : Str) : Prop where
  oex : OexC K C
  par : fd.params.posonlyargs = [] ∧ ∃ a2, fd.params.args.head? = some a2 ∧ a2.arg = "self"
  fn : ∃ name params dV kV doc pm an cda ct cc oc od osl, fd = PySem.W.ksFn name qual params body sc dV kV doc pm an (.ref cda) ct cc ∧ K.lookup f = some ⟨oc, od, .func fd, osl⟩ ∧ PySem.W.codeIn K (.ref cda) qual = true ∧
    (∃ ccl cdd vs ccs file tf, K.lookup cda = some ⟨ccl, cdd, .fields vs, ccs⟩ ∧ vs[2]? = some (.str file tf) ∧ ((P.main.file : Str) == file) = true) ∧ ∃ cl cld csl, K.lookup cc = some ⟨cl, cld, .cell (some (.ref C)), csl⟩
  htop : (P.main.scope.names.lookup ("super" : Str)).isSome = false
  hsup : mg "super" = none
  sup : PySem.W.ks_superIn K C C "__init__" = some (some (.builtin "ValueError.__init__"))
  sub : PySem.W.subIn K (.ref C) (.type "ValueError") = some true
  sel : PySem.W.mroIn K C (.ref C) = some true
  opq : PySem.W.nsIn K cStatics "thirdparty.any" = some none
  nof : PySem.W.findIn K (.ref C) fld = some none

section
variable {X : Cx} {H : Hp} {s : Shared} {a C f cc cda : Addr} {fd : FuncData} {y m fld : Str} {D : Ends} {ar : Arg} {oc ccl cl : Value} {od cdd cld : Option Addr} {osl ccs csl : Array (Option Value)} {cvs : Array Value} {file : Str} {tf : Tok} {bd : List Stmt}
variable {p0 p1 p2 p3 p4 p5 p6 p7 p8 q1 q2 q3 q4 : Pos} {j : Nat}
theorem init_body (I : Inv X [] [some (.ref a), some (.str y), none] H s) (hy : y.length ≤ 1000) (hm : m.length ≤ 1000) (hEx : H a = some (exo a C none))
    (hks : X.env.kindOf "super" = some .globalImplicit) (hkc : X.env.kindOf "__class__" = some .free) (hk0 : X.env.kindOf "self" = some .local) (hk1 : X.env.kindOf "what" = some .local)
    (hfu : X.env.func = some f) (hcl : X.env.cells.lookup (Str.ofString "__class__") = some cc) (hco : X.env.code = .ref cda) (hN : X.N = [Str.ofString "self", Str.ofString "what", Str.ofString "__class__"]) (hint : interactive X.env = false) {pl : Sem Bool}
    (hc : eval (.Call (.Attribute (.Call (.Name "super" p0) [] [] p1) "__init__" p2) [.JoinedStr [.Constant (.str m) j q1, .FormattedValue (.Name "what" q2) (-1) none q3] q4] [] p3) X.env = (do
      let ov ← attributeBase (.Call (.Name "super" p0) [] [] p1) "__init__" X.env (eval (.Call (.Name "super" p0) [] [] p1) X.env)
      standAt p2.atName
      let (f, first) ← holding [ov] (getMethod ov "__init__" pl)
      callWith p3 f first (backTo p3 (starEach [(.JoinedStr [.Constant (.str m) j q1, .FormattedValue (.Name "what" q2) (-1) none q3] q4 : Expr)] X.env)) []))
    (lk : X.K.lookup f = some ⟨oc, od, .func fd, osl⟩) (hp : (fd.params.posonlyargs ++ fd.params.args).head? = some ar) (har : ar.arg = "self")
    (hcode : X.K.lookup cda = some ⟨ccl, cdd, .fields cvs, ccs⟩) (hvs : cvs[2]? = some (.str file tf)) (hfile : ((X.prog.main.file : Str) == file) = true) (hcell : X.K.lookup cc = some ⟨cl, cld, .cell (some (.ref C)), csl⟩)
    (oex : OexC X.K C) (htop : (X.prog.main.scope.names.lookup ("super" : Str)).isSome = false) (hsup : X.mg "super" = none)
    (sup : PySem.W.ks_superIn X.K C C "__init__" = some (some (.builtin "ValueError.__init__"))) (sub : PySem.W.subIn X.K (.ref C) (.type "ValueError") = some true) (sel : PySem.W.mroIn X.K C (.ref C) = some true)
    (opq : PySem.W.nsIn X.K cStatics "thirdparty.any" = some none) (nof : PySem.W.findIn X.K (.ref C) fld = some none)
    (q : ∀ dx, H dx = none → dx ≠ a → D.nx [some (.ref a), some (.str y), none] (upd (upd H dx (exd dx [(fld, .str y)])) a (exo a C (some dx)))) :
    _root_.PySem.wpAt (model X.prog X.w) X.A (.func bd X.env) (execs [.Expr (.Call (.Attribute (.Call (.Name "super" p0) [] [] p1) "__init__" p2) [.JoinedStr [.Constant (.str m) j q1, .FormattedValue (.Name "what" q2) (-1) none q3] q4] [] p3) p4, .Assign [.Attribute (.Name "self" p5) fld p6] (.Name "what" p7) p8] X.env)
      (SP X [] D) X.xe s := by
  have hkk := I.ok.kind
  have KX := I.kIn
  have v0 : Vis X.env.scope "self" := .inl hk0
  have v1 : Vis X.env.scope "what" := .inl hk1
  obtain ⟨nm, qn, N', bs, bm, sn, sbs, ab, col, dd, k0, k1, k2, k3, k5, hC, hbm⟩ := oex.cls
  have hcd : ∃ cd, PySem.W.clsIn X.K C = some cd ∧ ∀ M, PySem.W.Looks M s.heap (mroOf (.ref C)) cd.mro := by
    cases hc : PySem.W.clsIn X.K C with
    | none => unfold PySem.W.ks_superIn at sup; rw [hc] at sup; cases sup
    | some cd => exact ⟨cd, rfl, fun M A Q E s k q => wpAny_bind ((PySem.W.looks_clsIn KX hc) A _ E s k (wpAny_pure q))⟩
  refine PySem.ks_wpAt_execs_cons (PySem.ks_wpAt_Expr_any (PySem.ks_wpAt_MethodCall ?_ hc) hint)
  refine PySem.ks_wpAt_super_base hks hkc (by decide) hfu (KX _ _ lk) rfl hp hco (KX _ _ hcode) rfl hvs hfile htop ?_
  obtain ⟨mb, hb1, hb2⟩ := I.mod.blt
  refine PySem.W.ks_loadName_global hkk hks (Calls.loadGlobal_builtin (by rw [I.ok.glob]; exact I.mod.glob.keeps I.bk) hsup (by rw [I.ok.blt]; exact hb1.keeps I.bk) ((hb2 "super" (by decide)).trans (by decide +kernel : bootBuiltins "super" = some (.type "super"))) ⟨rfl, ?_⟩)
  refine wpAny_loadName_free hkk hkc hcl ⟨_, KX _ _ hcell, rfl⟩ ?_
  obtain ⟨m0, hn, hl⟩ := I.loc
  obtain ⟨u0, ru0, l0⟩ := hl 0 "self" (.ref a) (by rw [hN]; rfl) rfl v0
  obtain rfl : u0 = Value.ref a := ru0
  have hm0 : m0 "self" = some (.ref a) := by
    rcases l0 with ⟨_, z⟩ | ⟨z, _⟩
    · exact z
    · rw [hk0] at z; rcases z with z | z <;> cases z
  rw [har]
  refine wpAny_loadName_local hkk hk0 hn hm0 ?_
  obtain ⟨t1, ho⟩ := exo_at I.hok hEx
  obtain ⟨cd, hcc, hmro⟩ := hcd
  have hne : a ≠ C := fun z => by
    rw [z] at ho
    have z2 := (KX _ _ hC).symm.trans ho
    have z3 := congrArg Obj.data (Option.some.inj z2)
    cases z3
  obtain ⟨hp0, g0, d0, t0, os0⟩ := s
  refine PySem.ks_wpAny_isType_cls (KX _ _ hC) rfl ⟨rfl, ?_⟩
  refine PySem.ks_wpAny_call_super (KX _ _ hC) rfl ho rfl (fun c e => by cases e) (PySem.W.looks_mroIn KX sel) (fun h' hso k => ?_)
  have I1 : Inv X [] [some (.ref a), some (.str y), none] H ⟨h', g0, d0, t0, os0⟩ := I.kept k
  have KX1 := I1.kIn
  have hmro1 : PySem.W.Looks (model X.prog X.w) h' (mroOf (.ref C)) cd.mro := fun A Q E s k q => wpAny_bind ((PySem.W.looks_clsIn KX1 hcc) A _ E s k (wpAny_pure q))
  have hIA : PySem.W.InstAt h' a { cls := .ref C, dict := none, data := .fields #[.ref t1, .none, .none, .none, .bool false, .none] } C none := ⟨k _ _ ho, rfl, rfl, trivial⟩
  have hsup' : PySem.W.alongIn X.K "__init__" ((cd.mro.dropWhile (· != .ref C)).drop 1) = some (some (.builtin "ValueError.__init__")) := by
    unfold PySem.W.ks_superIn at sup
    rw [hcc] at sup
    exact sup
  refine PySem.W.kxs_getMethod PySem.W.kxs_ValueError hso (PySem.W.looks_opaque KX1 opq) hmro1 rfl KX1 hsup' (hIA.type.andThen (PySem.W.looks_subIn KX1 sub)) hne (by decide) ?_
  have kq : ∀ b o, h'.get? b = some o → (h'.push (PySem.W.kxs_mw "ValueError.__init__" a)).get? b = some o := fun b o e => Heap.get?_push_of_some _ e
  have I2 : Inv X [] [some (.ref a), some (.str y), none] H ⟨h'.push (PySem.W.kxs_mw "ValueError.__init__" a), g0, d0, t0 + 1, os0⟩ := I1.kept kq
  have hu : (h'.push (PySem.W.kxs_mw "ValueError.__init__" a)).get? h'.objs.size = some (PySem.W.kxs_mw "ValueError.__init__" a) := by heap_get
  have I3 : Inv X [(h'.objs.size, PySem.W.kxs_mw "ValueError.__init__" a)] [some (.ref a), some (.str y), none] H ⟨h'.push (PySem.W.kxs_mw "ValueError.__init__" a), g0, d0, t0 + 1, os0⟩ := I2.pins_of fun p hp => by
    simp only [List.mem_cons, List.not_mem_nil, or_false] at hp
    subst hp
    exact ⟨hu, I1.hok.fresh (Nat.le_refl _), fun z => by have := I1.lt; rw [← z] at this; exact absurd this (Nat.lt_irrefl _), I1.nofs (Nat.le_refl _), fun v z => by cases z⟩
  have ha : PA X [.JoinedStr [.Constant (.str m) j q1, .FormattedValue (.Name "what" q2) (-1) none q3] q4] _ := pa_cons (pe_joined (.cons pe_str (.cons (pe_fmt (pe_var (i := 1) (by rw [hN]; rfl) v1)) .nil))) pa_nil
  have he : starEach [(.JoinedStr [.Constant (.str m) j q1, .FormattedValue (.Name "what" q2) (-1) none q3] q4 : Expr)] X.env = (false, eval (.JoinedStr [.Constant (.str m) j q1, .FormattedValue (.Name "what" q2) (-1) none q3] q4) X.env) :: starEach [] X.env := by rfl
  refine PySem.W.kxs_callWith (i := "ValueError.__init__") (x := a) (by rfl) ?_
  have hrun := ha.run p3 _ _ _ H (fun vs H1 => ∃ z : Str, vs = [.str z] ∧ H1 = H) I3 ?_
  · rw [he] at hrun ⊢
    refine Calls.evalArgs_plain (thn hrun fun us s1 ⟨vs, H1, I4, r4, z, ez, eH⟩ => ?_)
    subst ez eH
    have hu4 := (I4.pin (h'.objs.size, PySem.W.kxs_mw "ValueError.__init__" a) (List.mem_append_right _ List.mem_cons_self)).1
    refine ⟨hu4, call_mw oex I4 hEx hu4 (by show us.length ≤ _; rw [← r4.length, sizeLine_eq]; show (1 : Nat) ≤ _; omega) fun s' J => ?_⟩
    have J' : Inv X [] [some (.ref a), some (.str y), none] H1 s' := ⟨J.ok, J.os, J.bare, J.base, J.loc, J.cell, J.free, J.freeC, fun p hp => J.pin p (List.mem_append_left _ (by simpa using hp)), J.hok, J.len⟩
    exact _root_.PySem.wpAt_of_wpAny ((pss_one (ps_ost (pe_var (i := 0) (by rw [hN]; rfl) v0) (pe_var (i := 1) (by rw [hN]; rfl) v1))).run [] _ _ _ D J' ⟨.str y, rfl, .ref a, rfl, a, C, rfl, oex, nof, .inl ⟨hEx, q⟩⟩)
  · have l0 : Str.empty.length = 0 := rfl
    refine ⟨m, rfl, ?_, ⟨_, rfl, .inl ⟨y, rfl, ?_, y, rfl, ?_, _, rfl, rfl⟩⟩⟩
    · rw [sizeLine_eq, Str.length_append]; omega
    · rw [sizeLine_eq]; omega
    · rw [sizeLine_eq, Str.length_append, Str.length_append]; omega
end

section
variable {P : Program} {w : World} {K : PySem.W.Frag} {mg : Str → Option Value} {base : Heap} {CX : CXT} {k : Nat} {f C : Addr} {fd : FuncData} {qual fld m : Str} {sc : Scope}
variable {p0 p1 p2 p3 p4 p5 p6 p7 p8 q1 q2 q3 q4 : Pos} {j : Nat}
theorem fn_init (T : IniT P K mg C f fd qual sc [.Expr (.Call (.Attribute (.Call (.Name "super" p0) [] [] p1) "__init__" p2) [.JoinedStr [.Constant (.str m) j q1, .FormattedValue (.Name "what" q2) (-1) none q3] q4] [] p3) p4, .Assign [.Attribute (.Name "self" p5) fld p6] (.Name "what" p7) p8] fld)
    (hsc : sc = iniScope) (hm : m.length ≤ 1000)
    (hc : ∀ L cda cc, ∃ pl : Sem Bool, eval (.Call (.Attribute (.Call (.Name "super" p0) [] [] p1) "__init__" p2) [.JoinedStr [.Constant (.str m) j q1, .FormattedValue (.Name "what" q2) (-1) none q3] q4] [] p3) (PySem.W.ksEnv qual iniScope L f (.ref cda) cc) = (do
      let ov ← attributeBase (.Call (.Name "super" p0) [] [] p1) "__init__" (PySem.W.ksEnv qual iniScope L f (.ref cda) cc) (eval (.Call (.Name "super" p0) [] [] p1) (PySem.W.ksEnv qual iniScope L f (.ref cda) cc))
      standAt p2.atName
      let (fx, first) ← holding [ov] (getMethod ov "__init__" pl)
      callWith p3 fx first (backTo p3 (starEach [(.JoinedStr [.Constant (.str m) j q1, .FormattedValue (.Name "what" q2) (-1) none q3] q4 : Expr)] (PySem.W.ksEnv qual iniScope L f (.ref cda) cc))) [])) :
    FnOk P w K mg base CX (k + 1) f fd ["self", "what"] (spInit C fld) := by
  subst hsc
  refine ⟨fun vs H Q E ⟨a, y, e, _⟩ => by rw [e]; rfl, fun A outer s H args us vs Q E hr e0 hb r hsp => ?_⟩
  obtain ⟨a, y, rfl, hy, hEx, q⟩ := hsp
  obtain ⟨hp1, a2, hp2, hp3⟩ := T.par
  obtain ⟨name, params, dV, kV, doc, pm, an, cda, ct, cc, oc, od, osl, rfl, lk, hcd, ⟨ccl, cdd, cvs, ccs, file, tf, hcode, hvs, hfile⟩, cl, cld, csl, hcell⟩ := T.fn
  have KX : K.In s.heap := e0.mod.kin.keeps fun b o e => (e0.bs b o e).1
  have lim : s.heap.NoLimit := e0.mod.nolimit.keeps fun b o e => (e0.bs b o e).1
  let F : NdefX.NF := ⟨name, qual, params, [.Expr (.Call (.Attribute (.Call (.Name "super" p0) [] [] p1) "__init__" p2) [.JoinedStr [.Constant (.str m) j q1, .FormattedValue (.Name "what" q2) (-1) none q3] q4] [] p3) p4, .Assign [.Attribute (.Name "self" p5) fld p6] (.Name "what" p7) p8], iniScope, [("__class__", cc)], cda⟩
  have S : NdefX.NScope ["self", "what", "__class__"] ["self", "what"] ["__class__"] iniScope := NdefX.nscope_by (by decide +kernel)
  have hcf : H cc = none := (e0.bs _ _ (e0.mod.kin _ _ hcell)).2
  have hcs : s.heap.get? cc = some ⟨cl, cld, .cell (some (.ref C)), csl⟩ := KX _ _ hcell
  have CA : NdefX.CellsAt F.cl ["__class__"] [none] s.heap H := by
    have lk1 : ∀ z c, List.lookup z F.cl = some c → z = "__class__" ∧ c = cc := fun z c e => by
      have e : List.lookup z [(Str.ofString "__class__", cc)] = some c := e
      have hm1 := PySem.mem_of_lookup e
      simp only [List.mem_cons, List.not_mem_nil, or_false, Prod.mk.injEq] at hm1
      exact hm1
    refine ⟨rfl, fun z c e => ?_, fun x z c h1 h2 => (lk1 _ _ h1).1.trans (lk1 _ _ h2).1.symm, fun i z e => ⟨cc, ?_, fun v hv => ?_⟩⟩
    · obtain ⟨_, rfl⟩ := lk1 z c e
      exact ⟨hcf, _, _, hcs, rfl⟩
    · have : z ∈ [Str.ofString "__class__"] := List.mem_of_getElem? e
      simp only [List.mem_cons, List.not_mem_nil, or_false] at this
      subst this
      rfl
    · have : some v ∈ [(none : Option V)] := List.mem_of_getElem? hv
      simp at this
  have rl : ∀ z ∈ (["self", "what"] : List Str).zip us, iniScope.names.lookup z.1 = some .local := fun ⟨n, u⟩ hz => by
    have := (List.of_mem_zip hz).1
    simp only [List.mem_cons, List.not_mem_nil, or_false] at this
    rcases this with rfl | rfl <;> rfl
  refine PySem.ks_codeAny_call_defAt (body := F.body) (binds := (["self", "what"] : List Str).zip us) hr.depth (KX _ _ lk) rfl lim (PySem.W.codeRec_of KX hcd) rfl hb S.nocell rl (fun h₁ hns kp => ?_) rfl rfl rfl
  have I : Inv (NdefX.ncx CX P w K mg base ["self", "what", "__class__"] F f A outer s H E) [] (NdefX.startF ["self", "what", "__class__"] [.ref a, .str y] [none]) H { s with heap := h₁, toks := s.toks + ((["self", "what"] : List Str).zip us).length } := NdefX.inv_startN S hr.hd e0 rfl r CA hns kp
  show _root_.PySem.wpAt (model P w) (NdefX.ncx CX P w K mg base ["self", "what", "__class__"] F f A outer s H E).A (.func F.body (NdefX.ncx CX P w K mg base ["self", "what", "__class__"] F f A outer s H E).env) (execs F.body (NdefX.ncx CX P w K mg base ["self", "what", "__class__"] F f A outer s H E).env) _ _ _
  obtain ⟨pl, hc⟩ := hc s.heap.objs.size cda cc
  refine PySem.ks_wpAt_mono (init_body (D := { nx := fun _ H' => Q .non H', rt := Q }) I hy hm hEx rfl rfl rfl rfl rfl rfl rfl rfl rfl hc lk (by rw [hp1, List.nil_append]; exact hp2) hp3 hcode hvs hfile hcell T.oex T.htop T.hsup T.sup T.sub T.sel T.opq T.nof q) (fun fl s' hs => ?_) fun e s' he => he
  have fin : ∀ {σ' : L2.St} {H' : Hp} {v : V} {u : Value}, Inv (NdefX.ncx CX P w K mg base ["self", "what", "__class__"] F f A outer s H E) [] σ' H' s' → RelV v u → Q v H' → CE outer P w H s Q u s' :=
    fun {σ' H' v u} J rv q => ⟨v, H', J.os, J.bare, J.base, J.hok, rv, q⟩
  cases fl with
  | ret u =>
    obtain ⟨v, σ', H', J, rv, q⟩ := hs
    exact fin J rv q
  | next =>
    obtain ⟨σ', H', J, q⟩ := hs
    exact fin (v := V.non) (u := Value.none) J rfl q
  | brk =>
    obtain ⟨_, _, _, q⟩ := hs
    exact False.elim q
  | cont =>
    obtain ⟨_, _, _, q⟩ := hs
    exact False.elim q
end
end DD

set_option Elab.async false
set_option linter.all false
set_option maxRecDepth 100000
set_option maxHeartbeats 4000000
/-! raise of an own class with its own __init__ (DD40); try .. except X as found: return found.what (== e). -/
namespace DD
open PySem L2 PySem.Spec PyProof.Rows

theorem EnvR.hide {K : PySem.W.Frag} {F : Hp} {σ : L2.St} {ρ : DEnv} (h : EnvR K F σ ρ) (i : Nat) (v : Option V) : EnvR K F (σ.set i v) (ρ.set i none) := by
  refine ⟨by rw [List.length_set, List.length_set]; exact h.1, fun j d e => ?_⟩
  by_cases hj : i = j
  · subst hj
    rw [List.getElem?_set] at e
    simp only [if_true] at e
    split at e <;> cases e
  · rw [List.getElem?_set_ne hj] at e
    rw [List.getElem?_set_ne hj]
    exact h.2 j d e
theorem repF_look {K : PySem.W.Frag} {F : Hp} {fld : String} {d : D} : ∀ {gs : List (Str × V)} {fs : List (String × D)}, RepF K F gs fs → fs.lookup fld = some d → ∃ v, gs.lookup (Str.ofString fld) = some v ∧ Rep K F v d
  | _, _, .nil, e => by cases e
  | _, _, .cons (f := f) (vs := vs) (ds := ds) r rs, e => by
    rw [List.lookup_cons] at e ⊢
    by_cases h : fld = f
    · subst h
      simp only [beq_self_eq_true] at e ⊢
      exact ⟨_, rfl, by cases e; exact r⟩
    · have h1 : (fld == f) = false := by simpa using h
      have h2 : (Str.ofString fld == Str.ofString f) = false := by
        rw [beq_eq_false_iff_ne]
        exact fun z => h (by rw [ofString_eq_iff] at z; exact z)
      rw [h1] at e
      rw [h2]
      exact repF_look rs e

/-- raise C(e), C's own __init__ keeps e as fld -/
def wRaiseO (cls : Value) (fld : String) (we : DE) (E : DEnds) (ρ : DEnv) (C : Cells) : Prop := we ρ C (fun x C1 => (match x with
  | .str y => y.length ≤ 1000 ∧ E.ex cls [(fld, .str y)] ρ C1
  | _ => False)) E.ex
section
variable {X : Cx} {W : WX} {K : PySem.W.Frag} {pos : Pos}
theorem ds_raiseO {x : Str} {fld : String} {k : Nat} {p pos' : Pos} {C f : Addr} {fd : FuncData} {e : Expr} {we : DE} (hc : X.calm = true) (tk : Takes X W) (T : OexC X.K C) (iC : PySem.W.findIn X.K (.ref C) "__init__" = some (some (.ref f))) (tI : PySem.W.typeIn X.K (.ref f) = some (.type "function"))
    (F1 : FnOk X.prog X.w X.K X.mg X.base CX0 k f fd ["self", "what"] (spInit C (Str.ofString fld))) (hr : Room (k + 1) X.A) (hb : Binds X.K fd ["self", "what"] []) (gC : X.mg x = some (.ref C)) (he : PE X e (tE X.K W we))
    (hg : Gl X x := by rfl) (hdb : (x == ("__debug__" : Str)) = false := by decide) (hs : starEach [e] X.env = (false, eval e X.env) :: starEach [] X.env := by rfl) :
    PS X (.Raise (some (.Call (.Name x p) [e] [] pos)) none pos') (tS X.K W (wRaiseO (.ref C) fld we)) := by
  refine PS.imp (ps_raise hc tk (pmk_oex T iC tI F1 hr hb .nil pass0 hg gC (pa_cons he pa_nil hs) hdb hs)) fun D σ H ⟨F, C', ρ, E, hs', en, xr, w, k⟩ => ?_
  refine ⟨F, C', ρ, _, _, hs', en, xr, w, fun v F1 H1 d C1 e1 h1 rv hd => ?_⟩
  cases rv with
  | str y =>
    obtain ⟨hy, hx⟩ := hd
    refine ⟨by show 1 ≤ 1000; decide, fun a ha => ⟨a, y, rfl, hy, upd_same, fun dx hdx hne => ⟨rfl, dx, [(Str.ofString fld, .str y)], upd_same, ?_, ?_, ?_⟩⟩⟩
    · rw [upd_ne hne, upd_same]
    · rw [upd_ne hne] at hdx; exact hdx
    · have hd1 : H1 dx = none := by rw [upd_ne hne] at hdx; exact hdx
      have eH : upd (L2.del (upd (upd (upd H1 a (exo a C none)) dx (exd dx [(Str.ofString fld, .str y)])) a (exo a C (some dx))) a) dx (.xd [(Str.ofString fld, .str y)]) = upd H1 dx (.xd [(Str.ofString fld, .str y)]) := by
        funext b
        by_cases hb : b = dx
        · rw [hb, upd_same, upd_same]
        · rw [upd_ne hb, upd_ne hb]
          by_cases hba : b = a
          · rw [hba, L2.del_same, ha]
          · rw [L2.del_ne hba, upd_ne hba, upd_ne hb, upd_ne hba]
      rw [eH]
      exact xr _ (some dx) [(fld, .str y)] σ F1 _ ρ C1 e1 (h1.skip hd1) (en.mono e1) (.inr ⟨by simp, dx, _, rfl, upd_same, .cons (.str y) .nil⟩) hx
  | _ => exact hd.elim

/-! except X as found -/
def tSx (K : PySem.W.Frag) (i : Nat) (Cl : Addr) (a : Addr) (cls : Value) (d : Option Addr) (ws : List (String × D) → DS) : TS := fun D σ H => σ[i]? = some (some (V.ref a)) ∧ cls = .ref Cl ∧ ∃ F C ρ E fs, Hs K F C H ∧ EnvR K F σ ρ ∧ XRep K F H d fs ∧ ws fs E ρ C ∧ EndsR K F E D
def wTryX (K : PySem.W.Frag) (i : Nat) (Cl : Addr) (wb : DS) (ws : List (String × D) → DS) (E : DEnds) (ρ : DEnv) (C : Cells) : Prop := wb { E with ex := fun cls fs ρ' C' => ∃ b, PySem.W.exmOne K cls (.ref Cl) = some b ∧
  (b = true → cls = .ref Cl ∧ i < ρ'.length ∧ ws fs { nx := fun ρ2 C2 => E.nx (ρ2.set i none) C2, bk := fun ρ2 C2 => E.bk (ρ2.set i none) C2, ct := fun ρ2 C2 => E.ct (ρ2.set i none) C2, rt := E.rt, ex := fun _ _ _ _ => False } (ρ'.set i none) C') ∧ (b = false → E.ex cls fs ρ' C') } ρ C
theorem ds_tryAs (i : Nat) {x n : Str} {C : Addr} {K' : PySem.W.Frag} {body suite : List Stmt} {b₀ : Stmt} {np pos' : Pos} {wb : DS} {ws : List (String × D) → DS} (hs : X.stack = X.env :: X.outer) (hf : X.env.frame = some X.env.locals) (hN : X.N.Nodup) (hi : X.N[i]? = some n) (hln : X.env.kindOf n = some .local)
    (gC : X.mg x = some (.ref C)) (tk : Takes X W)
    (hb : ∀ (W' : WX) (pn : List (Addr × Obj)) (xe : Value → Shared → Prop), Takes (X.tr pn xe) W' → PassesOwn (model X.prog X.w) X.A X.env xe → PSs (X.tr pn xe) body (tS X.K W' wb))
    (hsu : ∀ (a : Addr) (oe : Obj) (cls : Value) (d : Option Addr) (pn : List (Addr × Obj)), Zc cls d oe → (∃ vs, oe.data = .fields vs) → PSs (X.suite a ((a, oe) :: pn)) (b₀ :: suite) (tSx X.K i C a cls d ws))
    (hK : X.K = K' := by rfl) (hg : Gl X x := by rfl) (hdb : (x == ("__debug__" : Str)) = false := by decide) :
    PS X (.Try body [.ExceptHandler (some (.Name x np)) (some n) (b₀ :: suite) pos'] [] [] pos) (tS X.K W (wTryX K' i C wb ws)) := by
  subst hK
  refine PS.imp (ps_try_as (tb := fun W' => tS X.K W' wb) (ts := fun a cls d => tSx X.K i C a cls d ws) hs hf hN hi hln ⟨hg, hdb, .inl gC⟩ tk hb hsu) fun D σ H ⟨F, C', ρ, E, hs', en, xr, w, k⟩ => ?_
  refine ⟨F, C', ρ, _, hs', en, ?_, w, k.exx⟩
  rintro cls d fs σ1 F1 H1 ρ1 C1 e1 h1 n1 rx ⟨b, hb1, hy, hn⟩
  refine ⟨b, hb1, fun hbt a ha => ?_, fun hbf => xr cls d fs σ1 F1 H1 ρ1 C1 e1 h1 n1 rx (hn hbf)⟩
  obtain ⟨hcl, hlen, hw⟩ := hy hbt
  refine ⟨?_, hcl, F1, C1, ρ1.set i none, _, fs, h1, n1.hide i _, rx, hw, ?_⟩
  · rw [List.getElem?_set_self (by rw [n1.1]; exact hlen)]
  · have k1 := k.mono e1
    exact ⟨fun σ2 F2 H2 ρ2 C2 e2 h2 n2 q => k1.nx _ F2 H2 _ C2 e2 h2 (n2.hide i none) q, k1.rt, fun σ2 F2 H2 ρ2 C2 e2 h2 n2 q => k1.bk _ F2 H2 _ C2 e2 h2 (n2.hide i none) q, fun σ2 F2 H2 ρ2 C2 e2 h2 n2 q => k1.ct _ F2 H2 _ C2 e2 h2 (n2.hide i none) q⟩
/-- return found.what -/
def wRetX (fld : String) (fs : List (String × D)) (E : DEnds) (_ : DEnv) (C : Cells) : Prop := ∃ d, fs.lookup fld = some d ∧ E.rt d C
/-- return found.what == e -/
def wRetXq (fld : String) (rd : DR2) (wb : DE) (fs : List (String × D)) (E : DEnds) (ρ : DEnv) (C : Cells) : Prop := ∃ x, fs.lookup fld = some x ∧ wb ρ C (fun y C2 => rd x y C2 E.rt) (fun _ _ _ _ => False)
theorem ds_retX {i : Nat} {a : Addr} {oe : Obj} {Cl : Addr} {cls : Value} {d : Option Addr} {pn : List (Addr × Obj)} {n : Str} {fld : String} {p1 p2 p3 : Pos} (T : XfC X.K Cl) (hno : PySem.W.findIn X.K (.ref Cl) (Str.ofString fld) = some none) (hi : X.N[i]? = some n) (hln : X.env.kindOf n = some .local)
    (hz : Zc cls d oe) (hf : ∃ vs, oe.data = .fields vs) (hdb : (n == ("__debug__" : Str)) = false := by decide) (hcd : (n == ("__classdict__" : Str)) = false := by decide) :
    PSs (X.suite a ((a, oe) :: pn)) [.Return (some (.Attribute (.Name n p1) (Str.ofString fld) p2)) p3] (tSx X.K i Cl a cls d (wRetX fld)) := by
  refine pss_one ?_
  have hv : Vis X.env.scope n := .inl hln
  refine PS.imp (ps_ret (pe_xf T hno hz hf (pe_var (X := X.suite a ((a, oe) :: pn)) (i := i) hi hv hdb hcd))) fun D σ H ⟨hσ, hcl, F, C, ρ, E, fs, hs, en, rx, ⟨x, hx, hq⟩, k⟩ => ?_
  rcases rx with ⟨rfl, _⟩ | ⟨_, dd, gs, rfl, hdd, rf⟩
  · cases hx
  · obtain ⟨v, hv1, rv⟩ := repF_look rf hx
    exact ⟨_, hσ, rfl, hcl, dd, gs, v, rfl, hdd, hv1, k.rt v F H x C (Ex.refl F) hs rv hq⟩
theorem ds_retXq {i : Nat} {a : Addr} {oe : Obj} {Cl : Addr} {cls : Value} {d : Option Addr} {pn : List (Addr × Obj)} {n : Str} {fld : String} {p1 p2 p3 : Pos} {op : CmpOp} {r : R2} {rd : DR2} {b : Expr} {wb : DE} (T : XfC X.K Cl) (hno : PySem.W.findIn X.K (.ref Cl) (Str.ofString fld) = some none) (hi : X.N[i]? = some n) (hln : X.env.kindOf n = some .local)
    (hz : Zc cls d oe) (hf : ∃ vs, oe.data = .fields vs) (ho : OpR (X.suite a ((a, oe) :: pn)) (compareOp op) r) (hr : SimR X.K r rd) (hb : PE (X.suite a ((a, oe) :: pn)) b (tE X.K (fun _ _ _ _ => False) wb)) (hm : behindInMarks op b = false := by first | exact nobehind _ (by decide) (by decide) | rfl)
    (hdb : (n == ("__debug__" : Str)) = false := by decide) (hcd : (n == ("__classdict__" : Str)) = false := by decide) :
    PSs (X.suite a ((a, oe) :: pn)) [.Return (some (.Compare (.Attribute (.Name n p1) (Str.ofString fld) p2) [op] [b] pos)) p3] (tSx X.K i Cl a cls d (wRetXq fld rd wb)) := by
  refine pss_one ?_
  have hv : Vis X.env.scope n := .inl hln
  refine PS.imp (ps_ret (pe_cmpR ho (pe_xf T hno hz hf (pe_var (X := X.suite a ((a, oe) :: pn)) (i := i) hi hv hdb hcd)) hb hm)) fun D σ H ⟨hσ, hcl, F, C, ρ, E, fs, hs, en, rx, ⟨x, hx, hq⟩, k⟩ => ?_
  rcases rx with ⟨rfl, _⟩ | ⟨_, dd, gs, rfl, hdd, rf⟩
  · cases hx
  · obtain ⟨v, hv1, rv⟩ := repF_look rf hx
    exact ⟨_, hσ, rfl, hcl, dd, gs, v, rfl, hdd, hv1, F, C, ρ, _, fun _ _ _ _ => False, hs, en, fun _ _ _ _ _ _ _ _ _ _ _ _ z => z.elim, hq, fun u F2 H2 du C2 e2 h2 ru q2 => hr F2 C2 H2 v u x du _ _ h2 (rv.mono e2) ru q2 (k.rt.mono e2)⟩
end
/-! C(e, ..) whose __init__ may raise, an instance that does not change any more -/
section
variable {X : Cx} {W : WX} {k : Nat} {f Cl : Addr} {fd : FuncData} {ps : List Str} {x : Str} {p pos : Pos} {e : Expr} {es : List Expr} {dvs : List V} {dsv : List Value}
theorem d_makeXF {RX : DSpX} {dd : List D} {wr : DA} (tk : Takes X W) (M : Mk X.K Cl f) (G : FnOk X.prog X.w X.K X.mg X.base (L2.CX X.prog X.w) k f fd ps (spX X.K RX)) (hr : Room (k + 1) X.A) (hm : X.mg x = some (.ref Cl)) (hb : Binds X.K fd ps dsv) (ha : PA X (e :: es) (tA X.K W wr)) (hd : Vals dvs dsv := by exact .nil) (hdd : ∀ F, RepL X.K F dvs dd := by exact fun _ => .nil) (hg : Gl X x := by rfl)
    (hdb : (x == ("__debug__" : Str)) = false := by decide) (he : starEach (e :: es) X.env = (false, eval e X.env) :: starEach es X.env := by rfl) (hpl : (backTo pos (starEach es X.env)).any (·.1) = false := by rfl) :
    PE X (.Call (.Name x p) (e :: es) [] pos) (tE X.K W (wMakeXF Cl RX dd wr)) := by
  refine ⟨fun pins s σ H Q I ⟨F, C, ρ, P, PX, hs, en, xr, w, kk⟩ => ?_⟩
  refine wpAny_Call_Name_kw (ld_glob I hg hm ?_ hdb)
  refine PySem.W.callWith_K (h₀ := X.base) I.ok.mod.kin M.kp (thn (ha.run pos pins s σ H (fun vs H1 => ∃ F1 C1 ds, Ex F F1 ∧ Hs X.K F1 C1 H1 ∧ RepL X.K F1 vs ds ∧ ∀ q, C1 q = none → RX (.ptr q :: (ds ++ dd)) (cput C1 q (.ins Cl [])) (fun r C2 => r = .non ∧ frzP P q C2) (fun cls fs C3 => PX cls fs ρ C3)) I
    ⟨F, C, ρ, _, PX, hs, en, xr, w, fun vs F1 H1 ds C1 e1 h1 r q => ⟨F1, C1, ds, e1, h1, r, q⟩⟩) fun us s1 ⟨vs, H1, I1, r, F1, C1, ds, e1, h1, rr, q⟩ => ⟨I1.kIn, ?_⟩) he hpl
  refine make_at (E := WE W σ) M G hr hb hd (passAt tk σ) I1 r fun z dx hz hdx ne => ?_
  obtain ⟨c0, h2⟩ := h1.inst (Cl := Cl) hz hdx ne
  exact ⟨F1, _, .ptr z :: (ds ++ dd), _, _, h2, .cons (.ptr z) (rr.append (hdd F1)), q z c0, frz_kont (kk.mono e1), KontX.of (xr.mono e1) (en.mono e1)⟩
end
end DD

set_option Elab.async false
set_option linter.all false
set_option maxRecDepth 100000
set_option maxHeartbeats 4000000
/-! xs[::-1]. -/
namespace DD
open PySem L2 PySem.Spec PyProof.Rows
def wRev (we : DE) (ρ : DEnv) (C : Cells) (P : DK) (PX : DX) : Prop := we ρ C (fun x C1 => match seqOf x C1 with
  | some xs => P (.lst xs.reverse) C1
  | none => False) PX
section
variable {X : Cx} {W : WX} {e : Expr} {we : DE} {k : Nat} {p1 p2 p3 pos : Pos}
theorem d_rev (he : PE X e (tE X.K W we)) : PE X (.Subscript e (.Slice none none (some (.UnaryOp .USub (.Constant (.int 1) k p1) p2)) p3) pos) (tE X.K W (wRev we)) :=
  PE.imp (pe_revL he) fun σ H Q ⟨F, C, ρ, P, PX, hs, en, xr, w, kk⟩ => ⟨F, C, ρ, _, PX, hs, en, xr, w, fun v F1 H1 d C1 e1 h1 rv hp => by
    revert hp
    split
    · rename_i xs hxs
      intro hp
      obtain ⟨a, vs, rfl, hq, hr⟩ := seq_of h1 rv hxs
      refine ⟨a, vs, rfl, hq, fun p hp0 => ?_⟩
      obtain ⟨e2, h2, r2⟩ := h1.newL (hr.reverse) hp0
      exact kk _ _ _ _ C1 (e1.trans e2) h2 r2 hp
    · exact fun z => z.elim⟩
end
end DD

set_option Elab.async false
set_option linter.all false
set_option maxRecDepth 100000
set_option maxHeartbeats 4000000
/-! a, b = xs (a list, a cell too); try .. except X as found: return f(found), f asks isinstance of found. -/
namespace DD
open PySem L2 PySem.Spec PyProof.Rows

/-! ### targets over a list -/
/-- t1, .. = e, e a list -/
def wAsgC (e : DE) (ts : List Tgt) (E : DEnds) (ρ : DEnv) (C : Cells) : Prop := e ρ C (fun d C1 => match seqOf d C1 with
  | some ds => (match dgs ts ds ρ with | some ρ' => E.nx ρ' C1 | none => False)
  | none => False) E.ex
section
variable {X : Cx} {W : WX} {e : Expr} {we : DE} {pos pos' : Pos} {es : List Expr} {k : Nat} {ts : List Tgt}
theorem ds_asgC (hc : X.calm = true) (he : PE X e (tE X.K W we)) (h : PGs X es (tgs X.K ts)) (hs : swapsWithSole [.Tuple es k pos'] e pos.line X.env = pure false := by rfl) (hw : swappedStores [.Tuple es k pos'] e X.env = pure none := by rfl)
    (h1 : (assignEach [.Tuple es k pos'] X.env).map (·.2) = [assign (.Tuple es k pos') X.env] := by rfl)
    (hn : (assignEach es X.env).length = ts.length := by rfl) (hst : (assignEach es X.env).findIdx? (·.1) = none := by rfl) : PS X (.Assign [.Tuple es k pos'] e pos) (tS X.K W (wAsgC we ts)) := by
  refine PS.imp (ps_asg he (pg_unl hc h hn hst) hs hw h1) fun D σ H ⟨F, C, ρ, DE, hs, en, xr, w, er⟩ => ?_
  refine ⟨F, C, ρ, _, _, hs, en, xr, w, fun v F1 H1 d C1 e1 h1 r q => ?_⟩
  revert q
  dsimp only
  split
  · rename_i ds hq
    obtain ⟨a, xs, rfl, hx, rl⟩ := seq_of h1 r hq
    split
    · rename_i ρ' hd
      exact fun q => ⟨a, xs, rfl, hx, by rw [rl.length]; exact dgs_len (K := X.K) (F := F1) (H := H1) ts hd, tgs_ok ts h1.ex rl (en.mono e1) hd fun σ' en' _ => er.nx σ' F1 H1 ρ' C1 e1 h1 en' q⟩
    · exact fun z => z.elim
  · exact fun z => z.elim
end

/-! ### t[lo:hi], t a tuple -/
def wSlT (e : DE) (lo hi : DO) (ρ : DEnv) (C : Cells) (P : DK) (PX : DX) : Prop := e ρ C (fun x C1 => lo ρ C1 (fun l C2 => hi ρ C2 (fun h C3 => match x with
  | .tup ds => P (.tup (cutD ds l h)) C3
  | _ => False) PX) PX) PX
theorem d_slT {X : Cx} {W : WX} {e : Expr} {lo hi : Option Expr} {we : DE} {wl wh : DO} {p2 pos : Pos} (he : PE X e (tE X.K W we)) (hl : PO X lo (tO X.K W wl)) (hh : PO X hi (tO X.K W wh)) : PE X (.Subscript e (.Slice lo hi none p2) pos) (tE X.K W (wSlT we wl wh)) :=
  PE.imp (pe_slice sl_tupA he hl hh) fun σ H Q ⟨F, C, ρ, P, PX, hs, en, xr, w, k⟩ =>
  ⟨F, C, ρ, _, PX, hs, en, xr, w, fun v F1 H1 x C1 e1 h1 rv q => ⟨F1, C1, ρ, _, PX, h1, en.mono e1, xr.mono e1, q, fun l F2 H2 C2 e2 h2 q2 => ⟨F2, C2, ρ, _, PX, h2, en.mono (e1.trans e2), xr.mono (e1.trans e2), q2, fun h F3 H3 C3 e3 h3 q3 => by
    cases rv <;> first | exact q3.elim | skip
    rename_i a xs ds hq hr
    have hr3 := hr.mono (e2.trans e3)
    have hq3 := (e2.trans e3).nd hq rfl
    have len := hr.length
    have q3 : P (.tup (cutD ds l h)) C3 := q3
    refine ⟨a, xs, rfl, .of (h3.ex.nd hq3 rfl), fun hw => ?_, fun hw p hp => ?_⟩
    · have ec : cutD ds l h = ds := by
        unfold cutD
        rw [← len, hw.1, hw.2, List.drop_zero, Nat.sub_zero, len]
        exact List.take_length
      rw [ec] at q3
      exact k _ F3 H3 _ C3 ((e1.trans e2).trans e3) h3 (.tup hq3 hr3) q3
    · obtain ⟨e4, h4, r4⟩ := h3.newT (hr3.cut l h) hp
      exact k _ _ _ _ C3 (((e1.trans e2).trans e3).trans e4) h4 r4 q3⟩⟩⟩

/-! ### isinstance of a caught error -/
/-- the error of the class at D at the address a is asked whether it is of a class -/
def dIsE (K : PySem.W.Frag) (D a : Addr) (ds : List DD.D) (C : Cells) (P : DK) : Prop := match ds with
  | [x, .ptr c] => x = .ptr a ∧ ∃ b, PySem.W.kitOne K (.ref D) (.ref c) = some b ∧ P (.bl b) C
  | _ => False
section
variable {X : Cx} {D a : Addr} {oe : Obj}
theorem cr_isE (hp : (a, oe) ∈ X.pn) (T : ExcC X.K D) (hz : Zc (.ref D) none oe) (hf : ∃ vs, oe.data = .fields vs) : CallR X (.builtin "isinstance") (rIsE X.K D a) := by
  intro pins s σ H xs us Q I r ⟨c, cv, b, ex, hcv, e, q⟩
  subst ex
  cases r with
  | cons rx rr =>
    cases rx
    cases rr with
    | cons rt r0 =>
      cases r0
      cases hcv _ rt
      have hg := (I.pin (a, oe) (List.mem_append_left _ hp)).1
      have J : PySem.W.InstAt s.heap a oe D none := by
        obtain ⟨vs, hv⟩ := hf
        cases oe with
        | mk oc od oda osl =>
          obtain ⟨h1, h2⟩ := hz
          dsimp only at h1 h2 hv
          subst h1 h2 hv
          exact ⟨hg, rfl, rfl, trivial⟩
      refine PySem.W.kia_one (PySem.W.handS_kitx_exc T.hg T.hk T.hs T.hd T.ha T.hn T.ht T.hm) I.kIn J e (fun z => nomatch z) fun tk => ?_
      exact ⟨.bl b, H, I.kept (t' := tk) fun _ _ z => z, rfl, q⟩
theorem s_isE {K : PySem.W.Frag} : SimA K (rIsE K D a) (dIsE K D a) := fun F C H xs ds P Q hs r w k => by
  revert w
  unfold dIsE
  split
  · rename_i x c
    rintro ⟨rfl, b, hb, w⟩
    cases r with
    | cons r1 r2 =>
      cases r2 with
      | cons r3 r4 =>
        cases r4
        cases r1
        cases r3
        exact ⟨.ref c, .ref c, b, rfl, fun u h => h, hb, k _ F H _ C (Ex.refl F) hs (.bl b) w⟩
  · exact fun z => z.elim
end

/-! ### defs of one parameter that get the caught error -/
abbrev RExc := Addr → DK → Cells → Prop
/-- f at a caught error of the class D: what RE says -/
def FnE (P : Program) (w : World) (K : PySem.W.Frag) (mg : Str → Option Value) (base : Heap) (k : Nat) (f : Addr) (fd : FuncData) (y : Str) (RE : RExc) : Prop :=
  ∀ (A : Around) (outer : List Env) (s : Shared) (H : Hp) (args : Args) (a D : Addr) (oe : Obj) (Q : VK) (E : XK), L2H.RoomH k A → L2H.PinOk outer H s (a, oe) → ExcC K D → Zc (.ref D) none oe → (∃ vs, oe.data = .fields vs) → Env0 P w K mg base A outer s H → BindsTo s fd args [(y, .ref a)] →
    (∃ F C P', Hs K F C H ∧ RE D P' C ∧ Kont K F P' Q) → codeAny (model P w) A (.call (.ref f) args) (CR CX0 outer P w H s Q E) s
section
variable {P : Program} {w : World} {K : PySem.W.Frag} {mg : Str → Option Value} {base : Heap} {x qual y : Str} {st : Stmt} {f : Addr} {fd : FuncData} {N : List Str} {k : Nat} {RE : RExc} {ws : Addr → Addr → DS}
theorem ok_E (G : Fun K x qual st f fd) (S : FnScope N [y] (defScope st))
    (hbody : ∀ (cdv : Value) (A : Around) (outer : List Env) (s : Shared) (H : Hp) (E : XK) (a D : Addr) (oe : Obj), L2H.RoomH k (A.deeper (envOfC qual (defScope st) s.heap.objs.size f cdv)) → ExcC K D → Zc (.ref D) none oe → (∃ vs, oe.data = .fields vs) →
      PSs (L2H.cxH CX0 P w K mg base N qual (defScope st) f cdv A outer s H E (a, oe)) (defBody st) (tS K W0 (ws D a)))
    (hw : ∀ D a C Pk, RE D Pk C → ws D a (endsD Pk) (startD N [.ptr a]) C) : FnE P w K mg base (k + 1) f fd y RE := by
  obtain ⟨oc, od, kV, doc, pm, an, cdv, ct, osl, rfl, lk, hcd⟩ := G.ex
  intro A outer s H args a D oe Q E hr hpin hD hz hf e0 hb ⟨F1, C1, Pk, hs, hR, kk⟩
  have inK : K.In s.heap := e0.mod.kin.keeps fun b o e => (e0.bs b o e).1
  have noL : s.heap.NoLimit := e0.mod.nolimit.keeps fun b o e => (e0.bs b o e).1
  have kinds : ∀ z ∈ [(y, Value.ref a)], (defScope st).names.lookup z.1 = some .local ∨ ((defScope st).names.lookup z.1 = some .cell ∧ ((cellsFrom (s.heap.objs.size + 1) (defScope st).names []).lookup z.1).isSome = true) := fun z hz => by
    simp only [List.mem_cons, List.not_mem_nil, or_false] at hz
    subst hz
    rcases S.par y List.mem_cons_self with q | q
    · exact .inl q
    · exact .inr ⟨q, PySem.W.cellsFrom_some _ _ _ (.inl q)⟩
  refine codeAny_call_function hr.depth (inK _ _ lk) rfl S.co S.gen rfl (PySem.W.codeRec_of inK hcd) (hb _ _ _ _ ?_)
  refine wpAny_newFunctionEnv_cells S.kind kinds fun env he s1 xx => ?_
  subst he
  refine ⟨noL.keeps xx.toInCall.keep, codeAny_func ?_⟩
  have B := hbody cdv A outer s H E a D oe (hr.deeper _) hD hz hf
  have rv : Vals [V.ref a] [Value.ref a] := .cons rfl .nil
  have I := L2H.inv_startH (CX := CX0) (E := E) S hpin e0 (vs := [V.ref a]) (us := [Value.ref a]) rfl rv xx
  have go : tS K W0 (ws D a) { nx := fun _ H' => Q .non H', rt := Q } (L2.start N [V.ref a]) H :=
    ⟨F1, C1, startD N [.ptr a], endsD Pk, hs, start_ok (.cons (.ptr a) .nil), fun _ _ _ _ _ _ _ _ _ _ _ _ z => z.elim, hw D a C1 Pk hR,
      ⟨fun σ F2 H2 ρ C2 e2 h2 n2 ⟨C3, s3, q⟩ => kk _ F2 H2 _ C3 e2 (h2.sub s3) .non q, fun v F2 H2 d C2 e2 h2 rv ⟨C3, s3, q⟩ => kk v F2 H2 d C3 e2 (h2.sub s3) rv q, fun _ _ _ _ _ _ _ _ z => z.elim, fun _ _ _ _ _ _ _ _ z => z.elim⟩⟩
  refine wpAny_mono (B.run [] s1 (L2.start N [V.ref a]) H _ I go) (fun fl s2 hh => ?_) fun e s2 hh => hh
  cases fl with
  | ret u => obtain ⟨v, _, H2, J, rv, q⟩ := hh; exact ⟨v, H2, J.os, J.bare, J.base, J.hok, rv, q⟩
  | next => obtain ⟨_, H2, J, q⟩ := hh; exact ⟨V.non, H2, J.os, J.bare, J.base, J.hok, (rfl : RelV V.non Value.none), q⟩
  | brk => exact hh.elim fun _ z => z.elim fun _ z => z.2.elim
  | cont => exact hh.elim fun _ z => z.elim fun _ z => z.2.elim
end
/-- within the suite: what is known of the caught error -/
def tSf (K : PySem.W.Frag) (i : Nat) (RE : RExc) (a : Addr) (cls : Value) (d : Option Addr) : TS := fun D σ H => σ[i]? = some (some (V.ref a)) ∧ d = none ∧ ∃ Dc F C ρ E, cls = .ref Dc ∧ ExcC K Dc ∧ Hs K F C H ∧ EnvR K F σ ρ ∧ RE Dc E.rt C ∧ EndsR K F E D
def wTryF (K : PySem.W.Frag) (i : Nat) (Cl : Addr) (wb : DS) (RE : RExc) (E : DEnds) (ρ : DEnv) (C : Cells) : Prop := wb { E with ex := fun cls fs ρ' C' => ∃ b, PySem.W.exmOne K cls (.ref Cl) = some b ∧
  (b = true → ∃ Dc, cls = .ref Dc ∧ fs = [] ∧ ExcC K Dc ∧ i < ρ'.length ∧ RE Dc E.rt C') ∧ (b = false → E.ex cls fs ρ' C') } ρ C
section
variable {X : Cx} {W : WX} {i k : Nat} {x n y fn : Str} {C f : Addr} {fd : FuncData} {RE : RExc} {body : List Stmt} {np pos pos' p1 p2 p3 p4 : Pos} {wb : DS}
theorem pe_callE {a : Addr} {oe : Obj} {cls : Value} {d : Option Addr} {pn : List (Addr × Obj)} (G : FnE X.prog X.w X.K X.mg X.base k f fd y RE) (hr : Room k X.A) (hm : X.mg fn = some (.ref f)) (hk : PySem.W.keepIn X.K (.ref f) = true) (hb : Binds X.K fd [y] [])
    (hz : Zc cls d oe) (hf : ∃ vs, oe.data = .fields vs) (hi : X.N[i]? = some n) (hln : X.env.kindOf n = some .local) (hg : Gl X fn) (hdf : (fn == ("__debug__" : Str)) = false) (hdb : (n == ("__debug__" : Str)) = false) (hcd : (n == ("__classdict__" : Str)) = false) :
    PE (X.suite a ((a, oe) :: pn)) (.Call (.Name fn p1) [.Name n p2] [] p3) (fun σ H Q => σ[i]? = some (some (V.ref a)) ∧ d = none ∧ ∃ Dc F C P', cls = .ref Dc ∧ ExcC X.K Dc ∧ Hs X.K F C H ∧ RE Dc P' C ∧ Kont X.K F P' Q) := by
  have hv : Vis X.env.scope n := .inl hln
  have ha : PA (X.suite a ((a, oe) :: pn)) [.Name n p2] _ := pa_cons (pe_var (X := X.suite a ((a, oe) :: pn)) (i := i) hi hv hdb hcd) pa_nil rfl
  refine ⟨fun pins s σ H Q I ⟨hσ, hdn, Dc, F, C, P', hcl, hD, hs, hR, kk⟩ => ?_⟩
  subst hdn hcl
  refine wpAny_Call_Name_kw (ld_glob (X := X.suite a ((a, oe) :: pn)) I hg hm ?_ hdf)
  refine PySem.W.callWith_K (h₀ := X.base) I.ok.mod.kin hk (thn (ha.run p3 pins s σ H (fun vs H1 => vs = [V.ref a] ∧ H1 = H) I ⟨_, hσ, rfl, rfl⟩) fun us s1 ⟨vs, H1, I1, r, hvs, hH⟩ => ⟨I1.kIn, ?_⟩) rfl rfl
  subst hvs hH
  cases r with
  | cons r1 r2 =>
    cases r2
    cases r1
    have b := hb s1 [.ref a] I1.kIn rfl
    have P1 := I1.pin (a, oe) (List.mem_append_left _ List.mem_cons_self)
    have hpin : L2H.PinOk X.stack H1 s1 (a, oe) := ⟨P1.1, P1.2.1, fun hm => (List.mem_cons.mp (I1.stkSub a hm)).elim P1.2.2.1 P1.2.2.2.1, P1.2.2.2.2⟩
    have rm : L2H.RoomH k (X.A.mark (some (.ref a))) := ⟨hr.dp, hr.un⟩
    refine wpAny_call (codeAny_mono (G (X.A.mark (some (.ref a))) X.stack s1 H1 ⟨[.ref a], []⟩ a Dc oe Q E0 rm hpin hD hz hf I1.env0 b ⟨F, C, P', hs, hR, kk⟩) fun o s2 hq => ?_)
    match o, hq with
    | .error e, hq => exact hq.elim
    | .ok (.ret u), hq => exact I1.after hq
    | .ok .next, hq => exact hq.elim
    | .ok .brk, hq => exact hq.elim
    | .ok .cont, hq => exact hq.elim
theorem ds_tryF (i : Nat) {K' : PySem.W.Frag} (hs : X.stack = X.env :: X.outer) (hf : X.env.frame = some X.env.locals) (hN : X.N.Nodup) (hi : X.N[i]? = some n) (hln : X.env.kindOf n = some .local) (gC : X.mg x = some (.ref C)) (tk : Takes X W)
    (hb : ∀ (W' : WX) (pn : List (Addr × Obj)) (xe : Value → Shared → Prop), Takes (X.tr pn xe) W' → PassesOwn (model X.prog X.w) X.A X.env xe → PSs (X.tr pn xe) body (tS X.K W' wb))
    (G : FnE X.prog X.w K' X.mg X.base k f fd y RE) (hr : Room k X.A) (hm : X.mg fn = some (.ref f)) (hk : PySem.W.keepIn X.K (.ref f) = true) (hbd : Binds X.K fd [y] [])
    (hK : X.K = K' := by rfl) (hg : Gl X x := by rfl) (hgf : Gl X fn := by rfl) (hdb : (x == ("__debug__" : Str)) = false := by decide) (hdf : (fn == ("__debug__" : Str)) = false := by decide) (hdn : (n == ("__debug__" : Str)) = false := by decide) (hcd : (n == ("__classdict__" : Str)) = false := by decide) :
    PS X (.Try body [.ExceptHandler (some (.Name x np)) (some n) [.Return (some (.Call (.Name fn p1) [.Name n p2] [] p3)) p4] pos'] [] [] pos) (tS X.K W (wTryF K' i C wb RE)) := by
  subst hK
  refine PS.imp (ps_try_as (tb := fun W' => tS X.K W' wb) (ts := fun a cls d => tSf X.K i RE a cls d) hs hf hN hi hln ⟨hg, hdb, .inl gC⟩ tk hb fun a oe cls d pn hz hfl => ?_) fun D σ H ⟨F, C', ρ, E, hs', en, xr, w, k⟩ => ?_
  · refine pss_one (PS.imp (ps_ret (pe_callE G hr hm hk hbd hz hfl hi hln hgf hdf hdn hcd)) fun D σ H ⟨hσ, hd, Dc, F, C, ρ, E, hc, hD, hs, en, hR, k⟩ => ?_)
    exact ⟨hσ, hd, Dc, F, C, E.rt, hc, hD, hs, hR, k.rt⟩
  · refine ⟨F, C', ρ, _, hs', en, ?_, w, k.exx⟩
    rintro cls d fs σ1 F1 H1 ρ1 C1 e1 h1 n1 rx ⟨b, hb1, hy, hn⟩
    refine ⟨b, hb1, fun hbt a ha => ?_, fun hbf => xr cls d fs σ1 F1 H1 ρ1 C1 e1 h1 n1 rx (hn hbf)⟩
    obtain ⟨Dc, hcl, hfs, hD, hlen, hR⟩ := hy hbt
    have hd : d = none := by
      rcases rx with ⟨_, z⟩ | ⟨z1, _⟩
      · exact z
      · exact absurd hfs z1
    refine ⟨?_, hd, Dc, F1, C1, ρ1.set i none, { nx := fun ρ2 C2 => E.nx (ρ2.set i none) C2, bk := fun ρ2 C2 => E.bk (ρ2.set i none) C2, ct := fun ρ2 C2 => E.ct (ρ2.set i none) C2, rt := E.rt, ex := fun _ _ _ _ => False }, hcl, hD, h1, n1.hide i _, hR, ?_⟩
    · rw [List.getElem?_set_self (by rw [n1.1]; exact hlen)]
    · have k1 := k.mono e1
      exact ⟨fun σ2 F2 H2 ρ2 C2 e2 h2 n2 q => k1.nx _ F2 H2 _ C2 e2 h2 (n2.hide i none) q, k1.rt, fun σ2 F2 H2 ρ2 C2 e2 h2 n2 q => k1.bk _ F2 H2 _ C2 e2 h2 (n2.hide i none) q, fun σ2 F2 H2 ρ2 C2 e2 h2 n2 q => k1.ct _ F2 H2 _ C2 e2 h2 (n2.hide i none) q⟩
end
end DD

set_option Elab.async false
set_option linter.all false
set_option maxRecDepth 100000
set_option maxHeartbeats 4000000
namespace Law
open PySem L2 DD
local macro_rules | `(tactic| walk_at "dd") => `(tactic| simp only [wFor, wLc, wYes, wSeq, wRaise, wRaiseI, wRaiseO, wTry, wTryX, wTryF, wAsgC, wSlT, dIsE, wRetX, wRetXq, wRev, wSet, wNext, wBreak, wCont, wDrop, wRet, wRetN, wIfS, wRetF, wFrz, wAsg, wAug, wPar, wVar, wC, wNil, wCons, wOp, wUn, wCB, wTest, wAnd, wOr, wNot, wIf, wAndV, wOrV, wNotV, wChain, wTup, wLst, wLstC, wItL, wItT, wRng1, wRng2, wRng3,
  dI, dI0, dU, dEqv, dIsN, dLen, dIx, dMax2, dMin2, dAbs, dInt, dList, dListC, dTupleOf, wCall, wCallX, wMeth, wMethX, wMake, wMakeF, wMakeX, wMakeXF, frzP, wFld, wFldSet, wSetL, wAugL, wBML, dAppend, dPop, dCat, wRep, wRepC, wNoPart, wPart, wSl, wSlX, dCatX, dCmpX, dRepX, wCallV, wSortK, wTru, truOf, dStarts, wSetT, wOneT, wRetD, retK, wBMK, dTIx, tupOf, withN, keyB_T, keyB_0, keyB_S, keyB_I, keyN, keysNf, dNGet, dNIn, isN, wNGet1, wNGet2, wNewN, wNewO, wOneO, nPut, nDel, wSetN, wDelN, wItN, dSortN, dListN, noNumK, itsOf_ktup, lenOf_ktup, itemOf_ktup, res_ktup,
  endsD, endsX, startD, dput, Tgt.dg, dgs, dwipe, List.map_cons, List.map_nil, List.cons_append, List.nil_append, List.append_nil, List.length_cons, List.length_nil, List.replicate_succ, List.replicate_zero, List.getElem?_cons_zero, List.getElem?_cons_succ, List.getElem?_nil, List.set_cons_zero, List.set_cons_succ, List.set_nil, List.lookup,
  Nat.reduceAdd, Nat.reduceSub, Nat.reduceLeDiff, Option.map_some, Option.map_none, Option.bind_some, Option.bind_none, Option.isSome_some, Bool.false_xor, Bool.true_xor, Bool.not_true, Bool.not_false, decide_true, decide_false, decide_eq_true_eq, decide_eq_false_iff_not, Bool.not_eq_true, Bool.false_eq_true, reduceCtorEq, if_true, if_false, ite_true, ite_false, true_and, and_true, String.reduceBEq, String.reduceEq, ofString_eq_iff, cput_same, cput_cput, reduceIte, ↓reduceIte, atI_zero, atI_nat', atI_lit, atI_succ, atI_snoc, seqOf_lst, seqOf_ptr, itsOf_lst, itsOf_tup, itsOf_ptr, lenOf_lst, lenOf_tup, lenOf_ptr, itemOf_lst, itemOf_tup, itemOf_ptr, isSeq_ptr, isSeq_lst, fldOf_ins, fldOf_ptr, isIns_ins, isIns_ptr, dEqD, res_lst, res_tup, res_ptr, dIn, dInD, inItems, dIndex, dCatT, dExtend, wItS, dOrd, dChr, dAny, dAll, wBMS, dJoin, wDead, dMax3, dDGet, dDIn, dEmp,  wGet1, wGet2, dicGet, kvsK, kvsT, DD.keyOf, keysOf, keysAll, isDic, dicPut, wSetD, wDelD, wNewK, wNewT, wNew0, wItK, wLockS, pVar, pFld, unl, dLenDic, dDictC, dKeyList, dSortDic, dEqDic, wPairs, wDisp, wDispF, pairsK, mergeD, Option.getD_some, Option.getD_none, or_true, true_or, Option.isSome_none, List.isEmpty_nil, List.isEmpty_cons,  List.getElem?_map, List.length_map, Int.zero_add, *])
abbrev prg : PySem.Program := PySem.Challenge.pw_copperhouse_k08_files_of_accounts
def topS (i : Nat) : Stmt := prg.main.body.getD i (.Pass ⟨0, 0, 0, 0⟩)
abbrev s_law_state : Stmt := topS 31
abbrev s_AccountFile_init : Stmt := inClass (topS 26) 0
abbrev s_law_new : Stmt := topS 33
abbrev s_law_cell : Stmt := topS 30
abbrev s_law_digit : Stmt := topS 32
abbrev s_BadTerms_init : Stmt := inClass (topS 10) 0
abbrev s_Terms_init : Stmt := inClass (topS 28) 0
abbrev s_Bill_init : Stmt := inClass (topS 6) 0
abbrev s_Terms_due_of : Stmt := inClass (topS 28) 1
abbrev s_Demand_init : Stmt := inClass (topS 7) 0
abbrev s_AccountFile_add_bill : Stmt := inClass (topS 26) 1
abbrev s_Bill_row : Stmt := inClass (topS 6) 2
abbrev s_law_bill : Stmt := topS 44
abbrev s_law_means : Stmt := topS 34
abbrev s_law_left : Stmt := topS 35
abbrev s_allot : Stmt := topS 2
abbrev s_open_amounts : Stmt := topS 3
abbrev s_Dispute_is_granted : Stmt := inClass (topS 20) 2
abbrev s_all_granted : Stmt := topS 23
abbrev s_AccountFile_paid : Stmt := inClass (topS 26) 4
abbrev s_AccountFile_credit_sum : Stmt := inClass (topS 26) 5
abbrev s_AccountFile_means : Stmt := inClass (topS 26) 6
abbrev s_AccountFile_amounts : Stmt := inClass (topS 26) 7
abbrev s_AccountFile_open_list : Stmt := inClass (topS 26) 10
abbrev s_AccountFile_open_total : Stmt := inClass (topS 26) 11
abbrev s_credit_of : Stmt := topS 4
abbrev s_AccountFile_credit : Stmt := inClass (topS 26) 12
abbrev s_AccountFile_asked : Stmt := inClass (topS 26) 8
abbrev s_Dispute_is_waiting : Stmt := inClass (topS 20) 1
abbrev s_held_of : Stmt := topS 21
abbrev s_AccountFile_held : Stmt := inClass (topS 26) 18
abbrev s_AccountFile_overdue_list : Stmt := inClass (topS 26) 19
abbrev s_AccountFile_overdue : Stmt := inClass (topS 26) 20
abbrev s_law_over : Stmt := topS 36
abbrev s_Demand_row : Stmt := inClass (topS 7) 1
abbrev s_law_same : Stmt := topS 45
abbrev s_AccountFile_pay : Stmt := inClass (topS 26) 3
abbrev s_AccountFile_bill : Stmt := inClass (topS 26) 13
abbrev s_Bill_is_credit : Stmt := inClass (topS 6) 1
abbrev s_Dispute_init : Stmt := inClass (topS 20) 0
abbrev s_granted_of : Stmt := topS 22
abbrev s_can_be_disputed : Stmt := topS 24
abbrev s_AccountFile_dispute : Stmt := inClass (topS 26) 15
abbrev s_law_kind : Stmt := topS 38
abbrev s_law_disputes : Stmt := topS 39
abbrev s_law_spread : Stmt := topS 37
abbrev s_law_dispute : Stmt := topS 41
abbrev s_Dispute_decide : Stmt := inClass (topS 20) 3
abbrev s_AccountFile_put_off : Stmt := inClass (topS 26) 17
abbrev s_AccountFile_decide : Stmt := inClass (topS 26) 16
abbrev s_law_decides : Stmt := topS 40
abbrev s_law_decide : Stmt := topS 42
abbrev s_AccountFile_wants_reminder : Stmt := inClass (topS 26) 21
abbrev s_Terms_reminder_fee : Stmt := inClass (topS 28) 2
abbrev s_AccountFile_add_fee : Stmt := inClass (topS 26) 2
abbrev s_AccountFile_remind : Stmt := inClass (topS 26) 22
abbrev s_law_remind : Stmt := topS 43
abbrev s_law : Stmt := topS 46
theorem sc_law_state : FnScope ["cell", "k", "prime", "first", "second", "third", "fourth"] ["cell", "k"] (defScope s_law_state) := ⟨rfl, rfl, rfl, by decide +kernel, rfl, by decide +kernel, by decide +kernel⟩
theorem sc_AccountFile_init : FnScope ["self", "terms"] ["self", "terms"] (defScope s_AccountFile_init) := ⟨rfl, rfl, rfl, by decide +kernel, rfl, by decide +kernel, by decide +kernel⟩
theorem sc_law_new : FnScope [] [] (defScope s_law_new) := ⟨rfl, rfl, rfl, by decide +kernel, rfl, by decide +kernel, by decide +kernel⟩
theorem sc_law_cell : FnScope ["script", "k"] ["script", "k"] (defScope s_law_cell) := ⟨rfl, rfl, rfl, by decide +kernel, rfl, by decide +kernel, by decide +kernel⟩
theorem sc_law_digit : FnScope ["state", "many", "digit"] ["state", "many"] (defScope s_law_digit) := ⟨rfl, rfl, rfl, by decide +kernel, rfl, by decide +kernel, by decide +kernel⟩
theorem sc_Terms_init : FnScope ["self", "term", "gap", "fee", "rate"] ["self", "term", "gap", "fee", "rate"] (defScope s_Terms_init) := ⟨rfl, rfl, rfl, by decide +kernel, rfl, by decide +kernel, by decide +kernel⟩
theorem sc_Bill_init : FnScope ["self", "number", "rows", "amount", "made", "due"] ["self", "number", "rows", "amount", "made", "due"] (defScope s_Bill_init) := ⟨rfl, rfl, rfl, by decide +kernel, rfl, by decide +kernel, by decide +kernel⟩
theorem sc_Terms_due_of : FnScope ["self", "clock"] ["self", "clock"] (defScope s_Terms_due_of) := ⟨rfl, rfl, rfl, by decide +kernel, rfl, by decide +kernel, by decide +kernel⟩
theorem sc_Demand_init : FnScope ["self", "kind", "number", "amount", "made", "due"] ["self", "kind", "number", "amount", "made", "due"] (defScope s_Demand_init) := ⟨rfl, rfl, rfl, by decide +kernel, rfl, by decide +kernel, by decide +kernel⟩
theorem sc_AccountFile_add_bill : FnScope ["self", "rows", "amount", "clock", "due", "bill"] ["self", "rows", "amount", "clock"] (defScope s_AccountFile_add_bill) := ⟨rfl, rfl, rfl, by decide +kernel, rfl, by decide +kernel, by decide +kernel⟩
theorem sc_Bill_row : FnScope ["self"] ["self"] (defScope s_Bill_row) := ⟨rfl, rfl, rfl, by decide +kernel, rfl, by decide +kernel, by decide +kernel⟩
theorem sc_law_bill : FnScope ["account", "model", "state", "clock", "term", "amount", "bill", "due"] ["account", "model", "state", "clock", "term"] (defScope s_law_bill) := ⟨rfl, rfl, rfl, by decide +kernel, rfl, by decide +kernel, by decide +kernel⟩
theorem sc_law_means : FnScope ["model", "given_back", "granted", "bill", "row"] ["model"] (defScope s_law_means) := ⟨rfl, rfl, rfl, by decide +kernel, rfl, by decide +kernel, by decide +kernel⟩
theorem sc_law_left : FnScope ["model", "means", "found", "row"] ["model"] (defScope s_law_left) := ⟨rfl, rfl, rfl, by decide +kernel, rfl, by decide +kernel, by decide +kernel⟩
theorem sc_allot : FnScope ["means", "amounts", "left", "found", "amount", "part"] ["means", "amounts"] (defScope s_allot) := ⟨rfl, rfl, rfl, by decide +kernel, rfl, by decide +kernel, by decide +kernel⟩
theorem sc_open_amounts : FnScope ["means", "amounts", "parts", "place"] ["means", "amounts"] (defScope s_open_amounts) := ⟨rfl, rfl, rfl, by decide +kernel, rfl, by decide +kernel, by decide +kernel⟩
theorem sc_Dispute_is_granted : FnScope ["self"] ["self"] (defScope s_Dispute_is_granted) := ⟨rfl, rfl, rfl, by decide +kernel, rfl, by decide +kernel, by decide +kernel⟩
theorem sc_all_granted : FnScope ["disputes", "total", "dispute"] ["disputes"] (defScope s_all_granted) := ⟨rfl, rfl, rfl, by decide +kernel, rfl, by decide +kernel, by decide +kernel⟩
theorem sc_AccountFile_paid : FnScope ["self", "amount", "_"] ["self"] (defScope s_AccountFile_paid) := ⟨rfl, rfl, rfl, by decide +kernel, rfl, by decide +kernel, by decide +kernel⟩
theorem sc_AccountFile_credit_sum : FnScope ["self", "bill"] ["self"] (defScope s_AccountFile_credit_sum) := ⟨rfl, rfl, rfl, by decide +kernel, rfl, by decide +kernel, by decide +kernel⟩
theorem sc_AccountFile_means : FnScope ["self"] ["self"] (defScope s_AccountFile_means) := ⟨rfl, rfl, rfl, by decide +kernel, rfl, by decide +kernel, by decide +kernel⟩
theorem sc_AccountFile_amounts : FnScope ["self", "demand"] ["self"] (defScope s_AccountFile_amounts) := ⟨rfl, rfl, rfl, by decide +kernel, rfl, by decide +kernel, by decide +kernel⟩
theorem sc_AccountFile_open_list : FnScope ["self"] ["self"] (defScope s_AccountFile_open_list) := ⟨rfl, rfl, rfl, by decide +kernel, rfl, by decide +kernel, by decide +kernel⟩
theorem sc_AccountFile_open_total : FnScope ["self"] ["self"] (defScope s_AccountFile_open_total) := ⟨rfl, rfl, rfl, by decide +kernel, rfl, by decide +kernel, by decide +kernel⟩
theorem sc_credit_of : FnScope ["means", "amounts"] ["means", "amounts"] (defScope s_credit_of) := ⟨rfl, rfl, rfl, by decide +kernel, rfl, by decide +kernel, by decide +kernel⟩
theorem sc_AccountFile_credit : FnScope ["self"] ["self"] (defScope s_AccountFile_credit) := ⟨rfl, rfl, rfl, by decide +kernel, rfl, by decide +kernel, by decide +kernel⟩
theorem sc_AccountFile_asked : FnScope ["self"] ["self"] (defScope s_AccountFile_asked) := ⟨rfl, rfl, rfl, by decide +kernel, rfl, by decide +kernel, by decide +kernel⟩
theorem sc_Dispute_is_waiting : FnScope ["self"] ["self"] (defScope s_Dispute_is_waiting) := ⟨rfl, rfl, rfl, by decide +kernel, rfl, by decide +kernel, by decide +kernel⟩
theorem sc_held_of : FnScope ["disputes", "bill", "total", "dispute"] ["disputes", "bill"] (defScope s_held_of) := ⟨rfl, rfl, rfl, by decide +kernel, rfl, by decide +kernel, by decide +kernel⟩
theorem sc_AccountFile_held : FnScope ["self", "demand"] ["self", "demand"] (defScope s_AccountFile_held) := ⟨rfl, rfl, rfl, by decide +kernel, rfl, by decide +kernel, by decide +kernel⟩
theorem sc_AccountFile_overdue_list : FnScope ["self", "clock", "left", "found", "place", "demand"] ["self", "clock"] (defScope s_AccountFile_overdue_list) := ⟨rfl, rfl, rfl, by decide +kernel, rfl, by decide +kernel, by decide +kernel⟩
theorem sc_AccountFile_overdue : FnScope ["self", "clock"] ["self", "clock"] (defScope s_AccountFile_overdue) := ⟨rfl, rfl, rfl, by decide +kernel, rfl, by decide +kernel, by decide +kernel⟩
theorem sc_law_over : FnScope ["model", "clock", "left", "total", "place", "kind", "number", "spare", "due", "held", "row"] ["model", "clock"] (defScope s_law_over) := ⟨rfl, rfl, rfl, by decide +kernel, rfl, by decide +kernel, by decide +kernel⟩
theorem sc_Demand_row : FnScope ["self"] ["self"] (defScope s_Demand_row) := ⟨rfl, rfl, rfl, by decide +kernel, rfl, by decide +kernel, by decide +kernel⟩
theorem sc_law_same : FnScope ["account", "model", "clock", "left", "asked", "states", "demand", "row", "dispute"] ["account", "model", "clock"] (defScope s_law_same) := ⟨rfl, rfl, rfl, by decide +kernel, rfl, by decide +kernel, by decide +kernel⟩
theorem sc_AccountFile_pay : FnScope ["self", "amount", "clock"] ["self", "amount", "clock"] (defScope s_AccountFile_pay) := ⟨rfl, rfl, rfl, by decide +kernel, rfl, by decide +kernel, by decide +kernel⟩
theorem sc_AccountFile_bill : FnScope ["self", "number"] ["self", "number"] (defScope s_AccountFile_bill) := ⟨rfl, rfl, rfl, by decide +kernel, rfl, by decide +kernel, by decide +kernel⟩
theorem sc_Bill_is_credit : FnScope ["self"] ["self"] (defScope s_Bill_is_credit) := ⟨rfl, rfl, rfl, by decide +kernel, rfl, by decide +kernel, by decide +kernel⟩
theorem sc_Dispute_init : FnScope ["self", "number", "bill", "amount", "made"] ["self", "number", "bill", "amount", "made"] (defScope s_Dispute_init) := ⟨rfl, rfl, rfl, by decide +kernel, rfl, by decide +kernel, by decide +kernel⟩
theorem sc_granted_of : FnScope ["disputes", "bill", "total", "dispute"] ["disputes", "bill"] (defScope s_granted_of) := ⟨rfl, rfl, rfl, by decide +kernel, rfl, by decide +kernel, by decide +kernel⟩
theorem sc_can_be_disputed : FnScope ["disputes", "bill", "amount"] ["disputes", "bill", "amount"] (defScope s_can_be_disputed) := ⟨rfl, rfl, rfl, by decide +kernel, rfl, by decide +kernel, by decide +kernel⟩
theorem sc_AccountFile_dispute : FnScope ["self", "number", "amount", "clock", "bill"] ["self", "number", "amount", "clock"] (defScope s_AccountFile_dispute) := ⟨rfl, rfl, rfl, by decide +kernel, rfl, by decide +kernel, by decide +kernel⟩
theorem sc_law_kind : FnScope ["found", "nothing"] ["found"] (defScope s_law_kind) := ⟨rfl, rfl, rfl, by decide +kernel, rfl, by decide +kernel, by decide +kernel⟩
theorem sc_law_disputes : FnScope ["account", "number", "amount", "clock", "found"] ["account", "number", "amount", "clock"] (defScope s_law_disputes) := ⟨rfl, rfl, rfl, by decide +kernel, rfl, by decide +kernel, by decide +kernel⟩
theorem sc_law_spread : FnScope ["model", "number", "row"] ["model", "number"] (defScope s_law_spread) := ⟨rfl, rfl, rfl, by decide +kernel, rfl, by decide +kernel, by decide +kernel⟩
theorem sc_law_dispute : FnScope ["account", "model", "state", "clock", "number", "amount", "due"] ["account", "model", "state", "clock"] (defScope s_law_dispute) := ⟨rfl, rfl, rfl, by decide +kernel, rfl, by decide +kernel, by decide +kernel⟩
theorem sc_Dispute_decide : FnScope ["self", "granted"] ["self", "granted"] (defScope s_Dispute_decide) := ⟨rfl, rfl, rfl, by decide +kernel, rfl, by decide +kernel, by decide +kernel⟩
theorem sc_AccountFile_put_off : FnScope ["self", "number", "due", "bill", "demand"] ["self", "number", "due"] (defScope s_AccountFile_put_off) := ⟨rfl, rfl, rfl, by decide +kernel, rfl, by decide +kernel, by decide +kernel⟩
theorem sc_AccountFile_decide : FnScope ["self", "number", "granted", "clock", "dispute"] ["self", "number", "granted", "clock"] (defScope s_AccountFile_decide) := ⟨rfl, rfl, rfl, by decide +kernel, rfl, by decide +kernel, by decide +kernel⟩
theorem sc_law_decides : FnScope ["account", "number", "granted", "clock", "found"] ["account", "number", "granted", "clock"] (defScope s_law_decides) := ⟨rfl, rfl, rfl, by decide +kernel, rfl, by decide +kernel, by decide +kernel⟩
theorem sc_law_decide : FnScope ["account", "model", "state", "clock", "term", "number", "granted", "due", "row", "demand"] ["account", "model", "state", "clock", "term"] (defScope s_law_decide) := ⟨rfl, rfl, rfl, by decide +kernel, rfl, by decide +kernel, by decide +kernel⟩
theorem sc_AccountFile_wants_reminder : FnScope ["self", "clock"] ["self", "clock"] (defScope s_AccountFile_wants_reminder) := ⟨rfl, rfl, rfl, by decide +kernel, rfl, by decide +kernel, by decide +kernel⟩
theorem sc_Terms_reminder_fee : FnScope ["self", "overdue"] ["self", "overdue"] (defScope s_Terms_reminder_fee) := ⟨rfl, rfl, rfl, by decide +kernel, rfl, by decide +kernel, by decide +kernel⟩
theorem sc_AccountFile_add_fee : FnScope ["self", "amount", "clock", "demand"] ["self", "amount", "clock"] (defScope s_AccountFile_add_fee) := ⟨rfl, rfl, rfl, by decide +kernel, rfl, by decide +kernel, by decide +kernel⟩
theorem sc_AccountFile_remind : FnScope ["self", "clock", "fee"] ["self", "clock"] (defScope s_AccountFile_remind) := ⟨rfl, rfl, rfl, by decide +kernel, rfl, by decide +kernel, by decide +kernel⟩
theorem sc_law_remind : FnScope ["account", "model", "clock", "numbers", "over", "wants", "due", "fee"] ["account", "model", "clock", "numbers"] (defScope s_law_remind) := ⟨rfl, rfl, rfl, by decide +kernel, rfl, by decide +kernel, by decide +kernel⟩
theorem sc_law : FnScope ["script", "drawn", "numbers", "account", "model", "clock", "k", "state", "kind", "right", "amount"] ["script"] (defScope s_law) := ⟨rfl, rfl, rfl, by decide +kernel, rfl, by decide +kernel, by decide +kernel⟩
/-- where things stand -/
structure Ad where
  a_law_state : Addr
  d_law_state : FuncData
  a_AccountFile_init : Addr
  d_AccountFile_init : FuncData
  a_law_new : Addr
  d_law_new : FuncData
  a_law_cell : Addr
  d_law_cell : FuncData
  a_law_digit : Addr
  d_law_digit : FuncData
  a_BadTerms_init : Addr
  d_BadTerms_init : FuncData
  a_Terms_init : Addr
  d_Terms_init : FuncData
  a_Bill_init : Addr
  d_Bill_init : FuncData
  a_Terms_due_of : Addr
  d_Terms_due_of : FuncData
  a_Demand_init : Addr
  d_Demand_init : FuncData
  a_AccountFile_add_bill : Addr
  d_AccountFile_add_bill : FuncData
  a_Bill_row : Addr
  d_Bill_row : FuncData
  a_law_bill : Addr
  d_law_bill : FuncData
  a_law_means : Addr
  d_law_means : FuncData
  a_law_left : Addr
  d_law_left : FuncData
  a_allot : Addr
  d_allot : FuncData
  a_open_amounts : Addr
  d_open_amounts : FuncData
  a_Dispute_is_granted : Addr
  d_Dispute_is_granted : FuncData
  a_all_granted : Addr
  d_all_granted : FuncData
  a_AccountFile_paid : Addr
  d_AccountFile_paid : FuncData
  a_AccountFile_credit_sum : Addr
  d_AccountFile_credit_sum : FuncData
  a_AccountFile_means : Addr
  d_AccountFile_means : FuncData
  a_AccountFile_amounts : Addr
  d_AccountFile_amounts : FuncData
  a_AccountFile_open_list : Addr
  d_AccountFile_open_list : FuncData
  a_AccountFile_open_total : Addr
  d_AccountFile_open_total : FuncData
  a_credit_of : Addr
  d_credit_of : FuncData
  a_AccountFile_credit : Addr
  d_AccountFile_credit : FuncData
  a_AccountFile_asked : Addr
  d_AccountFile_asked : FuncData
  a_Dispute_is_waiting : Addr
  d_Dispute_is_waiting : FuncData
  a_held_of : Addr
  d_held_of : FuncData
  a_AccountFile_held : Addr
  d_AccountFile_held : FuncData
  a_AccountFile_overdue_list : Addr
  d_AccountFile_overdue_list : FuncData
  a_AccountFile_overdue : Addr
  d_AccountFile_overdue : FuncData
  a_law_over : Addr
  d_law_over : FuncData
  a_Demand_row : Addr
  d_Demand_row : FuncData
  a_law_same : Addr
  d_law_same : FuncData
  a_AccountFile_pay : Addr
  d_AccountFile_pay : FuncData
  a_AccountFile_bill : Addr
  d_AccountFile_bill : FuncData
  a_Bill_is_credit : Addr
  d_Bill_is_credit : FuncData
  a_Dispute_init : Addr
  d_Dispute_init : FuncData
  a_granted_of : Addr
  d_granted_of : FuncData
  a_can_be_disputed : Addr
  d_can_be_disputed : FuncData
  a_AccountFile_dispute : Addr
  d_AccountFile_dispute : FuncData
  a_law_kind : Addr
  d_law_kind : FuncData
  a_law_disputes : Addr
  d_law_disputes : FuncData
  a_law_spread : Addr
  d_law_spread : FuncData
  a_law_dispute : Addr
  d_law_dispute : FuncData
  a_Dispute_decide : Addr
  d_Dispute_decide : FuncData
  a_AccountFile_put_off : Addr
  d_AccountFile_put_off : FuncData
  a_AccountFile_decide : Addr
  d_AccountFile_decide : FuncData
  a_law_decides : Addr
  d_law_decides : FuncData
  a_law_decide : Addr
  d_law_decide : FuncData
  a_AccountFile_wants_reminder : Addr
  d_AccountFile_wants_reminder : FuncData
  a_Terms_reminder_fee : Addr
  d_Terms_reminder_fee : FuncData
  a_AccountFile_add_fee : Addr
  d_AccountFile_add_fee : FuncData
  a_AccountFile_remind : Addr
  d_AccountFile_remind : FuncData
  a_law_remind : Addr
  d_law_remind : FuncData
  a_law : Addr
  d_law : FuncData
  C_Bill : Addr
  C_Demand : Addr
  C_LineError : Addr
  C_BadTerms : Addr
  C_NoSuchBill : Addr
  C_NoSuchDispute : Addr
  C_BadAmount : Addr
  C_IsDecided : Addr
  C_NotInDispute : Addr
  C_Dispute : Addr
  C_AccountFile : Addr
  C_Terms : Addr
structure Txt (K : PySem.W.Frag) (mg : Str → Option Value) (A : Ad) (P : Program) (w : World) : Prop where
  F_law_state : Fun K "_law_state" "_law_state" s_law_state A.a_law_state A.d_law_state
  b_law_state : Binds K A.d_law_state ["cell", "k"] []
  g_law_state : mg "_law_state" = some (.ref A.a_law_state)
  F_AccountFile_init : Fun K "__init__" "AccountFile.__init__" s_AccountFile_init A.a_AccountFile_init A.d_AccountFile_init
  b_AccountFile_init : Binds K A.d_AccountFile_init ["self", "terms"] []
  m_AccountFile_init : Mk K A.C_AccountFile A.a_AccountFile_init
  F_law_new : Fun K "_law_new" "_law_new" s_law_new A.a_law_new A.d_law_new
  b_law_new : Binds K A.d_law_new [] []
  g_law_new : mg "_law_new" = some (.ref A.a_law_new)
  F_law_cell : Fun K "_law_cell" "_law_cell" s_law_cell A.a_law_cell A.d_law_cell
  b_law_cell : Binds K A.d_law_cell ["script", "k"] []
  g_law_cell : mg "_law_cell" = some (.ref A.a_law_cell)
  F_law_digit : Fun K "_law_digit" "_law_digit" s_law_digit A.a_law_digit A.d_law_digit
  b_law_digit : Binds K A.d_law_digit ["state", "many"] []
  g_law_digit : mg "_law_digit" = some (.ref A.a_law_digit)
  o_BadTerms : IniT P K mg A.C_BadTerms A.a_BadTerms_init A.d_BadTerms_init "BadTerms.__init__" (defScope s_BadTerms_init) (defBody s_BadTerms_init) "what"
  oi_BadTerms : PySem.W.findIn K (.ref A.C_BadTerms) "__init__" = some (some (.ref A.a_BadTerms_init))
  ot_BadTerms : PySem.W.typeIn K (.ref A.a_BadTerms_init) = some (.type "function")
  ob_BadTerms : Binds K A.d_BadTerms_init ["self", "what"] []
  xf_BadTerms : XfC K A.C_BadTerms
  F_Terms_init : Fun K "__init__" "Terms.__init__" s_Terms_init A.a_Terms_init A.d_Terms_init
  b_Terms_init : Binds K A.d_Terms_init ["self", "term", "gap", "fee", "rate"] []
  m_Terms_init : Mk K A.C_Terms A.a_Terms_init
  F_Bill_init : Fun K "__init__" "Bill.__init__" s_Bill_init A.a_Bill_init A.d_Bill_init
  b_Bill_init : Binds K A.d_Bill_init ["self", "number", "rows", "amount", "made", "due"] []
  m_Bill_init : Mk K A.C_Bill A.a_Bill_init
  F_Terms_due_of : Fun K "due_of" "Terms.due_of" s_Terms_due_of A.a_Terms_due_of A.d_Terms_due_of
  b_Terms_due_of : Binds K A.d_Terms_due_of ["self", "clock"] []
  m_Terms_due_of : Meth K A.C_Terms (Str.ofString "due_of") A.a_Terms_due_of
  F_Demand_init : Fun K "__init__" "Demand.__init__" s_Demand_init A.a_Demand_init A.d_Demand_init
  b_Demand_init : Binds K A.d_Demand_init ["self", "kind", "number", "amount", "made", "due"] []
  m_Demand_init : Mk K A.C_Demand A.a_Demand_init
  F_AccountFile_add_bill : Fun K "add_bill" "AccountFile.add_bill" s_AccountFile_add_bill A.a_AccountFile_add_bill A.d_AccountFile_add_bill
  b_AccountFile_add_bill : Binds K A.d_AccountFile_add_bill ["self", "rows", "amount", "clock"] []
  m_AccountFile_add_bill : Meth K A.C_AccountFile (Str.ofString "add_bill") A.a_AccountFile_add_bill
  F_Bill_row : Fun K "row" "Bill.row" s_Bill_row A.a_Bill_row A.d_Bill_row
  b_Bill_row : Binds K A.d_Bill_row ["self"] []
  m_Bill_row : Meth K A.C_Bill (Str.ofString "row") A.a_Bill_row
  F_law_bill : Fun K "_law_bill" "_law_bill" s_law_bill A.a_law_bill A.d_law_bill
  b_law_bill : Binds K A.d_law_bill ["account", "model", "state", "clock", "term"] []
  g_law_bill : mg "_law_bill" = some (.ref A.a_law_bill)
  F_law_means : Fun K "_law_means" "_law_means" s_law_means A.a_law_means A.d_law_means
  b_law_means : Binds K A.d_law_means ["model"] []
  g_law_means : mg "_law_means" = some (.ref A.a_law_means)
  F_law_left : Fun K "_law_left" "_law_left" s_law_left A.a_law_left A.d_law_left
  b_law_left : Binds K A.d_law_left ["model"] []
  g_law_left : mg "_law_left" = some (.ref A.a_law_left)
  F_allot : Fun K "allot" "allot" s_allot A.a_allot A.d_allot
  b_allot : Binds K A.d_allot ["means", "amounts"] []
  g_allot : mg "allot" = some (.ref A.a_allot)
  F_open_amounts : Fun K "open_amounts" "open_amounts" s_open_amounts A.a_open_amounts A.d_open_amounts
  b_open_amounts : Binds K A.d_open_amounts ["means", "amounts"] []
  g_open_amounts : mg "open_amounts" = some (.ref A.a_open_amounts)
  F_Dispute_is_granted : Fun K "is_granted" "Dispute.is_granted" s_Dispute_is_granted A.a_Dispute_is_granted A.d_Dispute_is_granted
  b_Dispute_is_granted : Binds K A.d_Dispute_is_granted ["self"] []
  m_Dispute_is_granted : Meth K A.C_Dispute (Str.ofString "is_granted") A.a_Dispute_is_granted
  F_all_granted : Fun K "all_granted" "all_granted" s_all_granted A.a_all_granted A.d_all_granted
  b_all_granted : Binds K A.d_all_granted ["disputes"] []
  g_all_granted : mg "all_granted" = some (.ref A.a_all_granted)
  F_AccountFile_paid : Fun K "paid" "AccountFile.paid" s_AccountFile_paid A.a_AccountFile_paid A.d_AccountFile_paid
  b_AccountFile_paid : Binds K A.d_AccountFile_paid ["self"] []
  m_AccountFile_paid : Meth K A.C_AccountFile (Str.ofString "paid") A.a_AccountFile_paid
  F_AccountFile_credit_sum : Fun K "credit_sum" "AccountFile.credit_sum" s_AccountFile_credit_sum A.a_AccountFile_credit_sum A.d_AccountFile_credit_sum
  b_AccountFile_credit_sum : Binds K A.d_AccountFile_credit_sum ["self"] []
  m_AccountFile_credit_sum : Meth K A.C_AccountFile (Str.ofString "credit_sum") A.a_AccountFile_credit_sum
  F_AccountFile_means : Fun K "means" "AccountFile.means" s_AccountFile_means A.a_AccountFile_means A.d_AccountFile_means
  b_AccountFile_means : Binds K A.d_AccountFile_means ["self"] []
  m_AccountFile_means : Meth K A.C_AccountFile (Str.ofString "means") A.a_AccountFile_means
  F_AccountFile_amounts : Fun K "amounts" "AccountFile.amounts" s_AccountFile_amounts A.a_AccountFile_amounts A.d_AccountFile_amounts
  b_AccountFile_amounts : Binds K A.d_AccountFile_amounts ["self"] []
  m_AccountFile_amounts : Meth K A.C_AccountFile (Str.ofString "amounts") A.a_AccountFile_amounts
  F_AccountFile_open_list : Fun K "open_list" "AccountFile.open_list" s_AccountFile_open_list A.a_AccountFile_open_list A.d_AccountFile_open_list
  b_AccountFile_open_list : Binds K A.d_AccountFile_open_list ["self"] []
  m_AccountFile_open_list : Meth K A.C_AccountFile (Str.ofString "open_list") A.a_AccountFile_open_list
  F_AccountFile_open_total : Fun K "open_total" "AccountFile.open_total" s_AccountFile_open_total A.a_AccountFile_open_total A.d_AccountFile_open_total
  b_AccountFile_open_total : Binds K A.d_AccountFile_open_total ["self"] []
  m_AccountFile_open_total : Meth K A.C_AccountFile (Str.ofString "open_total") A.a_AccountFile_open_total
  F_credit_of : Fun K "credit_of" "credit_of" s_credit_of A.a_credit_of A.d_credit_of
  b_credit_of : Binds K A.d_credit_of ["means", "amounts"] []
  g_credit_of : mg "credit_of" = some (.ref A.a_credit_of)
  F_AccountFile_credit : Fun K "credit" "AccountFile.credit" s_AccountFile_credit A.a_AccountFile_credit A.d_AccountFile_credit
  b_AccountFile_credit : Binds K A.d_AccountFile_credit ["self"] []
  m_AccountFile_credit : Meth K A.C_AccountFile (Str.ofString "credit") A.a_AccountFile_credit
  F_AccountFile_asked : Fun K "asked" "AccountFile.asked" s_AccountFile_asked A.a_AccountFile_asked A.d_AccountFile_asked
  b_AccountFile_asked : Binds K A.d_AccountFile_asked ["self"] []
  m_AccountFile_asked : Meth K A.C_AccountFile (Str.ofString "asked") A.a_AccountFile_asked
  F_Dispute_is_waiting : Fun K "is_waiting" "Dispute.is_waiting" s_Dispute_is_waiting A.a_Dispute_is_waiting A.d_Dispute_is_waiting
  b_Dispute_is_waiting : Binds K A.d_Dispute_is_waiting ["self"] []
  m_Dispute_is_waiting : Meth K A.C_Dispute (Str.ofString "is_waiting") A.a_Dispute_is_waiting
  F_held_of : Fun K "held_of" "held_of" s_held_of A.a_held_of A.d_held_of
  b_held_of : Binds K A.d_held_of ["disputes", "bill"] []
  g_held_of : mg "held_of" = some (.ref A.a_held_of)
  F_AccountFile_held : Fun K "held" "AccountFile.held" s_AccountFile_held A.a_AccountFile_held A.d_AccountFile_held
  b_AccountFile_held : Binds K A.d_AccountFile_held ["self", "demand"] []
  m_AccountFile_held : Meth K A.C_AccountFile (Str.ofString "held") A.a_AccountFile_held
  F_AccountFile_overdue_list : Fun K "overdue_list" "AccountFile.overdue_list" s_AccountFile_overdue_list A.a_AccountFile_overdue_list A.d_AccountFile_overdue_list
  b_AccountFile_overdue_list : Binds K A.d_AccountFile_overdue_list ["self", "clock"] []
  m_AccountFile_overdue_list : Meth K A.C_AccountFile (Str.ofString "overdue_list") A.a_AccountFile_overdue_list
  F_AccountFile_overdue : Fun K "overdue" "AccountFile.overdue" s_AccountFile_overdue A.a_AccountFile_overdue A.d_AccountFile_overdue
  b_AccountFile_overdue : Binds K A.d_AccountFile_overdue ["self", "clock"] []
  m_AccountFile_overdue : Meth K A.C_AccountFile (Str.ofString "overdue") A.a_AccountFile_overdue
  F_law_over : Fun K "_law_over" "_law_over" s_law_over A.a_law_over A.d_law_over
  b_law_over : Binds K A.d_law_over ["model", "clock"] []
  g_law_over : mg "_law_over" = some (.ref A.a_law_over)
  F_Demand_row : Fun K "row" "Demand.row" s_Demand_row A.a_Demand_row A.d_Demand_row
  b_Demand_row : Binds K A.d_Demand_row ["self"] []
  m_Demand_row : Meth K A.C_Demand (Str.ofString "row") A.a_Demand_row
  F_law_same : Fun K "_law_same" "_law_same" s_law_same A.a_law_same A.d_law_same
  b_law_same : Binds K A.d_law_same ["account", "model", "clock"] []
  g_law_same : mg "_law_same" = some (.ref A.a_law_same)
  F_AccountFile_pay : Fun K "pay" "AccountFile.pay" s_AccountFile_pay A.a_AccountFile_pay A.d_AccountFile_pay
  b_AccountFile_pay : Binds K A.d_AccountFile_pay ["self", "amount", "clock"] []
  m_AccountFile_pay : Meth K A.C_AccountFile (Str.ofString "pay") A.a_AccountFile_pay
  F_AccountFile_bill : Fun K "bill" "AccountFile.bill" s_AccountFile_bill A.a_AccountFile_bill A.d_AccountFile_bill
  b_AccountFile_bill : Binds K A.d_AccountFile_bill ["self", "number"] []
  m_AccountFile_bill : Meth K A.C_AccountFile (Str.ofString "bill") A.a_AccountFile_bill
  F_Bill_is_credit : Fun K "is_credit" "Bill.is_credit" s_Bill_is_credit A.a_Bill_is_credit A.d_Bill_is_credit
  b_Bill_is_credit : Binds K A.d_Bill_is_credit ["self"] []
  m_Bill_is_credit : Meth K A.C_Bill (Str.ofString "is_credit") A.a_Bill_is_credit
  F_Dispute_init : Fun K "__init__" "Dispute.__init__" s_Dispute_init A.a_Dispute_init A.d_Dispute_init
  b_Dispute_init : Binds K A.d_Dispute_init ["self", "number", "bill", "amount", "made"] []
  m_Dispute_init : Mk K A.C_Dispute A.a_Dispute_init
  F_granted_of : Fun K "granted_of" "granted_of" s_granted_of A.a_granted_of A.d_granted_of
  b_granted_of : Binds K A.d_granted_of ["disputes", "bill"] []
  g_granted_of : mg "granted_of" = some (.ref A.a_granted_of)
  F_can_be_disputed : Fun K "can_be_disputed" "can_be_disputed" s_can_be_disputed A.a_can_be_disputed A.d_can_be_disputed
  b_can_be_disputed : Binds K A.d_can_be_disputed ["disputes", "bill", "amount"] []
  g_can_be_disputed : mg "can_be_disputed" = some (.ref A.a_can_be_disputed)
  F_AccountFile_dispute : Fun K "dispute" "AccountFile.dispute" s_AccountFile_dispute A.a_AccountFile_dispute A.d_AccountFile_dispute
  b_AccountFile_dispute : Binds K A.d_AccountFile_dispute ["self", "number", "amount", "clock"] []
  m_AccountFile_dispute : Meth K A.C_AccountFile (Str.ofString "dispute") A.a_AccountFile_dispute
  F_law_kind : Fun K "_law_kind" "_law_kind" s_law_kind A.a_law_kind A.d_law_kind
  b_law_kind : Binds K A.d_law_kind ["found"] []
  g_law_kind : mg "_law_kind" = some (.ref A.a_law_kind)
  F_law_disputes : Fun K "_law_disputes" "_law_disputes" s_law_disputes A.a_law_disputes A.d_law_disputes
  b_law_disputes : Binds K A.d_law_disputes ["account", "number", "amount", "clock"] []
  g_law_disputes : mg "_law_disputes" = some (.ref A.a_law_disputes)
  F_law_spread : Fun K "_law_spread" "_law_spread" s_law_spread A.a_law_spread A.d_law_spread
  b_law_spread : Binds K A.d_law_spread ["model", "number"] []
  g_law_spread : mg "_law_spread" = some (.ref A.a_law_spread)
  F_law_dispute : Fun K "_law_dispute" "_law_dispute" s_law_dispute A.a_law_dispute A.d_law_dispute
  b_law_dispute : Binds K A.d_law_dispute ["account", "model", "state", "clock"] []
  g_law_dispute : mg "_law_dispute" = some (.ref A.a_law_dispute)
  F_Dispute_decide : Fun K "decide" "Dispute.decide" s_Dispute_decide A.a_Dispute_decide A.d_Dispute_decide
  b_Dispute_decide : Binds K A.d_Dispute_decide ["self", "granted"] []
  m_Dispute_decide : Meth K A.C_Dispute (Str.ofString "decide") A.a_Dispute_decide
  F_AccountFile_put_off : Fun K "put_off" "AccountFile.put_off" s_AccountFile_put_off A.a_AccountFile_put_off A.d_AccountFile_put_off
  b_AccountFile_put_off : Binds K A.d_AccountFile_put_off ["self", "number", "due"] []
  m_AccountFile_put_off : Meth K A.C_AccountFile (Str.ofString "put_off") A.a_AccountFile_put_off
  F_AccountFile_decide : Fun K "decide" "AccountFile.decide" s_AccountFile_decide A.a_AccountFile_decide A.d_AccountFile_decide
  b_AccountFile_decide : Binds K A.d_AccountFile_decide ["self", "number", "granted", "clock"] []
  m_AccountFile_decide : Meth K A.C_AccountFile (Str.ofString "decide") A.a_AccountFile_decide
  F_law_decides : Fun K "_law_decides" "_law_decides" s_law_decides A.a_law_decides A.d_law_decides
  b_law_decides : Binds K A.d_law_decides ["account", "number", "granted", "clock"] []
  g_law_decides : mg "_law_decides" = some (.ref A.a_law_decides)
  F_law_decide : Fun K "_law_decide" "_law_decide" s_law_decide A.a_law_decide A.d_law_decide
  b_law_decide : Binds K A.d_law_decide ["account", "model", "state", "clock", "term"] []
  g_law_decide : mg "_law_decide" = some (.ref A.a_law_decide)
  F_AccountFile_wants_reminder : Fun K "wants_reminder" "AccountFile.wants_reminder" s_AccountFile_wants_reminder A.a_AccountFile_wants_reminder A.d_AccountFile_wants_reminder
  b_AccountFile_wants_reminder : Binds K A.d_AccountFile_wants_reminder ["self", "clock"] []
  m_AccountFile_wants_reminder : Meth K A.C_AccountFile (Str.ofString "wants_reminder") A.a_AccountFile_wants_reminder
  F_Terms_reminder_fee : Fun K "reminder_fee" "Terms.reminder_fee" s_Terms_reminder_fee A.a_Terms_reminder_fee A.d_Terms_reminder_fee
  b_Terms_reminder_fee : Binds K A.d_Terms_reminder_fee ["self", "overdue"] []
  m_Terms_reminder_fee : Meth K A.C_Terms (Str.ofString "reminder_fee") A.a_Terms_reminder_fee
  F_AccountFile_add_fee : Fun K "add_fee" "AccountFile.add_fee" s_AccountFile_add_fee A.a_AccountFile_add_fee A.d_AccountFile_add_fee
  b_AccountFile_add_fee : Binds K A.d_AccountFile_add_fee ["self", "amount", "clock"] []
  m_AccountFile_add_fee : Meth K A.C_AccountFile (Str.ofString "add_fee") A.a_AccountFile_add_fee
  F_AccountFile_remind : Fun K "remind" "AccountFile.remind" s_AccountFile_remind A.a_AccountFile_remind A.d_AccountFile_remind
  b_AccountFile_remind : Binds K A.d_AccountFile_remind ["self", "clock"] []
  m_AccountFile_remind : Meth K A.C_AccountFile (Str.ofString "remind") A.a_AccountFile_remind
  F_law_remind : Fun K "_law_remind" "_law_remind" s_law_remind A.a_law_remind A.d_law_remind
  b_law_remind : Binds K A.d_law_remind ["account", "model", "clock", "numbers"] []
  g_law_remind : mg "_law_remind" = some (.ref A.a_law_remind)
  F_law : Fun K "law" "law" s_law A.a_law A.d_law
  b_law : Binds K A.d_law ["script"] []
  g_law : mg "law" = some (.ref A.a_law)
  g_Bill : mg "Bill" = some (.ref A.C_Bill)
  c_Bill : Cls K A.C_Bill
  g_Demand : mg "Demand" = some (.ref A.C_Demand)
  c_Demand : Cls K A.C_Demand
  g_LineError : mg "LineError" = some (.ref A.C_LineError)
  x_LineError : XcT K A.C_LineError
  g_BadTerms : mg "BadTerms" = some (.ref A.C_BadTerms)
  g_NoSuchBill : mg "NoSuchBill" = some (.ref A.C_NoSuchBill)
  x_NoSuchBill : XcT K A.C_NoSuchBill
  g_NoSuchDispute : mg "NoSuchDispute" = some (.ref A.C_NoSuchDispute)
  x_NoSuchDispute : XcT K A.C_NoSuchDispute
  g_BadAmount : mg "BadAmount" = some (.ref A.C_BadAmount)
  x_BadAmount : XcT K A.C_BadAmount
  g_IsDecided : mg "IsDecided" = some (.ref A.C_IsDecided)
  x_IsDecided : XcT K A.C_IsDecided
  g_NotInDispute : mg "NotInDispute" = some (.ref A.C_NotInDispute)
  x_NotInDispute : XcT K A.C_NotInDispute
  g_Dispute : mg "Dispute" = some (.ref A.C_Dispute)
  c_Dispute : Cls K A.C_Dispute
  g_AccountFile : mg "AccountFile" = some (.ref A.C_AccountFile)
  c_AccountFile : Cls K A.C_AccountFile
  g_Terms : mg "Terms" = some (.ref A.C_Terms)
  c_Terms : Cls K A.C_Terms
  e_BadAmount_LineError : PySem.W.exmOne K (.ref A.C_BadAmount) (.ref A.C_LineError) = some true
  e_BadTerms_LineError : PySem.W.exmOne K (.ref A.C_BadTerms) (.ref A.C_LineError) = some true
  e_IsDecided_LineError : PySem.W.exmOne K (.ref A.C_IsDecided) (.ref A.C_LineError) = some true
  e_NoSuchBill_LineError : PySem.W.exmOne K (.ref A.C_NoSuchBill) (.ref A.C_LineError) = some true
  e_NoSuchDispute_LineError : PySem.W.exmOne K (.ref A.C_NoSuchDispute) (.ref A.C_LineError) = some true
  e_NotInDispute_LineError : PySem.W.exmOne K (.ref A.C_NotInDispute) (.ref A.C_LineError) = some true
  xc_BadAmount : ExcC K A.C_BadAmount
  ki_BadAmount_BadAmount : PySem.W.kitOne K (.ref A.C_BadAmount) (.ref A.C_BadAmount) = some true
  ki_BadAmount_IsDecided : PySem.W.kitOne K (.ref A.C_BadAmount) (.ref A.C_IsDecided) = some false
  ki_BadAmount_NoSuchBill : PySem.W.kitOne K (.ref A.C_BadAmount) (.ref A.C_NoSuchBill) = some false
  ki_BadAmount_NoSuchDispute : PySem.W.kitOne K (.ref A.C_BadAmount) (.ref A.C_NoSuchDispute) = some false
  ki_BadAmount_NotInDispute : PySem.W.kitOne K (.ref A.C_BadAmount) (.ref A.C_NotInDispute) = some false
  xc_BadTerms : ExcC K A.C_BadTerms
  ki_BadTerms_BadAmount : PySem.W.kitOne K (.ref A.C_BadTerms) (.ref A.C_BadAmount) = some false
  ki_BadTerms_IsDecided : PySem.W.kitOne K (.ref A.C_BadTerms) (.ref A.C_IsDecided) = some false
  ki_BadTerms_NoSuchBill : PySem.W.kitOne K (.ref A.C_BadTerms) (.ref A.C_NoSuchBill) = some false
  ki_BadTerms_NoSuchDispute : PySem.W.kitOne K (.ref A.C_BadTerms) (.ref A.C_NoSuchDispute) = some false
  ki_BadTerms_NotInDispute : PySem.W.kitOne K (.ref A.C_BadTerms) (.ref A.C_NotInDispute) = some false
  xc_IsDecided : ExcC K A.C_IsDecided
  ki_IsDecided_BadAmount : PySem.W.kitOne K (.ref A.C_IsDecided) (.ref A.C_BadAmount) = some false
  ki_IsDecided_IsDecided : PySem.W.kitOne K (.ref A.C_IsDecided) (.ref A.C_IsDecided) = some true
  ki_IsDecided_NoSuchBill : PySem.W.kitOne K (.ref A.C_IsDecided) (.ref A.C_NoSuchBill) = some false
  ki_IsDecided_NoSuchDispute : PySem.W.kitOne K (.ref A.C_IsDecided) (.ref A.C_NoSuchDispute) = some false
  ki_IsDecided_NotInDispute : PySem.W.kitOne K (.ref A.C_IsDecided) (.ref A.C_NotInDispute) = some false
  xc_NoSuchBill : ExcC K A.C_NoSuchBill
  ki_NoSuchBill_BadAmount : PySem.W.kitOne K (.ref A.C_NoSuchBill) (.ref A.C_BadAmount) = some false
  ki_NoSuchBill_IsDecided : PySem.W.kitOne K (.ref A.C_NoSuchBill) (.ref A.C_IsDecided) = some false
  ki_NoSuchBill_NoSuchBill : PySem.W.kitOne K (.ref A.C_NoSuchBill) (.ref A.C_NoSuchBill) = some true
  ki_NoSuchBill_NoSuchDispute : PySem.W.kitOne K (.ref A.C_NoSuchBill) (.ref A.C_NoSuchDispute) = some false
  ki_NoSuchBill_NotInDispute : PySem.W.kitOne K (.ref A.C_NoSuchBill) (.ref A.C_NotInDispute) = some false
  xc_NoSuchDispute : ExcC K A.C_NoSuchDispute
  ki_NoSuchDispute_BadAmount : PySem.W.kitOne K (.ref A.C_NoSuchDispute) (.ref A.C_BadAmount) = some false
  ki_NoSuchDispute_IsDecided : PySem.W.kitOne K (.ref A.C_NoSuchDispute) (.ref A.C_IsDecided) = some false
  ki_NoSuchDispute_NoSuchBill : PySem.W.kitOne K (.ref A.C_NoSuchDispute) (.ref A.C_NoSuchBill) = some false
  ki_NoSuchDispute_NoSuchDispute : PySem.W.kitOne K (.ref A.C_NoSuchDispute) (.ref A.C_NoSuchDispute) = some true
  ki_NoSuchDispute_NotInDispute : PySem.W.kitOne K (.ref A.C_NoSuchDispute) (.ref A.C_NotInDispute) = some false
  xc_NotInDispute : ExcC K A.C_NotInDispute
  ki_NotInDispute_BadAmount : PySem.W.kitOne K (.ref A.C_NotInDispute) (.ref A.C_BadAmount) = some false
  ki_NotInDispute_IsDecided : PySem.W.kitOne K (.ref A.C_NotInDispute) (.ref A.C_IsDecided) = some false
  ki_NotInDispute_NoSuchBill : PySem.W.kitOne K (.ref A.C_NotInDispute) (.ref A.C_NoSuchBill) = some false
  ki_NotInDispute_NoSuchDispute : PySem.W.kitOne K (.ref A.C_NotInDispute) (.ref A.C_NoSuchDispute) = some false
  ki_NotInDispute_NotInDispute : PySem.W.kitOne K (.ref A.C_NotInDispute) (.ref A.C_NotInDispute) = some true
  n_AccountFile_bills : NoAttr K A.C_AccountFile (Str.ofString "bills")
  n_AccountFile_demands : NoAttr K A.C_AccountFile (Str.ofString "demands")
  n_AccountFile_disputes : NoAttr K A.C_AccountFile (Str.ofString "disputes")
  n_AccountFile_fees : NoAttr K A.C_AccountFile (Str.ofString "fees")
  n_AccountFile_level : NoAttr K A.C_AccountFile (Str.ofString "level")
  n_AccountFile_payments : NoAttr K A.C_AccountFile (Str.ofString "payments")
  n_AccountFile_reminded : NoAttr K A.C_AccountFile (Str.ofString "reminded")
  n_AccountFile_terms : NoAttr K A.C_AccountFile (Str.ofString "terms")
  n_Bill_amount : NoAttr K A.C_Bill (Str.ofString "amount")
  n_Bill_due : NoAttr K A.C_Bill (Str.ofString "due")
  n_Bill_made : NoAttr K A.C_Bill (Str.ofString "made")
  n_Bill_number : NoAttr K A.C_Bill (Str.ofString "number")
  n_Bill_rows : NoAttr K A.C_Bill (Str.ofString "rows")
  n_Demand_amount : NoAttr K A.C_Demand (Str.ofString "amount")
  n_Demand_due : NoAttr K A.C_Demand (Str.ofString "due")
  n_Demand_kind : NoAttr K A.C_Demand (Str.ofString "kind")
  n_Demand_made : NoAttr K A.C_Demand (Str.ofString "made")
  n_Demand_number : NoAttr K A.C_Demand (Str.ofString "number")
  n_Dispute_amount : NoAttr K A.C_Dispute (Str.ofString "amount")
  n_Dispute_bill : NoAttr K A.C_Dispute (Str.ofString "bill")
  n_Dispute_made : NoAttr K A.C_Dispute (Str.ofString "made")
  n_Dispute_number : NoAttr K A.C_Dispute (Str.ofString "number")
  n_Dispute_state : NoAttr K A.C_Dispute (Str.ofString "state")
  n_Terms_fee : NoAttr K A.C_Terms (Str.ofString "fee")
  n_Terms_gap : NoAttr K A.C_Terms (Str.ofString "gap")
  n_Terms_rate : NoAttr K A.C_Terms (Str.ofString "rate")
  n_Terms_term : NoAttr K A.C_Terms (Str.ofString "term")
  z_int : mg "int" = none
  z_isinstance : mg "isinstance" = none
  z_len : mg "len" = none
  z_list : mg "list" = none
  z_max : mg "max" = none
  z_min : mg "min" = none
  z_range : mg "range" = none
  z_sum : mg "sum" = none
  z_super : mg "super" = none
  z_tuple : mg "tuple" = none
  k_GRANTED : ∃ t, mg "GRANTED" = some (.str (Str.ofString "granted") t)
  k_REFUSED : ∃ t, mg "REFUSED" = some (.str (Str.ofString "refused") t)
  k_WAITING : ∃ t, mg "WAITING" = some (.str (Str.ofString "waiting") t)
section
variable {P : Program} {w : World} {K : PySem.W.Frag} {mg : Str → Option Value} {base : Heap} {A : Ad}
/-! terms -/
structure Tm where
  term : Int
  gap : Int
  fee : Int
  rate : Int
def tmD (A : Ad) (t : Tm) : D := .ins A.C_Terms [("term", .int t.term), ("gap", .int t.gap), ("fee", .int t.fee), ("rate", .int t.rate)]
theorem ft_t (A : Ad) (t : Tm) (C : Cells) : fldOf A.C_Terms "term" (tmD A t) C = some (.int t.term) := by rw [tmD, fldOf_ins]; rfl
theorem ft_g (A : Ad) (t : Tm) (C : Cells) : fldOf A.C_Terms "gap" (tmD A t) C = some (.int t.gap) := by rw [tmD, fldOf_ins]; rfl
theorem ft_f (A : Ad) (t : Tm) (C : Cells) : fldOf A.C_Terms "fee" (tmD A t) C = some (.int t.fee) := by rw [tmD, fldOf_ins]; rfl
theorem ft_r (A : Ad) (t : Tm) (C : Cells) : fldOf A.C_Terms "rate" (tmD A t) C = some (.int t.rate) := by rw [tmD, fldOf_ins]; rfl
def refT (t : Tm) : Option Str := if t.term < 0 then some "term" else if t.gap < 1 then some "gap" else if t.fee < 0 then some "fee" else if t.rate < 0 ∨ 1000 < t.rate then some "rate" else none
def feeF (t : Tm) (over : Int) : Int := t.fee + over * t.rate / 1000
/-- a fact that the walk does not see -/
structure Hid (p : Prop) : Prop where
  h : p
/-- [.. for place in range(len(o))] that looks at each place of o -/
theorem lc_idx {α : Type} {o : List α} {i : Nat} {we : DE} {vs : List Nat} {C1 : Cells} {ρ : DEnv} {P : DK} (g : α → D) (hn : o.length ≤ 100000)
    (h : ∀ (k : Nat) x C' (Q : DK), o[k]? = some x → DD.Sub C1 C' → Q (g x) C' → we ((dwipe ρ vs).set i (some (.int (k : Int)))) C' Q noX)
    (hP : P (.lst (o.map g)) C1) : LcG ⟨rngD 0 ((o.length : Nat) : Int).toNat, frozen⟩ (.name i) wYes we vs ρ C1 P := by
  rw [Int.toNat_natCast]
  refine lc_rng (fun z => (o[z.toNat]?).bind fun x => some (g x)) hn (fun k C' Q hk hs hq => ?_) ?_
  · have e : o[k]? = some o[k] := List.getElem?_eq_getElem hk
    rw [Int.zero_add] at hq ⊢
    rw [Int.toNat_natCast, e, Option.bind_some] at hq
    unfold wYes
    simp only [↓reduceIte]
    exact h k _ C' (fun y C3 => Q (some y) C3) e hs hq
  · have e : (List.range o.length).filterMap (fun (k : Nat) => (o[((0 : Int) + (k : Int)).toNat]?).bind fun x => some (g x)) = o.map g := by
      rw [show (fun (k : Nat) => (o[((0 : Int) + (k : Int)).toNat]?).bind fun x => some (g x)) = fun k => (o[k]?).bind fun x => some (g x) by
        funext k
        rw [Int.zero_add, Int.toNat_natCast], range_filterMap]
      exact congrFun List.filterMap_eq_map _
    rw [e]
    exact hP
/-! allotting -/
def alF : Int → List Int → List Int
  | _, [] => []
  | l, a :: r => min a l :: alF (l - min a l) r
def opF : Int → List Int → List Int
  | _, [] => []
  | l, a :: r => (a - min a l) :: opF (l - min a l) r
theorem al_len : ∀ (l : Int) (M : List Int), (alF l M).length = M.length
  | _, [] => rfl
  | l, a :: r => by rw [alF, List.length_cons, List.length_cons, al_len]
theorem op_len : ∀ (l : Int) (M : List Int), (opF l M).length = M.length
  | _, [] => rfl
  | l, a :: r => by rw [opF, List.length_cons, List.length_cons, op_len]
theorem op_sum : ∀ (l : Int) (M : List Int), (opF l M).sum = M.sum - (alF l M).sum
  | _, [] => rfl
  | l, a :: r => by rw [opF, alF, List.sum_cons, List.sum_cons, List.sum_cons, op_sum]; omega
theorem al_snoc : ∀ (M : List Int) (a l : Int), alF l (M ++ [a]) = alF l M ++ [min a (l - (alF l M).sum)]
  | [], a, l => by simp [alF]
  | b :: r, a, l => by
    rw [List.cons_append, alF, alF, al_snoc r, List.cons_append, List.sum_cons]
    congr 3
    omega
theorem op_get : ∀ (M : List Int) (l : Int) (i : Nat) (a p : Int), M[i]? = some a → (alF l M)[i]? = some p → (opF l M)[i]? = some (a - p)
  | [], _, i, _, _, h, _ => by simp at h
  | b :: r, l, 0, a, p, h1, h2 => by
    simp only [alF, opF, List.getElem?_cons_zero, Option.some.injEq] at *
    rw [← h1, ← h2]
  | b :: r, l, i + 1, a, p, h1, h2 => by
    simp only [alF, opF, List.getElem?_cons_succ] at *
    exact op_get r _ i a p h1 h2
theorem op_zip : ∀ (l : Int) (M : List Int), opF l M = (M.zip (alF l M)).map fun e => e.1 - e.2
  | _, [] => rfl
  | l, a :: r => by rw [opF, alF, List.zip_cons_cons, List.map_cons, op_zip]
/-! what a file holds -/
structure Bl where
  rows : D
  am : Int
  made : Int
  due : Option Int
structure Dm where
  kind : Bool
  num : Int
  am : Int
  made : Int
  due : Int
structure Dp where
  bill : Int
  am : Int
  made : Int
  st : Nat
structure Fl where
  bl : List Bl
  dm : List Dm
  pay : List (Int × Int)
  dp : List Dp
  fees : Int
  lev : Int
  rem : Option Int
def emF : Fl := ⟨[], [], [], [], 0, 0, none⟩
def oiD (o : Option Int) : D := match o with | some i => .int i | none => .non
def kdS (b : Bool) : Str := if b = true then "bill" else "fee"
def stS : Nat → Str
  | 0 => "waiting" | 1 => "granted" | _ => "refused"
def blC (A : Ad) (i : Nat) (x : Bl) : Cell := .ins A.C_Bill [("number", .int (i : Int)), ("rows", x.rows), ("amount", .int x.am), ("made", .int x.made), ("due", oiD x.due)]
def dmC (A : Ad) (_ : Nat) (x : Dm) : Cell := .ins A.C_Demand [("kind", .str (kdS x.kind)), ("number", .int x.num), ("amount", .int x.am), ("made", .int x.made), ("due", .int x.due)]
def dpC (A : Ad) (i : Nat) (x : Dp) : Cell := .ins A.C_Dispute [("number", .int (i : Int)), ("bill", .int x.bill), ("amount", .int x.am), ("made", .int x.made), ("state", .str (stS x.st))]
def pyD (e : Int × Int) : D := .tup [.int e.1, .int e.2]
def flFs (A : Ad) (T : Tm) (F : Fl) (b d p s : Addr) : List (String × D) := [("terms", tmD A T), ("bills", .ptr b), ("demands", .ptr d), ("payments", .ptr p), ("disputes", .ptr s), ("fees", .int F.fees), ("level", .int F.lev), ("reminded", oiD F.rem)]
/-- whose a cell is -/
inductive Tg where
  | law (k : Nat)
  | file (n : Str) (k i : Nat)
abbrev Tag := Addr → Tg
def tset (t : Tag) (x : Addr) (g : Tg) : Tag := fun a => if a = x then g else t a
theorem tset_same {t : Tag} {x : Addr} {g : Tg} : tset t x g x = g := if_pos rfl
theorem tset_ne {t : Tag} {x a : Addr} {g : Tg} (h : a ≠ x) : tset t x g a = t a := if_neg h
theorem ne_tag {t : Tag} {a b : Addr} (h : t a ≠ t b) : a ≠ b := fun e => h (by rw [e])
structure Rw {α : Type} (C : Cells) (t : Tag) (n : Str) (k : Nat) (enc : Nat → α → Cell) (as : List Addr) (xs : List α) : Prop where
  len : as.length = xs.length
  at_ : ∀ (i : Nat) a x, as[i]? = some a → xs[i]? = some x → t a = .file n k i ∧ C a = some (enc i x)
section
variable {α : Type} {C C' : Cells} {t t' : Tag} {n : Str} {k : Nat} {enc : Nat → α → Cell} {as : List Addr} {xs : List α}
theorem Rw.get (h : Rw C t n k enc as xs) {i : Nat} {a : Addr} (ha : as[i]? = some a) : ∃ x, xs[i]? = some x ∧ t a = .file n k i ∧ C a = some (enc i x) := by
  have hi := (List.getElem?_eq_some_iff.mp ha).1
  have hx : xs[i]? = some (xs[i]'(by rw [← h.len]; exact hi)) := List.getElem?_eq_getElem _
  exact ⟨_, hx, h.at_ i a _ ha hx⟩
theorem Rw.adr (h : Rw C t n k enc as xs) {i : Nat} {x : α} (hx : xs[i]? = some x) : ∃ a, as[i]? = some a ∧ t a = .file n k i ∧ C a = some (enc i x) := by
  have hi := (List.getElem?_eq_some_iff.mp hx).1
  have ha : as[i]? = some (as[i]'(by rw [h.len]; exact hi)) := List.getElem?_eq_getElem _
  exact ⟨_, ha, h.at_ i _ x ha hx⟩
theorem Rw.mono (h : Rw C t n k enc as xs) (g : ∀ (i : Nat) a c, t a = .file n k i → C a = some c → C' a = some c ∧ t' a = t a) : Rw C' t' n k enc as xs := ⟨h.len, fun i a x ha hx => by
  obtain ⟨h1, h2⟩ := h.at_ i a x ha hx
  obtain ⟨g1, g2⟩ := g i a _ h1 h2
  exact ⟨g2.trans h1, g1⟩⟩
theorem Rw.put (h : Rw C t n k enc as xs) {b : Addr} {c : Cell} (hb : ∀ i, t b ≠ .file n k i) : Rw (cput C b c) t n k enc as xs :=
  h.mono fun i a c' ta hc => ⟨(cput_ne (fun z => hb i (by rw [← z]; exact ta))).trans hc, rfl⟩
theorem Rw.snoc (h : Rw C t n k enc as xs) {x : Addr} (hx : C x = none) (y : α) : Rw (cput C x (enc xs.length y)) (tset t x (.file n k xs.length)) n k enc (as ++ [x]) (xs ++ [y]) := by
  refine ⟨by rw [List.length_append, List.length_append, h.len]; rfl, fun i a z ha hz => ?_⟩
  by_cases hi : i < xs.length
  · rw [List.getElem?_append_left (by rw [h.len]; exact hi)] at ha
    rw [List.getElem?_append_left hi] at hz
    obtain ⟨h1, h2⟩ := h.at_ i a z ha hz
    have : a ≠ x := cell_ne h2 hx
    exact ⟨(tset_ne this).trans h1, (cput_ne this).trans h2⟩
  · have hl := (List.getElem?_eq_some_iff.mp hz).1
    rw [List.length_append] at hl
    have e : i = xs.length := by simp at hl; omega
    subst e
    rw [← h.len, List.getElem?_concat_length] at ha
    rw [List.getElem?_concat_length] at hz
    cases ha; cases hz
    exact ⟨tset_same, cput_same⟩
theorem Rw.set (h : Rw C t n k enc as xs) {i : Nat} {a : Addr} (ha : as[i]? = some a) (y : α) : Rw (cput C a (enc i y)) t n k enc as (xs.set i y) := by
  refine ⟨by rw [List.length_set]; exact h.len, fun j b z hb hz => ?_⟩
  by_cases hj : i = j
  · subst hj
    rw [ha] at hb; cases hb
    have hi := (List.getElem?_eq_some_iff.mp ha).1
    rw [List.getElem?_set_self (by rw [← h.len]; exact hi)] at hz
    cases hz
    obtain ⟨x, _, h1, _⟩ := h.get ha
    exact ⟨h1, cput_same⟩
  · rw [List.getElem?_set_ne hj] at hz
    obtain ⟨h1, h2⟩ := h.at_ j b z hb hz
    obtain ⟨x, _, h3, _⟩ := h.get ha
    have : b ≠ a := ne_tag (t := t) (by rw [h1, h3]; simp [Ne.symm hj])
    exact ⟨h1, (cput_ne this).trans h2⟩
end
/-- a comprehension over cells -/
theorem lc_rw {α : Type} {C1 : Cells} {t : Tag} {n : Str} {k : Nat} {enc : Nat → α → Cell} {as : List Addr} {xs : List α} {st : Cells → Prop} {tg : Tgt} {wt : DT} {we : DE} {vs : List Nat} {ρ : DEnv} {P : DK} (hR : Rw C1 t n k enc as xs) (f : Nat → α → Option D) (hst : ∀ C', DD.Sub C1 C' → st C') (hl : xs.length ≤ 100000)
    (h : ∀ (i : Nat) a x C' (Q : Option D → Cells → Prop), xs[i]? = some x → C' a = some (enc i x) → DD.Sub C1 C' → Q (f i x) C' → match tg.dg (.ptr a) (dwipe ρ vs) with
      | some ρ2 => wt ρ2 C' (fun b C2 => if b = true then we ρ2 C2 (fun y C3 => Q (some y) C3) noX else Q none C2) noX
      | none => False)
    (hP : P (.lst (xs.zipIdx.filterMap fun e => f e.2 e.1)) C1) : LcG ⟨as.map D.ptr, st⟩ tg wt we vs ρ C1 P := by
  have hzl : (as.zip xs.zipIdx).map (fun e => e.1) = as := by rw [List.map_fst_zip]; rw [List.length_zipIdx, hR.len]; exact Nat.le_refl _
  have hzs : (as.zip xs.zipIdx).map (fun e => e.2) = xs.zipIdx := by rw [List.map_snd_zip]; rw [List.length_zipIdx, hR.len]; exact Nat.le_refl _
  have e1 : as.map D.ptr = (as.zip xs.zipIdx).map fun e => D.ptr e.1 := by
    conv => lhs; rw [← hzl]
    rw [List.map_map]; rfl
  rw [e1]
  refine lc_map (L := as.zip xs.zipIdx) (enc := fun e => D.ptr e.1) (fun e => f e.2.2 e.2.1) hst (by rw [List.length_zip, List.length_zipIdx]; omega) (fun i e C' Q he hs hq => ?_) ?_
  · obtain ⟨ha, hx⟩ := List.getElem?_zip_eq_some.mp he
    rw [List.getElem?_zipIdx] at hx
    obtain ⟨x, hx1, hx2⟩ := Option.map_eq_some_iff.mp hx
    have e2 : e.2 = (x, i) := by rw [← hx2, Nat.zero_add]
    rw [e2] at hq
    obtain ⟨_, hc⟩ := hR.at_ i e.1 x ha hx1
    exact h i e.1 x C' Q hx1 (hs _ _ hc) hs hq
  · have e3 : (as.zip xs.zipIdx).filterMap (fun e => f e.2.2 e.2.1) = xs.zipIdx.filterMap fun e => f e.2 e.1 := by
      conv => rhs; rw [← hzs]
      rw [List.filterMap_map]; rfl
    rw [e3]; exact hP
theorem zix_fm {α : Type} (f : α → Option D) (xs : List α) : (xs.zipIdx.filterMap fun e => f e.1) = xs.filterMap f := by
  have e : xs.zipIdx.map (fun e => e.1) = xs := List.zipIdx_map_fst 0 xs
  conv => rhs; rw [← e]
  rw [List.filterMap_map]; rfl
structure FS (A : Ad) (C : Cells) (t : Tag) (n : Str) (q b d p s : Addr) (ab ad as : List Addr) (T : Tm) (F : Fl) : Prop where
  tq : t q = .file n 1 0
  tb : t b = .file n 2 0
  td : t d = .file n 3 0
  tp : t p = .file n 4 0
  ts : t s = .file n 5 0
  cq : C q = some (.ins A.C_AccountFile (flFs A T F b d p s))
  cb : C b = some (.lst (ab.map D.ptr))
  cd : C d = some (.lst (ad.map D.ptr))
  cp : C p = some (.lst (F.pay.map pyD))
  cs : C s = some (.lst (as.map D.ptr))
  rb : Rw C t n 6 (blC A) ab F.bl
  rd : Rw C t n 7 (dmC A) ad F.dm
  rs : Rw C t n 8 (dpC A) as F.dp
def FX (A : Ad) (C : Cells) (t : Tag) (n : Str) (q : Addr) (T : Tm) (F : Fl) : Prop := ∃ b d p s ab ad as, FS A C t n q b d p s ab ad as T F
/-- what is not of the file n stays -/
def Kp (n : Str) (t t' : Tag) (C C' : Cells) : Prop := ∀ a c, C a = some c → (∀ k i, t a ≠ .file n k i) → C' a = some c ∧ t' a = t a
theorem Kp.refl (n : Str) (t : Tag) (C : Cells) : Kp n t t C C := fun _ _ h _ => ⟨h, rfl⟩
theorem Kp.trans {n : Str} {t1 t2 t3 : Tag} {C1 C2 C3 : Cells} (h : Kp n t1 t2 C1 C2) (g : Kp n t2 t3 C2 C3) : Kp n t1 t3 C1 C3 := fun a c hc hn => by
  obtain ⟨h1, h2⟩ := h a c hc hn
  obtain ⟨g1, g2⟩ := g a c h1 (fun k i => by rw [h2]; exact hn k i)
  exact ⟨g1, g2.trans h2⟩
theorem Kp.put {n : Str} {t : Tag} {C : Cells} {b : Addr} {c : Cell} {k i : Nat} (hb : t b = .file n k i) : Kp n t t C (cput C b c) := fun a d h hn => ⟨(cput_ne (fun z => hn k i (by rw [z]; exact hb))).trans h, rfl⟩
theorem Kp.new {n : Str} {t : Tag} {C : Cells} {x : Addr} (hx : C x = none) (c : Cell) (g : Tg) : Kp n t (tset t x g) C (cput C x c) := fun a d h _ => ⟨(cput_ne (cell_ne h hx)).trans h, tset_ne (cell_ne h hx)⟩
theorem FS.mono {A : Ad} {C C' : Cells} {t t' : Tag} {n : Str} {q b d p s : Addr} {ab ad as : List Addr} {T : Tm} {F : Fl} (h : FS A C t n q b d p s ab ad as T F) (g : ∀ k i a c, t a = .file n k i → C a = some c → C' a = some c ∧ t' a = t a) : FS A C' t' n q b d p s ab ad as T F :=
  ⟨((g _ _ _ _ h.tq h.cq).2).trans h.tq, ((g _ _ _ _ h.tb h.cb).2).trans h.tb, ((g _ _ _ _ h.td h.cd).2).trans h.td, ((g _ _ _ _ h.tp h.cp).2).trans h.tp, ((g _ _ _ _ h.ts h.cs).2).trans h.ts,
   (g _ _ _ _ h.tq h.cq).1, (g _ _ _ _ h.tb h.cb).1, (g _ _ _ _ h.td h.cd).1, (g _ _ _ _ h.tp h.cp).1, (g _ _ _ _ h.ts h.cs).1, h.rb.mono (g 6), h.rd.mono (g 7), h.rs.mono (g 8)⟩
theorem FX.mono {A : Ad} {C C' : Cells} {t t' : Tag} {n : Str} {q : Addr} {T : Tm} {F : Fl} (h : FX A C t n q T F) (g : ∀ k i a c, t a = .file n k i → C a = some c → C' a = some c ∧ t' a = t a) : FX A C' t' n q T F := by
  obtain ⟨b, d, p, s, ab, ad, as, h⟩ := h
  exact ⟨b, d, p, s, ab, ad, as, h.mono g⟩
theorem FX.sub {A : Ad} {C C' : Cells} {t : Tag} {n : Str} {q : Addr} {T : Tm} {F : Fl} (h : FX A C t n q T F) (g : DD.Sub C C') : FX A C' t n q T F := h.mono fun _ _ a c _ hc => ⟨g a c hc, rfl⟩
theorem FX.keep {A : Ad} {C C' : Cells} {t t' : Tag} {n m : Str} {q : Addr} {T : Tm} {F : Fl} (h : FX A C t m q T F) (hn : m ≠ n) (g : Kp n t t' C C') : FX A C' t' m q T F := h.mono fun k i a c ta hc => g a c hc fun k' i' z => by
  rw [ta] at z
  injection z with z1
  exact hn z1
structure FOk (F : Fl) : Prop where
  sb : F.bl.length ≤ 1000
  sd : F.dm.length ≤ 1000
  sp : F.pay.length ≤ 1000
  ss : F.dp.length ≤ 1000
  db : ∀ x ∈ F.bl, 0 < x.am → x.due.isSome = true
  dd : ∀ x ∈ F.dp, 0 ≤ x.bill ∧ ∃ y, F.bl[x.bill.toNat]? = some y ∧ 0 < y.am
def paidF (F : Fl) : Int := (F.pay.map fun e => e.1).sum
def credF (F : Fl) : Int := ((F.bl.filter fun x => decide (x.am < 0)).map fun x => -x.am).sum
def granF (F : Fl) : Int := ((F.dp.filter fun x => decide (x.st = 1)).map fun x => x.am).sum
def mnF (F : Fl) : Int := paidF F + credF F + granF F
def amF (F : Fl) : List Int := F.dm.map fun x => x.am
def heldF (L : List Dp) (k : Nat) (b : Int) : Int := ((L.filter fun x => decide (x.bill = b ∧ x.st = k)).map fun x => x.am).sum
theorem FS.add_bl {A : Ad} {C : Cells} {t : Tag} {n : Str} {q b d p s : Addr} {ab ad as : List Addr} {T : Tm} {F : Fl} (h : FS A C t n q b d p s ab ad as T F) {x : Addr} (hx : C x = none) (y : Bl) :
    FS A (cput (cput C x (blC A F.bl.length y)) b (.lst ((ab ++ [x]).map D.ptr))) (tset t x (.file n 6 F.bl.length)) n q b d p s (ab ++ [x]) ad as T { F with bl := F.bl ++ [y] } := by
  have tg : ∀ z, (∃ k, t z = .file n k 0 ∧ k ≠ 2) → z ≠ b := fun z ⟨k, e, hk⟩ => ne_tag (t := t) (by rw [e, h.tb]; simp [hk])
  have old : ∀ {α : Type} {k : Nat} {enc : Nat → α → Cell} {us : List Addr} {xs : List α}, k ≠ 2 → Rw C t n k enc us xs → Rw (cput (cput C x (blC A F.bl.length y)) b (.lst ((ab ++ [x]).map D.ptr))) (tset t x (.file n 6 F.bl.length)) n k enc us xs := fun {α k enc us xs} hk hr => (hr.mono fun i a c ta hc => ⟨(cput_ne (cell_ne hc hx)).trans hc, tset_ne (cell_ne hc hx)⟩ : Rw (cput C x (blC A F.bl.length y)) (tset t x (.file n 6 F.bl.length)) n k enc us xs).put (fun i z => by rw [tset_ne (cell_ne h.cb hx), h.tb] at z; injection z with _ z2; exact hk z2.symm)
  exact ⟨(tset_ne (cell_ne h.cq hx)).trans h.tq,
    (tset_ne (cell_ne h.cb hx)).trans h.tb,
    (tset_ne (cell_ne h.cd hx)).trans h.td,
    (tset_ne (cell_ne h.cp hx)).trans h.tp,
    (tset_ne (cell_ne h.cs hx)).trans h.ts,
    (cput_ne (tg _ ⟨_, h.tq, by decide⟩)).trans ((cput_ne (cell_ne h.cq hx)).trans h.cq),
    cput_same,
    (cput_ne (tg _ ⟨_, h.td, by decide⟩)).trans ((cput_ne (cell_ne h.cd hx)).trans h.cd),
    (cput_ne (tg _ ⟨_, h.tp, by decide⟩)).trans ((cput_ne (cell_ne h.cp hx)).trans h.cp),
    (cput_ne (tg _ ⟨_, h.ts, by decide⟩)).trans ((cput_ne (cell_ne h.cs hx)).trans h.cs),
    (h.rb.snoc hx y).put (fun i z => by rw [tset_ne (cell_ne h.cb hx), h.tb] at z; cases z),
    old (by decide) h.rd,
    old (by decide) h.rs⟩
theorem FS.kp_bl {A : Ad} {C : Cells} {t : Tag} {n : Str} {q b d p s : Addr} {ab ad as : List Addr} {T : Tm} {F : Fl} (h : FS A C t n q b d p s ab ad as T F) {x : Addr} (hx : C x = none) (c c2 : Cell) (g : Tg) : Kp n t (tset t x g) C (cput (cput C x c) b c2) :=
  fun a d' hc hn => ⟨(cput_ne (fun z => hn 2 0 (by rw [z]; exact h.tb))).trans ((cput_ne (cell_ne hc hx)).trans hc), tset_ne (cell_ne hc hx)⟩
theorem FS.add_dm {A : Ad} {C : Cells} {t : Tag} {n : Str} {q b d p s : Addr} {ab ad as : List Addr} {T : Tm} {F : Fl} (h : FS A C t n q b d p s ab ad as T F) {x : Addr} (hx : C x = none) (y : Dm) :
    FS A (cput (cput C x (dmC A F.dm.length y)) d (.lst ((ad ++ [x]).map D.ptr))) (tset t x (.file n 7 F.dm.length)) n q b d p s ab (ad ++ [x]) as T { F with dm := F.dm ++ [y] } := by
  have tg : ∀ z, (∃ k, t z = .file n k 0 ∧ k ≠ 3) → z ≠ d := fun z ⟨k, e, hk⟩ => ne_tag (t := t) (by rw [e, h.td]; simp [hk])
  have old : ∀ {α : Type} {k : Nat} {enc : Nat → α → Cell} {us : List Addr} {xs : List α}, k ≠ 3 → Rw C t n k enc us xs → Rw (cput (cput C x (dmC A F.dm.length y)) d (.lst ((ad ++ [x]).map D.ptr))) (tset t x (.file n 7 F.dm.length)) n k enc us xs := fun {α k enc us xs} hk hr => (hr.mono fun i a c ta hc => ⟨(cput_ne (cell_ne hc hx)).trans hc, tset_ne (cell_ne hc hx)⟩ : Rw (cput C x (dmC A F.dm.length y)) (tset t x (.file n 7 F.dm.length)) n k enc us xs).put (fun i z => by rw [tset_ne (cell_ne h.cd hx), h.td] at z; injection z with _ z2; exact hk z2.symm)
  exact ⟨(tset_ne (cell_ne h.cq hx)).trans h.tq,
    (tset_ne (cell_ne h.cb hx)).trans h.tb,
    (tset_ne (cell_ne h.cd hx)).trans h.td,
    (tset_ne (cell_ne h.cp hx)).trans h.tp,
    (tset_ne (cell_ne h.cs hx)).trans h.ts,
    (cput_ne (tg _ ⟨_, h.tq, by decide⟩)).trans ((cput_ne (cell_ne h.cq hx)).trans h.cq),
    (cput_ne (tg _ ⟨_, h.tb, by decide⟩)).trans ((cput_ne (cell_ne h.cb hx)).trans h.cb),
    cput_same,
    (cput_ne (tg _ ⟨_, h.tp, by decide⟩)).trans ((cput_ne (cell_ne h.cp hx)).trans h.cp),
    (cput_ne (tg _ ⟨_, h.ts, by decide⟩)).trans ((cput_ne (cell_ne h.cs hx)).trans h.cs),
    old (by decide) h.rb,
    (h.rd.snoc hx y).put (fun i z => by rw [tset_ne (cell_ne h.cd hx), h.td] at z; cases z),
    old (by decide) h.rs⟩
theorem FS.kp_dm {A : Ad} {C : Cells} {t : Tag} {n : Str} {q b d p s : Addr} {ab ad as : List Addr} {T : Tm} {F : Fl} (h : FS A C t n q b d p s ab ad as T F) {x : Addr} (hx : C x = none) (c c2 : Cell) (g : Tg) : Kp n t (tset t x g) C (cput (cput C x c) d c2) :=
  fun a d' hc hn => ⟨(cput_ne (fun z => hn 3 0 (by rw [z]; exact h.td))).trans ((cput_ne (cell_ne hc hx)).trans hc), tset_ne (cell_ne hc hx)⟩
theorem FS.add_dp {A : Ad} {C : Cells} {t : Tag} {n : Str} {q b d p s : Addr} {ab ad as : List Addr} {T : Tm} {F : Fl} (h : FS A C t n q b d p s ab ad as T F) {x : Addr} (hx : C x = none) (y : Dp) :
    FS A (cput (cput C x (dpC A F.dp.length y)) s (.lst ((as ++ [x]).map D.ptr))) (tset t x (.file n 8 F.dp.length)) n q b d p s ab ad (as ++ [x]) T { F with dp := F.dp ++ [y] } := by
  have tg : ∀ z, (∃ k, t z = .file n k 0 ∧ k ≠ 5) → z ≠ s := fun z ⟨k, e, hk⟩ => ne_tag (t := t) (by rw [e, h.ts]; simp [hk])
  have old : ∀ {α : Type} {k : Nat} {enc : Nat → α → Cell} {us : List Addr} {xs : List α}, k ≠ 5 → Rw C t n k enc us xs → Rw (cput (cput C x (dpC A F.dp.length y)) s (.lst ((as ++ [x]).map D.ptr))) (tset t x (.file n 8 F.dp.length)) n k enc us xs := fun {α k enc us xs} hk hr => (hr.mono fun i a c ta hc => ⟨(cput_ne (cell_ne hc hx)).trans hc, tset_ne (cell_ne hc hx)⟩ : Rw (cput C x (dpC A F.dp.length y)) (tset t x (.file n 8 F.dp.length)) n k enc us xs).put (fun i z => by rw [tset_ne (cell_ne h.cs hx), h.ts] at z; injection z with _ z2; exact hk z2.symm)
  exact ⟨(tset_ne (cell_ne h.cq hx)).trans h.tq,
    (tset_ne (cell_ne h.cb hx)).trans h.tb,
    (tset_ne (cell_ne h.cd hx)).trans h.td,
    (tset_ne (cell_ne h.cp hx)).trans h.tp,
    (tset_ne (cell_ne h.cs hx)).trans h.ts,
    (cput_ne (tg _ ⟨_, h.tq, by decide⟩)).trans ((cput_ne (cell_ne h.cq hx)).trans h.cq),
    (cput_ne (tg _ ⟨_, h.tb, by decide⟩)).trans ((cput_ne (cell_ne h.cb hx)).trans h.cb),
    (cput_ne (tg _ ⟨_, h.td, by decide⟩)).trans ((cput_ne (cell_ne h.cd hx)).trans h.cd),
    (cput_ne (tg _ ⟨_, h.tp, by decide⟩)).trans ((cput_ne (cell_ne h.cp hx)).trans h.cp),
    cput_same,
    old (by decide) h.rb,
    old (by decide) h.rd,
    (h.rs.snoc hx y).put (fun i z => by rw [tset_ne (cell_ne h.cs hx), h.ts] at z; cases z)⟩
theorem FS.kp_dp {A : Ad} {C : Cells} {t : Tag} {n : Str} {q b d p s : Addr} {ab ad as : List Addr} {T : Tm} {F : Fl} (h : FS A C t n q b d p s ab ad as T F) {x : Addr} (hx : C x = none) (c c2 : Cell) (g : Tg) : Kp n t (tset t x g) C (cput (cput C x c) s c2) :=
  fun a d' hc hn => ⟨(cput_ne (fun z => hn 5 0 (by rw [z]; exact h.ts))).trans ((cput_ne (cell_ne hc hx)).trans hc), tset_ne (cell_ne hc hx)⟩
theorem FOk.bill {F : Fl} (h : FOk F) (h1 : F.bl.length ≤ 900) (h2 : F.dm.length ≤ 900) (y : Bl) (hy : 0 < y.am → y.due.isSome = true) (N : List Dm) (hN : N.length ≤ 1) : FOk { F with bl := F.bl ++ [y], dm := F.dm ++ N } := by
  refine ⟨by rw [List.length_append]; simp; omega, by rw [List.length_append]; omega, h.sp, h.ss, fun x hx => ?_, fun x hx => ?_⟩
  · rcases List.mem_append.mp hx with hx | hx
    · exact h.db x hx
    · simp only [List.mem_cons, List.not_mem_nil, or_false] at hx
      rw [hx]; exact hy
  · obtain ⟨h3, z, h4, h5⟩ := h.dd x hx
    exact ⟨h3, z, (List.getElem?_append_left (List.getElem?_eq_some_iff.mp h4).1).trans h4, h5⟩
/-- the same but for times and states -/
structure Like (F F' : Fl) : Prop where
  am : amF F' = amF F
  kd : F'.dm.map (fun x => (x.kind, x.am)) = F.dm.map fun x => (x.kind, x.am)
  bl : F'.bl.map (fun x => x.am) = F.bl.map fun x => x.am
  pay : F'.pay = F.pay
  nd : F'.dp.length = F.dp.length
theorem FS.set_bl {A : Ad} {C : Cells} {t : Tag} {n : Str} {q b d p s : Addr} {ab ad as : List Addr} {T : Tm} {F : Fl} (h : FS A C t n q b d p s ab ad as T F) {i : Nat} {a : Addr} (ha : ab[i]? = some a) (y : Bl) :
    FS A (cput C a (blC A i y)) t n q b d p s ab ad as T { F with bl := F.bl.set i y } ∧ Kp n t t C (cput C a (blC A i y)) := by
  obtain ⟨x, _, ta, _⟩ := h.rb.get ha
  have tg : ∀ {z : Addr} {k : Nat}, t z = .file n k 0 → k < 6 → z ≠ a := fun {z k} e hk => ne_tag (t := t) (by rw [e, ta]; intro w; injection w with _ w2; omega)
  exact ⟨⟨h.tq, h.tb, h.td, h.tp, h.ts, (cput_ne (tg h.tq (by decide))).trans h.cq, (cput_ne (tg h.tb (by decide))).trans h.cb, (cput_ne (tg h.td (by decide))).trans h.cd, (cput_ne (tg h.tp (by decide))).trans h.cp, (cput_ne (tg h.ts (by decide))).trans h.cs,
    h.rb.set ha y, h.rd.put (fun j z => by rw [ta] at z; cases z), h.rs.put (fun j z => by rw [ta] at z; cases z)⟩, Kp.put ta⟩
theorem FS.set_dm {A : Ad} {C : Cells} {t : Tag} {n : Str} {q b d p s : Addr} {ab ad as : List Addr} {T : Tm} {F : Fl} (h : FS A C t n q b d p s ab ad as T F) {i : Nat} {a : Addr} (ha : ad[i]? = some a) (y : Dm) :
    FS A (cput C a (dmC A i y)) t n q b d p s ab ad as T { F with dm := F.dm.set i y } ∧ Kp n t t C (cput C a (dmC A i y)) := by
  obtain ⟨x, _, ta, _⟩ := h.rd.get ha
  have tg : ∀ {z : Addr} {k : Nat}, t z = .file n k 0 → k < 6 → z ≠ a := fun {z k} e hk => ne_tag (t := t) (by rw [e, ta]; intro w; injection w with _ w2; omega)
  exact ⟨⟨h.tq, h.tb, h.td, h.tp, h.ts, (cput_ne (tg h.tq (by decide))).trans h.cq, (cput_ne (tg h.tb (by decide))).trans h.cb, (cput_ne (tg h.td (by decide))).trans h.cd, (cput_ne (tg h.tp (by decide))).trans h.cp, (cput_ne (tg h.ts (by decide))).trans h.cs,
    h.rb.put (fun j z => by rw [ta] at z; cases z), h.rd.set ha y, h.rs.put (fun j z => by rw [ta] at z; cases z)⟩, Kp.put ta⟩
theorem FS.set_dp {A : Ad} {C : Cells} {t : Tag} {n : Str} {q b d p s : Addr} {ab ad as : List Addr} {T : Tm} {F : Fl} (h : FS A C t n q b d p s ab ad as T F) {i : Nat} {a : Addr} (ha : as[i]? = some a) (y : Dp) :
    FS A (cput C a (dpC A i y)) t n q b d p s ab ad as T { F with dp := F.dp.set i y } ∧ Kp n t t C (cput C a (dpC A i y)) := by
  obtain ⟨x, _, ta, _⟩ := h.rs.get ha
  have tg : ∀ {z : Addr} {k : Nat}, t z = .file n k 0 → k < 6 → z ≠ a := fun {z k} e hk => ne_tag (t := t) (by rw [e, ta]; intro w; injection w with _ w2; omega)
  exact ⟨⟨h.tq, h.tb, h.td, h.tp, h.ts, (cput_ne (tg h.tq (by decide))).trans h.cq, (cput_ne (tg h.tb (by decide))).trans h.cb, (cput_ne (tg h.td (by decide))).trans h.cd, (cput_ne (tg h.tp (by decide))).trans h.cp, (cput_ne (tg h.ts (by decide))).trans h.cs,
    h.rb.put (fun j z => by rw [ta] at z; cases z), h.rd.put (fun j z => by rw [ta] at z; cases z), h.rs.set ha y⟩, Kp.put ta⟩
theorem FS.set_q {A : Ad} {C : Cells} {t : Tag} {n : Str} {q b d p s : Addr} {ab ad as : List Addr} {T : Tm} {F : Fl} (h : FS A C t n q b d p s ab ad as T F) (fe lv : Int) (rm : Option Int) :
    FS A (cput C q (.ins A.C_AccountFile (flFs A T { F with fees := fe, lev := lv, rem := rm } b d p s))) t n q b d p s ab ad as T { F with fees := fe, lev := lv, rem := rm } ∧ Kp n t t C (cput C q (.ins A.C_AccountFile (flFs A T { F with fees := fe, lev := lv, rem := rm } b d p s))) := by
  have tg : ∀ {z : Addr} {k : Nat}, t z = .file n k 0 → k ≠ 1 → z ≠ q := fun {z k} e hk => ne_tag (t := t) (by rw [e, h.tq]; intro w; injection w with _ w2; omega)
  exact ⟨⟨h.tq, h.tb, h.td, h.tp, h.ts, cput_same, (cput_ne (tg h.tb (by decide))).trans h.cb, (cput_ne (tg h.td (by decide))).trans h.cd, (cput_ne (tg h.tp (by decide))).trans h.cp, (cput_ne (tg h.ts (by decide))).trans h.cs,
    h.rb.put (fun j z => by rw [h.tq] at z; cases z), h.rd.put (fun j z => by rw [h.tq] at z; cases z), h.rs.put (fun j z => by rw [h.tq] at z; cases z)⟩, Kp.put h.tq⟩
theorem set_step {α : Type} (f : α → α) {xs : List α} {j : Nat} {x : α} (h : xs[j]? = some x) : ((xs.take j).map f ++ xs.drop j).set j (f x) = (xs.take (j + 1)).map f ++ xs.drop (j + 1) := by
  obtain ⟨hj, hx⟩ := List.getElem?_eq_some_iff.mp h
  have e : xs.drop j = x :: xs.drop (j + 1) := by rw [List.drop_eq_getElem_cons hj, hx]
  have hl : ((xs.take j).map f).length = j := by rw [List.length_map, List.length_take]; omega
  rw [take_snoc h, List.map_append, e, List.set_append, if_neg (by omega), hl, Nat.sub_self, List.set_cons_zero, List.append_assoc]
  rfl
theorem set_same {α : Type} (f : α → α) {xs : List α} {j : Nat} {x : α} (h : xs[j]? = some x) (g : f x = x) : (xs.take j).map f ++ xs.drop j = (xs.take (j + 1)).map f ++ xs.drop (j + 1) := by
  obtain ⟨hj, hx⟩ := List.getElem?_eq_some_iff.mp h
  have e : xs.drop j = x :: xs.drop (j + 1) := by rw [List.drop_eq_getElem_cons hj, hx]
  rw [take_snoc h, List.map_append, e, List.append_assoc]
  show _ = _ ++ ([f x] ++ _)
  rw [g]; rfl
def putM (k m : Int) (x : Dm) : Dm := if x.kind = true ∧ x.num = k then { x with due := m } else x
def poF (F : Fl) (k : Int) (z : Int) : Fl := match F.bl[k.toNat]? with
  | some y => { F with bl := F.bl.set k.toNat { y with due := some (max (y.due.getD 0) z) }, dm := F.dm.map (putM k (max (y.due.getD 0) z)) }
  | none => F
theorem putM_am (k m : Int) (x : Dm) : (putM k m x).am = x.am ∧ (putM k m x).kind = x.kind := by unfold putM; split <;> exact ⟨rfl, rfl⟩
theorem poF_like (F : Fl) (k z : Int) : Like F (poF F k z) := by
  unfold poF
  split
  · rename_i y hy
    have hb : ∀ {β : Type} (g : Bl → β) (y' : Bl), g y' = g y → (F.bl.set k.toNat y').map g = F.bl.map g := fun {β} g y' hg => by
      rw [List.map_set, hg]
      apply List.ext_getElem?
      intro i
      rw [List.getElem?_set]
      split
      · rename_i e; subst e
        rw [List.getElem?_map, hy]
        rw [List.length_map, if_pos (List.getElem?_eq_some_iff.mp hy).1]; rfl
      · rfl
    refine ⟨?_, ?_, hb _ _ rfl, rfl, rfl⟩
    · unfold amF
      dsimp only
      rw [List.map_map]
      exact List.map_congr_left fun x _ => (putM_am _ _ x).1
    · dsimp only
      rw [List.map_map]
      exact List.map_congr_left fun x _ => by
        show ((putM _ _ x).kind, (putM _ _ x).am) = _
        rw [(putM_am _ _ x).1, (putM_am _ _ x).2]
  · exact ⟨rfl, rfl, rfl, rfl, rfl⟩
theorem poF_ok {F : Fl} (h : FOk F) (k z : Int) : FOk (poF F k z) := by
  unfold poF
  split
  · rename_i y hy
    refine ⟨by rw [List.length_set]; exact h.sb, by rw [List.length_map]; exact h.sd, h.sp, h.ss, fun x hx hp => ?_, fun x hx => ?_⟩
    · rcases List.mem_or_eq_of_mem_set hx with hx | hx
      · exact h.db x hx hp
      · rw [hx]; rfl
    · obtain ⟨h1, v, h2, h3⟩ := h.dd x hx
      refine ⟨h1, ?_⟩
      by_cases e : k.toNat = x.bill.toNat
      · rw [← e] at h2 ⊢
        rw [hy] at h2; cases h2
        exact ⟨_, List.getElem?_set_self (List.getElem?_eq_some_iff.mp hy).1, h3⟩
      · exact ⟨v, by rw [List.getElem?_set_ne e]; exact h2, h3⟩
  · exact h
theorem poF_dp (F : Fl) (k z : Int) : (poF F k z).dp = F.dp := by unfold poF; split <;> rfl
theorem FS.det {A : Ad} {C : Cells} {t t' : Tag} {n n' : Str} {q b d p s b' d' p' s' : Addr} {ab ad as ab' ad' as' : List Addr} {T : Tm} {F F' : Fl} (h : FS A C t n q b d p s ab ad as T F) (g : FS A C t' n' q b' d' p' s' ab' ad' as' T F') : ab' = ab := by
  have e := h.cq.symm.trans g.cq
  unfold flFs at e
  injection e with e
  injection e with _ e
  simp only [List.cons.injEq, Prod.mk.injEq, true_and, D.ptr.injEq] at e
  have e1 : b = b' := e.1
  subst e1
  have e2 := h.cb.symm.trans g.cb
  injection e2 with e2
  injection e2 with e2
  exact ((List.map_inj_right (fun x y h => D.ptr.inj h)).mp e2).symm
def dcF (F : Fl) (k : Int) (g : Bool) (x : Dp) : Fl := { F with dp := F.dp.set k.toNat { x with st := if g = true then 1 else 2 } }
def deF (F : Fl) (k : Int) (g : Bool) (z : Int) : Fl := match F.dp[k.toNat]? with
  | some x => if g = true then dcF F k g x else poF (dcF F k g x) x.bill z
  | none => F
theorem dcF_like (F : Fl) (k : Int) (g : Bool) (x : Dp) : Like F (dcF F k g x) := ⟨rfl, rfl, rfl, rfl, by unfold dcF; dsimp only; rw [List.length_set]⟩
theorem Like.trans {F G H : Fl} (h : Like F G) (g : Like G H) : Like F H := ⟨g.am.trans h.am, g.kd.trans h.kd, g.bl.trans h.bl, g.pay.trans h.pay, g.nd.trans h.nd⟩
theorem dcF_ok {F : Fl} (h : FOk F) {k : Int} {x : Dp} (hx : F.dp[k.toNat]? = some x) (g : Bool) : FOk (dcF F k g x) := by
  unfold dcF
  refine ⟨h.sb, h.sd, h.sp, by rw [List.length_set]; exact h.ss, h.db, fun y hy => ?_⟩
  rcases List.mem_or_eq_of_mem_set hy with hy | hy
  · exact h.dd y hy
  · rw [hy]
    exact h.dd x (List.mem_of_getElem? hx)
theorem deF_like (F : Fl) (k : Int) (g : Bool) (z : Int) : Like F (deF F k g z) := by
  unfold deF
  split
  · split
    · exact dcF_like _ _ _ _
    · exact (dcF_like _ _ _ _).trans (poF_like _ _ _)
  · exact ⟨rfl, rfl, rfl, rfl, rfl⟩
theorem deF_ok {F : Fl} (h : FOk F) (k : Int) (g : Bool) (z : Int) : FOk (deF F k g z) := by
  unfold deF
  split
  · rename_i x hx
    split
    · exact dcF_ok h hx g
    · exact poF_ok (dcF_ok h hx g) _ _
  · exact h
def hdF (F : Fl) (x : Dm) : Int := if x.kind = true then heldF F.dp 0 x.num else 0
def odF (F : Fl) (k : Int) : List Int := (F.dm.zip (opF (max 0 (mnF F)) (amF F))).map fun e => if e.1.due < k then max 0 (e.2 - hdF F e.1) else 0
theorem odF_len (F : Fl) (k : Int) : (odF F k).length = F.dm.length := by
  unfold odF
  rw [List.length_map, List.length_zip, op_len]
  unfold amF
  rw [List.length_map, Nat.min_self]
theorem sum_pos {L : List Int} (h : ∀ z ∈ L, 0 ≤ z) : 0 ≤ L.sum := by
  induction L with
  | nil => exact Int.le_refl _
  | cons a L ih =>
    rw [List.sum_cons]
    have := h a List.mem_cons_self
    have := ih fun z hz => h z (List.mem_cons_of_mem _ hz)
    omega
theorem odF_pos (F : Fl) (k : Int) : 0 ≤ (odF F k).sum := sum_pos fun z hz => by
  unfold odF at hz
  obtain ⟨e, _, rfl⟩ := List.mem_map.mp hz
  split <;> omega
def wtF (T : Tm) (F : Fl) (k : Int) : Bool := if (odF F k).sum = 0 then false else match F.rem with | none => true | some r => decide (T.gap ≤ k - r)
def rmF (T : Tm) (F : Fl) (k : Int) : Fl × Option (Int × Int) :=
  if (odF F k).sum = 0 then ({ F with lev := 0, rem := none }, none) else
  if wtF T F k = false then (F, none) else
  if 0 < feeF T (odF F k).sum then ({ F with dm := F.dm ++ [⟨false, F.fees, feeF T (odF F k).sum, k, k + T.term⟩], fees := F.fees + 1, lev := F.lev + 1, rem := some k }, some (F.lev + 1, feeF T (odF F k).sum)) else
  ({ F with lev := F.lev + 1, rem := some k }, some (F.lev + 1, feeF T (odF F k).sum))
theorem rmF_ok {F : Fl} (h : FOk F) (hd : F.dm.length ≤ 900) (T : Tm) (k : Int) : FOk (rmF T F k).1 := by
  unfold rmF
  split
  · exact ⟨h.sb, h.sd, h.sp, h.ss, h.db, h.dd⟩
  · split
    · exact h
    · split
      · exact ⟨h.sb, by dsimp only; rw [List.length_append]; simp; omega, h.sp, h.ss, h.db, h.dd⟩
      · exact ⟨h.sb, h.sd, h.sp, h.ss, h.db, h.dd⟩
theorem rmF_rel (T : Tm) (F : Fl) (k : Int) : (rmF T F k).1.bl = F.bl ∧ (rmF T F k).1.pay = F.pay ∧ (rmF T F k).1.dp = F.dp ∧ ((rmF T F k).1.dm = F.dm ∨ ∃ f m z, (rmF T F k).1.dm = F.dm ++ [⟨false, m, f, k, z⟩]) := by
  unfold rmF
  split
  · exact ⟨rfl, rfl, rfl, .inl rfl⟩
  · split
    · exact ⟨rfl, rfl, rfl, .inl rfl⟩
    · split
      · exact ⟨rfl, rfl, rfl, .inr ⟨_, _, _, rfl⟩⟩
      · exact ⟨rfl, rfl, rfl, .inl rfl⟩
theorem rmF_two {T : Tm} {F : Fl} {k : Int} {e : Int × Int} (h : (rmF T F k).2 = some e) (hf : 2 ≤ T.fee) (hr : 0 ≤ T.rate) : e.1 = (rmF T F k).1.lev ∧ 2 ≤ e.2 := by
  have hp : 2 ≤ feeF T (odF F k).sum := by
    unfold feeF
    have : 0 ≤ (odF F k).sum * T.rate := Int.mul_nonneg (odF_pos F k) hr
    omega
  unfold rmF at h ⊢
  split at h
  · cases h
  · rename_i h0
    rw [if_neg h0]
    split at h
    · cases h
    · rename_i h1
      rw [if_neg h1]
      split at h
      · rename_i h2
        rw [if_pos h2]
        injection h with h
        rw [← h]
        exact ⟨rfl, hp⟩
      · rename_i h2
        rw [if_neg h2]
        injection h with h
        rw [← h]
        exact ⟨rfl, hp⟩
/-! the model of the law -/
def mdC (_ : Nat) (x : Dm) : Cell := .lst [.str (kdS x.kind), .int x.num, .int x.am, .int x.due]
def mpC (_ : Nat) (x : Dp) : Cell := .lst [.int x.bill, .int x.am, .str (stS x.st)]
def mbD (e : Bl × Nat) : D := .tup [.int (e.2 : Int), .int e.1.am]
def moT (pb pd ps : Addr) (F : Fl) : List (L2.Key × D) := [(.inr "bills", .ptr pb), (.inr "demands", .ptr pd), (.inr "paid", .int (paidF F)), (.inr "disputes", .ptr ps), (.inr "fees", .int F.fees), (.inr "level", .int F.lev), (.inr "when", oiD F.rem)]
structure MS (C : Cells) (t : Tag) (pm pb pd ps : Addr) (ad as : List Addr) (F : Fl) : Prop where
  tm : t pm = .law 0
  tb : t pb = .law 1
  td : t pd = .law 2
  ts : t ps = .law 3
  cm : C pm = some (.dK (moT pb pd ps F))
  cb : C pb = some (.lst (F.bl.zipIdx.map mbD))
  cd : C pd = some (.lst (ad.map D.ptr))
  cs : C ps = some (.lst (as.map D.ptr))
  rd : Rw C t "mod" 7 mdC ad F.dm
  rs : Rw C t "mod" 8 mpC as F.dp
theorem mo_bills (pb pd ps : Addr) (F : Fl) : vaD (moT pb pd ps F) (.inr (Str.ofString "bills") : L2.Key) = some (.ptr pb) := rfl
theorem mo_demands (pb pd ps : Addr) (F : Fl) : vaD (moT pb pd ps F) (.inr (Str.ofString "demands") : L2.Key) = some (.ptr pd) := rfl
theorem mo_paid (pb pd ps : Addr) (F : Fl) : vaD (moT pb pd ps F) (.inr (Str.ofString "paid") : L2.Key) = some (.int (paidF F)) := rfl
theorem mo_disputes (pb pd ps : Addr) (F : Fl) : vaD (moT pb pd ps F) (.inr (Str.ofString "disputes") : L2.Key) = some (.ptr ps) := rfl
theorem mo_fees (pb pd ps : Addr) (F : Fl) : vaD (moT pb pd ps F) (.inr (Str.ofString "fees") : L2.Key) = some (.int F.fees) := rfl
theorem mo_level (pb pd ps : Addr) (F : Fl) : vaD (moT pb pd ps F) (.inr (Str.ofString "level") : L2.Key) = some (.int F.lev) := rfl
theorem mo_when (pb pd ps : Addr) (F : Fl) : vaD (moT pb pd ps F) (.inr (Str.ofString "when") : L2.Key) = some (oiD F.rem) := rfl
theorem mo_set_level (pb pd ps : Addr) (F : Fl) (v : Int) : puD (moT pb pd ps F) (.inr (Str.ofString "level") : L2.Key) (.int v) = moT pb pd ps { F with lev := v } := rfl
theorem mo_set_when (pb pd ps : Addr) (F : Fl) (v : Option Int) : puD (moT pb pd ps F) (.inr (Str.ofString "when") : L2.Key) (oiD v) = moT pb pd ps { F with rem := v } := rfl
theorem mo_set_fees (pb pd ps : Addr) (F : Fl) (v : Int) : puD (moT pb pd ps F) (.inr (Str.ofString "fees") : L2.Key) (.int v) = moT pb pd ps { F with fees := v } := rfl
theorem mo_set_paid (pb pd ps : Addr) (F : Fl) (a k : Int) : puD (moT pb pd ps F) (.inr (Str.ofString "paid") : L2.Key) (.int (paidF F + a)) = moT pb pd ps { F with pay := F.pay ++ [(a, k)] } := by
  have e : paidF { F with pay := F.pay ++ [(a, k)] } = paidF F + a := by unfold paidF; simp
  unfold moT
  rw [e]; rfl
theorem fmf {α β : Type} (p : α → Bool) (f : α → β) (L : List α) : L.filterMap (fun x => if p x = true then some (f x) else none) = (L.filter p).map f := by
  induction L with
  | nil => rfl
  | cons x L ih =>
    rw [List.filterMap_cons, List.filter_cons]
    by_cases h : p x = true
    · rw [if_pos h, if_pos h, List.map_cons, ih]
    · rw [if_neg h, if_neg h, ih]
theorem fm_filter {α : Type} (p : α → Bool) (g : α → D) (xs : List α) : xs.filterMap (fun x => if p x = true then some (g x) else none) = (xs.filter p).map g := by
  induction xs with
  | nil => rfl
  | cons x xs ih =>
    rw [List.filterMap_cons, List.filter_cons]
    by_cases h : p x = true
    · rw [if_pos h, if_pos h, List.map_cons, ih]
    · rw [if_neg h, if_neg h, ih]
theorem op_snoc : ∀ (M : List Int) (a l : Int), opF l (M ++ [a]) = opF l M ++ [a - min a (l - (alF l M).sum)]
  | [], a, l => by simp [opF, alF]
  | b :: r, a, l => by
    rw [List.cons_append, opF, opF, alF, op_snoc r, List.cons_append, List.sum_cons]
    congr 3
    congr 1
    omega
theorem od_get {F : Fl} {k : Int} {j : Nat} {x : Dm} {o : Int} (hx : F.dm[j]? = some x) (ho : (opF (max 0 (mnF F)) (amF F))[j]? = some o) : (odF F k)[j]? = some (if x.due < k then max 0 (o - hdF F x) else 0) := by
  unfold odF
  rw [List.getElem?_map]
  have e : (F.dm.zip (opF (max 0 (mnF F)) (amF F)))[j]? = some (x, o) := List.getElem?_zip_eq_some.mpr ⟨hx, ho⟩
  rw [e]; rfl
theorem spr_sum (L : List Dp) (b : Int) : ((L.filter fun y => decide (y.bill = b) && !(decide (2 ≤ y.st))).map fun y => y.am).sum = heldF L 0 b + heldF L 1 b := by
  unfold heldF
  induction L with
  | nil => rfl
  | cons y L ih =>
    rw [List.filter_cons, List.filter_cons, List.filter_cons]
    by_cases g1 : y.bill = b
    · rcases h : y.st with _ | _ | m
      · simp [g1] at ih ⊢; omega
      · simp [g1] at ih ⊢; omega
      · simp [g1] at ih ⊢; omega
    · simp [g1] at ih ⊢; exact ih
theorem dat_ints (L : List Int) : Dat 1 (.lst (L.map D.int)) := .lst fun d hd => by
  obtain ⟨i, _, rfl⟩ := List.mem_map.mp hd
  exact .int i
theorem fm_all {α : Type} (g : α → D) (L : List α) : (L.zipIdx.filterMap fun e => some (g e.1)) = L.map g := by
  rw [zix_fm (fun x => some (g x))]
  exact congrFun List.filterMap_eq_map _
theorem tx_kd (k : Bool) : PyData.canLay0 (.str (kdS k)) = true := by cases k <;> decide +kernel
theorem tx_st (k : Nat) : PyData.canLay0 (.str (stS k)) = true := by
  match k with
  | 0 => decide +kernel
  | 1 => decide +kernel
  | k + 2 => rw [show stS (k + 2) = Str.ofString "refused" from rfl]; decide +kernel
def dm3 (x : Dm) : D := .tup [.str (kdS x.kind), .int x.num, .int x.am]
def dp3 (x : Dp) : D := .tup [.int x.bill, .int x.am, .str (stS x.st)]
theorem dat_dm3 (L : List Dm) : Dat 2 (.lst (L.map dm3)) := .lst fun d hd => by
  obtain ⟨x, _, rfl⟩ := List.mem_map.mp hd
  exact .tup fun d hd => by
    simp only [List.mem_cons, List.not_mem_nil, or_false] at hd
    rcases hd with rfl | rfl | rfl
    · exact .str (tx_kd _)
    · exact .int _
    · exact .int _
theorem dat_dp3 (L : List Dp) : Dat 2 (.lst (L.map dp3)) := .lst fun d hd => by
  obtain ⟨x, _, rfl⟩ := List.mem_map.mp hd
  exact .tup fun d hd => by
    simp only [List.mem_cons, List.not_mem_nil, or_false] at hd
    rcases hd with rfl | rfl | rfl
    · exact .int _
    · exact .int _
    · exact .str (tx_st _)
theorem MS.mono {C C' : Cells} {t t' : Tag} {pm pb pd ps : Addr} {ad as : List Addr} {F : Fl} (h : MS C t pm pb pd ps ad as F) (g : ∀ a c, C a = some c → (∀ k i, t a ≠ .file "acc" k i) → C' a = some c ∧ t' a = t a) : MS C' t' pm pb pd ps ad as F := by
  have gl : ∀ {a : Addr} {c : Cell} {k : Nat}, C a = some c → t a = .law k → C' a = some c ∧ t' a = .law k := fun hc ht => by
    obtain ⟨e1, e2⟩ := g _ _ hc (fun k i z => by rw [ht] at z; cases z)
    exact ⟨e1, e2.trans ht⟩
  have gm : ∀ {k : Nat} (i : Nat) (a : Addr) (c : Cell), t a = .file "mod" k i → C a = some c → C' a = some c ∧ t' a = t a := fun i a c ht hc => g _ _ hc (fun k i z => by rw [ht] at z; injection z with z; exact absurd z (by decide))
  obtain ⟨a1, a2⟩ := gl h.cm h.tm
  obtain ⟨b1, b2⟩ := gl h.cb h.tb
  obtain ⟨d1, d2⟩ := gl h.cd h.td
  obtain ⟨s1, s2⟩ := gl h.cs h.ts
  exact ⟨a2, b2, d2, s2, a1, b1, d1, s1, h.rd.mono gm, h.rs.mono gm⟩
/-- only cells of the model change -/
def Km (t t' : Tag) (C C' : Cells) : Prop := ∀ a c, C a = some c → (∀ k i, t a ≠ .file "mod" k i) → (∀ k, t a = .law k → 3 < k) → C' a = some c ∧ t' a = t a
theorem Km.refl (t : Tag) (C : Cells) : Km t t C C := fun _ _ h _ _ => ⟨h, rfl⟩
theorem Km.trans {t1 t2 t3 : Tag} {C1 C2 C3 : Cells} (h : Km t1 t2 C1 C2) (g : Km t2 t3 C2 C3) : Km t1 t3 C1 C3 := fun a c hc h1 h2 => by
  obtain ⟨a1, a2⟩ := h a c hc h1 h2
  obtain ⟨b1, b2⟩ := g a c a1 (fun k i => by rw [a2]; exact h1 k i) (fun k z => h2 k (by rw [← a2]; exact z))
  exact ⟨b1, b2.trans a2⟩
theorem FX.km {A : Ad} {C C' : Cells} {t t' : Tag} {q : Addr} {T : Tm} {F : Fl} (h : FX A C t "acc" q T F) (g : Km t t' C C') : FX A C' t' "acc" q T F := h.mono fun k i a c ta hc => g a c hc (fun k i z => by rw [ta] at z; injection z with z; exact absurd z (by decide)) (fun k z => by rw [ta] at z; cases z)
theorem Km.put {t : Tag} {C : Cells} {b : Addr} {c : Cell} (hb : (∃ k i, t b = .file "mod" k i) ∨ ∃ k, t b = .law k ∧ k ≤ 3) : Km t t C (cput C b c) := fun a d hc h1 h2 => ⟨(cput_ne (fun z => by
  rw [z] at h1 h2
  rcases hb with ⟨k, i, e⟩ | ⟨k, e, hk⟩
  · exact h1 k i e
  · exact absurd (h2 k e) (by omega))).trans hc, rfl⟩
theorem Km.new {t : Tag} {C : Cells} {x : Addr} (hx : C x = none) (c : Cell) (g : Tg) : Km t (tset t x g) C (cput C x c) := fun a d h _ _ => ⟨(cput_ne (cell_ne h hx)).trans h, tset_ne (cell_ne h hx)⟩
section
variable {C : Cells} {t : Tag} {pm pb pd ps : Addr} {ad as : List Addr} {F : Fl}
theorem MS.put7 (h : MS C t pm pb pd ps ad as F) {b : Addr} (hb : t b = .law 7) (c : Cell) : MS (cput C b c) t pm pb pd ps ad as F := by
  have ne : ∀ {a : Addr} {k : Nat}, t a = .law k → k ≤ 3 → a ≠ b := fun e hk => ne_tag (t := t) (by rw [e, hb]; simp; omega)
  exact ⟨h.tm, h.tb, h.td, h.ts, (cput_ne (ne h.tm (by decide))).trans h.cm, (cput_ne (ne h.tb (by decide))).trans h.cb, (cput_ne (ne h.td (by decide))).trans h.cd, (cput_ne (ne h.ts (by decide))).trans h.cs, h.rd.put (fun i z => by rw [hb] at z; cases z), h.rs.put (fun i z => by rw [hb] at z; cases z)⟩
theorem MS.add_dp (h : MS C t pm pb pd ps ad as F) {x : Addr} (hx : C x = none) (y : Dp) :
    MS (cput (cput C x (mpC F.dp.length y)) ps (.lst ((as ++ [x]).map D.ptr))) (tset t x (.file "mod" 8 F.dp.length)) pm pb pd ps ad (as ++ [x]) { F with dp := F.dp ++ [y] } ∧ Km t (tset t x (.file "mod" 8 F.dp.length)) C (cput (cput C x (mpC F.dp.length y)) ps (.lst ((as ++ [x]).map D.ptr))) := by
  have ne : ∀ {a : Addr} {k : Nat}, t a = .law k → k ≠ 3 → a ≠ ps := fun e hk => ne_tag (t := t) (by rw [e, h.ts]; simpa using hk)
  refine ⟨⟨(tset_ne (cell_ne h.cm hx)).trans h.tm, (tset_ne (cell_ne h.cb hx)).trans h.tb, (tset_ne (cell_ne h.cd hx)).trans h.td, (tset_ne (cell_ne h.cs hx)).trans h.ts,
    (cput_ne (ne h.tm (by decide))).trans ((cput_ne (cell_ne h.cm hx)).trans h.cm), (cput_ne (ne h.tb (by decide))).trans ((cput_ne (cell_ne h.cb hx)).trans h.cb), (cput_ne (ne h.td (by decide))).trans ((cput_ne (cell_ne h.cd hx)).trans h.cd), cput_same, ?_, ?_⟩, ?_⟩
  · refine (h.rd.mono fun i a c ta hc => ⟨(cput_ne (cell_ne hc hx)).trans hc, tset_ne (cell_ne hc hx)⟩ : Rw (cput C x (mpC F.dp.length y)) (tset t x (.file "mod" 8 F.dp.length)) "mod" 7 mdC ad F.dm).put fun i z => ?_
    rw [tset_ne (cell_ne h.cs hx), h.ts] at z; cases z
  · exact (h.rs.snoc hx y).put (fun i z => by rw [tset_ne (cell_ne h.cs hx), h.ts] at z; cases z)
  · exact (Km.new hx _ _).trans (Km.put (.inr ⟨3, (tset_ne (cell_ne h.cs hx)).trans h.ts, by decide⟩))
theorem MS.add_dm (h : MS C t pm pb pd ps ad as F) {x : Addr} (hx : C x = none) (y : Dm) :
    MS (cput (cput C x (mdC F.dm.length y)) pd (.lst ((ad ++ [x]).map D.ptr))) (tset t x (.file "mod" 7 F.dm.length)) pm pb pd ps (ad ++ [x]) as { F with dm := F.dm ++ [y] } ∧ Km t (tset t x (.file "mod" 7 F.dm.length)) C (cput (cput C x (mdC F.dm.length y)) pd (.lst ((ad ++ [x]).map D.ptr))) := by
  have ne : ∀ {a : Addr} {k : Nat}, t a = .law k → k ≠ 2 → a ≠ pd := fun e hk => ne_tag (t := t) (by rw [e, h.td]; simpa using hk)
  refine ⟨⟨(tset_ne (cell_ne h.cm hx)).trans h.tm, (tset_ne (cell_ne h.cb hx)).trans h.tb, (tset_ne (cell_ne h.cd hx)).trans h.td, (tset_ne (cell_ne h.cs hx)).trans h.ts,
    (cput_ne (ne h.tm (by decide))).trans ((cput_ne (cell_ne h.cm hx)).trans h.cm), (cput_ne (ne h.tb (by decide))).trans ((cput_ne (cell_ne h.cb hx)).trans h.cb), cput_same, (cput_ne (ne h.ts (by decide))).trans ((cput_ne (cell_ne h.cs hx)).trans h.cs), ?_, ?_⟩, ?_⟩
  · exact (h.rd.snoc hx y).put (fun i z => by rw [tset_ne (cell_ne h.cd hx), h.td] at z; cases z)
  · refine (h.rs.mono fun i a c ta hc => ⟨(cput_ne (cell_ne hc hx)).trans hc, tset_ne (cell_ne hc hx)⟩ : Rw (cput C x (mdC F.dm.length y)) (tset t x (.file "mod" 7 F.dm.length)) "mod" 8 mpC as F.dp).put fun i z => ?_
    rw [tset_ne (cell_ne h.cd hx), h.td] at z; cases z
  · exact (Km.new hx _ _).trans (Km.put (.inr ⟨2, (tset_ne (cell_ne h.cd hx)).trans h.td, by decide⟩))
theorem MS.add_bl (h : MS C t pm pb pd ps ad as F) (y : Bl) : MS (cput C pb (.lst ((F.bl ++ [y]).zipIdx.map mbD))) t pm pb pd ps ad as { F with bl := F.bl ++ [y] } ∧ Km t t C (cput C pb (.lst ((F.bl ++ [y]).zipIdx.map mbD))) := by
  have ne : ∀ {a : Addr} {k : Nat}, t a = .law k → k ≠ 1 → a ≠ pb := fun e hk => ne_tag (t := t) (by rw [e, h.tb]; simpa using hk)
  exact ⟨⟨h.tm, h.tb, h.td, h.ts, (cput_ne (ne h.tm (by decide))).trans h.cm, cput_same, (cput_ne (ne h.td (by decide))).trans h.cd, (cput_ne (ne h.ts (by decide))).trans h.cs, h.rd.put (fun i z => by rw [h.tb] at z; cases z), h.rs.put (fun i z => by rw [h.tb] at z; cases z)⟩, Km.put (.inr ⟨1, h.tb, by decide⟩)⟩
theorem MS.set_m (h : MS C t pm pb pd ps ad as F) {F' : Fl} (e1 : F'.bl.map (fun x => x.am) = F.bl.map fun x => x.am) (e2 : F'.dm = F.dm) (e3 : F'.dp = F.dp) : MS (cput C pm (.dK (moT pb pd ps F'))) t pm pb pd ps ad as F' ∧ Km t t C (cput C pm (.dK (moT pb pd ps F'))) := by
  have ne : ∀ {a : Addr} {k : Nat}, t a = .law k → k ≠ 0 → a ≠ pm := fun e hk => ne_tag (t := t) (by rw [e, h.tm]; simpa using hk)
  have eb : F'.bl.zipIdx.map mbD = F.bl.zipIdx.map mbD := by
    have z : ∀ L : List Bl, L.zipIdx.map mbD = (L.map fun x => x.am).zipIdx.map fun e => D.tup [.int (e.2 : Int), .int e.1] := fun L => by rw [List.zipIdx_map, List.map_map]; rfl
    rw [z, z, e1]
  exact ⟨⟨h.tm, h.tb, h.td, h.ts, cput_same, by rw [eb]; exact (cput_ne (ne h.tb (by decide))).trans h.cb, (cput_ne (ne h.td (by decide))).trans h.cd, (cput_ne (ne h.ts (by decide))).trans h.cs, by rw [e2]; exact h.rd.put (fun i z => by rw [h.tm] at z; cases z), by rw [e3]; exact h.rs.put (fun i z => by rw [h.tm] at z; cases z)⟩, Km.put (.inr ⟨0, h.tm, by decide⟩)⟩
theorem MS.set_dm (h : MS C t pm pb pd ps ad as F) {i : Nat} {a : Addr} (ha : ad[i]? = some a) (y : Dm) : MS (cput C a (mdC i y)) t pm pb pd ps ad as { F with dm := F.dm.set i y } ∧ Km t t C (cput C a (mdC i y)) := by
  obtain ⟨x, _, ta, _⟩ := h.rd.get ha
  have ne : ∀ {z : Addr} {k : Nat}, t z = .law k → z ≠ a := fun e => ne_tag (t := t) (by rw [e, ta]; simp)
  exact ⟨⟨h.tm, h.tb, h.td, h.ts, (cput_ne (ne h.tm)).trans h.cm, (cput_ne (ne h.tb)).trans h.cb, (cput_ne (ne h.td)).trans h.cd, (cput_ne (ne h.ts)).trans h.cs, h.rd.set ha y, h.rs.put (fun j z => by rw [ta] at z; cases z)⟩, Km.put (.inl ⟨_, _, ta⟩)⟩
theorem MS.set_dp (h : MS C t pm pb pd ps ad as F) {i : Nat} {a : Addr} (ha : as[i]? = some a) (y : Dp) : MS (cput C a (mpC i y)) t pm pb pd ps ad as { F with dp := F.dp.set i y } ∧ Km t t C (cput C a (mpC i y)) := by
  obtain ⟨x, _, ta, _⟩ := h.rs.get ha
  have ne : ∀ {z : Addr} {k : Nat}, t z = .law k → z ≠ a := fun e => ne_tag (t := t) (by rw [e, ta]; simp)
  exact ⟨⟨h.tm, h.tb, h.td, h.ts, (cput_ne (ne h.tm)).trans h.cm, (cput_ne (ne h.tb)).trans h.cb, (cput_ne (ne h.td)).trans h.cd, (cput_ne (ne h.ts)).trans h.cs, h.rd.put (fun j z => by rw [ta] at z; cases z), h.rs.set ha y⟩, Km.put (.inl ⟨_, _, ta⟩)⟩
end
theorem MS.congr {C : Cells} {t : Tag} {pm pb pd ps : Addr} {ad as : List Addr} {F F' : Fl} (h : MS C t pm pb pd ps ad as F) (e1 : F'.bl.map (fun x => x.am) = F.bl.map fun x => x.am) (e2 : F'.dm = F.dm) (e3 : F'.dp = F.dp) (e4 : F'.pay = F.pay) (e5 : F'.fees = F.fees) (e6 : F'.lev = F.lev) (e7 : F'.rem = F.rem) : MS C t pm pb pd ps ad as F' := by
  have eb : F'.bl.zipIdx.map mbD = F.bl.zipIdx.map mbD := by
    have z : ∀ L : List Bl, L.zipIdx.map mbD = (L.map fun x => x.am).zipIdx.map fun e => D.tup [.int (e.2 : Int), .int e.1] := fun L => by rw [List.zipIdx_map, List.map_map]; rfl
    rw [z, z, e1]
  have em : moT pb pd ps F' = moT pb pd ps F := by unfold moT paidF; rw [e4, e5, e6, e7]
  exact ⟨h.tm, h.tb, h.td, h.ts, by rw [em]; exact h.cm, by rw [eb]; exact h.cb, h.cd, h.cs, by rw [e2]; exact h.rd, by rw [e3]; exact h.rs⟩
def ptm (b z : Int) (x : Dm) : Dm := if x.kind = true ∧ x.num = b then { x with due := max x.due z } else x
theorem map_ints {α : Type} (g : α → Int) (xs : List α) : xs.map (fun x => D.int (g x)) = (xs.map g).map D.int := by rw [List.map_map]; rfl
theorem st_gr (k : Nat) : (decide (stS k = Str.ofString "granted")) = decide (k = 1) := by
  match k with
  | 0 => decide
  | 1 => decide
  | k + 2 => rw [show stS (k + 2) = Str.ofString "refused" from rfl, show decide (k + 2 = 1) = false from decide_eq_false (by omega)]; decide
theorem st_wa (k : Nat) : (decide (stS k = Str.ofString "waiting")) = decide (k = 0) := by
  match k with
  | 0 => decide
  | 1 => decide
  | k + 2 => rw [show stS (k + 2) = Str.ofString "refused" from rfl, show decide (k + 2 = 0) = false from decide_eq_false (by omega)]; decide
theorem st_re (k : Nat) : (decide (stS k = Str.ofString "refused")) = decide (2 ≤ k) := by
  match k with
  | 0 => decide
  | 1 => decide
  | k + 2 => rw [show stS (k + 2) = Str.ofString "refused" from rfl, show decide (2 ≤ k + 2) = true from decide_eq_true (by omega)]; decide
theorem kd_bi (k : Bool) : (decide (kdS k = Str.ofString "bill")) = k := by cases k <;> decide
def SS (A : Ad) (C : Cells) (t : Tag) (q pm : Addr) (T : Tm) (F : Fl) : Prop := FX A C t "acc" q T F ∧ ∃ pb pd ps ad as, MS C t pm pb pd ps ad as F
/-- a demand of a bill is due when the bill is -/
structure Ok (F : Fl) : Prop where
  f : FOk F
  di : ∀ x ∈ F.dm, x.kind = true → 0 ≤ x.num ∧ ∃ y, F.bl[x.num.toNat]? = some y ∧ y.due = some x.due
/-- no list is longer by more than one -/
structure Gr (F F' : Fl) : Prop where
  b : F'.bl.length ≤ F.bl.length + 1
  d : F'.dm.length ≤ F.dm.length + 1
  p : F'.pay.length ≤ F.pay.length + 1
  s : F'.dp.length ≤ F.dp.length + 1
theorem SS.same {A : Ad} {C C' : Cells} {t t' : Tag} {q pm : Addr} {T : Tm} {F : Fl} (h : SS A C t q pm T F) (g : ∀ a c, C a = some c → C' a = some c ∧ t' a = t a) : SS A C' t' q pm T F := by
  obtain ⟨h1, pb, pd, ps, ad, as, h2⟩ := h
  exact ⟨h1.mono fun _ _ a c _ hc => g a c hc, pb, pd, ps, ad, as, h2.mono fun a c hc _ => g a c hc⟩
theorem SS.put7 {A : Ad} {C : Cells} {t : Tag} {q pm : Addr} {T : Tm} {F : Fl} (h : SS A C t q pm T F) {b : Addr} (hb : t b = .law 7) (c : Cell) : SS A (cput C b c) t q pm T F := by
  obtain ⟨h1, pb, pd, ps, ad, as, h2⟩ := h
  exact ⟨h1.mono fun _ _ a c ta hc => ⟨(cput_ne (ne_tag (t := t) (by rw [ta, hb]; simp))).trans hc, rfl⟩, pb, pd, ps, ad, as, h2.put7 hb c⟩
theorem Gr.refl (F : Fl) : Gr F F := ⟨Nat.le_succ _, Nat.le_succ _, Nat.le_succ _, Nat.le_succ _⟩
structure Sm (F : Fl) : Prop where
  b : F.bl.length ≤ 800
  d : F.dm.length ≤ 800
  p : F.pay.length ≤ 800
  s : F.dp.length ≤ 800
/-- how a dispute ends: 0 it is taken, 1 no such bill, 2 not in dispute, 3 a bad amount -/
def rfN (F : Fl) (b a : Int) : Nat := match F.bl[b.toNat]? with
  | none => 1
  | some x => if x.am ≤ 0 then 2 else if a < 1 ∨ x.am - heldF F.dp 0 b - heldF F.dp 1 b < a then 3 else 0
def dsF (F : Fl) (b a k : Int) : Fl := { F with dp := F.dp ++ [⟨b, a, k, 0⟩] }
def kiD (b1 b2 b3 b4 b5 : Bool) : D := .tup [.bl (b1 || b2), .bl b3, .bl b4, .bl b5]
theorem po_eq {F : Fl} (hO : Ok F) {b : Int} (hb : 0 ≤ b) {y0 : Bl} (hy : F.bl[b.toNat]? = some y0) (z : Int) : poF F b z = { F with bl := F.bl.set b.toNat { y0 with due := some (max (y0.due.getD 0) z) }, dm := F.dm.map (ptm b z) } ∧ Ok (poF F b z) := by
  have e : poF F b z = { F with bl := F.bl.set b.toNat { y0 with due := some (max (y0.due.getD 0) z) }, dm := F.dm.map (ptm b z) } := by
    unfold poF
    rw [hy]
    dsimp only
    have : F.dm.map (putM b (max (y0.due.getD 0) z)) = F.dm.map (ptm b z) := List.map_congr_left fun y hyd => by
      unfold putM ptm
      split
      · rename_i h
        obtain ⟨_, y1, h1, h2⟩ := hO.di y hyd h.1
        rw [h.2, hy] at h1
        cases h1
        rw [h2]; rfl
      · rfl
    rw [this]
  refine ⟨e, poF_ok hO.f b z, ?_⟩
  rw [e]
  dsimp only
  intro w hw hk
  obtain ⟨y, hyd, rfl⟩ := List.mem_map.mp hw
  have hkk : (ptm b z y).kind = y.kind ∧ (ptm b z y).num = y.num := by unfold ptm; split <;> exact ⟨rfl, rfl⟩
  rw [hkk.1] at hk
  rw [hkk.2]
  obtain ⟨h0, y1, h1, h2⟩ := hO.di y hyd hk
  refine ⟨h0, ?_⟩
  by_cases g : y.num = b
  · rw [g, hy] at h1
    cases h1
    refine ⟨_, by rw [g]; exact List.getElem?_set_self (List.getElem?_eq_some_iff.mp hy).1, ?_⟩
    unfold ptm
    rw [if_pos ⟨hk, g⟩, h2]; rfl
  · refine ⟨y1, by rw [List.getElem?_set_ne (by omega)]; exact h1, ?_⟩
    unfold ptm
    rw [if_neg (fun w => g w.2)]; exact h2
theorem de_eq {F : Fl} (hO : Ok F) {k : Int} {x : Dp} (hx : F.dp[k.toNat]? = some x) (g : Bool) (z : Int) : (deF F k g z).dm = F.dm.map (fun y => if g = true then y else ptm x.bill z y) ∧ (deF F k g z).bl.map (fun x => x.am) = F.bl.map (fun x => x.am) ∧ (deF F k g z).dp = F.dp.set k.toNat { x with st := if g = true then 1 else 2 } ∧ (deF F k g z).pay = F.pay ∧ (deF F k g z).fees = F.fees ∧ (deF F k g z).lev = F.lev ∧ (deF F k g z).rem = F.rem ∧ Ok (deF F k g z) := by
  have h1 : Ok (dcF F k g x) := ⟨dcF_ok hO.f hx g, hO.di⟩
  unfold deF
  rw [hx]
  dsimp only
  cases g with
  | true =>
    refine ⟨?_, rfl, rfl, rfl, rfl, rfl, rfl, h1⟩
    show F.dm = _
    simp
  | false =>
    obtain ⟨hb, y0, hy, _⟩ := hO.f.dd x (List.mem_of_getElem? hx)
    obtain ⟨e, hok⟩ := po_eq (F := dcF F k false x) h1 hb hy z
    have hl := (poF_like (dcF F k false x) x.bill z).bl
    simp only [Bool.false_eq_true, if_false] at *
    refine ⟨?_, hl, ?_, ?_, ?_, ?_, ?_, hok⟩
    all_goals (rw [e]; rfl)
def R_law_state (A : Ad) : DSp := fun ds C P => ∃ (c k : Int), ds = [.int c, .int k] ∧ 0 ≤ k ∧ k ≤ 100 ∧ ∀ p s, 0 ≤ s → C p = none → P (.ptr p) (cput C p (.lst [.int s]))
theorem len_law_state (A : Ad) : ∀ ds C P, R_law_state A ds C P → ds.length = 2 := by rintro _ _ _ ⟨c, k, rfl, _⟩; rfl
theorem ok_law_state (T : Txt K mg A P w) : FnOk P w K mg base CX0 1 A.a_law_state A.d_law_state ["cell", "k"] (spD K (R_law_state A)) :=
  ok_D T.F_law_state sc_law_state (len_law_state A) (fun cdv Ar outer s H E hr =>
    ds_cons (ds_set 2 sc_law_state.nd (d_int))
    (ds_cons (ds_set 3 sc_law_state.nd (d_op op_mod s_mod (d_callTy call_int1 s_int (by rfl) T.z_int (by decide +kernel) (d_cons (d_op op_add s_add (d_op op_add s_add (d_op op_mul s_mul (d_op op_mod s_mod (d_callTy call_int1 s_int (by rfl) T.z_int (by decide +kernel) (d_cons (d_var 0) (d_nil))) (d_var 2)) (d_int)) (d_op op_mul s_mul (d_op op_add s_add (d_var 1) (d_int)) (d_int))) (d_int)) (d_nil))) (d_var 2)))
    (ds_cons (ds_set 4 sc_law_state.nd (d_op op_mod s_mod (d_callTy call_int1 s_int (by rfl) T.z_int (by decide +kernel) (d_cons (d_op op_add s_add (d_op op_add s_add (d_op op_mul s_mul (d_var 3) (d_var 3)) (d_op op_mul s_mul (d_int) (d_var 3))) (d_var 1)) (d_nil))) (d_var 2)))
    (ds_cons (ds_set 5 sc_law_state.nd (d_op op_mod s_mod (d_callTy call_int1 s_int (by rfl) T.z_int (by decide +kernel) (d_cons (d_op op_add s_add (d_op op_add s_add (d_op op_mul s_mul (d_var 4) (d_int)) (d_op op_mul s_mul (d_var 3) (d_int))) (d_int)) (d_nil))) (d_var 2)))
    (ds_cons (ds_set 6 sc_law_state.nd (d_op op_mod s_mod (d_callTy call_int1 s_int (by rfl) T.z_int (by decide +kernel) (d_cons (d_op op_add s_add (d_op op_mul s_mul (d_var 5) (d_var 5)) (d_var 4)) (d_nil))) (d_var 2)))
    (ds_one (ds_ret (d_lstC (d_cons (d_op op_add s_add (d_op op_mul s_mul (d_op op_add s_add (d_op op_mul s_mul (d_op op_add s_add (d_op op_mul s_mul (d_var 6) (d_var 2)) (d_var 5)) (d_var 2)) (d_var 4)) (d_var 2)) (d_var 3)) (d_nil)))))))))) (fun ds C Pk h => by
    obtain ⟨c, k, rfl, h0, h1, q⟩ := h
    walk_at "dd"
    have e1 := mod_lo c (m := 2305843009213693951) (by decide)
    have e2 := mod_hi c (m := 2305843009213693951) (by decide)
    generalize c % 2305843009213693951 = x1 at *
    have f1 := mod_lo (x1 * 6364136223 + (k + 1) * 104729 + 77) (m := 2305843009213693951) (by decide)
    have f2 := mod_hi (x1 * 6364136223 + (k + 1) * 104729 + 77) (m := 2305843009213693951) (by decide)
    generalize (x1 * 6364136223 + (k + 1) * 104729 + 77) % 2305843009213693951 = x2 at *
    have g1 := mod_lo (x2 * x2 + 1013 * x2 + k) (m := 2305843009213693951) (by decide)
    have g2 := mod_hi (x2 * x2 + 1013 * x2 + k) (m := 2305843009213693951) (by decide)
    generalize (x2 * x2 + 1013 * x2 + k) % 2305843009213693951 = x3 at *
    have i1 := mod_lo (x3 * 48271 + x2 * 31 + 9) (m := 2305843009213693951) (by decide)
    have i2 := mod_hi (x3 * 48271 + x2 * 31 + 9) (m := 2305843009213693951) (by decide)
    generalize (x3 * 48271 + x2 * 31 + 9) % 2305843009213693951 = x4 at *
    have j1 := mod_lo (x4 * x4 + x3) (m := 2305843009213693951) (by decide)
    have j2 := mod_hi (x4 * x4 + x3) (m := 2305843009213693951) (by decide)
    generalize (x4 * x4 + x3) % 2305843009213693951 = x5 at *
    refine ⟨by decide, cmul_l (by omega) (by omega), cmul_l (by omega) (by omega), by decide, cmul_l (by omega) (by omega), cmul_l (by omega) (by omega), by decide, cmul_l (by omega) (by omega), cmul_l (by omega) (by omega), by decide, cmul_l (by omega) (by omega), by decide,
      cmul_l (by omega) (by omega), cmul_r (by omega) (by omega), cmul_r (by omega) (by omega), fun p hp => ⟨_, Sub.refl _, q p _ ?_ hp⟩⟩
    omega)

def R_AccountFile_init (A : Ad) : DSp := fun ds C P => ∃ q T, ∃ t : Tag, ∃ n, ds = [.ptr q, tmD A T] ∧ C q = some (.ins A.C_AccountFile []) ∧ ∀ (t' : Tag) (C' : Cells), (∀ a c, C a = some c → a ≠ q → C' a = some c ∧ t' a = t a) → FX A C' t' n q T emF → P .non C'
theorem len_AccountFile_init (A : Ad) : ∀ ds C P, R_AccountFile_init A ds C P → ds.length = 2 := by rintro _ _ _ ⟨q, T, t, n, rfl, _⟩; rfl
theorem ok_AccountFile_init (T : Txt K mg A P w) : FnOk P w K mg base CX0 1 A.a_AccountFile_init A.d_AccountFile_init ["self", "terms"] (spD K (R_AccountFile_init A)) :=
  ok_D T.F_AccountFile_init sc_AccountFile_init (len_AccountFile_init A) (fun cdv Ar outer s H E hr =>
    ds_cons (ds_fld T.c_AccountFile T.n_AccountFile_terms (d_var 0) (d_var 1))
    (ds_consL (ds_fld T.c_AccountFile T.n_AccountFile_bills (d_var 0) (d_lstC (d_nil)))
    (ds_consL (ds_fld T.c_AccountFile T.n_AccountFile_demands (d_var 0) (d_lstC (d_nil)))
    (ds_consL (ds_fld T.c_AccountFile T.n_AccountFile_payments (d_var 0) (d_lstC (d_nil)))
    (ds_consL (ds_fld T.c_AccountFile T.n_AccountFile_disputes (d_var 0) (d_lstC (d_nil)))
    (ds_cons (ds_fld T.c_AccountFile T.n_AccountFile_fees (d_var 0) (d_int))
    (ds_cons (ds_fld T.c_AccountFile T.n_AccountFile_level (d_var 0) (d_int))
    (ds_one (ds_fld T.c_AccountFile T.n_AccountFile_reminded (d_var 0) (d_non)))))))))) (fun ds C Pk h => by
    obtain ⟨q, T, t, n, rfl, hq, k⟩ := h
    refine seq_hide fun E1 hE1 => ?_
    walk_at "dd"
    have hc0 : cput C q (.ins A.C_AccountFile [("terms", tmD A T)]) q = some (.ins A.C_AccountFile [("terms", tmD A T)]) := cput_same
    have hg0 : ∀ a c, C a = some c → a ≠ q → cput C q (.ins A.C_AccountFile [("terms", tmD A T)]) a = some c := fun a c h hn => (cput_ne hn).trans h
    have hz0 : ∀ a, cput C q (.ins A.C_AccountFile [("terms", tmD A T)]) a = none → C a = none := fun a h => by
      by_cases z : a = q
      · rw [z, cput_same] at h; cases h
      · rw [cput_ne z] at h; exact h
    revert hc0 hg0 hz0
    generalize cput C q (.ins A.C_AccountFile [("terms", tmD A T)]) = C0
    intro hc0 hg0 hz0
    refine ⟨by decide, ?_⟩
    subst hE1
    dsimp only
    refine seq_hide fun E1 hE1 => ?_
    walk_at "dd"
    intro b hb
    have nbq : b ≠ q := (cell_ne hc0 hb).symm
    rw [cput_ne nbq.symm, hc0]
    dsimp only
    refine ⟨rfl, by simp, ?_⟩
    have e : cput (cput C0 b (.lst [])) q (.ins A.C_AccountFile (dput "bills" (.ptr b) [("terms", tmD A T)])) = cput (cput C0 b (.lst [])) q (.ins A.C_AccountFile [("terms", tmD A T), ("bills", .ptr b)]) := rfl
    rw [e]
    clear e
    have hc1 : cput (cput C0 b (.lst [])) q (.ins A.C_AccountFile [("terms", tmD A T), ("bills", .ptr b)]) q = some (.ins A.C_AccountFile [("terms", tmD A T), ("bills", .ptr b)]) := cput_same
    have hg1 : ∀ a c, C a = some c → a ≠ q → cput (cput C0 b (.lst [])) q (.ins A.C_AccountFile [("terms", tmD A T), ("bills", .ptr b)]) a = some c := fun a c h hn => (cput_ne hn).trans ((cput_ne (cell_ne (hg0 a c h hn) hb)).trans (hg0 a c h hn))
    have hz1 : ∀ a, cput (cput C0 b (.lst [])) q (.ins A.C_AccountFile [("terms", tmD A T), ("bills", .ptr b)]) a = none → C0 a = none := fun a h => by
      by_cases z : a = q
      · rw [z, cput_same] at h; cases h
      · rw [cput_ne z] at h
        by_cases z2 : a = b
        · rw [z2, cput_same] at h; cases h
        · rw [cput_ne z2] at h; exact h
    have cb1 : cput (cput C0 b (.lst [])) q (.ins A.C_AccountFile [("terms", tmD A T), ("bills", .ptr b)]) b = some (.lst []) := (cput_ne nbq).trans cput_same
    revert hc1 hg1 hz1 cb1
    generalize cput (cput C0 b (.lst [])) q (.ins A.C_AccountFile [("terms", tmD A T), ("bills", .ptr b)]) = C1
    intro hc1 hg1 hz1 cb1
    subst hE1
    dsimp only
    refine seq_hide fun E1 hE1 => ?_
    walk_at "dd"
    intro d hd
    have ndq : d ≠ q := (cell_ne hc1 hd).symm
    rw [cput_ne ndq.symm, hc1]
    dsimp only
    refine ⟨rfl, by simp, ?_⟩
    have e : cput (cput C1 d (.lst [])) q (.ins A.C_AccountFile (dput "demands" (.ptr d) [("terms", tmD A T), ("bills", .ptr b)])) = cput (cput C1 d (.lst [])) q (.ins A.C_AccountFile [("terms", tmD A T), ("bills", .ptr b), ("demands", .ptr d)]) := rfl
    rw [e]
    clear e
    have hc2 : cput (cput C1 d (.lst [])) q (.ins A.C_AccountFile [("terms", tmD A T), ("bills", .ptr b), ("demands", .ptr d)]) q = some (.ins A.C_AccountFile [("terms", tmD A T), ("bills", .ptr b), ("demands", .ptr d)]) := cput_same
    have hg2 : ∀ a c, C a = some c → a ≠ q → cput (cput C1 d (.lst [])) q (.ins A.C_AccountFile [("terms", tmD A T), ("bills", .ptr b), ("demands", .ptr d)]) a = some c := fun a c h hn => (cput_ne hn).trans ((cput_ne (cell_ne (hg1 a c h hn) hd)).trans (hg1 a c h hn))
    have hz2 : ∀ a, cput (cput C1 d (.lst [])) q (.ins A.C_AccountFile [("terms", tmD A T), ("bills", .ptr b), ("demands", .ptr d)]) a = none → C1 a = none := fun a h => by
      by_cases z : a = q
      · rw [z, cput_same] at h; cases h
      · rw [cput_ne z] at h
        by_cases z2 : a = d
        · rw [z2, cput_same] at h; cases h
        · rw [cput_ne z2] at h; exact h
    have cd2 : cput (cput C1 d (.lst [])) q (.ins A.C_AccountFile [("terms", tmD A T), ("bills", .ptr b), ("demands", .ptr d)]) d = some (.lst []) := (cput_ne ndq).trans cput_same
    have cb2 : cput (cput C1 d (.lst [])) q (.ins A.C_AccountFile [("terms", tmD A T), ("bills", .ptr b), ("demands", .ptr d)]) b = some (.lst []) := (cput_ne nbq).trans ((cput_ne (cell_ne cb1 hd)).trans cb1)
    revert hc2 hg2 hz2 cd2 cb2
    generalize cput (cput C1 d (.lst [])) q (.ins A.C_AccountFile [("terms", tmD A T), ("bills", .ptr b), ("demands", .ptr d)]) = C2
    intro hc2 hg2 hz2 cd2 cb2
    subst hE1
    dsimp only
    refine seq_hide fun E1 hE1 => ?_
    walk_at "dd"
    intro p hp
    have npq : p ≠ q := (cell_ne hc2 hp).symm
    rw [cput_ne npq.symm, hc2]
    dsimp only
    refine ⟨rfl, by simp, ?_⟩
    have e : cput (cput C2 p (.lst [])) q (.ins A.C_AccountFile (dput "payments" (.ptr p) [("terms", tmD A T), ("bills", .ptr b), ("demands", .ptr d)])) = cput (cput C2 p (.lst [])) q (.ins A.C_AccountFile [("terms", tmD A T), ("bills", .ptr b), ("demands", .ptr d), ("payments", .ptr p)]) := rfl
    rw [e]
    clear e
    have hc3 : cput (cput C2 p (.lst [])) q (.ins A.C_AccountFile [("terms", tmD A T), ("bills", .ptr b), ("demands", .ptr d), ("payments", .ptr p)]) q = some (.ins A.C_AccountFile [("terms", tmD A T), ("bills", .ptr b), ("demands", .ptr d), ("payments", .ptr p)]) := cput_same
    have hg3 : ∀ a c, C a = some c → a ≠ q → cput (cput C2 p (.lst [])) q (.ins A.C_AccountFile [("terms", tmD A T), ("bills", .ptr b), ("demands", .ptr d), ("payments", .ptr p)]) a = some c := fun a c h hn => (cput_ne hn).trans ((cput_ne (cell_ne (hg2 a c h hn) hp)).trans (hg2 a c h hn))
    have hz3 : ∀ a, cput (cput C2 p (.lst [])) q (.ins A.C_AccountFile [("terms", tmD A T), ("bills", .ptr b), ("demands", .ptr d), ("payments", .ptr p)]) a = none → C2 a = none := fun a h => by
      by_cases z : a = q
      · rw [z, cput_same] at h; cases h
      · rw [cput_ne z] at h
        by_cases z2 : a = p
        · rw [z2, cput_same] at h; cases h
        · rw [cput_ne z2] at h; exact h
    have cp3 : cput (cput C2 p (.lst [])) q (.ins A.C_AccountFile [("terms", tmD A T), ("bills", .ptr b), ("demands", .ptr d), ("payments", .ptr p)]) p = some (.lst []) := (cput_ne npq).trans cput_same
    have cb3 : cput (cput C2 p (.lst [])) q (.ins A.C_AccountFile [("terms", tmD A T), ("bills", .ptr b), ("demands", .ptr d), ("payments", .ptr p)]) b = some (.lst []) := (cput_ne nbq).trans ((cput_ne (cell_ne cb2 hp)).trans cb2)
    have cd3 : cput (cput C2 p (.lst [])) q (.ins A.C_AccountFile [("terms", tmD A T), ("bills", .ptr b), ("demands", .ptr d), ("payments", .ptr p)]) d = some (.lst []) := (cput_ne ndq).trans ((cput_ne (cell_ne cd2 hp)).trans cd2)
    revert hc3 hg3 hz3 cp3 cb3 cd3
    generalize cput (cput C2 p (.lst [])) q (.ins A.C_AccountFile [("terms", tmD A T), ("bills", .ptr b), ("demands", .ptr d), ("payments", .ptr p)]) = C3
    intro hc3 hg3 hz3 cp3 cb3 cd3
    subst hE1
    dsimp only
    refine seq_hide fun E1 hE1 => ?_
    walk_at "dd"
    intro s hs
    have nsq : s ≠ q := (cell_ne hc3 hs).symm
    rw [cput_ne nsq.symm, hc3]
    dsimp only
    refine ⟨rfl, by simp, ?_⟩
    have e : cput (cput C3 s (.lst [])) q (.ins A.C_AccountFile (dput "disputes" (.ptr s) [("terms", tmD A T), ("bills", .ptr b), ("demands", .ptr d), ("payments", .ptr p)])) = cput (cput C3 s (.lst [])) q (.ins A.C_AccountFile [("terms", tmD A T), ("bills", .ptr b), ("demands", .ptr d), ("payments", .ptr p), ("disputes", .ptr s)]) := rfl
    rw [e]
    clear e
    have hc4 : cput (cput C3 s (.lst [])) q (.ins A.C_AccountFile [("terms", tmD A T), ("bills", .ptr b), ("demands", .ptr d), ("payments", .ptr p), ("disputes", .ptr s)]) q = some (.ins A.C_AccountFile [("terms", tmD A T), ("bills", .ptr b), ("demands", .ptr d), ("payments", .ptr p), ("disputes", .ptr s)]) := cput_same
    have hg4 : ∀ a c, C a = some c → a ≠ q → cput (cput C3 s (.lst [])) q (.ins A.C_AccountFile [("terms", tmD A T), ("bills", .ptr b), ("demands", .ptr d), ("payments", .ptr p), ("disputes", .ptr s)]) a = some c := fun a c h hn => (cput_ne hn).trans ((cput_ne (cell_ne (hg3 a c h hn) hs)).trans (hg3 a c h hn))
    have hz4 : ∀ a, cput (cput C3 s (.lst [])) q (.ins A.C_AccountFile [("terms", tmD A T), ("bills", .ptr b), ("demands", .ptr d), ("payments", .ptr p), ("disputes", .ptr s)]) a = none → C3 a = none := fun a h => by
      by_cases z : a = q
      · rw [z, cput_same] at h; cases h
      · rw [cput_ne z] at h
        by_cases z2 : a = s
        · rw [z2, cput_same] at h; cases h
        · rw [cput_ne z2] at h; exact h
    have cs4 : cput (cput C3 s (.lst [])) q (.ins A.C_AccountFile [("terms", tmD A T), ("bills", .ptr b), ("demands", .ptr d), ("payments", .ptr p), ("disputes", .ptr s)]) s = some (.lst []) := (cput_ne nsq).trans cput_same
    have cb4 : cput (cput C3 s (.lst [])) q (.ins A.C_AccountFile [("terms", tmD A T), ("bills", .ptr b), ("demands", .ptr d), ("payments", .ptr p), ("disputes", .ptr s)]) b = some (.lst []) := (cput_ne nbq).trans ((cput_ne (cell_ne cb3 hs)).trans cb3)
    have cd4 : cput (cput C3 s (.lst [])) q (.ins A.C_AccountFile [("terms", tmD A T), ("bills", .ptr b), ("demands", .ptr d), ("payments", .ptr p), ("disputes", .ptr s)]) d = some (.lst []) := (cput_ne ndq).trans ((cput_ne (cell_ne cd3 hs)).trans cd3)
    have cp4 : cput (cput C3 s (.lst [])) q (.ins A.C_AccountFile [("terms", tmD A T), ("bills", .ptr b), ("demands", .ptr d), ("payments", .ptr p), ("disputes", .ptr s)]) p = some (.lst []) := (cput_ne npq).trans ((cput_ne (cell_ne cp3 hs)).trans cp3)
    revert hc4 hg4 hz4 cs4 cb4 cd4 cp4
    generalize cput (cput C3 s (.lst [])) q (.ins A.C_AccountFile [("terms", tmD A T), ("bills", .ptr b), ("demands", .ptr d), ("payments", .ptr p), ("disputes", .ptr s)]) = C4
    intro hc4 hg4 hz4 cs4 cb4 cd4 cp4
    subst hE1
    dsimp only
    have g : ∀ C5, C5 = cput C4 q (.ins A.C_AccountFile (flFs A T emF b d p s)) → Pk .non C5 := by
      intro C5 h5
      have hb0 : C b = none := hz0 b hb
      have hd0 : C d = none := hz0 d (hz1 d hd)
      have hp0 : C p = none := hz0 p (hz1 p (hz2 p hp))
      have hs0 : C s = none := hz0 s (hz1 s (hz2 s (hz3 s hs)))
      have nbd : b ≠ d := cell_ne cb1 hd
      have nbp : b ≠ p := cell_ne cb2 hp
      have nbs : b ≠ s := cell_ne cb3 hs
      have ndp : d ≠ p := cell_ne cd2 hp
      have nds : d ≠ s := cell_ne cd3 hs
      have nps : p ≠ s := cell_ne cp3 hs
      refine k (tset (tset (tset (tset (tset t q (.file n 1 0)) b (.file n 2 0)) d (.file n 3 0)) p (.file n 4 0)) s (.file n 5 0)) C5 (fun a c ha hn => ⟨?_, ?_⟩) ⟨b, d, p, s, [], [], [], ⟨?_, ?_, ?_, ?_, ?_, ?_, ?_, ?_, ?_, ?_, ⟨rfl, fun i a x h => by simp at h⟩, ⟨rfl, fun i a x h => by simp at h⟩, ⟨rfl, fun i a x h => by simp at h⟩⟩⟩
      · rw [h5, cput_ne hn]; exact hg4 a c ha hn
      · rw [tset_ne (cell_ne ha hs0), tset_ne (cell_ne ha hp0), tset_ne (cell_ne ha hd0), tset_ne (cell_ne ha hb0), tset_ne hn]
      · rw [tset_ne nsq.symm, tset_ne npq.symm, tset_ne ndq.symm, tset_ne nbq.symm, tset_same]
      · rw [tset_ne nbs, tset_ne nbp, tset_ne nbd, tset_same]
      · rw [tset_ne nds, tset_ne ndp, tset_same]
      · rw [tset_ne nps, tset_same]
      · rw [tset_same]
      · rw [h5, cput_same]
      · rw [h5, cput_ne nbq]; exact cb4
      · rw [h5, cput_ne ndq]; exact cd4
      · rw [h5, cput_ne npq]; exact cp4
      · rw [h5, cput_ne nsq]; exact cs4
    have g := g _ rfl
    unfold flFs emF oiD at g
    walk_at "dd"
    exact ⟨by decide, by decide, by decide, _, Sub.refl _, g⟩)

def R_law_new (A : Ad) : DSp := fun ds C P => ds = [] ∧ ∃ t : Tag, ∀ (t' : Tag) (C' : Cells) pm pb pd ps, (∀ a c, C a = some c → C' a = some c ∧ t' a = t a) → MS C' t' pm pb pd ps [] [] emF → P (.ptr pm) C'
theorem len_law_new (A : Ad) : ∀ ds C P, R_law_new A ds C P → ds.length = 0 := by rintro _ _ _ ⟨rfl, _⟩; rfl
theorem ok_law_new (T : Txt K mg A P w) : FnOk P w K mg base CX0 1 A.a_law_new A.d_law_new [] (spD K (R_law_new A)) :=
  ok_D T.F_law_new sc_law_new (len_law_new A) (fun cdv Ar outer s H E hr =>
    ds_one (ds_ret (d_disp (dps_cons (d_str) (d_lstC (d_nil)) (dps_cons (d_str) (d_lstC (d_nil)) (dps_cons (d_str) (d_int) (dps_cons (d_str) (d_lstC (d_nil)) (dps_cons (d_str) (d_int) (dps_cons (d_str) (d_int) (dps_cons (d_str) (d_non) (dps_nil))))))))))) (fun ds C Pk h => by
    obtain ⟨rfl, t, q⟩ := h
    walk_at "dd"
    intro pm hpm pb hpb pd hpd ps hps
    have e1 : pm ≠ pb := fun z => by rw [← z, cput_same] at hpb; cases hpb
    have e2 : pm ≠ pd := fun z => by rw [← z, cput_ne e1, cput_same] at hpd; cases hpd
    have e3 : pb ≠ pd := fun z => by rw [← z, cput_same] at hpd; cases hpd
    have e4 : pd ≠ ps := fun z => by rw [← z, cput_same] at hps; cases hps
    have e5 : pb ≠ ps := fun z => by rw [← z, cput_ne e3, cput_same] at hps; cases hps
    have e6 : pm ≠ ps := fun z => by rw [← z, cput_ne e2, cput_ne e1, cput_same] at hps; cases hps
    have b1 : C pb = none := (cput_ne e1.symm).symm.trans hpb
    have b2 : C pd = none := ((cput_ne e2.symm).symm.trans ((cput_ne e3.symm).symm.trans hpd))
    have b3 : C ps = none := ((cput_ne e6.symm).symm.trans ((cput_ne e5.symm).symm.trans ((cput_ne e4.symm).symm.trans hps)))
    refine ⟨by rw [cput_ne e6, cput_ne e2, cput_ne e1]; exact cput_same, _, Sub.refl _, ?_⟩
    refine q (fun a => if a = pm then .law 0 else if a = pb then .law 1 else if a = pd then .law 2 else if a = ps then .law 3 else t a) _ pm pb pd ps (fun a c hc => ?_) ⟨by simp, by simp [e1.symm], by simp [e2.symm, e3.symm], by simp [e6.symm, e5.symm, e4.symm], cput_same, ?_, ?_, ?_, ⟨rfl, fun i a x ha hx => by cases hx⟩, ⟨rfl, fun i a x ha hx => by cases hx⟩⟩
    · have n1 := cell_ne hc hpm
      have n2 := cell_ne hc b1
      have n3 := cell_ne hc b2
      have n4 := cell_ne hc b3
      refine ⟨?_, ?_⟩
      · rw [cput_ne n1, cput_ne n4, cput_ne n3, cput_ne n2, cput_ne n1]; exact hc
      · simp [n1, n2, n3, n4]
    · rw [cput_ne e1.symm, cput_ne e5, cput_ne e3]; exact cput_same
    · rw [cput_ne e2.symm, cput_ne e4]; exact cput_same
    · rw [cput_ne e6.symm]; exact cput_same)

def R_law_cell (A : Ad) : DSp := fun ds C P => ∃ (ns : List Int) (k : Int), ds = [.lst (ns.map D.int), .int k] ∧ ns.length ≤ 63 ∧ 0 ≤ k ∧ ∀ v, P (.int v) C
theorem len_law_cell (A : Ad) : ∀ ds C P, R_law_cell A ds C P → ds.length = 2 := by rintro _ _ _ ⟨ns, k, rfl, _⟩; rfl
theorem ok_law_cell (T : Txt K mg A P w) : FnOk P w K mg base CX0 1 A.a_law_cell A.d_law_cell ["script", "k"] (spD K (R_law_cell A)) :=
  ok_D T.F_law_cell sc_law_cell (len_law_cell A) (fun cdv Ar outer s H E hr =>
    ds_cons (ds_if (d_tcmp op_lt s_lt (d_var 1) (d_callB call_len s_len (by rfl) T.z_len (by decide +kernel) (d_cons (d_var 0) (d_nil))))
      (ds_one (ds_ret (d_ix ix_seq s_ix (d_var 0) (d_var 1))))
      (ds_nil))
    (ds_one (ds_ret (d_int)))) (fun ds C Pk h => by
    obtain ⟨ns, k, rfl, hl, hk, q⟩ := h
    walk_at "dd"
    split
    · rename_i hc
      rw [atI_at hk, List.getElem?_map, List.getElem?_eq_getElem (by omega)]
      exact ⟨C, Sub.refl _, q _⟩
    · exact ⟨C, Sub.refl _, q _⟩)

def R_law_digit (A : Ad) : DSp := fun ds C P => ∃ p s m, ds = [.ptr p, .int m] ∧ C p = some (.lst [.int s]) ∧ 0 ≤ s ∧ 0 < m ∧ m < 18446744073709551616 ∧ ∀ d s', 0 ≤ d → d < m → 0 ≤ s' → P (.int d) (cput C p (.lst [.int s']))
theorem len_law_digit (A : Ad) : ∀ ds C P, R_law_digit A ds C P → ds.length = 2 := by rintro _ _ _ ⟨p, s, m, rfl, _⟩; rfl
theorem ok_law_digit (T : Txt K mg A P w) : FnOk P w K mg base CX0 1 A.a_law_digit A.d_law_digit ["state", "many"] (spD K (R_law_digit A)) :=
  ok_D T.F_law_digit sc_law_digit (len_law_digit A) (fun cdv Ar outer s H E hr =>
    ds_cons (ds_set 2 sc_law_digit.nd (d_op op_mod s_mod (d_callTy call_int1 s_int (by rfl) T.z_int (by decide +kernel) (d_cons (d_ix ix_seq s_ix (d_var 0) (d_int)) (d_nil))) (d_var 1)))
    (ds_cons (ds_setL (d_var 0) (d_int) (d_op op_fdivW s_divW (d_ix ix_seq s_ix (d_var 0) (d_int)) (d_var 1)))
    (ds_one (ds_ret (d_var 2))))) (fun ds C Pk h => by
    obtain ⟨p, s, m, rfl, hp, hs, h0, h1, q⟩ := h
    walk_at "dd"
    rw [ixN_at (by omega) (by omega)]
    exact ⟨_, Sub.refl _, q _ _ (mod_lo s h0) (mod_hi s h0) (Int.ediv_nonneg hs (by omega))⟩)

theorem ok_BadTerms_init (T : Txt K mg A P w) : FnOk P w K mg base CX0 1 A.a_BadTerms_init A.d_BadTerms_init ["self", "what"] (spInit A.C_BadTerms "what") :=
  fn_init (k := 0) T.o_BadTerms rfl (by decide) (fun L cda cc => ⟨_, rfl⟩)

def R_Terms_init (A : Ad) : DSpX := fun ds C P PX => ∃ p t, ds = [.ptr p, .int t.term, .int t.gap, .int t.fee, .int t.rate] ∧ C p = some (.ins A.C_Terms []) ∧ (refT t = none → P .non (cput C p (.ins A.C_Terms [("term", .int t.term), ("gap", .int t.gap), ("fee", .int t.fee), ("rate", .int t.rate)]))) ∧ ∀ s, refT t = some s → PX (.ref A.C_BadTerms) [("what", .str s)] C
theorem len_Terms_init (A : Ad) : ∀ ds C P PX, R_Terms_init A ds C P PX → ds.length = 5 := by rintro _ _ _ _ ⟨p, t, rfl, _⟩; rfl
theorem ok_Terms_init (T : Txt K mg A P w) : FnOk P w K mg base (L2.CX P w) 3 A.a_Terms_init A.d_Terms_init ["self", "term", "gap", "fee", "rate"] (spX K (R_Terms_init A)) :=
  ok_DX T.F_Terms_init sc_Terms_init (len_Terms_init A) (fun cdv Ar outer s H E hr tk =>
    ds_consL (ds_if (d_tcmp op_lt s_lt (d_var 1) (d_int))
      (ds_one (ds_raiseO (fld := "what") rfl tk T.o_BadTerms.oex T.oi_BadTerms T.ot_BadTerms (ok_BadTerms_init T) (hr.mono (by decide)) T.ob_BadTerms T.g_BadTerms (d_str)))
      (ds_nil))
    (ds_consL (ds_if (d_tcmp op_lt s_lt (d_var 2) (d_int))
      (ds_one (ds_raiseO (fld := "what") rfl tk T.o_BadTerms.oex T.oi_BadTerms T.ot_BadTerms (ok_BadTerms_init T) (hr.mono (by decide)) T.ob_BadTerms T.g_BadTerms (d_str)))
      (ds_nil))
    (ds_consL (ds_if (d_tcmp op_lt s_lt (d_var 3) (d_int))
      (ds_one (ds_raiseO (fld := "what") rfl tk T.o_BadTerms.oex T.oi_BadTerms T.ot_BadTerms (ok_BadTerms_init T) (hr.mono (by decide)) T.ob_BadTerms T.g_BadTerms (d_str)))
      (ds_nil))
    (ds_consL (ds_if ((d_or (d_tcmp op_lt s_lt (d_var 4) (d_int)) (d_or1 (d_tcmp op_gt s_gt (d_var 4) (d_int)))).pt)
      (ds_one (ds_raiseO (fld := "what") rfl tk T.o_BadTerms.oex T.oi_BadTerms T.ot_BadTerms (ok_BadTerms_init T) (hr.mono (by decide)) T.ob_BadTerms T.g_BadTerms (d_str)))
      (ds_nil))
    (ds_cons (ds_fld T.c_Terms T.n_Terms_term (d_var 0) (d_var 1))
    (ds_cons (ds_fld T.c_Terms T.n_Terms_gap (d_var 0) (d_var 2))
    (ds_cons (ds_fld T.c_Terms T.n_Terms_fee (d_var 0) (d_var 3))
    (ds_one (ds_fld T.c_Terms T.n_Terms_rate (d_var 0) (d_var 4)))))))))) (fun ds C Pk PX h => by
    obtain ⟨p, t, rfl, hp, qn, qx⟩ := h
    unfold refT at qn qx
    have l1 : (Str.ofString "term").length ≤ 1000 := by decide
    have l2 : (Str.ofString "gap").length ≤ 1000 := by decide
    have l3 : (Str.ofString "fee").length ≤ 1000 := by decide
    have l4 : (Str.ofString "rate").length ≤ 1000 := by decide
    refine seq_hide fun E1 hE1 => ?_
    by_cases g1 : t.term < 0
    · have qx := qx _ (if_pos g1)
      clear qn
      walk_at "dd"
      subst hE1
      exact ⟨_, Sub.refl _, qx⟩
    walk_at "dd"
    subst hE1
    dsimp only
    refine seq_hide fun E1 hE1 => ?_
    by_cases g2 : t.gap < 1
    · have qx := qx _ (by rw [if_neg g1, if_pos g2])
      clear qn
      walk_at "dd"
      subst hE1
      exact ⟨_, Sub.refl _, qx⟩
    walk_at "dd"
    subst hE1
    dsimp only
    refine seq_hide fun E1 hE1 => ?_
    by_cases g3 : t.fee < 0
    · have qx := qx _ (by rw [if_neg g1, if_neg g2, if_pos g3])
      clear qn
      walk_at "dd"
      subst hE1
      exact ⟨_, Sub.refl _, qx⟩
    walk_at "dd"
    subst hE1
    dsimp only
    refine seq_hide fun E1 hE1 => ?_
    by_cases g4 : t.rate < 0
    · have qx := qx _ (by rw [if_neg g1, if_neg g2, if_neg g3, if_pos (.inl g4)])
      clear qn
      walk_at "dd"
      subst hE1
      exact ⟨_, Sub.refl _, qx⟩
    by_cases g5 : 1000 < t.rate
    · have qx := qx _ (by rw [if_neg g1, if_neg g2, if_neg g3, if_pos (.inr g5)])
      clear qn
      walk_at "dd"
      subst hE1
      exact ⟨_, Sub.refl _, qx⟩
    walk_at "dd"
    subst hE1
    have qn := qn (by rw [if_neg g1, if_neg g2, if_neg g3, if_neg (by omega)])
    clear qx
    walk_at "dd"
    exact ⟨by decide, by decide, by decide, by decide, _, Sub.refl _, qn⟩)

def R_Bill_init (A : Ad) : DSp := fun ds C P => ∃ p k xs a b c, ds = [.ptr p, k, .lst xs, a, b, c] ∧ C p = some (.ins A.C_Bill []) ∧ P .non (cput C p (.ins A.C_Bill [("number", k), ("rows", .lst xs), ("amount", a), ("made", b), ("due", c)]))
theorem len_Bill_init (A : Ad) : ∀ ds C P, R_Bill_init A ds C P → ds.length = 6 := by rintro _ _ _ ⟨p, k, xs, a, b, c, rfl, _⟩; rfl
theorem ok_Bill_init (T : Txt K mg A P w) : FnOk P w K mg base CX0 1 A.a_Bill_init A.d_Bill_init ["self", "number", "rows", "amount", "made", "due"] (spD K (R_Bill_init A)) :=
  ok_D T.F_Bill_init sc_Bill_init (len_Bill_init A) (fun cdv Ar outer s H E hr =>
    ds_cons (ds_fld T.c_Bill T.n_Bill_number (d_var 0) (d_var 1))
    (ds_cons (ds_fld T.c_Bill T.n_Bill_rows (d_var 0) (d_callTy call_list_of s_list (by rfl) T.z_list (by decide +kernel) (d_cons (d_var 2) (d_nil))))
    (ds_cons (ds_fld T.c_Bill T.n_Bill_amount (d_var 0) (d_var 3))
    (ds_cons (ds_fld T.c_Bill T.n_Bill_made (d_var 0) (d_var 4))
    (ds_one (ds_fld T.c_Bill T.n_Bill_due (d_var 0) (d_var 5))))))) (fun ds C Pk h => by
    obtain ⟨p, k, xs, a, b, c, rfl, hp, q⟩ := h
    walk_at "dd"
    exact ⟨by decide, by decide, by decide, by decide, by decide, _, Sub.refl _, q⟩)

def R_Terms_due_of (A : Ad) : DSp := fun ds C P => ∃ t k, ds = [tmD A t, .int k] ∧ P (.int (k + t.term)) C
theorem len_Terms_due_of (A : Ad) : ∀ ds C P, R_Terms_due_of A ds C P → ds.length = 2 := by rintro _ _ _ ⟨t, k, rfl, _⟩; rfl
theorem ok_Terms_due_of (T : Txt K mg A P w) : FnOk P w K mg base CX0 1 A.a_Terms_due_of A.d_Terms_due_of ["self", "clock"] (spD K (R_Terms_due_of A)) :=
  ok_D T.F_Terms_due_of sc_Terms_due_of (len_Terms_due_of A) (fun cdv Ar outer s H E hr =>
    ds_one (ds_ret (d_op op_add s_add (d_var 1) (d_fld T.c_Terms T.n_Terms_term (d_var 0))))) (fun ds C Pk h => by
    obtain ⟨t, k, rfl, q⟩ := h
    have h1 := ft_t A t
    walk_at "dd"
    exact ⟨_, Sub.refl _, q⟩)

def R_Demand_init (A : Ad) : DSp := fun ds C P => ∃ p k a b c d, ds = [.ptr p, k, a, b, c, d] ∧ C p = some (.ins A.C_Demand []) ∧ P .non (cput C p (.ins A.C_Demand [("kind", k), ("number", a), ("amount", b), ("made", c), ("due", d)]))
theorem len_Demand_init (A : Ad) : ∀ ds C P, R_Demand_init A ds C P → ds.length = 6 := by rintro _ _ _ ⟨p, k, a, b, c, d, rfl, _⟩; rfl
theorem ok_Demand_init (T : Txt K mg A P w) : FnOk P w K mg base CX0 1 A.a_Demand_init A.d_Demand_init ["self", "kind", "number", "amount", "made", "due"] (spD K (R_Demand_init A)) :=
  ok_D T.F_Demand_init sc_Demand_init (len_Demand_init A) (fun cdv Ar outer s H E hr =>
    ds_cons (ds_fld T.c_Demand T.n_Demand_kind (d_var 0) (d_var 1))
    (ds_cons (ds_fld T.c_Demand T.n_Demand_number (d_var 0) (d_var 2))
    (ds_cons (ds_fld T.c_Demand T.n_Demand_amount (d_var 0) (d_var 3))
    (ds_cons (ds_fld T.c_Demand T.n_Demand_made (d_var 0) (d_var 4))
    (ds_one (ds_fld T.c_Demand T.n_Demand_due (d_var 0) (d_var 5))))))) (fun ds C Pk h => by
    obtain ⟨p, k, a, b, c, d, rfl, hp, q⟩ := h
    walk_at "dd"
    exact ⟨by decide, by decide, by decide, by decide, by decide, _, Sub.refl _, q⟩)

def R_AccountFile_add_bill (A : Ad) : DSp := fun ds C P => ∃ q, ∃ t : Tag, ∃ n T F xs a k, ds = [.ptr q, .lst xs, .int a, .int k] ∧ FX A C t n q T F ∧ FOk F ∧ ∀ (t' : Tag) (C' : Cells) p due, FX A C' t' n q T { F with bl := F.bl ++ [⟨.lst xs, a, k, due⟩], dm := F.dm ++ if 0 < a then [⟨true, (F.bl.length : Int), a, k, k + T.term⟩] else [] } → (due = if 0 < a then some (k + T.term) else none) → C' p = some (blC A F.bl.length ⟨.lst xs, a, k, due⟩) → Kp n t t' C C' → P (.ptr p) C'
theorem len_AccountFile_add_bill (A : Ad) : ∀ ds C P, R_AccountFile_add_bill A ds C P → ds.length = 4 := by rintro _ _ _ ⟨q, t, n, T, F, xs, a, k, rfl, _⟩; rfl
theorem ok_AccountFile_add_bill (T : Txt K mg A P w) : FnOk P w K mg base CX0 3 A.a_AccountFile_add_bill A.d_AccountFile_add_bill ["self", "rows", "amount", "clock"] (spD K (R_AccountFile_add_bill A)) :=
  ok_D T.F_AccountFile_add_bill sc_AccountFile_add_bill (len_AccountFile_add_bill A) (fun cdv Ar outer s H E hr =>
    ds_cons (ds_set 4 sc_AccountFile_add_bill.nd (d_non))
    (ds_consL (ds_if (d_tcmp op_gt s_gt (d_var 2) (d_int))
      (ds_one (ds_set 4 sc_AccountFile_add_bill.nd (d_meth T.c_Terms T.m_Terms_due_of (ok_Terms_due_of T) (hr.mono (by decide)) T.b_Terms_due_of (d_fld T.c_AccountFile T.n_AccountFile_terms (d_var 0)) (d_cons (d_var 3) (d_nil)))))
      (ds_nil))
    (ds_consL (ds_set 5 sc_AccountFile_add_bill.nd (d_make T.m_Bill_init (ok_Bill_init T) (hr.mono (by decide)) T.g_Bill T.b_Bill_init (d_cons (d_callB call_len s_len (by rfl) T.z_len (by decide +kernel) (d_cons (d_fld T.c_AccountFile T.n_AccountFile_bills (d_var 0)) (d_nil))) (d_cons (d_var 1) (d_cons (d_var 2) (d_cons (d_var 3) (d_cons (d_var 4) (d_nil))))))))
    (ds_cons (ds_expr (d_bmL PySem.F.plainAttrs_list PySem.F.slot_list_append PySem.F.type_list_append mt_append s_append (d_fld T.c_AccountFile T.n_AccountFile_bills (d_var 0)) (d_cons (d_var 5) (d_nil))))
    (ds_consL (ds_if (d_tcmp op_gt s_gt (d_var 2) (d_int))
      (ds_one (ds_expr (d_bmL PySem.F.plainAttrs_list PySem.F.slot_list_append PySem.F.type_list_append mt_append s_append (d_fld T.c_AccountFile T.n_AccountFile_demands (d_var 0)) (d_cons (d_make T.m_Demand_init (ok_Demand_init T) (hr.mono (by decide)) T.g_Demand T.b_Demand_init (d_cons (d_str) (d_cons (d_fld T.c_Bill T.n_Bill_number (d_var 5)) (d_cons (d_var 2) (d_cons (d_var 3) (d_cons (d_var 4) (d_nil))))))) (d_nil)))))
      (ds_nil))
    (ds_one (ds_ret (d_var 5)))))))) (fun ds C Pk h => by
    obtain ⟨q, t, n, T, F, xs, a, k, rfl, hF, hO, hq⟩ := h
    obtain ⟨b, d, p, s, ab, ad, as, hS⟩ := hF
    have h1 := hS.cq
    have h2 := hS.cb
    have h3 := hS.cd
    unfold flFs at h1
    refine seq_hide fun E' hE => ?_
    walk_at "dd"
    subst hE
    dsimp only
    refine seq_hide fun E' hE => ?_
    walk_at "dd"
    have main : ∀ due : Option Int, (due = if 0 < a then some (k + T.term) else none) → E'.nx [some (.ptr q), some (.lst xs), some (.int a), some (.int k), some (oiD due), none] C := by
      intro due hdue
      replace hdue : Hid (due = if 0 < a then some (k + T.term) else none) := ⟨hdue⟩
      have hlen := hS.rb.len
      subst hE
      dsimp only
      refine seq_hide fun E' hE => ?_
      walk_at "dd"
      intro x hx
      refine ⟨x, _, _, _, _, _, rfl, cput_same, rfl, ?_⟩
      rw [cput_cput]
      have hbe : Cell.ins A.C_Bill [("number", .int (F.bl.length : Int)), ("rows", .lst xs), ("amount", .int a), ("made", .int k), ("due", oiD due)] = blC A F.bl.length ⟨.lst xs, a, k, due⟩ := rfl
      rw [hbe]
      have hS2 := hS.add_bl hx ⟨.lst xs, a, k, due⟩
      have hK2 := hS.kp_bl hx (blC A F.bl.length ⟨.lst xs, a, k, due⟩) (.lst ((ab ++ [x]).map D.ptr)) (.file n 6 F.bl.length)
      have nxb : b ≠ x := cell_ne hS.cb hx
      have nxq : q ≠ x := cell_ne hS.cq hx
      have g1 := (cput_ne (c := blC A F.bl.length ⟨.lst xs, a, k, due⟩) nxq).trans h1
      have g2 := (cput_ne (c := blC A F.bl.length ⟨.lst xs, a, k, due⟩) nxb).trans h2
      have hxb : cput (cput C x (blC A F.bl.length ⟨.lst xs, a, k, due⟩)) b (.lst ((ab ++ [x]).map D.ptr)) x = some (blC A F.bl.length ⟨.lst xs, a, k, due⟩) := (cput_ne nxb.symm).trans cput_same
      have hbl := hO.sb
      clear h1 h2 h3 hbe
      simp only [List.map_append, List.map_cons, List.map_nil] at hS2 hK2 hxb
      have hq2 := fun t' C' => hq t' C' x due
      clear hq
      subst hE
      dsimp only
      refine seq_hide fun E' hE => ?_
      walk_at "dd"
      refine ⟨by omega, ?_⟩
      clear g1 g2
      revert hS2 hK2 hxb
      generalize cput (cput C x (blC A F.bl.length ⟨.lst xs, a, k, due⟩)) b (.lst (ab.map D.ptr ++ [.ptr x])) = C2
      intro hS2 hK2 hxb
      obtain ⟨hdue⟩ := hdue
      have hds : due = if 0 < a then some (k + T.term) else none := hdue
      have hfin : ∀ t' C', FX A C' t' n q T { F with bl := F.bl ++ [⟨.lst xs, a, k, due⟩], dm := F.dm ++ if 0 < a then [⟨true, (F.bl.length : Int), a, k, k + T.term⟩] else [] } → C' x = some (blC A F.bl.length ⟨.lst xs, a, k, due⟩) → Kp n t t' C C' → Pk (.ptr x) C' := fun t' C' h1 h2 h3 => hq2 t' C' h1 hds h2 h3
      clear hq2 hds
      subst hE
      dsimp only
      refine seq_hide fun E' hE => ?_
      by_cases ha : 0 < a
      · rw [if_pos ha] at hdue hfin
        have h1 := hS2.cq
        have h3 := hS2.cd
        unfold flFs at h1
        have hxc := hxb
        unfold blC at hxc
        have hdl := hO.sd
        have hdln : ad.length = F.dm.length := hS2.rd.len
        subst hdue
        unfold oiD
        clear hxb
        walk_at "dd"
        intro y hy
        refine ⟨y, _, _, _, _, _, rfl, cput_same, rfl, ?_⟩
        rw [cput_cput]
        have hS3 := hS2.add_dm hy ⟨true, (F.bl.length : Int), a, k, k + T.term⟩
        have hK3 := hS2.kp_dm hy (dmC A F.dm.length ⟨true, (F.bl.length : Int), a, k, k + T.term⟩) (.lst ((ad ++ [y]).map D.ptr)) (.file n 7 F.dm.length)
        have hxy : x ≠ y := cell_ne hxc hy
        have hdy : d ≠ y := cell_ne h3 hy
        have hxd : x ≠ d := fun z => by rw [z, h3] at hxc; cases hxc
        have fin := hfin _ _ ⟨b, d, p, s, _, _, _, hS3⟩ ((cput_ne hxd).trans ((cput_ne hxy).trans hxc)) (hK2.trans hK3)
        have hde : Cell.ins A.C_Demand [("kind", .str (Str.ofString "bill")), ("number", .int (F.bl.length : Int)), ("amount", .int a), ("made", .int k), ("due", .int (k + T.term))] = dmC A F.dm.length ⟨true, (F.bl.length : Int), a, k, k + T.term⟩ := rfl
        rw [hde]
        simp only [List.map_append, List.map_cons, List.map_nil] at fin
        rw [cput_ne hdy, h3]
        dsimp only
        refine ⟨by rw [List.length_map]; omega, ?_⟩
        clear hS3 hK3 hde h1 h3 hxc hS2 hK2 hfin
        subst hE
        walk_at "dd"
        exact ⟨_, Sub.refl _, fin⟩
      · rw [if_neg ha] at hdue hfin
        have fin := hfin _ C2 (by rw [List.append_nil]; exact ⟨b, d, p, s, _, _, _, hS2⟩) hxb hK2
        have hxc := hxb
        unfold blC at hxc
        clear hfin hxb
        subst hE
        walk_at "dd"
        exact ⟨_, Sub.refl _, fin⟩
    by_cases ha : 0 < a
    · have main := main (some (k + T.term)) (by rw [if_pos ha])
      unfold oiD at main
      walk_at "dd"
      exact ⟨⟨rfl, rfl⟩, T, k, rfl, main⟩
    · have main := main none (by rw [if_neg ha])
      unfold oiD at main
      walk_at "dd")

def R_Bill_row (A : Ad) : DSp := fun ds C P => ∃ p i x rows, ds = [.ptr p] ∧ C p = some (blC A i x) ∧ x.rows = .lst rows ∧ P (.tup [.int (i : Int), .tup rows, .int x.am, .int x.made, oiD x.due]) C
theorem len_Bill_row (A : Ad) : ∀ ds C P, R_Bill_row A ds C P → ds.length = 1 := by rintro _ _ _ ⟨p, i, x, rows, rfl, _⟩; rfl
theorem ok_Bill_row (T : Txt K mg A P w) : FnOk P w K mg base CX0 1 A.a_Bill_row A.d_Bill_row ["self"] (spD K (R_Bill_row A)) :=
  ok_D T.F_Bill_row sc_Bill_row (len_Bill_row A) (fun cdv Ar outer s H E hr =>
    ds_one (ds_ret (d_tup (d_cons (d_fld T.c_Bill T.n_Bill_number (d_var 0)) (d_cons (d_callTy call_tuple_of s_tupleOf (by rfl) T.z_tuple (by decide +kernel) (d_cons (d_fld T.c_Bill T.n_Bill_rows (d_var 0)) (d_nil))) (d_cons (d_fld T.c_Bill T.n_Bill_amount (d_var 0)) (d_cons (d_fld T.c_Bill T.n_Bill_made (d_var 0)) (d_cons (d_fld T.c_Bill T.n_Bill_due (d_var 0)) (d_nil))))))))) (fun ds C Pk h => by
    obtain ⟨p, i, x, rows, rfl, hp, hx, q⟩ := h
    unfold blC at hp
    rw [hx] at hp
    clear hx
    walk_at "dd"
    exact ⟨_, Sub.refl _, q⟩)

def R_law_bill (A : Ad) : DSp := fun ds C P => ∃ q pm, ∃ t : Tag, ∃ T F st s k, ds = [.ptr q, .ptr pm, .ptr st, .int k, .int T.term] ∧ SS A C t q pm T F ∧ Ok F ∧ Sm F ∧ C st = some (.lst [.int s]) ∧ t st = .law 7 ∧ 0 ≤ s ∧ ∀ (t' : Tag) (C' : Cells) F' s', SS A C' t' q pm T F' → Ok F' → Gr F F' → C' st = some (.lst [.int s']) → t' st = .law 7 → 0 ≤ s' → P (.bl true) C'
theorem len_law_bill (A : Ad) : ∀ ds C P, R_law_bill A ds C P → ds.length = 5 := by rintro _ _ _ ⟨q, pm, t, T, F, st, s, k, rfl, _⟩; rfl
theorem ok_law_bill (T : Txt K mg A P w) : FnOk P w K mg base CX0 4 A.a_law_bill A.d_law_bill ["account", "model", "state", "clock", "term"] (spD K (R_law_bill A)) :=
  ok_D T.F_law_bill sc_law_bill (len_law_bill A) (fun cdv Ar outer s H E hr =>
    ds_consL (ds_set 5 sc_law_bill.nd (d_op op_sub s_sub (d_call (ok_law_digit T) (hr.mono (by decide)) T.g_law_digit T.F_law_digit.kp T.b_law_digit (d_cons (d_var 2) (d_cons (d_int) (d_nil)))) (d_int)))
    (ds_consL (ds_set 6 sc_law_bill.nd (d_meth T.c_AccountFile T.m_AccountFile_add_bill (ok_AccountFile_add_bill T) (hr.mono (by decide)) T.b_AccountFile_add_bill (d_var 0) (d_cons (d_lst (d_cons (d_tup (d_cons (d_str) (d_cons (d_var 5) (d_nil)))) (d_nil))) (d_cons (d_var 5) (d_cons (d_var 3) (d_nil))))))
    (ds_consL (ds_set 7 sc_law_bill.nd (d_non))
    (ds_consL (ds_if (d_tcmp op_gt s_gt (d_var 5) (d_int))
      (ds_consL (ds_set 7 sc_law_bill.nd (d_op op_add s_add (d_var 3) (d_var 4)))
      (ds_one (ds_expr (d_bmL PySem.F.plainAttrs_list PySem.F.slot_list_append PySem.F.type_list_append mt_append s_append (d_dget hr (d_var 1) (d_str)) (d_cons (d_lstC (d_cons (d_str) (d_cons (d_callB call_len s_len (by rfl) T.z_len (by decide +kernel) (d_cons (d_dget hr (d_var 1) (d_str)) (d_nil))) (d_cons (d_var 5) (d_cons (d_var 7) (d_nil)))))) (d_nil))))))
      (ds_nil))
    (ds_consL (ds_expr (d_bmL PySem.F.plainAttrs_list PySem.F.slot_list_append PySem.F.type_list_append mt_append s_append (d_dget hr (d_var 1) (d_str)) (d_cons (d_tup (d_cons (d_callB call_len s_len (by rfl) T.z_len (by decide +kernel) (d_cons (d_dget hr (d_var 1) (d_str)) (d_nil))) (d_cons (d_var 5) (d_nil)))) (d_nil))))
    (ds_one (ds_ret (d_cmp (op_eqD hr.units) s_eqD (d_meth0 T.c_Bill T.m_Bill_row (ok_Bill_row T) (hr.mono (by decide)) T.b_Bill_row (d_var 6)) (d_tup (d_cons (d_op op_sub s_sub (d_callB call_len s_len (by rfl) T.z_len (by decide +kernel) (d_cons (d_dget hr (d_var 1) (d_str)) (d_nil))) (d_int)) (d_cons (d_tup (d_cons (d_tup (d_cons (d_str) (d_cons (d_var 5) (d_nil)))) (d_nil))) (d_cons (d_var 5) (d_cons (d_var 3) (d_cons (d_var 7) (d_nil))))))))))))))) (fun ds C Pk h => by
    obtain ⟨q, pm, t, T1, F, st, s, k, rfl, ⟨hF, pb, pd, ps, ad, as, hM⟩, hO, hSm, hst, tst, hs, qq⟩ := h
    refine seq_hide fun E' hE => ?_
    walk_at "dd"
    refine ⟨st, s, 60, rfl, hst, hs, by decide, by decide, fun d1 s1 hd0 hd1 hs1 => ?_⟩
    have hF2 : FX A (cput C st (.lst [.int s1])) t "acc" q T1 F := hF.mono fun k' i a d ta hd => ⟨(cput_ne (ne_tag (t := t) (by rw [ta, tst]; simp))).trans hd, rfl⟩
    have hM2 := hM.put7 tst (.lst [.int s1])
    have hst2 : cput C st (.lst [.int s1]) st = some (.lst [.int s1]) := cput_same
    generalize cput C st (.lst [.int s1]) = C2 at *
    clear hF hM hst
    walk_at "dd"
    generalize d1 - 12 = a
    have hF0 := Hid.mk hF2
    obtain ⟨_, _, _, _, _, _, _, hS⟩ := hF2
    have h1 := hS.cq
    unfold flFs at h1
    clear hS
    subst hE
    dsimp only
    refine seq_hide fun E' hE => ?_
    walk_at "dd"
    refine ⟨q, t, "acc", T1, F, _, a, k, rfl, hF0.h, hO.f, fun t' C' p due hF3 hdue hp hK3 => ?_⟩
    have hM3 := hM2.mono fun a c hc hn => hK3 a c hc hn
    obtain ⟨f1, f2⟩ := hK3 st _ hst2 (fun k i z => by rw [tst] at z; cases z)
    have f3 := f2.trans tst
    clear hst2 hM2 hF0 hK3 h1 f2
    have hok : Ok { F with bl := F.bl ++ [⟨.lst [.tup [.str (Str.ofString "day"), .int a]], a, k, due⟩], dm := F.dm ++ if 0 < a then [⟨true, (F.bl.length : Int), a, k, k + T1.term⟩] else [] } := by
      have h1 := hSm.b
      have h2 := hSm.d
      refine ⟨hO.f.bill (by omega) (by omega) _ (fun h => by rw [hdue, if_pos h]; rfl) _ (by split <;> simp), fun x hx hk => ?_⟩
      rcases List.mem_append.mp hx with hx | hx
      · obtain ⟨a1, y, a2, a3⟩ := hO.di x hx hk
        exact ⟨a1, y, (List.getElem?_append_left (List.getElem?_eq_some_iff.mp a2).1).trans a2, a3⟩
      · split at hx
        · rename_i ha
          simp only [List.mem_cons, List.not_mem_nil, or_false] at hx
          subst hx
          refine ⟨Int.natCast_nonneg _, _, by rw [Int.toNat_natCast]; exact List.getElem?_concat_length, ?_⟩
          rw [hdue, if_pos ha]
        · cases hx
    have hgr : Gr F { F with bl := F.bl ++ [⟨.lst [.tup [.str (Str.ofString "day"), .int a]], a, k, due⟩], dm := F.dm ++ if 0 < a then [⟨true, (F.bl.length : Int), a, k, k + T1.term⟩] else [] } := ⟨by rw [List.length_append]; exact Nat.le_refl _, by rw [List.length_append]; split <;> simp, Nat.le_succ _, Nat.le_succ _⟩
    have fin : ∀ (t' : Tag) (C' : Cells), FX A C' t' "acc" q T1 { F with bl := F.bl ++ [⟨.lst [.tup [.str (Str.ofString "day"), .int a]], a, k, due⟩], dm := F.dm ++ if 0 < a then [⟨true, (F.bl.length : Int), a, k, k + T1.term⟩] else [] } → (∃ pb pd ps ad as, MS C' t' pm pb pd ps ad as { F with bl := F.bl ++ [⟨.lst [.tup [.str (Str.ofString "day"), .int a]], a, k, due⟩], dm := F.dm ++ if 0 < a then [⟨true, (F.bl.length : Int), a, k, k + T1.term⟩] else [] }) → C' st = some (.lst [.int s1]) → t' st = .law 7 → Pk (.bl true) C' := fun t' C' x1 x2 x3 x4 => qq t' C' _ s1 ⟨x1, x2⟩ hok hgr x3 x4 hs1
    clear hok hgr qq hO
    subst hE
    dsimp only
    refine seq_hide fun E' hE => ?_
    walk_at "dd"
    subst hE
    dsimp only
    refine seq_hide fun E' hE => ?_
    have hln := hM3.rd.len
    have hbl8 := hSm.b
    have hdm8 := hSm.d
    replace hdue := Hid.mk hdue
    have main : ∀ (t4 : Tag) (C4 : Cells) (ad4 : List Addr), MS C4 t4 pm pb pd ps ad4 as { F with dm := F.dm ++ if 0 < a then [⟨true, (F.bl.length : Int), a, k, k + T1.term⟩] else [] } → FX A C4 t4 "acc" q T1 { F with bl := F.bl ++ [⟨.lst [.tup [.str (Str.ofString "day"), .int a]], a, k, due⟩], dm := F.dm ++ if 0 < a then [⟨true, (F.bl.length : Int), a, k, k + T1.term⟩] else [] } → C4 p = some (blC A F.bl.length ⟨.lst [.tup [.str (Str.ofString "day"), .int a]], a, k, due⟩) → C4 st = some (.lst [.int s1]) → t4 st = .law 7 → E'.nx [some (.ptr q), some (.ptr pm), some (.ptr st), some (.int k), some (.int T1.term), some (.int a), some (.ptr p), some (oiD due)] C4 := by
      clear hM3 hF3 hp f1 f3 hln hdm8
      intro t4 C4 ad4 hM4 hF4 hp4 hs4 ht4
      have h1 := hM4.cm
      have h2 := hM4.cb
      have m1 := mo_bills pb pd ps { F with dm := F.dm ++ if 0 < a then [⟨true, (F.bl.length : Int), a, k, k + T1.term⟩] else [] }
      have hzl : F.bl.zipIdx.length = F.bl.length := List.length_zipIdx
      subst hE
      dsimp only
      refine seq_hide fun E' hE => ?_
      have h2' : C4 pb = some (.lst (F.bl.zipIdx.map mbD)) := h2
      replace hM4 := Hid.mk hM4
      replace hp4 := Hid.mk hp4
      replace hs4 := Hid.mk hs4
      clear h2
      walk_at "dd"
      refine ⟨by omega, ?_⟩
      obtain ⟨hM5, hK5⟩ := hM4.h.add_bl ⟨.lst [.tup [.str (Str.ofString "day"), .int a]], a, k, due⟩
      have ez : (F.bl ++ [⟨.lst [.tup [.str (Str.ofString "day"), .int a]], a, k, due⟩] : List Bl).zipIdx.map mbD = F.bl.zipIdx.map mbD ++ [.tup [.int (F.bl.length : Int), .int a]] := by
        rw [List.zipIdx_append, List.map_append]
        simp [mbD]
      have ez' : (({ F with dm := F.dm ++ if 0 < a then [⟨true, (F.bl.length : Int), a, k, k + T1.term⟩] else [] } : Fl).bl ++ [⟨.lst [.tup [.str (Str.ofString "day"), .int a]], a, k, due⟩] : List Bl).zipIdx.map mbD = F.bl.zipIdx.map mbD ++ [.tup [.int (F.bl.length : Int), .int a]] := ez
      rw [ez'] at hM5 hK5
      obtain ⟨g1, g2⟩ := hK5 st _ hs4.h (fun k i z => by rw [ht4] at z; cases z) (fun k z => by rw [ht4] at z; injection z with z; omega)
      have npb : p ≠ pb := fun z => by
        have := hp4.h
        rw [z, h2'] at this; cases this
      have hp5 : cput C4 pb (.lst (F.bl.zipIdx.map mbD ++ [.tup [.int (F.bl.length : Int), .int a]])) p = some (blC A F.bl.length ⟨.lst [.tup [.str (Str.ofString "day"), .int a]], a, k, due⟩) := (cput_ne npb).trans hp4.h
      have fin2 := Hid.mk (fin _ _ (hF4.km hK5) ⟨pb, pd, ps, ad4, as, hM5⟩ g1 ht4)
      have h1 := hM5.cm
      have h2 := hM5.cb
      have hins : isIns A.C_Bill "row" (.ptr p) (cput C4 pb (.lst (F.bl.zipIdx.map mbD ++ [.tup [.int (F.bl.length : Int), .int a]]))) := by
        rw [isIns_ptr, hp5]
        exact ⟨rfl, rfl⟩
      replace hp5 := Hid.mk hp5
      clear h2' hM4 hF4 hp4 hs4 ht4 hM5 hK5 g1 g2 ez ez' fin
      generalize cput C4 pb (.lst (F.bl.zipIdx.map mbD ++ [.tup [.int (F.bl.length : Int), .int a]])) = C5 at *
      subst hE
      walk_at "dd"
      refine ⟨p, F.bl.length, _, [.tup [.str (Str.ofString "day"), .int a]], rfl, hp5.h, rfl, ?_⟩
      have d0 : Dat 3 (oiD due) := by cases due with
        | none => exact .non
        | some i => exact .int i
      have d1 : Dat 3 (.tup [.int (F.bl.length : Int), .tup [.tup [.str (Str.ofString "day"), .int a]], .int a, .int k, oiD due]) := .tup fun d hd => by
        simp only [List.mem_cons, List.not_mem_nil, or_false] at hd
        rcases hd with rfl | rfl | rfl | rfl | rfl
        · exact .int _
        · refine .tup fun d hd => ?_
          simp only [List.mem_cons, List.not_mem_nil, or_false] at hd
          subst hd
          refine .tup fun d hd => ?_
          simp only [List.mem_cons, List.not_mem_nil, or_false] at hd
          rcases hd with rfl | rfl
          · exact .str (by decide +kernel)
          · exact .int _
        · exact .int _
        · exact .int _
        · cases due with
          | none => exact .non
          | some i => exact .int i
      have e1 := eqb_self d1
      have hlen1 : (((F.bl.zipIdx.map mbD ++ [D.tup [.int (F.bl.length : Int), .int a]]).length : Nat) : Int) - 1 = (F.bl.length : Int) := by
        rw [List.length_append, List.length_map, hzl]; simp
      clear hins
      walk_at "dd"
      rw [mo_bills]
      walk_at "dd"
      have hlen2 : (((F.bl ++ [⟨.lst [.tup [.str (Str.ofString "day"), .int a]], a, k, due⟩] : List Bl).zipIdx.length : Nat) : Int) - 1 = (F.bl.length : Int) := by
        rw [List.length_zipIdx, List.length_append]; simp
      rw [hlen2, e1]
      exact ⟨3, by decide, d1, d1, _, Sub.refl _, fin2.h⟩
    by_cases ha : 0 < a
    · have hdue := hdue.h
      rw [if_pos ha] at hF3 main hdue
      subst hdue
      have h1 := hM3.cm
      have h2 := hM3.cb
      have h3 := hM3.cd
      have m1 := mo_bills pb pd ps F
      have m2 := mo_demands pb pd ps F
      have hzl : F.bl.zipIdx.length = F.bl.length := List.length_zipIdx
      replace main := Hid.mk main
      replace hp := Hid.mk hp
      replace f1 := Hid.mk f1
      walk_at "dd"
      refine seq_hide fun E2 hE2 => ?_
      walk_at "dd"
      subst hE2
      dsimp only
      walk_at "dd"
      intro x hx
      obtain ⟨hM4, hK4⟩ := hM3.add_dm hx ⟨true, (F.bl.length : Int), a, k, k + T1.term⟩
      have npx : pd ≠ x := cell_ne h3 hx
      have hpx : p ≠ x := cell_ne hp.h hx
      have hpd : p ≠ pd := fun z => by
        have := hp.h
        rw [z, h3] at this; cases this
      rw [cput_ne npx, h3]
      dsimp only
      rw [List.map_append] at hM4 hK4
      refine ⟨by rw [List.length_map, hln]; omega, ?_⟩
      obtain ⟨g1, g2⟩ := hK4 st _ f1.h (fun k i z => by rw [f3] at z; cases z) (fun k z => by rw [f3] at z; injection z with z; omega)
      have ea : (if 0 < a then [(⟨true, (F.bl.length : Int), a, k, k + T1.term⟩ : Dm)] else []) = [⟨true, (F.bl.length : Int), a, k, k + T1.term⟩] := if_pos ha
      exact main.h _ _ _ hM4 (hF3.km hK4) ((cput_ne hpd).trans ((cput_ne hpx).trans hp.h)) g1 (g2.trans f3)
    · have hdue := hdue.h
      rw [if_neg ha] at hF3 main hdue
      subst hdue
      have main2 := Hid.mk (main t' C' ad (by rw [List.append_nil]; exact hM3) hF3 hp f1 f3)
      clear main hM3 hF3 hp f1
      walk_at "dd"
      exact main2.h)

def R_law_means (A : Ad) : DSp := fun ds C P => ∃ pm, ∃ t : Tag, ∃ pb pd ps ad as F, ds = [.ptr pm] ∧ MS C t pm pb pd ps ad as F ∧ FOk F ∧ P (.int (mnF F)) C
theorem len_law_means (A : Ad) : ∀ ds C P, R_law_means A ds C P → ds.length = 1 := by rintro _ _ _ ⟨pm, t, pb, pd, ps, ad, as, F, rfl, _⟩; rfl
theorem ok_law_means (T : Txt K mg A P w) : FnOk P w K mg base CX0 1 A.a_law_means A.d_law_means ["model"] (spD K (R_law_means A)) :=
  ok_D T.F_law_means sc_law_means (len_law_means A) (fun cdv Ar outer s H E hr =>
    ds_consL (ds_set 1 sc_law_means.nd (d_callB (cr_sum rfl) s_sum (by rfl) T.z_sum (by decide +kernel) (d_cons (d_lc rfl sc_law_means.nd (di_list (d_dget hr (d_var 0) (d_str))) (blkOk_by (own := [("bill", 3)]) (N := ["model", "given_back", "granted", "bill", "row"]) (sc := defScope s_law_means) (by decide +kernel)) (by decide) (fun _ _ _ _ _ => dg_name 3 sc_law_means.nd) (fun _ _ _ _ _ => dts_one (d_tcmp op_lt s_lt (d_ix ix_seq s_ix (d_var 3) (d_int)) (d_int))) (fun _ _ _ _ _ => d_op op_sub s_sub (d_int) (d_ix ix_seq s_ix (d_var 3) (d_int)))) (d_nil))))
    (ds_consL (ds_set 2 sc_law_means.nd (d_callB (cr_sum rfl) s_sum (by rfl) T.z_sum (by decide +kernel) (d_cons (d_lc rfl sc_law_means.nd (di_list (d_dget hr (d_var 0) (d_str))) (blkOk_by (own := [("row", 4)]) (N := ["model", "given_back", "granted", "bill", "row"]) (sc := defScope s_law_means) (by decide +kernel)) (by decide) (fun _ _ _ _ _ => dg_name 4 sc_law_means.nd) (fun _ _ _ _ _ => dts_one (d_tcmp op_eq s_eq (d_ix ix_seq s_ix (d_var 4) (d_int)) (d_str))) (fun _ _ _ _ _ => d_ix ix_seq s_ix (d_var 4) (d_int))) (d_nil))))
    (ds_one (ds_ret (d_op op_add s_add (d_op op_add s_add (d_dget hr (d_var 0) (d_str)) (d_var 1)) (d_var 2)))))) (fun ds C Pk h => by
    obtain ⟨pm, t, pb, pd, ps, ad, as, F, rfl, hM, hO, q⟩ := h
    have h1 := hM.cm
    have h2 := hM.cb
    have h3 := hM.cs
    have m1 := mo_bills pb pd ps F
    have m2 := mo_disputes pb pd ps F
    have m3 := mo_paid pb pd ps F
    have hsb := hO.sb
    have hss := hO.ss
    refine seq_hide fun E' hE => ?_
    walk_at "dd"
    refine lc_map (L := F.bl.zipIdx) (enc := mbD) (fun e => if decide (e.1.am < 0) = true then some (.int (0 - e.1.am)) else none) (fun C' hs => hs _ _ hM.cb) (by rw [List.length_zipIdx]; omega) (fun i e C' Q he hs hq => ?_) ?_
    · unfold mbD
      walk_at "dd"
      by_cases g : e.1.am < 0
      · rw [if_pos (decide_eq_true g)] at hq; rw [if_pos g]; exact hq
      · rw [if_neg (by simpa using g)] at hq; rw [if_neg g]; exact hq
    have hz : F.bl.zipIdx.filterMap (fun e => if decide (e.1.am < 0) = true then some (D.int (0 - e.1.am)) else none) = ((F.bl.filter fun x => decide (x.am < 0)).map fun x => -x.am).map D.int := by
      rw [zix_fm (fun x : Bl => if decide (x.am < 0) = true then some (D.int (0 - x.am)) else none), fm_filter (fun x : Bl => decide (x.am < 0)), List.map_map]
      refine List.map_congr_left fun x _ => ?_
      show D.int (0 - x.am) = .int (-x.am)
      rw [Int.zero_sub]
    rw [hz]
    refine ⟨_, seqOf_lst, ?_⟩
    rw [show ((F.bl.filter fun x => decide (x.am < 0)).map fun x => -x.am).sum = credF F from rfl]
    clear hz
    subst hE
    dsimp only
    refine seq_hide fun E' hE => ?_
    walk_at "dd"
    refine lc_rw hM.rs (fun i x => if decide (x.st = 1) = true then some (.int x.am) else none) (fun C' hs => hs _ _ hM.cs) (by omega) (fun i a x C' Q hx hc hs hq => ?_) ?_
    · unfold mpC at hc
      have hk := st_gr x.st
      clear h1 h2 h3
      walk_at "dd"
      by_cases g : x.st = 1
      · rw [if_pos (decide_eq_true g)] at hq; rw [if_pos g]; exact hq
      · rw [if_neg (by simpa using g)] at hq; rw [if_neg g]; exact hq
    have hz : F.dp.zipIdx.filterMap (fun e => if decide (e.1.st = 1) = true then some (D.int e.1.am) else none) = ((F.dp.filter fun x => decide (x.st = 1)).map fun x => x.am).map D.int := by
      rw [zix_fm (fun x : Dp => if decide (x.st = 1) = true then some (D.int x.am) else none), fm_filter (fun x : Dp => decide (x.st = 1)), List.map_map]; rfl
    rw [hz]
    refine ⟨_, seqOf_lst, ?_⟩
    rw [show ((F.dp.filter fun x => decide (x.st = 1)).map fun x => x.am).sum = granF F from rfl]
    clear hz
    subst hE
    have e : paidF F + credF F + granF F = mnF F := rfl
    walk_at "dd"
    exact ⟨_, Sub.refl _, q⟩)

def R_law_left (A : Ad) : DSp := fun ds C P => ∃ pm, ∃ t : Tag, ∃ pb pd ps ad as F, ds = [.ptr pm] ∧ MS C t pm pb pd ps ad as F ∧ FOk F ∧ P (.lst ((opF (max 0 (mnF F)) (amF F)).map D.int)) C
theorem len_law_left (A : Ad) : ∀ ds C P, R_law_left A ds C P → ds.length = 1 := by rintro _ _ _ ⟨pm, t, pb, pd, ps, ad, as, F, rfl, _⟩; rfl
theorem ok_law_left (T : Txt K mg A P w) : FnOk P w K mg base CX0 2 A.a_law_left A.d_law_left ["model"] (spD K (R_law_left A)) :=
  ok_D T.F_law_left sc_law_left (len_law_left A) (fun cdv Ar outer s H E hr =>
    ds_consL (ds_set 1 sc_law_left.nd (d_callB (call_max2 rfl) s_max2 (by rfl) T.z_max (by decide +kernel) (d_cons (d_int) (d_cons (d_call (ok_law_means T) (hr.mono (by decide)) T.g_law_means T.F_law_means.kp T.b_law_means (d_cons (d_var 0) (d_nil))) (d_nil)))))
    (ds_consL (ds_set 2 sc_law_left.nd (d_lstC (d_nil)))
    (ds_consL (ds_for PassesOwn.never rfl (di_list (d_dget hr (d_var 0) (d_str))) (dg_name 3 sc_law_left.nd)
      (ds_cons (ds_expr (d_bmL PySem.F.plainAttrs_list PySem.F.slot_list_append PySem.F.type_list_append mt_append s_append (d_var 2) (d_cons (d_op op_sub s_sub (d_ix ix_seq s_ix (d_var 3) (d_int)) (d_callB (call_min2 rfl) s_min2 (by rfl) T.z_min (by decide +kernel) (d_cons (d_ix ix_seq s_ix (d_var 3) (d_int)) (d_cons (d_var 1) (d_nil))))) (d_nil))))
      (ds_one (ds_set 1 sc_law_left.nd (d_op op_sub s_sub (d_var 1) (d_callB (call_min2 rfl) s_min2 (by rfl) T.z_min (by decide +kernel) (d_cons (d_ix ix_seq s_ix (d_var 3) (d_int)) (d_cons (d_var 1) (d_nil)))))))))
    (ds_one (ds_retF (d_var 2)))))) (fun ds C Pk h => by
    obtain ⟨pm, t, pb, pd, ps, ad, as, F, rfl, hM, hO, q⟩ := h
    have h1 := hM.cm
    have h2 := hM.cd
    have m1 := mo_demands pb pd ps F
    have hsd := hO.sd
    have hln := hM.rd.len
    refine seq_hide fun E' hE => ?_
    walk_at "dd"
    refine ⟨pm, t, pb, pd, ps, ad, as, F, rfl, hM, hO, ?_⟩
    walk_at "dd"
    subst hE
    dsimp only
    refine seq_hide fun E' hE => ?_
    walk_at "dd"
    intro p hp
    have npm : pm ≠ p := cell_ne h1 hp
    have npd : pd ≠ p := cell_ne h2 hp
    subst hE
    dsimp only
    refine seq_hide fun E' hE => ?_
    clear h1 h2
    have h1 : cput C p (.lst []) pm = some (.dK (moT pb pd ps F)) := (cput_ne npm).trans hM.cm
    have h2 : cput C p (.lst []) pd = some (.lst (ad.map D.ptr)) := (cput_ne npd).trans hM.cd
    walk_at "dd"
    refine for_mapS (L := ad) (enc := D.ptr) (st := fun C' => C' pd = some (.lst (ad.map D.ptr))) (fun j ρ' C' => (∃ o4, ρ' = [some (.ptr pm), some (.int (max 0 (mnF F) - (alF (max 0 (mnF F)) ((amF F).take j)).sum)), some (.ptr p), o4]) ∧ C' = cput C p (.lst ((opF (max 0 (mnF F)) ((amF F).take j)).map D.int))) ⟨⟨none, by simp [alF]⟩, rfl⟩ (fun k ρ' C' h => by rw [h.2]; exact (cput_ne npd).trans hM.cd) ?_ ?_
    · clear h1 h2 m1
      rintro j a ρ' C' hj ⟨⟨o4, rfl⟩, rfl⟩
      obtain ⟨x, hx, ta, hc⟩ := hM.rd.get hj
      have hap : a ≠ p := cell_ne hc hp
      have hjl := (List.getElem?_eq_some_iff.mp hj).1
      have hxa : (amF F)[j]? = some x.am := by unfold amF; rw [List.getElem?_map, hx]; rfl
      have htk : (amF F).take (j + 1) = (amF F).take j ++ [x.am] := take_snoc hxa
      have hol : (opF (max 0 (mnF F)) ((amF F).take j)).length < 100000 := by rw [op_len, List.length_take]; unfold amF; rw [List.length_map]; omega
      rw [htk, al_snoc, op_snoc]
      generalize hl1 : (alF (max 0 (mnF F)) ((amF F).take j)).sum = s1
      generalize hl2 : opF (max 0 (mnF F)) ((amF F).take j) = L2 at *
      have hc' : cput C p (.lst (L2.map D.int)) a = some (mdC j x) := (cput_ne hap).trans hc
      have hpp : cput C p (.lst (L2.map D.int)) p = some (.lst (L2.map D.int)) := cput_same
      unfold mdC at hc'
      have hca : ∀ Z, cput C p (.lst Z) a = some (.lst [.str (kdS x.kind), .int x.num, .int x.am, .int x.due]) := fun Z => (cput_ne hap).trans hc
      have hsum : (alF (max 0 (mnF F)) ((amF F).take j) ++ [min x.am (max 0 (mnF F) - s1)]).sum = s1 + min x.am (max 0 (mnF F) - s1) := by rw [List.sum_append, hl1]; simp
      rw [hsum]
      have hap' : p ≠ a := hap.symm
      have hsub : max 0 (mnF F) - s1 - min x.am (max 0 (mnF F) - s1) = max 0 (mnF F) - (s1 + min x.am (max 0 (mnF F) - s1)) := by omega
      clear hj hx hxa htk hc hM hO hp hl1 hl2 hsum
      generalize hmm : max 0 (mnF F) = m0 at *
      clear hmm
      walk_at "dd"
      rw [List.map_append]
      exact ⟨⟨_, rfl⟩, rfl⟩
    · rintro ρ' C' ⟨⟨o4, rfl⟩, rfl⟩
      have e : (amF F).take ad.length = amF F := List.take_of_length_le (by unfold amF; rw [List.length_map, hln]; exact Nat.le_refl _)
      rw [e]
      have hpp : cput C p (.lst ((opF (max 0 (mnF F)) (amF F)).map D.int)) p = some (.lst ((opF (max 0 (mnF F)) (amF F)).map D.int)) := cput_same
      subst hE
      clear h1 h2 m1 e
      walk_at "dd"
      exact ⟨C, Sub.new hp, hp, C, Sub.refl _, q⟩)

def R_allot (A : Ad) : DSp := fun ds C P => ∃ (m : Int) (M : List Int), ds = [.int m, .lst (M.map D.int)] ∧ M.length ≤ 1000 ∧ P (.lst ((alF (max 0 m) M).map D.int)) C
theorem len_allot (A : Ad) : ∀ ds C P, R_allot A ds C P → ds.length = 2 := by rintro _ _ _ ⟨m, M, rfl, _⟩; rfl
theorem ok_allot (T : Txt K mg A P w) : FnOk P w K mg base CX0 1 A.a_allot A.d_allot ["means", "amounts"] (spD K (R_allot A)) :=
  ok_D T.F_allot sc_allot (len_allot A) (fun cdv Ar outer s H E hr =>
    ds_cons (ds_set 2 sc_allot.nd (d_callB (call_max2 rfl) s_max2 (by rfl) T.z_max (by decide +kernel) (d_cons (d_int) (d_cons (d_var 0) (d_nil)))))
    (ds_consL (ds_set 3 sc_allot.nd (d_lstC (d_nil)))
    (ds_consL (ds_for PassesOwn.never rfl (di_list (d_var 1)) (dg_name 4 sc_allot.nd)
      (ds_cons (ds_set 5 sc_allot.nd (d_callB (call_min2 rfl) s_min2 (by rfl) T.z_min (by decide +kernel) (d_cons (d_var 4) (d_cons (d_var 2) (d_nil)))))
      (ds_cons (ds_expr (d_bmL PySem.F.plainAttrs_list PySem.F.slot_list_append PySem.F.type_list_append mt_append s_append (d_var 3) (d_cons (d_var 5) (d_nil))))
      (ds_one (ds_set 2 sc_allot.nd (d_op op_sub s_sub (d_var 2) (d_var 5)))))))
    (ds_one (ds_retF (d_var 3)))))) (fun ds C Pk h => by
    obtain ⟨m, M, rfl, hl, q⟩ := h
    refine seq_hide fun E' hE => ?_
    walk_at "dd"
    subst hE
    dsimp only
    refine seq_hide fun E' hE => ?_
    walk_at "dd"
    intro p hp
    subst hE
    dsimp only
    refine seq_hide fun E' hE => ?_
    walk_at "dd"
    refine for_map (fun j ρ' C' => (∃ o4 o5, ρ' = [some (.int m), some (.lst (M.map D.int)), some (.int (max 0 m - (alF (max 0 m) (M.take j)).sum)), some (.ptr p), o4, o5]) ∧ C' = cput C p (.lst ((alF (max 0 m) (M.take j)).map D.int))) ⟨⟨none, none, by simp [alF]⟩, rfl⟩ ?_ ?_
    · rintro j x ρ' C' hj ⟨⟨o4, o5, rfl⟩, rfl⟩
      have hjl := (List.getElem?_eq_some_iff.mp hj).1
      have hcl : (alF (max 0 m) (M.take j)).length ≤ 1000 := by rw [al_len, List.length_take]; omega
      rw [take_snoc hj, al_snoc, List.sum_append]
      generalize alF (max 0 m) (M.take j) = Z at hcl ⊢
      walk_at "dd"
      have e : max 0 m - (Z.sum + [min x (max 0 m - Z.sum)].sum) = max 0 m - Z.sum - min x (max 0 m - Z.sum) := by
        simp only [List.sum_cons, List.sum_nil]; omega
      rw [e]
      exact ⟨by omega, ⟨_, _, rfl⟩, by rw [List.map_append]; rfl⟩
    · rintro ρ' C' ⟨⟨o4, o5, rfl⟩, rfl⟩
      rw [List.take_length]
      subst hE
      walk_at "dd"
      exact ⟨C, Sub.new hp, hp, _, Sub.refl _, q⟩)

def R_open_amounts (A : Ad) : DSp := fun ds C P => ∃ (m : Int) (M : List Int), ds = [.int m, .lst (M.map D.int)] ∧ M.length ≤ 1000 ∧ P (.lst ((opF (max 0 m) M).map D.int)) C
theorem len_open_amounts (A : Ad) : ∀ ds C P, R_open_amounts A ds C P → ds.length = 2 := by rintro _ _ _ ⟨m, M, rfl, _⟩; rfl
theorem ok_open_amounts (T : Txt K mg A P w) : FnOk P w K mg base CX0 2 A.a_open_amounts A.d_open_amounts ["means", "amounts"] (spD K (R_open_amounts A)) :=
  ok_D T.F_open_amounts sc_open_amounts (len_open_amounts A) (fun cdv Ar outer s H E hr =>
    ds_consL (ds_set 2 sc_open_amounts.nd (d_call (ok_allot T) (hr.mono (by decide)) T.g_allot T.F_allot.kp T.b_allot (d_cons (d_var 0) (d_cons (d_var 1) (d_nil)))))
    (ds_one (ds_ret (d_lc rfl sc_open_amounts.nd (di_rng1 (by rfl) T.z_range (d_cons (d_callB call_len s_len (by rfl) T.z_len (by decide +kernel) (d_cons (d_var 1) (d_nil))) (d_nil))) (blkOk_by (own := [("place", 3)]) (N := ["means", "amounts", "parts", "place"]) (sc := defScope s_open_amounts) (by decide +kernel)) (by decide) (fun _ _ _ _ _ => dg_name 3 sc_open_amounts.nd) (fun _ _ _ _ _ => dts_nil) (fun _ _ _ _ _ => d_op op_sub s_sub (d_ix ix_seq s_ix (d_var 1) (d_var 3)) (d_ix ix_seq s_ix (d_var 2) (d_var 3))))))) (fun ds C Pk h => by
    obtain ⟨m, M, rfl, hl, q⟩ := h
    refine seq_hide fun E' hE => ?_
    walk_at "dd"
    refine ⟨m, M, rfl, hl, ?_⟩
    subst hE
    dsimp only
    walk_at "dd"
    refine ⟨by omega, ?_⟩
    have he : (opF (max 0 m) M).map D.int = (M.zip (alF (max 0 m) M)).map fun e => .int (e.1 - e.2) := by
      rw [op_zip, List.map_map]; rfl
    have hzl : (M.zip (alF (max 0 m) M)).length = M.length := by rw [List.length_zip, al_len]; omega
    rw [he] at q
    rw [← hzl]
    refine lc_idx (o := M.zip (alF (max 0 m) M)) (fun e => .int (e.1 - e.2)) (by omega) (fun k x C' Q hk hs hq => ?_) ⟨_, Sub.refl _, q⟩
    obtain ⟨h1, h2⟩ := List.getElem?_zip_eq_some.mp hk
    have e1 : (M.map D.int)[k]? = some (.int x.1) := by rw [List.getElem?_map, h1]; rfl
    have e2 : ((alF (max 0 m) M).map D.int)[k]? = some (.int x.2) := by rw [List.getElem?_map, h2]; rfl
    walk_at "dd"
    all_goals exact hq)

def R_Dispute_is_granted (A : Ad) : DSp := fun ds C P => ∃ p i x, ds = [.ptr p] ∧ C p = some (dpC A i x) ∧ P (.bl (decide (x.st = 1))) C
theorem len_Dispute_is_granted (A : Ad) : ∀ ds C P, R_Dispute_is_granted A ds C P → ds.length = 1 := by rintro _ _ _ ⟨p, i, x, rfl, _⟩; rfl
theorem ok_Dispute_is_granted (T : Txt K mg A P w) : FnOk P w K mg base CX0 1 A.a_Dispute_is_granted A.d_Dispute_is_granted ["self"] (spD K (R_Dispute_is_granted A)) :=
  ok_D T.F_Dispute_is_granted sc_Dispute_is_granted (len_Dispute_is_granted A) (fun cdv Ar outer s H E hr =>
    ds_one (ds_ret (d_cmp op_eq s_eq (d_fld T.c_Dispute T.n_Dispute_state (d_var 0)) (d_kstr T.k_GRANTED)))) (fun ds C Pk h => by
    obtain ⟨p, i, x, rfl, hp, q⟩ := h
    unfold dpC at hp
    have e : decide (x.st = 1) = decide (stS x.st = Str.ofString "granted") := by
      rw [decide_eq_decide]
      rcases h3 : x.st with _ | _ | m
      · exact ⟨fun z => by omega, fun z => absurd z (by unfold stS; decide)⟩
      · exact ⟨fun _ => rfl, fun _ => rfl⟩
      · exact ⟨fun z => by omega, fun z => absurd (show Str.ofString "refused" = Str.ofString "granted" from z) (by decide)⟩
    rw [e] at q
    clear e
    walk_at "dd"
    exact ⟨_, Sub.refl _, q⟩)

def R_all_granted (A : Ad) : DSp := fun ds C P => ∃ s, ∃ t : Tag, ∃ n as xs, ds = [.ptr s] ∧ C s = some (.lst (as.map D.ptr)) ∧ Rw C t n 8 (dpC A) as xs ∧ P (.int (((xs.filter fun x => decide (x.st = 1)).map fun x => x.am).sum)) C
theorem len_all_granted (A : Ad) : ∀ ds C P, R_all_granted A ds C P → ds.length = 1 := by rintro _ _ _ ⟨s, t, n, as, xs, rfl, _⟩; rfl
theorem ok_all_granted (T : Txt K mg A P w) : FnOk P w K mg base CX0 2 A.a_all_granted A.d_all_granted ["disputes"] (spD K (R_all_granted A)) :=
  ok_D T.F_all_granted sc_all_granted (len_all_granted A) (fun cdv Ar outer s H E hr =>
    ds_cons (ds_set 1 sc_all_granted.nd (d_int))
    (ds_consL (ds_for PassesOwn.never rfl (di_list (d_var 0)) (dg_name 2 sc_all_granted.nd)
      (ds_one (ds_if (d_tval (d_meth0 T.c_Dispute T.m_Dispute_is_granted (ok_Dispute_is_granted T) (hr.mono (by decide)) T.b_Dispute_is_granted (d_var 2)))
        (ds_one (ds_set 1 sc_all_granted.nd (d_op op_add s_add (d_var 1) (d_fld T.c_Dispute T.n_Dispute_amount (d_var 2)))))
        (ds_nil))))
    (ds_one (ds_ret (d_var 1))))) (fun ds C Pk h => by
    obtain ⟨s, t, n, as, xs, rfl, hs, hR, q⟩ := h
    refine seq_hide fun E' hE => ?_
    walk_at "dd"
    subst hE
    dsimp only
    refine seq_hide fun E' hE => ?_
    walk_at "dd"
    refine for_mapS (L := as) (enc := D.ptr) (st := fun C' => C' s = some (.lst (as.map D.ptr))) (fun j ρ' C' => (∃ o3, ρ' = [some (.ptr s), some (.int ((((xs.take j).filter fun x => decide (x.st = 1)).map fun x => x.am).sum)), o3]) ∧ C' = C) ⟨⟨_, rfl⟩, rfl⟩ (fun k ρ' C' h => by rw [h.2]; exact hs) ?_ ?_
    · rintro j a ρ' C' hj ⟨⟨o3, rfl⟩, rfl⟩
      obtain ⟨x, hx, _, hc⟩ := hR.get hj
      have e1 : ((((xs.take (j + 1)).filter fun x => decide (x.st = 1)).map fun x => x.am).sum) = ((((xs.take j).filter fun x => decide (x.st = 1)).map fun x => x.am).sum) + if x.st = 1 then x.am else 0 := by
        rw [take_snoc hx, List.filter_append, List.map_append, List.sum_append]
        by_cases g : x.st = 1 <;> simp [g]
      rw [e1]
      have hcc := hc
      unfold dpC at hcc
      clear hc e1
      generalize (((xs.take j).filter fun x => decide (x.st = 1)).map fun x => x.am).sum = tot
      walk_at "dd"
      refine ⟨a, j, x, rfl, hcc, ?_⟩
      by_cases g2 : x.st = 1
      · rw [if_pos g2, decide_eq_true g2]
        walk_at "dd"
        exact ⟨_, rfl⟩
      · rw [if_neg g2, decide_eq_false g2, Int.add_zero]
        walk_at "dd"
        exact ⟨_, rfl⟩
    · rintro ρ' C' ⟨⟨o3, rfl⟩, rfl⟩
      rw [List.take_of_length_le (by rw [hR.len]; exact Nat.le_refl _)]
      subst hE
      walk_at "dd"
      exact ⟨_, Sub.refl _, q⟩)

def R_AccountFile_paid (A : Ad) : DSp := fun ds C P => ∃ q, ∃ t : Tag, ∃ n T F, ds = [.ptr q] ∧ FX A C t n q T F ∧ FOk F ∧ P (.int (paidF F)) C
theorem len_AccountFile_paid (A : Ad) : ∀ ds C P, R_AccountFile_paid A ds C P → ds.length = 1 := by rintro _ _ _ ⟨q, t, n, T, F, rfl, _⟩; rfl
theorem ok_AccountFile_paid (T : Txt K mg A P w) : FnOk P w K mg base CX0 1 A.a_AccountFile_paid A.d_AccountFile_paid ["self"] (spD K (R_AccountFile_paid A)) :=
  ok_D T.F_AccountFile_paid sc_AccountFile_paid (len_AccountFile_paid A) (fun cdv Ar outer s H E hr =>
    ds_one (ds_ret (d_callB (cr_sum rfl) s_sum (by rfl) T.z_sum (by decide +kernel) (d_cons (d_lc rfl sc_AccountFile_paid.nd (di_list (d_fld T.c_AccountFile T.n_AccountFile_payments (d_var 0))) (blkOk_by (own := [("amount", 1), ("_", 2)]) (N := ["self", "amount", "_"]) (sc := defScope s_AccountFile_paid) (by decide +kernel)) (by decide) (fun _ _ _ _ _ => dg_tup rfl (dgs_cons (dg_name 1 sc_AccountFile_paid.nd) (dgs_cons (dg_name 2 sc_AccountFile_paid.nd) (dgs_nil)))) (fun _ _ _ _ _ => dts_nil) (fun _ _ _ _ _ => d_var 1)) (d_nil))))) (fun ds C Pk h => by
    obtain ⟨q, t, n, T, F, rfl, hF, hO, hq⟩ := h
    have hF0 := hF
    obtain ⟨b, d, p, s, ab, ad, as, hS⟩ := hF
    have h1 := hS.cq
    unfold flFs at h1
    have h2 := hS.cp
    have hl := hO.sp
    walk_at "dd"
    refine lc_map (L := F.pay) (enc := pyD) (st := fun C' => C' p = some (.lst (F.pay.map pyD))) (fun e => some (.int e.1)) (fun C' hs => hs _ _ h2) (by omega) (fun i x C' Q hi hs hq => ?_) ?_
    · unfold pyD
      walk_at "dd"
      all_goals exact hq
    · rw [show F.pay.filterMap (fun e => some (D.int e.1)) = (F.pay.map fun e => e.1).map D.int by rw [List.map_map, ← List.filterMap_eq_map]; rfl]
      exact ⟨_, seqOf_lst, _, Sub.refl _, hq⟩)

def R_AccountFile_credit_sum (A : Ad) : DSp := fun ds C P => ∃ q, ∃ t : Tag, ∃ n T F, ds = [.ptr q] ∧ FX A C t n q T F ∧ FOk F ∧ P (.int (credF F)) C
theorem len_AccountFile_credit_sum (A : Ad) : ∀ ds C P, R_AccountFile_credit_sum A ds C P → ds.length = 1 := by rintro _ _ _ ⟨q, t, n, T, F, rfl, _⟩; rfl
theorem ok_AccountFile_credit_sum (T : Txt K mg A P w) : FnOk P w K mg base CX0 1 A.a_AccountFile_credit_sum A.d_AccountFile_credit_sum ["self"] (spD K (R_AccountFile_credit_sum A)) :=
  ok_D T.F_AccountFile_credit_sum sc_AccountFile_credit_sum (len_AccountFile_credit_sum A) (fun cdv Ar outer s H E hr =>
    ds_one (ds_ret (d_callB (cr_sum rfl) s_sum (by rfl) T.z_sum (by decide +kernel) (d_cons (d_lc rfl sc_AccountFile_credit_sum.nd (di_list (d_fld T.c_AccountFile T.n_AccountFile_bills (d_var 0))) (blkOk_by (own := [("bill", 1)]) (N := ["self", "bill"]) (sc := defScope s_AccountFile_credit_sum) (by decide +kernel)) (by decide) (fun _ _ _ _ _ => dg_name 1 sc_AccountFile_credit_sum.nd) (fun _ _ _ _ _ => dts_one (d_tcmp op_lt s_lt (d_fld T.c_Bill T.n_Bill_amount (d_var 1)) (d_int))) (fun _ _ _ _ _ => d_un un_neg s_neg (d_fld T.c_Bill T.n_Bill_amount (d_var 1)))) (d_nil))))) (fun ds C Pk h => by
    obtain ⟨q, t, n, T, F, rfl, hF, hO, hq⟩ := h
    have hF0 := hF
    obtain ⟨b, d, p, s, ab, ad, as, hS⟩ := hF
    have h1 := hS.cq
    unfold flFs at h1
    have h2 := hS.cb
    have hl := hO.sb
    walk_at "dd"
    refine lc_rw hS.rb (fun _ x => if decide (x.am < 0) = true then some (.int (-x.am)) else none) (fun C' hs => hs _ _ h2) (by omega) (fun i a x C' Q hx hc hs hq => ?_) ?_
    · unfold blC at hc
      walk_at "dd"
      by_cases g : x.am < 0
      · rw [if_pos g]
        rw [if_pos (decide_eq_true g)] at hq
        exact hq
      · rw [if_neg g]
        rw [if_neg (by rw [decide_eq_false g]; decide)] at hq
        exact hq
    · rw [zix_fm (fun x : Bl => if decide (x.am < 0) = true then some (D.int (-x.am)) else none), fmf (fun x : Bl => decide (x.am < 0)) (fun x => D.int (-x.am)), show (F.bl.filter fun x => decide (x.am < 0)).map (fun x => D.int (-x.am)) = ((F.bl.filter fun x => decide (x.am < 0)).map fun x => -x.am).map D.int by rw [List.map_map]; rfl]
      exact ⟨_, seqOf_lst, _, Sub.refl _, hq⟩)

def R_AccountFile_means (A : Ad) : DSp := fun ds C P => ∃ q, ∃ t : Tag, ∃ n T F, ds = [.ptr q] ∧ FX A C t n q T F ∧ FOk F ∧ P (.int (mnF F)) C
theorem len_AccountFile_means (A : Ad) : ∀ ds C P, R_AccountFile_means A ds C P → ds.length = 1 := by rintro _ _ _ ⟨q, t, n, T, F, rfl, _⟩; rfl
theorem ok_AccountFile_means (T : Txt K mg A P w) : FnOk P w K mg base CX0 3 A.a_AccountFile_means A.d_AccountFile_means ["self"] (spD K (R_AccountFile_means A)) :=
  ok_D T.F_AccountFile_means sc_AccountFile_means (len_AccountFile_means A) (fun cdv Ar outer s H E hr =>
    ds_one (ds_ret (d_op op_add s_add (d_op op_add s_add (d_meth0 T.c_AccountFile T.m_AccountFile_paid (ok_AccountFile_paid T) (hr.mono (by decide)) T.b_AccountFile_paid (d_var 0)) (d_meth0 T.c_AccountFile T.m_AccountFile_credit_sum (ok_AccountFile_credit_sum T) (hr.mono (by decide)) T.b_AccountFile_credit_sum (d_var 0))) (d_call (ok_all_granted T) (hr.mono (by decide)) T.g_all_granted T.F_all_granted.kp T.b_all_granted (d_cons (d_fld T.c_AccountFile T.n_AccountFile_disputes (d_var 0)) (d_nil)))))) (fun ds C Pk h => by
    obtain ⟨q, t, n, T, F, rfl, hF, hO, hq⟩ := h
    have hF0 := hF
    obtain ⟨b, d, p, s, ab, ad, as, hS⟩ := hF
    have h1 := hS.cq
    unfold flFs at h1
    have h2 := hS.cs
    unfold mnF at hq
    walk_at "dd"
    refine ⟨q, t, n, T, F, rfl, hF0, hO, ?_⟩
    walk_at "dd"
    refine ⟨q, t, n, T, F, rfl, hF0, hO, ?_⟩
    walk_at "dd"
    refine ⟨s, t, n, as, F.dp, rfl, h2, hS.rs, ?_⟩
    unfold granF at hq
    walk_at "dd"
    exact ⟨_, Sub.refl _, hq⟩)

def R_AccountFile_amounts (A : Ad) : DSp := fun ds C P => ∃ q, ∃ t : Tag, ∃ n T F, ds = [.ptr q] ∧ FX A C t n q T F ∧ FOk F ∧ P (.lst ((amF F).map D.int)) C
theorem len_AccountFile_amounts (A : Ad) : ∀ ds C P, R_AccountFile_amounts A ds C P → ds.length = 1 := by rintro _ _ _ ⟨q, t, n, T, F, rfl, _⟩; rfl
theorem ok_AccountFile_amounts (T : Txt K mg A P w) : FnOk P w K mg base CX0 1 A.a_AccountFile_amounts A.d_AccountFile_amounts ["self"] (spD K (R_AccountFile_amounts A)) :=
  ok_D T.F_AccountFile_amounts sc_AccountFile_amounts (len_AccountFile_amounts A) (fun cdv Ar outer s H E hr =>
    ds_one (ds_ret (d_lc rfl sc_AccountFile_amounts.nd (di_list (d_fld T.c_AccountFile T.n_AccountFile_demands (d_var 0))) (blkOk_by (own := [("demand", 1)]) (N := ["self", "demand"]) (sc := defScope s_AccountFile_amounts) (by decide +kernel)) (by decide) (fun _ _ _ _ _ => dg_name 1 sc_AccountFile_amounts.nd) (fun _ _ _ _ _ => dts_nil) (fun _ _ _ _ _ => d_fld T.c_Demand T.n_Demand_amount (d_var 1))))) (fun ds C Pk h => by
    obtain ⟨q, t, n, T, F, rfl, hF, hO, hq⟩ := h
    have hF0 := hF
    obtain ⟨b, d, p, s, ab, ad, as, hS⟩ := hF
    have h1 := hS.cq
    unfold flFs at h1
    have h2 := hS.cd
    have hl := hO.sd
    walk_at "dd"
    refine lc_rw hS.rd (fun _ x => some (.int x.am)) (fun C' hs => hs _ _ h2) (by omega) (fun i a x C' Q hx hc hs hq => ?_) ?_
    · unfold dmC at hc
      walk_at "dd"
      all_goals exact hq
    · rw [zix_fm (fun x : Dm => some (D.int x.am)), show F.dm.filterMap (fun x => some (D.int x.am)) = (amF F).map D.int by
        unfold amF
        rw [List.map_map, ← List.filterMap_eq_map]; rfl]
      exact ⟨_, Sub.refl _, hq⟩)

def R_AccountFile_open_list (A : Ad) : DSp := fun ds C P => ∃ q, ∃ t : Tag, ∃ n T F, ds = [.ptr q] ∧ FX A C t n q T F ∧ FOk F ∧ P (.lst ((opF (max 0 (mnF F)) (amF F)).map D.int)) C
theorem len_AccountFile_open_list (A : Ad) : ∀ ds C P, R_AccountFile_open_list A ds C P → ds.length = 1 := by rintro _ _ _ ⟨q, t, n, T, F, rfl, _⟩; rfl
theorem ok_AccountFile_open_list (T : Txt K mg A P w) : FnOk P w K mg base CX0 4 A.a_AccountFile_open_list A.d_AccountFile_open_list ["self"] (spD K (R_AccountFile_open_list A)) :=
  ok_D T.F_AccountFile_open_list sc_AccountFile_open_list (len_AccountFile_open_list A) (fun cdv Ar outer s H E hr =>
    ds_one (ds_ret (d_call (ok_open_amounts T) (hr.mono (by decide)) T.g_open_amounts T.F_open_amounts.kp T.b_open_amounts (d_cons (d_meth0 T.c_AccountFile T.m_AccountFile_means (ok_AccountFile_means T) (hr.mono (by decide)) T.b_AccountFile_means (d_var 0)) (d_cons (d_meth0 T.c_AccountFile T.m_AccountFile_amounts (ok_AccountFile_amounts T) (hr.mono (by decide)) T.b_AccountFile_amounts (d_var 0)) (d_nil)))))) (fun ds C Pk h => by
    obtain ⟨q, t, n, T, F, rfl, hF, hO, hq⟩ := h
    have hF0 := hF
    obtain ⟨b, d, p, s, ab, ad, as, hS⟩ := hF
    have h1 := hS.cq
    unfold flFs at h1
    have hl : (amF F).length ≤ 1000 := by unfold amF; rw [List.length_map]; exact hO.sd
    walk_at "dd"
    refine ⟨q, t, n, T, F, rfl, hF0, hO, ?_⟩
    walk_at "dd"
    refine ⟨q, t, n, T, F, rfl, hF0, hO, ?_⟩
    walk_at "dd"
    exact ⟨_, _, rfl, hl, _, Sub.refl _, hq⟩)

def R_AccountFile_open_total (A : Ad) : DSp := fun ds C P => ∃ q, ∃ t : Tag, ∃ n T F, ds = [.ptr q] ∧ FX A C t n q T F ∧ FOk F ∧ P (.int ((opF (max 0 (mnF F)) (amF F)).sum)) C
theorem len_AccountFile_open_total (A : Ad) : ∀ ds C P, R_AccountFile_open_total A ds C P → ds.length = 1 := by rintro _ _ _ ⟨q, t, n, T, F, rfl, _⟩; rfl
theorem ok_AccountFile_open_total (T : Txt K mg A P w) : FnOk P w K mg base CX0 5 A.a_AccountFile_open_total A.d_AccountFile_open_total ["self"] (spD K (R_AccountFile_open_total A)) :=
  ok_D T.F_AccountFile_open_total sc_AccountFile_open_total (len_AccountFile_open_total A) (fun cdv Ar outer s H E hr =>
    ds_one (ds_ret (d_callB (cr_sum rfl) s_sum (by rfl) T.z_sum (by decide +kernel) (d_cons (d_meth0 T.c_AccountFile T.m_AccountFile_open_list (ok_AccountFile_open_list T) (hr.mono (by decide)) T.b_AccountFile_open_list (d_var 0)) (d_nil))))) (fun ds C Pk h => by
    obtain ⟨q, t, n, T, F, rfl, hF, hO, hq⟩ := h
    have hF0 := hF
    obtain ⟨b, d, p, s, ab, ad, as, hS⟩ := hF
    have h1 := hS.cq
    unfold flFs at h1
    walk_at "dd"
    refine ⟨q, t, n, T, F, rfl, hF0, hO, ?_⟩
    exact ⟨_, seqOf_lst, _, Sub.refl _, hq⟩)

def R_credit_of (A : Ad) : DSp := fun ds C P => ∃ (m : Int) (M : List Int), ds = [.int m, .lst (M.map D.int)] ∧ M.length ≤ 1000 ∧ P (.int (m - (alF (max 0 m) M).sum)) C
theorem len_credit_of (A : Ad) : ∀ ds C P, R_credit_of A ds C P → ds.length = 2 := by rintro _ _ _ ⟨m, M, rfl, _⟩; rfl
theorem ok_credit_of (T : Txt K mg A P w) : FnOk P w K mg base CX0 2 A.a_credit_of A.d_credit_of ["means", "amounts"] (spD K (R_credit_of A)) :=
  ok_D T.F_credit_of sc_credit_of (len_credit_of A) (fun cdv Ar outer s H E hr =>
    ds_one (ds_ret (d_op op_sub s_sub (d_var 0) (d_callB (cr_sum rfl) s_sum (by rfl) T.z_sum (by decide +kernel) (d_cons (d_call (ok_allot T) (hr.mono (by decide)) T.g_allot T.F_allot.kp T.b_allot (d_cons (d_var 0) (d_cons (d_var 1) (d_nil)))) (d_nil)))))) (fun ds C Pk h => by
    obtain ⟨m, M, rfl, hl, q⟩ := h
    walk_at "dd"
    refine ⟨m, M, rfl, hl, ?_⟩
    dsimp only
    refine ⟨_, seqOf_lst, ?_⟩
    walk_at "dd"
    exact ⟨_, Sub.refl _, q⟩)

def R_AccountFile_credit (A : Ad) : DSp := fun ds C P => ∃ q, ∃ t : Tag, ∃ n T F, ds = [.ptr q] ∧ FX A C t n q T F ∧ FOk F ∧ P (.int (mnF F - (alF (max 0 (mnF F)) (amF F)).sum)) C
theorem len_AccountFile_credit (A : Ad) : ∀ ds C P, R_AccountFile_credit A ds C P → ds.length = 1 := by rintro _ _ _ ⟨q, t, n, T, F, rfl, _⟩; rfl
theorem ok_AccountFile_credit (T : Txt K mg A P w) : FnOk P w K mg base CX0 4 A.a_AccountFile_credit A.d_AccountFile_credit ["self"] (spD K (R_AccountFile_credit A)) :=
  ok_D T.F_AccountFile_credit sc_AccountFile_credit (len_AccountFile_credit A) (fun cdv Ar outer s H E hr =>
    ds_one (ds_ret (d_call (ok_credit_of T) (hr.mono (by decide)) T.g_credit_of T.F_credit_of.kp T.b_credit_of (d_cons (d_meth0 T.c_AccountFile T.m_AccountFile_means (ok_AccountFile_means T) (hr.mono (by decide)) T.b_AccountFile_means (d_var 0)) (d_cons (d_meth0 T.c_AccountFile T.m_AccountFile_amounts (ok_AccountFile_amounts T) (hr.mono (by decide)) T.b_AccountFile_amounts (d_var 0)) (d_nil)))))) (fun ds C Pk h => by
    obtain ⟨q, t, n, T, F, rfl, hF, hO, hq⟩ := h
    have hF0 := hF
    obtain ⟨b, d, p, s, ab, ad, as, hS⟩ := hF
    have h1 := hS.cq
    unfold flFs at h1
    have hl : (amF F).length ≤ 1000 := by unfold amF; rw [List.length_map]; exact hO.sd
    walk_at "dd"
    refine ⟨q, t, n, T, F, rfl, hF0, hO, ?_⟩
    walk_at "dd"
    refine ⟨q, t, n, T, F, rfl, hF0, hO, ?_⟩
    walk_at "dd"
    exact ⟨_, _, rfl, hl, _, Sub.refl _, hq⟩)

def R_AccountFile_asked (A : Ad) : DSp := fun ds C P => ∃ q, ∃ t : Tag, ∃ n T F, ds = [.ptr q] ∧ FX A C t n q T F ∧ FOk F ∧ P (.int ((amF F).sum)) C
theorem len_AccountFile_asked (A : Ad) : ∀ ds C P, R_AccountFile_asked A ds C P → ds.length = 1 := by rintro _ _ _ ⟨q, t, n, T, F, rfl, _⟩; rfl
theorem ok_AccountFile_asked (T : Txt K mg A P w) : FnOk P w K mg base CX0 2 A.a_AccountFile_asked A.d_AccountFile_asked ["self"] (spD K (R_AccountFile_asked A)) :=
  ok_D T.F_AccountFile_asked sc_AccountFile_asked (len_AccountFile_asked A) (fun cdv Ar outer s H E hr =>
    ds_one (ds_ret (d_callB (cr_sum rfl) s_sum (by rfl) T.z_sum (by decide +kernel) (d_cons (d_meth0 T.c_AccountFile T.m_AccountFile_amounts (ok_AccountFile_amounts T) (hr.mono (by decide)) T.b_AccountFile_amounts (d_var 0)) (d_nil))))) (fun ds C Pk h => by
    obtain ⟨q, t, n, T, F, rfl, hF, hO, hq⟩ := h
    have hF0 := hF
    obtain ⟨b, d, p, s, ab, ad, as, hS⟩ := hF
    have h1 := hS.cq
    unfold flFs at h1
    walk_at "dd"
    refine ⟨q, t, n, T, F, rfl, hF0, hO, ?_⟩
    exact ⟨_, seqOf_lst, _, Sub.refl _, hq⟩)

def R_Dispute_is_waiting (A : Ad) : DSp := fun ds C P => ∃ p i x, ds = [.ptr p] ∧ C p = some (dpC A i x) ∧ P (.bl (decide (x.st = 0))) C
theorem len_Dispute_is_waiting (A : Ad) : ∀ ds C P, R_Dispute_is_waiting A ds C P → ds.length = 1 := by rintro _ _ _ ⟨p, i, x, rfl, _⟩; rfl
theorem ok_Dispute_is_waiting (T : Txt K mg A P w) : FnOk P w K mg base CX0 1 A.a_Dispute_is_waiting A.d_Dispute_is_waiting ["self"] (spD K (R_Dispute_is_waiting A)) :=
  ok_D T.F_Dispute_is_waiting sc_Dispute_is_waiting (len_Dispute_is_waiting A) (fun cdv Ar outer s H E hr =>
    ds_one (ds_ret (d_cmp op_eq s_eq (d_fld T.c_Dispute T.n_Dispute_state (d_var 0)) (d_kstr T.k_WAITING)))) (fun ds C Pk h => by
    obtain ⟨p, i, x, rfl, hp, q⟩ := h
    unfold dpC at hp
    have e : decide (x.st = 0) = decide (stS x.st = Str.ofString "waiting") := by
      rw [decide_eq_decide]
      rcases h3 : x.st with _ | _ | m
      · exact ⟨fun _ => rfl, fun _ => rfl⟩
      · exact ⟨fun z => by omega, fun z => absurd z (by unfold stS; decide)⟩
      · exact ⟨fun z => by omega, fun z => absurd (show Str.ofString "refused" = Str.ofString "waiting" from z) (by decide)⟩
    rw [e] at q
    clear e
    walk_at "dd"
    exact ⟨_, Sub.refl _, q⟩)

def R_held_of (A : Ad) : DSp := fun ds C P => ∃ s, ∃ t : Tag, ∃ n as xs b, ds = [.ptr s, .int b] ∧ C s = some (.lst (as.map D.ptr)) ∧ Rw C t n 8 (dpC A) as xs ∧ P (.int (heldF xs 0 b)) C
theorem len_held_of (A : Ad) : ∀ ds C P, R_held_of A ds C P → ds.length = 2 := by rintro _ _ _ ⟨s, t, n, as, xs, b, rfl, _⟩; rfl
theorem ok_held_of (T : Txt K mg A P w) : FnOk P w K mg base CX0 2 A.a_held_of A.d_held_of ["disputes", "bill"] (spD K (R_held_of A)) :=
  ok_D T.F_held_of sc_held_of (len_held_of A) (fun cdv Ar outer s H E hr =>
    ds_cons (ds_set 2 sc_held_of.nd (d_int))
    (ds_consL (ds_for PassesOwn.never rfl (di_list (d_var 0)) (dg_name 3 sc_held_of.nd)
      (ds_one (ds_if ((d_and (d_tcmp op_eq s_eq (d_fld T.c_Dispute T.n_Dispute_bill (d_var 3)) (d_var 1)) (d_and1 (d_tval (d_meth0 T.c_Dispute T.m_Dispute_is_waiting (ok_Dispute_is_waiting T) (hr.mono (by decide)) T.b_Dispute_is_waiting (d_var 3))))).pt)
        (ds_one (ds_set 2 sc_held_of.nd (d_op op_add s_add (d_var 2) (d_fld T.c_Dispute T.n_Dispute_amount (d_var 3)))))
        (ds_nil))))
    (ds_one (ds_ret (d_var 2))))) (fun ds C Pk h => by
    obtain ⟨s, t, n, as, xs, b, rfl, hs, hR, q⟩ := h
    refine seq_hide fun E' hE => ?_
    walk_at "dd"
    subst hE
    dsimp only
    refine seq_hide fun E' hE => ?_
    walk_at "dd"
    refine for_mapS (L := as) (enc := D.ptr) (st := fun C' => C' s = some (.lst (as.map D.ptr))) (fun j ρ' C' => (∃ o3, ρ' = [some (.ptr s), some (.int b), some (.int (heldF (xs.take j) 0 b)), o3]) ∧ C' = C) ⟨⟨_, rfl⟩, rfl⟩ (fun k ρ' C' h => by rw [h.2]; exact hs) ?_ ?_
    · rintro j a ρ' C' hj ⟨⟨o3, rfl⟩, rfl⟩
      obtain ⟨x, hx, _, hc⟩ := hR.get hj
      have e1 : heldF (xs.take (j + 1)) 0 b = heldF (xs.take j) 0 b + if x.bill = b ∧ x.st = 0 then x.am else 0 := by
        unfold heldF
        rw [take_snoc hx, List.filter_append, List.map_append, List.sum_append]
        by_cases g : x.bill = b ∧ x.st = 0 <;> simp [g]
      rw [e1]
      have hcc := hc
      unfold dpC at hcc
      clear hc e1
      generalize heldF (xs.take j) 0 b = tot
      by_cases g1 : x.bill = b
      · walk_at "dd"
        refine ⟨a, j, x, rfl, hcc, ?_⟩
        by_cases g2 : x.st = 0
        · rw [if_pos g2, decide_eq_true g2]
          walk_at "dd"
          exact ⟨_, rfl⟩
        · rw [if_neg g2, decide_eq_false g2, Int.add_zero]
          walk_at "dd"
          exact ⟨_, rfl⟩
      · rw [if_neg (fun z => g1 z.1), Int.add_zero]
        walk_at "dd"
        exact ⟨_, rfl⟩
    · rintro ρ' C' ⟨⟨o3, rfl⟩, rfl⟩
      rw [List.take_of_length_le (by rw [hR.len]; exact Nat.le_refl _)]
      subst hE
      walk_at "dd"
      exact ⟨_, Sub.refl _, q⟩)

def R_AccountFile_held (A : Ad) : DSp := fun ds C P => ∃ q, ∃ t : Tag, ∃ n T F a i x, ds = [.ptr q, .ptr a] ∧ FX A C t n q T F ∧ C a = some (dmC A i x) ∧ P (.int (hdF F x)) C
theorem len_AccountFile_held (A : Ad) : ∀ ds C P, R_AccountFile_held A ds C P → ds.length = 2 := by rintro _ _ _ ⟨q, t, n, T, F, a, i, x, rfl, _⟩; rfl
theorem ok_AccountFile_held (T : Txt K mg A P w) : FnOk P w K mg base CX0 3 A.a_AccountFile_held A.d_AccountFile_held ["self", "demand"] (spD K (R_AccountFile_held A)) :=
  ok_D T.F_AccountFile_held sc_AccountFile_held (len_AccountFile_held A) (fun cdv Ar outer s H E hr =>
    ds_cons (ds_if (d_tcmp op_ne s_ne (d_fld T.c_Demand T.n_Demand_kind (d_var 1)) (d_str))
      (ds_one (ds_ret (d_int)))
      (ds_nil))
    (ds_one (ds_ret (d_call (ok_held_of T) (hr.mono (by decide)) T.g_held_of T.F_held_of.kp T.b_held_of (d_cons (d_fld T.c_AccountFile T.n_AccountFile_disputes (d_var 0)) (d_cons (d_fld T.c_Demand T.n_Demand_number (d_var 1)) (d_nil))))))) (fun ds C Pk h => by
    obtain ⟨q, t, n, T, F, a, i, x, rfl, hF, ha, hq⟩ := h
    obtain ⟨b, d, p, s, ab, ad, as, hS⟩ := hF
    have h1 := hS.cq
    unfold flFs at h1
    unfold dmC at ha
    have h4 := hS.cs
    unfold hdF at hq
    by_cases g : x.kind = true
    · rw [if_pos g] at hq
      have hks : kdS x.kind = Str.ofString "bill" := by rw [g]; rfl
      rw [hks] at ha
      clear g hks
      walk_at "dd"
      refine ⟨s, t, n, as, F.dp, x.num, rfl, h4, hS.rs, ?_⟩
      exact ⟨_, Sub.refl _, hq⟩
    · rw [if_neg g] at hq
      have hks : kdS x.kind = Str.ofString "fee" := by rw [Bool.not_eq_true] at g; rw [g]; rfl
      rw [hks] at ha
      clear g hks
      walk_at "dd"
      exact ⟨_, Sub.refl _, hq⟩)

def R_AccountFile_overdue_list (A : Ad) : DSp := fun ds C P => ∃ q, ∃ t : Tag, ∃ n T F k, ds = [.ptr q, .int k] ∧ FX A C t n q T F ∧ FOk F ∧ P (.lst ((odF F k).map D.int)) C
theorem len_AccountFile_overdue_list (A : Ad) : ∀ ds C P, R_AccountFile_overdue_list A ds C P → ds.length = 2 := by rintro _ _ _ ⟨q, t, n, T, F, k, rfl, _⟩; rfl
theorem ok_AccountFile_overdue_list (T : Txt K mg A P w) : FnOk P w K mg base CX0 5 A.a_AccountFile_overdue_list A.d_AccountFile_overdue_list ["self", "clock"] (spD K (R_AccountFile_overdue_list A)) :=
  ok_D T.F_AccountFile_overdue_list sc_AccountFile_overdue_list (len_AccountFile_overdue_list A) (fun cdv Ar outer s H E hr =>
    ds_consL (ds_set 2 sc_AccountFile_overdue_list.nd (d_meth0 T.c_AccountFile T.m_AccountFile_open_list (ok_AccountFile_open_list T) (hr.mono (by decide)) T.b_AccountFile_open_list (d_var 0)))
    (ds_consL (ds_set 3 sc_AccountFile_overdue_list.nd (d_lstC (d_nil)))
    (ds_consL (ds_for PassesOwn.never rfl (di_rng1 (by rfl) T.z_range (d_cons (d_callB call_len s_len (by rfl) T.z_len (by decide +kernel) (d_cons (d_fld T.c_AccountFile T.n_AccountFile_demands (d_var 0)) (d_nil))) (d_nil))) (dg_name 4 sc_AccountFile_overdue_list.nd)
      (ds_cons (ds_set 5 sc_AccountFile_overdue_list.nd (d_ix ix_seq s_ix (d_fld T.c_AccountFile T.n_AccountFile_demands (d_var 0)) (d_var 4)))
      (ds_one (ds_if (d_tcmp op_lt s_lt (d_fld T.c_Demand T.n_Demand_due (d_var 5)) (d_var 1))
        (ds_one (ds_expr (d_bmL PySem.F.plainAttrs_list PySem.F.slot_list_append PySem.F.type_list_append mt_append s_append (d_var 3) (d_cons (d_callB (call_max2 rfl) s_max2 (by rfl) T.z_max (by decide +kernel) (d_cons (d_int) (d_cons (d_op op_sub s_sub (d_ix ix_seq s_ix (d_var 2) (d_var 4)) (d_meth T.c_AccountFile T.m_AccountFile_held (ok_AccountFile_held T) (hr.mono (by decide)) T.b_AccountFile_held (d_var 0) (d_cons (d_var 5) (d_nil)))) (d_nil)))) (d_nil)))))
        (ds_one (ds_expr (d_bmL PySem.F.plainAttrs_list PySem.F.slot_list_append PySem.F.type_list_append mt_append s_append (d_var 3) (d_cons (d_int) (d_nil)))))))))
    (ds_one (ds_retF (d_var 3)))))) (fun ds C Pk h => by
    obtain ⟨q, t, n, T, F, k, rfl, hF, hO, hq⟩ := h
    have hF0 := hF
    obtain ⟨b, d, p, s, ab, ad, as, hS⟩ := hF
    have h1 := hS.cq
    unfold flFs at h1
    have h3 := hS.cd
    have hsd := hO.sd
    have hal : (amF F).length = F.dm.length := by unfold amF; rw [List.length_map]
    refine seq_hide fun E' hE => ?_
    walk_at "dd"
    refine ⟨q, t, n, T, F, rfl, hF0, hO, ?_⟩
    have hol : (opF (max 0 (mnF F)) (amF F)).length = F.dm.length := by rw [op_len, hal]
    have hod : odF F k = (F.dm.zip (opF (max 0 (mnF F)) (amF F))).map fun e => if e.1.due < k then max 0 (e.2 - hdF F e.1) else 0 := rfl
    have hodl := odF_len F k
    generalize opF (max 0 (mnF F)) (amF F) = O at hol hod ⊢
    subst hE
    dsimp only
    refine seq_hide fun E' hE => ?_
    walk_at "dd"
    intro p2 hp2
    subst hE
    dsimp only
    refine seq_hide fun E' hE => ?_
    have hsub : ∀ c, DD.Sub C (cput C p2 c) := fun c => Sub.new hp2
    have hadl := hS.rd.len
    have hm2 : (ad.map D.ptr).length = F.dm.length := by rw [List.length_map, hadl]
    have h1' := fun c => hsub c _ _ h1
    have h3' := fun c => hsub c _ _ h3
    walk_at "dd"
    refine ⟨⟨by omega, by omega⟩, ?_⟩
    rw [Int.toNat_natCast]
    refine for_rng (fun j ρ' C' => (∃ o4 o5, ρ' = [some (.ptr q), some (.int k), some (.lst (O.map D.int)), some (.ptr p2), o4, o5]) ∧ C' = cput C p2 (.lst (((odF F k).take j).map D.int))) ⟨⟨_, _, rfl⟩, rfl⟩ ?_ ?_
    · rintro j ρ' C' hj ⟨⟨o4, o5, rfl⟩, rfl⟩
      have hx : F.dm[j]? = some F.dm[j] := List.getElem?_eq_getElem hj
      obtain ⟨a, ha, _, hc⟩ := hS.rd.adr hx
      have ho : O[j]? = some O[j] := List.getElem?_eq_getElem _
      generalize F.dm[j] = x at hx hc
      generalize O[j] = z at ho
      have hat : atI (ad.map D.ptr) (j : Int) = some (.ptr a) := by rw [atI_at (by omega), Int.toNat_natCast, List.getElem?_map, ha]; rfl
      have hat2 : atI (O.map D.int) (j : Int) = some (.int z) := by rw [atI_at (by omega), Int.toNat_natCast, List.getElem?_map, ho]; rfl
      have hzz : (F.dm.zip O)[j]? = some (x, z) := List.getElem?_zip_eq_some.mpr ⟨hx, ho⟩
      have htk : (odF F k).take (j + 1) = (odF F k).take j ++ [if x.due < k then max 0 (z - hdF F x) else 0] := take_snoc (by
        rw [hod, List.getElem?_map, hzz]; rfl)
      clear hzz
      rw [htk, Int.zero_add]
      clear hod htk
      have h1 := h1' (.lst (((odF F k).take j).map D.int))
      have h3 := h3' (.lst (((odF F k).take j).map D.int))
      have hc2 := hsub (.lst (((odF F k).take j).map D.int)) _ _ hc
      have hF2 : FX A (cput C p2 (.lst (((odF F k).take j).map D.int))) t n q T F := hF0.sub (hsub _)
      have hp : cput C p2 (.lst (((odF F k).take j).map D.int)) p2 = some (.lst (((odF F k).take j).map D.int)) := cput_same
      have hcp : ∀ c, cput (cput C p2 (.lst (((odF F k).take j).map D.int))) p2 c = cput C p2 c := fun c => cput_cput
      have hlt : (((odF F k).take j).map D.int).length < 100000 := by rw [List.length_map, List.length_take]; omega
      rw [List.map_append]
      have hdc := hc2
      unfold dmC at hdc
      generalize ((odF F k).take j).map D.int = M at *
      generalize cput C p2 (.lst M) = C2 at *
      replace hF2 := Hid.mk hF2
      replace hc2 := Hid.mk hc2
      clear hc hF0 h1' h3' hsub
      by_cases g : x.due < k
      · rw [if_pos g]
        walk_at "dd"
        refine ⟨q, t, n, T, F, a, j, x, rfl, hF2.h, hc2.h, ?_⟩
        walk_at "dd"
        exact ⟨_, _, rfl⟩
      · rw [if_neg g]
        walk_at "dd"
        exact ⟨_, _, rfl⟩
    · rintro ρ' C' ⟨⟨o4, o5, rfl⟩, rfl⟩
      rw [← hodl, List.take_length]
      have hp : cput C p2 (.lst ((odF F k).map D.int)) p2 = some (.lst ((odF F k).map D.int)) := cput_same
      clear hod hodl
      subst hE
      walk_at "dd"
      exact ⟨C, hsub _, hp2, C, Sub.refl _, hq⟩)

def R_AccountFile_overdue (A : Ad) : DSp := fun ds C P => ∃ q, ∃ t : Tag, ∃ n T F k, ds = [.ptr q, .int k] ∧ FX A C t n q T F ∧ FOk F ∧ P (.int (odF F k).sum) C
theorem len_AccountFile_overdue (A : Ad) : ∀ ds C P, R_AccountFile_overdue A ds C P → ds.length = 2 := by rintro _ _ _ ⟨q, t, n, T, F, k, rfl, _⟩; rfl
theorem ok_AccountFile_overdue (T : Txt K mg A P w) : FnOk P w K mg base CX0 6 A.a_AccountFile_overdue A.d_AccountFile_overdue ["self", "clock"] (spD K (R_AccountFile_overdue A)) :=
  ok_D T.F_AccountFile_overdue sc_AccountFile_overdue (len_AccountFile_overdue A) (fun cdv Ar outer s H E hr =>
    ds_one (ds_ret (d_callB (cr_sum rfl) s_sum (by rfl) T.z_sum (by decide +kernel) (d_cons (d_meth T.c_AccountFile T.m_AccountFile_overdue_list (ok_AccountFile_overdue_list T) (hr.mono (by decide)) T.b_AccountFile_overdue_list (d_var 0) (d_cons (d_var 1) (d_nil))) (d_nil))))) (fun ds C Pk h => by
    obtain ⟨q, t, n, T, F, k, rfl, hF, hO, hq⟩ := h
    have hF0 := hF
    obtain ⟨b, d, p, s, ab, ad, as, hS⟩ := hF
    have h1 := hS.cq
    unfold flFs at h1
    walk_at "dd"
    refine ⟨q, t, n, T, F, k, rfl, hF0, hO, ?_⟩
    exact ⟨_, seqOf_lst, _, Sub.refl _, hq⟩)

def R_law_over (A : Ad) : DSp := fun ds C P => ∃ pm, ∃ t : Tag, ∃ pb pd ps ad as F k, ds = [.ptr pm, .int k] ∧ MS C t pm pb pd ps ad as F ∧ FOk F ∧ P (.int (odF F k).sum) C
theorem len_law_over (A : Ad) : ∀ ds C P, R_law_over A ds C P → ds.length = 2 := by rintro _ _ _ ⟨pm, t, pb, pd, ps, ad, as, F, k, rfl, _⟩; rfl
theorem ok_law_over (T : Txt K mg A P w) : FnOk P w K mg base CX0 3 A.a_law_over A.d_law_over ["model", "clock"] (spD K (R_law_over A)) :=
  ok_D T.F_law_over sc_law_over (len_law_over A) (fun cdv Ar outer s H E hr =>
    ds_consL (ds_set 2 sc_law_over.nd (d_call (ok_law_left T) (hr.mono (by decide)) T.g_law_left T.F_law_left.kp T.b_law_left (d_cons (d_var 0) (d_nil))))
    (ds_cons (ds_set 3 sc_law_over.nd (d_int))
    (ds_consL (ds_for PassesOwn.never rfl (di_rng1 (by rfl) T.z_range (d_cons (d_callB call_len s_len (by rfl) T.z_len (by decide +kernel) (d_cons (d_var 2) (d_nil))) (d_nil))) (dg_name 4 sc_law_over.nd)
      (ds_consL (ds_asgC rfl (d_ix ix_seq s_ix (d_dget hr (d_var 0) (d_str)) (d_var 4)) (dgs_cons (dg_name 5 sc_law_over.nd) (dgs_cons (dg_name 6 sc_law_over.nd) (dgs_cons (dg_name 7 sc_law_over.nd) (dgs_cons (dg_name 8 sc_law_over.nd) (dgs_nil))))))
      (ds_consL (ds_set 9 sc_law_over.nd (d_callB (cr_sum rfl) s_sum (by rfl) T.z_sum (by decide +kernel) (d_cons (d_lc rfl sc_law_over.nd (di_list (d_dget hr (d_var 0) (d_str))) (blkOk_by (own := [("row", 10)]) (N := ["model", "clock", "left", "total", "place", "kind", "number", "spare", "due", "held", "row"]) (sc := defScope s_law_over) (by decide +kernel)) (by decide) (fun _ _ _ _ _ => dg_name 10 sc_law_over.nd) (fun _ _ _ _ _ => dts_one ((d_and (d_tcmp op_eq s_eq (d_ix ix_seq s_ix (d_var 10) (d_int)) (d_var 6)) (d_and (d_tcmp op_eq s_eq (d_ix ix_seq s_ix (d_var 10) (d_int)) (d_str)) (d_and1 (d_tcmp op_eq s_eq (d_var 5) (d_str))))).pt)) (fun _ _ _ _ _ => d_ix ix_seq s_ix (d_var 10) (d_int))) (d_nil))))
      (ds_one (ds_if (d_tcmp op_lt s_lt (d_var 8) (d_var 1))
        (ds_one (ds_set 3 sc_law_over.nd (d_op op_add s_add (d_var 3) (d_callB (call_max2 rfl) s_max2 (by rfl) T.z_max (by decide +kernel) (d_cons (d_int) (d_cons (d_op op_sub s_sub (d_ix ix_seq s_ix (d_var 2) (d_var 4)) (d_var 9)) (d_nil)))))))
        (ds_nil))))))
    (ds_one (ds_ret (d_var 3)))))) (fun ds C Pk h => by
    obtain ⟨pm, t, pb, pd, ps, ad, as, F, k, rfl, hM, hO, q⟩ := h
    have h1 := hM.cm
    have h2 := hM.cd
    have h3 := hM.cs
    have m1 := mo_demands pb pd ps F
    have m2 := mo_disputes pb pd ps F
    have hsd := hO.sd
    have hss := hO.ss
    have hln := hM.rd.len
    refine seq_hide fun E' hE => ?_
    walk_at "dd"
    refine ⟨pm, t, pb, pd, ps, ad, as, F, rfl, hM, hO, ?_⟩
    have hol : (opF (max 0 (mnF F)) (amF F)).length = F.dm.length := by rw [op_len]; unfold amF; rw [List.length_map]
    have hodl := odF_len F k
    generalize hL : opF (max 0 (mnF F)) (amF F) = L at *
    subst hE
    dsimp only
    walk_at "dd"
    refine seq_hide fun E' hE => ?_
    walk_at "dd"
    refine ⟨by omega, for_rng (fun j ρ' C' => (∃ x4 x5 x6 x7 x8 x9 x10, ρ' = [some (.ptr pm), some (.int k), some (.lst (L.map D.int)), some (.int (((odF F k).take j).sum)), x4, x5, x6, x7, x8, x9, x10]) ∧ C' = C) ⟨⟨_, _, _, _, _, _, _, rfl⟩, rfl⟩ ?_ ?_⟩
    · rintro j ρ' C' hj ⟨⟨x4, x5, x6, x7, x8, x9, x10, rfl⟩, rfl⟩
      have hj : j < F.dm.length := by omega
      have hx : F.dm[j]? = some F.dm[j] := List.getElem?_eq_getElem hj
      generalize F.dm[j] = x at hx
      obtain ⟨a, ha, ta, hc⟩ := hM.rd.adr hx
      have ho : L[j]? = some (L[j]'(by omega)) := List.getElem?_eq_getElem (by omega)
      generalize L[j]'(by omega) = o at ho
      have hod := od_get (k := k) hx (by rw [hL]; exact ho)
      have hts : ((odF F k).take (j + 1)).sum = ((odF F k).take j).sum + (if x.due < k then max 0 (o - hdF F x) else 0) := by rw [take_snoc hod, List.sum_append]; simp
      unfold mdC at hc
      rw [hts]
      refine seq_hide fun E2 hE2 => ?_
      clear hod hts hsd hol hodl hL hj hln ta
      walk_at "dd"
      subst hE2
      dsimp only
      refine seq_hide fun E2 hE2 => ?_
      walk_at "dd"
      refine lc_rw hM.rs (fun i y => if (decide (y.bill = x.num) && (decide (y.st = 0) && x.kind)) = true then some (.int y.am) else none) (fun C' hs => hs _ _ hM.cs) (by omega) (fun i b y C2 Q hy hcb hs hq => ?_) ?_
      · unfold mpC at hcb
        have hk := st_wa y.st
        have hk2 := kd_bi x.kind
        clear h1 h2 h3 hc hE2
        walk_at "dd"
        by_cases g1 : y.bill = x.num
        · by_cases g2 : y.st = 0
          · cases g3 : x.kind
            · rw [g3] at hq
              simp [g1, g2] at hq ⊢
              exact hq
            · rw [g3] at hq
              simp [g1, g2] at hq ⊢
              exact hq
          · simp [g1, g2] at hq ⊢
            exact hq
        · simp [g1] at hq ⊢
          exact hq
      have hz : (F.dp.zipIdx.filterMap fun e => if (decide (e.1.bill = x.num) && (decide (e.1.st = 0) && x.kind)) = true then some (D.int e.1.am) else none) = ((F.dp.filter fun y => decide (y.bill = x.num) && (decide (y.st = 0) && x.kind)).map fun y => y.am).map D.int := by
        rw [zix_fm (fun y : Dp => if (decide (y.bill = x.num) && (decide (y.st = 0) && x.kind)) = true then some (D.int y.am) else none), fmf (fun y : Dp => decide (y.bill = x.num) && (decide (y.st = 0) && x.kind)), List.map_map]; rfl
      rw [hz]
      refine ⟨_, seqOf_lst, ?_⟩
      have hhd : ((F.dp.filter fun y => decide (y.bill = x.num) && (decide (y.st = 0) && x.kind)).map fun y => y.am).sum = hdF F x := by
        unfold hdF heldF
        cases x.kind
        · have : (F.dp.filter fun y => decide (y.bill = x.num) && (decide (y.st = 0) && false)) = [] := by
            rw [List.filter_eq_nil_iff]
            intro y _
            simp
          rw [this]; rfl
        · simp
      rw [hhd]
      clear hz hhd
      subst hE2
      walk_at "dd"
      by_cases g : x.due < k
      · rw [if_pos g, if_pos g]
        exact ⟨_, _, _, _, _, _, _, rfl⟩
      · rw [if_neg g, if_neg g, Int.add_zero]
        exact ⟨_, _, _, _, _, _, _, rfl⟩
    · rintro ρ' C' ⟨⟨x4, x5, x6, x7, x8, x9, x10, rfl⟩, rfl⟩
      have e : (odF F k).take ((F.dm.length : Int)).toNat = odF F k := List.take_of_length_le (by omega)
      rw [e]
      subst hE
      clear h1 h2 h3 m1 m2 e
      walk_at "dd"
      exact ⟨_, Sub.refl _, q⟩)

def rwDm (x : Dm) : D := .tup [.str (kdS x.kind), .int x.num, .int x.am, .int x.made, .int x.due]
def R_Demand_row (A : Ad) : DSp := fun ds C P => ∃ p i x, ds = [.ptr p] ∧ C p = some (dmC A i x) ∧ P (rwDm x) C
theorem len_Demand_row (A : Ad) : ∀ ds C P, R_Demand_row A ds C P → ds.length = 1 := by rintro _ _ _ ⟨p, i, x, rfl, _⟩; rfl
theorem ok_Demand_row (T : Txt K mg A P w) : FnOk P w K mg base CX0 1 A.a_Demand_row A.d_Demand_row ["self"] (spD K (R_Demand_row A)) :=
  ok_D T.F_Demand_row sc_Demand_row (len_Demand_row A) (fun cdv Ar outer s H E hr =>
    ds_one (ds_ret (d_tup (d_cons (d_fld T.c_Demand T.n_Demand_kind (d_var 0)) (d_cons (d_fld T.c_Demand T.n_Demand_number (d_var 0)) (d_cons (d_fld T.c_Demand T.n_Demand_amount (d_var 0)) (d_cons (d_fld T.c_Demand T.n_Demand_made (d_var 0)) (d_cons (d_fld T.c_Demand T.n_Demand_due (d_var 0)) (d_nil))))))))) (fun ds C Pk h => by
    obtain ⟨p, i, x, rfl, hp, q⟩ := h
    unfold dmC at hp
    unfold rwDm at q
    walk_at "dd"
    exact ⟨_, Sub.refl _, q⟩)

def R_law_same (A : Ad) : DSp := fun ds C P => ∃ q pm, ∃ t : Tag, ∃ T F k, ds = [.ptr q, .ptr pm, .int k] ∧ SS A C t q pm T F ∧ FOk F ∧ P (.bl true) C
theorem len_law_same (A : Ad) : ∀ ds C P, R_law_same A ds C P → ds.length = 3 := by rintro _ _ _ ⟨q, pm, t, T, F, k, rfl, _⟩; rfl
theorem ok_law_same (T : Txt K mg A P w) : FnOk P w K mg base CX0 7 A.a_law_same A.d_law_same ["account", "model", "clock"] (spD K (R_law_same A)) :=
  ok_D T.F_law_same sc_law_same (len_law_same A) (fun cdv Ar outer s H E hr =>
    ds_consL (ds_set 3 sc_law_same.nd (d_call (ok_law_left T) (hr.mono (by decide)) T.g_law_left T.F_law_left.kp T.b_law_left (d_cons (d_var 1) (d_nil))))
    (ds_consL (ds_if ((d_or (d_tcmp (op_neD hr.units) s_neD (d_meth0 T.c_AccountFile T.m_AccountFile_open_list (ok_AccountFile_open_list T) (hr.mono (by decide)) T.b_AccountFile_open_list (d_var 0)) (d_var 3)) (d_or1 (d_tcmp op_ne s_ne (d_meth0 T.c_AccountFile T.m_AccountFile_open_total (ok_AccountFile_open_total T) (hr.mono (by decide)) T.b_AccountFile_open_total (d_var 0)) (d_callB (cr_sum rfl) s_sum (by rfl) T.z_sum (by decide +kernel) (d_cons (d_var 3) (d_nil)))))).pt)
      (ds_one (ds_ret (d_bl)))
      (ds_nil))
    (ds_consL (ds_if (d_tcmp (op_neD hr.units) s_neD (d_lc rfl sc_law_same.nd (di_list (d_fld T.c_AccountFile T.n_AccountFile_demands (d_var 0))) (blkOk_by (own := [("demand", 6)]) (N := ["account", "model", "clock", "left", "asked", "states", "demand", "row", "dispute"]) (sc := defScope s_law_same) (by decide +kernel)) (by decide) (fun _ _ _ _ _ => dg_name 6 sc_law_same.nd) (fun _ _ _ _ _ => dts_nil) (fun _ _ _ _ _ => d_slT (d_meth0 T.c_Demand T.m_Demand_row (ok_Demand_row T) (hr.mono (by decide)) T.b_Demand_row (d_var 6)) (do_none) (do_some (d_int)))) (d_lc rfl sc_law_same.nd (di_list (d_dget hr (d_var 1) (d_str))) (blkOk_by (own := [("row", 7)]) (N := ["account", "model", "clock", "left", "asked", "states", "demand", "row", "dispute"]) (sc := defScope s_law_same) (by decide +kernel)) (by decide) (fun _ _ _ _ _ => dg_name 7 sc_law_same.nd) (fun _ _ _ _ _ => dts_nil) (fun _ _ _ _ _ => d_callTy call_tuple_of s_tupleOf (by rfl) T.z_tuple (by decide +kernel) (d_cons (d_sl (d_var 7) (do_none) (do_some (d_int))) (d_nil)))))
      (ds_one (ds_ret (d_bl)))
      (ds_nil))
    (ds_consL (ds_if (d_tcmp (op_neD hr.units) s_neD (d_lc rfl sc_law_same.nd (di_list (d_fld T.c_AccountFile T.n_AccountFile_demands (d_var 0))) (blkOk_by (own := [("demand", 6)]) (N := ["account", "model", "clock", "left", "asked", "states", "demand", "row", "dispute"]) (sc := defScope s_law_same) (by decide +kernel)) (by decide) (fun _ _ _ _ _ => dg_name 6 sc_law_same.nd) (fun _ _ _ _ _ => dts_nil) (fun _ _ _ _ _ => d_fld T.c_Demand T.n_Demand_due (d_var 6))) (d_lc rfl sc_law_same.nd (di_list (d_dget hr (d_var 1) (d_str))) (blkOk_by (own := [("row", 7)]) (N := ["account", "model", "clock", "left", "asked", "states", "demand", "row", "dispute"]) (sc := defScope s_law_same) (by decide +kernel)) (by decide) (fun _ _ _ _ _ => dg_name 7 sc_law_same.nd) (fun _ _ _ _ _ => dts_nil) (fun _ _ _ _ _ => d_ix ix_seq s_ix (d_var 7) (d_int))))
      (ds_one (ds_ret (d_bl)))
      (ds_nil))
    (ds_consL (ds_set 4 sc_law_same.nd (d_callB (cr_sum rfl) s_sum (by rfl) T.z_sum (by decide +kernel) (d_cons (d_lc rfl sc_law_same.nd (di_list (d_dget hr (d_var 1) (d_str))) (blkOk_by (own := [("row", 7)]) (N := ["account", "model", "clock", "left", "asked", "states", "demand", "row", "dispute"]) (sc := defScope s_law_same) (by decide +kernel)) (by decide) (fun _ _ _ _ _ => dg_name 7 sc_law_same.nd) (fun _ _ _ _ _ => dts_nil) (fun _ _ _ _ _ => d_ix ix_seq s_ix (d_var 7) (d_int))) (d_nil))))
    (ds_consL (ds_if ((d_or (d_tcmp op_ne s_ne (d_meth0 T.c_AccountFile T.m_AccountFile_credit (ok_AccountFile_credit T) (hr.mono (by decide)) T.b_AccountFile_credit (d_var 0)) (d_op op_add s_add (d_op op_sub s_sub (d_call (ok_law_means T) (hr.mono (by decide)) T.g_law_means T.F_law_means.kp T.b_law_means (d_cons (d_var 1) (d_nil))) (d_var 4)) (d_callB (cr_sum rfl) s_sum (by rfl) T.z_sum (by decide +kernel) (d_cons (d_var 3) (d_nil))))) (d_or1 (d_tcmp op_ne s_ne (d_meth0 T.c_AccountFile T.m_AccountFile_asked (ok_AccountFile_asked T) (hr.mono (by decide)) T.b_AccountFile_asked (d_var 0)) (d_var 4)))).pt)
      (ds_one (ds_ret (d_bl)))
      (ds_nil))
    (ds_consL (ds_if ((d_or (d_tcmp op_ne s_ne (d_meth T.c_AccountFile T.m_AccountFile_overdue (ok_AccountFile_overdue T) (hr.mono (by decide)) T.b_AccountFile_overdue (d_var 0) (d_cons (d_var 2) (d_nil))) (d_call (ok_law_over T) (hr.mono (by decide)) T.g_law_over T.F_law_over.kp T.b_law_over (d_cons (d_var 1) (d_cons (d_var 2) (d_nil))))) (d_or1 (d_tcmp op_ne s_ne (d_fld T.c_AccountFile T.n_AccountFile_level (d_var 0)) (d_dget hr (d_var 1) (d_str))))).pt)
      (ds_one (ds_ret (d_bl)))
      (ds_nil))
    (ds_consL (ds_setLc 5 rfl sc_law_same.nd rfl rfl (sw_true rfl rfl rfl (by decide +kernel)) (di_list (d_fld T.c_AccountFile T.n_AccountFile_disputes (d_var 0))) (blkOk_by (own := [("dispute", 8)]) (N := ["account", "model", "clock", "left", "asked", "states", "demand", "row", "dispute"]) (sc := defScope s_law_same) (by decide +kernel)) (by decide) (fun _ _ _ _ _ => dg_name 8 sc_law_same.nd) (fun _ _ _ _ _ => dts_nil) (fun _ _ _ _ _ => d_tup (d_cons (d_fld T.c_Dispute T.n_Dispute_bill (d_var 8)) (d_cons (d_fld T.c_Dispute T.n_Dispute_amount (d_var 8)) (d_cons (d_fld T.c_Dispute T.n_Dispute_state (d_var 8)) (d_nil))))))
    (ds_one (ds_ret (d_andV (d_cmp (op_eqD hr.units) s_eqD (d_var 5) (d_lc rfl sc_law_same.nd (di_list (d_dget hr (d_var 1) (d_str))) (blkOk_by (own := [("row", 7)]) (N := ["account", "model", "clock", "left", "asked", "states", "demand", "row", "dispute"]) (sc := defScope s_law_same) (by decide +kernel)) (by decide) (fun _ _ _ _ _ => dg_name 7 sc_law_same.nd) (fun _ _ _ _ _ => dts_nil) (fun _ _ _ _ _ => d_callTy call_tuple_of s_tupleOf (by rfl) T.z_tuple (by decide +kernel) (d_cons (d_var 7) (d_nil))))) (d_one (d_cmp op_eq s_eq (d_meth0 T.c_AccountFile T.m_AccountFile_means (ok_AccountFile_means T) (hr.mono (by decide)) T.b_AccountFile_means (d_var 0)) (d_call (ok_law_means T) (hr.mono (by decide)) T.g_law_means T.F_law_means.kp T.b_law_means (d_cons (d_var 1) (d_nil)))))))))))))))) (fun ds C Pk h => by
    obtain ⟨q, pm, t, T1, F, k, rfl, ⟨hF, pb, pd, ps, ad, as, hM⟩, hO, qq⟩ := h
    have hF0 := Hid.mk hF
    obtain ⟨fb, fd, fp, fs, fab, fad, fas, hS⟩ := hF
    have h1 := hM.cm
    have h2 := hM.cd
    have h3 := hM.cs
    have m1 := mo_demands pb pd ps F
    have m2 := mo_disputes pb pd ps F
    have m3 := mo_level pb pd ps F
    have c1 := hS.cq
    unfold flFs at c1
    have c2 := hS.cd
    have c3 := hS.cs
    have hsd := hO.sd
    have hss := hO.ss
    refine seq_hide fun E' hE => ?_
    walk_at "dd"
    refine ⟨pm, t, pb, pd, ps, ad, as, F, rfl, hM, hO, ?_⟩
    subst hE
    dsimp only
    refine seq_hide fun E' hE => ?_
    walk_at "dd"
    refine ⟨q, t, "acc", T1, F, rfl, hF0.h, hO, ?_⟩
    have d1 := dat_ints (opF (max 0 (mnF F)) (amF F))
    have e1 := eqb_self d1
    refine ⟨1, by decide, d1, d1, ?_⟩
    walk_at "dd"
    refine ⟨q, t, "acc", T1, F, rfl, hF0.h, hO, ?_⟩
    dsimp only
    refine ⟨_, seqOf_lst, ?_⟩
    walk_at "dd"
    subst hE
    dsimp only
    refine seq_hide fun E' hE => ?_
    clear d1 e1
    walk_at "dd"
    refine lc_rw hS.rd (fun i x => some (dm3 x)) (fun C' hs => hs _ _ hS.cd) (by omega) (fun i a x C2 Q hx hc hs hq => ?_) ?_
    · unfold dmC at hc
      have hl : C2 a = some (dmC A i x) := hc
      replace hl := Hid.mk hl
      clear h1 h2 h3 c1 c2 c3
      walk_at "dd"
      refine ⟨a, i, x, rfl, hl.h, ?_⟩
      exact hq
    rw [fm_all dm3]
    walk_at "dd"
    refine lc_rw hM.rd (fun i x => some (dm3 x)) (fun C' hs => hs _ _ hM.cd) (by omega) (fun i a x C2 Q hx hc hs hq => ?_) ?_
    · unfold mdC at hc
      clear h1 h2 h3 c1 c2 c3
      walk_at "dd"
      all_goals exact hq
    rw [fm_all dm3]
    have d1 := dat_dm3 F.dm
    have e1 := eqb_self d1
    refine ⟨2, by decide, d1, d1, ?_⟩
    walk_at "dd"
    subst hE
    dsimp only
    refine seq_hide fun E' hE => ?_
    clear d1 e1
    walk_at "dd"
    refine lc_rw hS.rd (fun i x => some (.int x.due)) (fun C' hs => hs _ _ hS.cd) (by omega) (fun i a x C2 Q hx hc hs hq => ?_) ?_
    · unfold dmC at hc
      clear h1 h2 h3 c1 c2 c3
      walk_at "dd"
      all_goals exact hq
    rw [fm_all (fun x : Dm => D.int x.due)]
    walk_at "dd"
    refine lc_rw hM.rd (fun i x => some (.int x.due)) (fun C' hs => hs _ _ hM.cd) (by omega) (fun i a x C2 Q hx hc hs hq => ?_) ?_
    · unfold mdC at hc
      clear h1 h2 h3 c1 c2 c3
      walk_at "dd"
      all_goals exact hq
    rw [fm_all (fun x : Dm => D.int x.due), map_ints (fun x : Dm => x.due)]
    have d1 := dat_ints (F.dm.map fun x => x.due)
    have e1 := eqb_self d1
    refine ⟨1, by decide, d1, d1, ?_⟩
    walk_at "dd"
    subst hE
    dsimp only
    refine seq_hide fun E' hE => ?_
    clear d1 e1
    walk_at "dd"
    refine lc_rw hM.rd (fun i x => some (.int x.am)) (fun C' hs => hs _ _ hM.cd) (by omega) (fun i a x C2 Q hx hc hs hq => ?_) ?_
    · unfold mdC at hc
      clear h1 h2 h3 c1 c2 c3
      walk_at "dd"
      all_goals exact hq
    rw [fm_all (fun x : Dm => D.int x.am), map_ints (fun x : Dm => x.am)]
    refine ⟨_, seqOf_lst, ?_⟩
    rw [show (F.dm.map fun x => x.am).sum = (amF F).sum from rfl]
    subst hE
    dsimp only
    refine seq_hide fun E' hE => ?_
    walk_at "dd"
    refine ⟨q, t, "acc", T1, F, rfl, hF0.h, hO, ?_⟩
    walk_at "dd"
    refine ⟨pm, t, pb, pd, ps, ad, as, F, rfl, hM, hO, ?_⟩
    dsimp only
    refine ⟨_, seqOf_lst, ?_⟩
    have hos := op_sum (max 0 (mnF F)) (amF F)
    rw [show mnF F - (alF (max 0 (mnF F)) (amF F)).sum = mnF F - (amF F).sum + (opF (max 0 (mnF F)) (amF F)).sum by omega]
    clear hos
    walk_at "dd"
    refine ⟨q, t, "acc", T1, F, rfl, hF0.h, hO, ?_⟩
    walk_at "dd"
    subst hE
    dsimp only
    refine seq_hide fun E' hE => ?_
    walk_at "dd"
    refine ⟨q, t, "acc", T1, F, k, rfl, hF0.h, hO, ?_⟩
    dsimp only
    refine ⟨pm, t, pb, pd, ps, ad, as, F, k, rfl, hM, hO, ?_⟩
    walk_at "dd"
    subst hE
    dsimp only
    refine seq_hide fun E' hE => ?_
    walk_at "dd"
    refine lc_rw hS.rs (fun i x => some (dp3 x)) (fun C' hs => hs _ _ hS.cs) (by omega) (fun i a x C2 Q hx hc hs hq => ?_) ?_
    · unfold dpC at hc
      unfold dp3 at hq
      clear h1 h2 h3 c1 c2 c3
      walk_at "dd"
      all_goals exact hq
    rw [fm_all dp3]
    subst hE
    dsimp only
    walk_at "dd"
    refine lc_rw hM.rs (fun i x => some (dp3 x)) (fun C' hs => hs _ _ hM.cs) (by omega) (fun i a x C2 Q hx hc hs hq => ?_) ?_
    · unfold mpC at hc
      unfold dp3 at hq
      clear h1 h2 h3 c1 c2 c3
      walk_at "dd"
      all_goals exact hq
    rw [fm_all dp3]
    have d1 := dat_dp3 F.dp
    have e1 := eqb_self d1
    refine ⟨2, by decide, d1, d1, ?_⟩
    walk_at "dd"
    refine ⟨q, t, "acc", T1, F, rfl, hF0.h, hO, ?_⟩
    dsimp only
    refine ⟨pm, t, pb, pd, ps, ad, as, F, rfl, hM, hO, ?_⟩
    clear h1 h2 h3 c1 c2 c3
    walk_at "dd"
    exact ⟨_, Sub.refl _, qq⟩)

def R_AccountFile_pay (A : Ad) : DSpX := fun ds C P _ => ∃ q, ∃ t : Tag, ∃ n T F a k, ds = [.ptr q, .int a, .int k] ∧ FX A C t n q T F ∧ FOk F ∧ 1 ≤ a ∧ ∀ C', FX A C' t n q T { F with pay := F.pay ++ [(a, k)] } → Kp n t t C C' → P .non C'
theorem len_AccountFile_pay (A : Ad) : ∀ ds C P PX, R_AccountFile_pay A ds C P PX → ds.length = 3 := by rintro _ _ _ _ ⟨q, t, n, T, F, a, k, rfl, _⟩; rfl
theorem ok_AccountFile_pay (T : Txt K mg A P w) : FnOk P w K mg base (L2.CX P w) 1 A.a_AccountFile_pay A.d_AccountFile_pay ["self", "amount", "clock"] (spX K (R_AccountFile_pay A)) :=
  ok_DX T.F_AccountFile_pay sc_AccountFile_pay (len_AccountFile_pay A) (fun cdv Ar outer s H E hr tk =>
    ds_cons (ds_if (d_tcmp op_lt s_lt (d_var 1) (d_int))
      (ds_one (ds_raise0 rfl tk T.x_BadAmount T.g_BadAmount (by exact rfl)))
      (ds_nil))
    (ds_one (ds_expr (d_bmL PySem.F.plainAttrs_list PySem.F.slot_list_append PySem.F.type_list_append mt_append s_append (d_fld T.c_AccountFile T.n_AccountFile_payments (d_var 0)) (d_cons (d_tup (d_cons (d_var 1) (d_cons (d_var 2) (d_nil)))) (d_nil)))))) (fun ds C Pk PX h => by
    obtain ⟨q, t, n, T, F, a, k, rfl, hF, hO, ha, hq⟩ := h
    obtain ⟨b, d, p, s, ab, ad, as, hS⟩ := hF
    have h1 := hS.cq
    have h2 := hS.cp
    have hl := hO.sp
    unfold flFs at h1
    refine seq_hide fun E' hE => ?_
    walk_at "dd"
    rw [if_neg (by omega)]
    have nn : ∀ x, (∃ k i, t x = .file n k i ∧ k ≠ 4) → x ≠ p := fun x ⟨k, i, e, hk⟩ => ne_tag (t := t) (by rw [e, hS.tp]; simp [hk])
    have hS2 := hq (cput C p (.lst ((F.pay ++ [(a, k)]).map pyD))) ⟨b, d, p, s, ab, ad, as, ⟨hS.tq, hS.tb, hS.td, hS.tp, hS.ts, (cput_ne (nn _ ⟨_, _, hS.tq, by decide⟩)).trans hS.cq, (cput_ne (nn _ ⟨_, _, hS.tb, by decide⟩)).trans hS.cb, (cput_ne (nn _ ⟨_, _, hS.td, by decide⟩)).trans hS.cd, cput_same, (cput_ne (nn _ ⟨_, _, hS.ts, by decide⟩)).trans hS.cs, hS.rb.put (fun i z => by rw [hS.tp] at z; cases z), hS.rd.put (fun i z => by rw [hS.tp] at z; cases z), hS.rs.put (fun i z => by rw [hS.tp] at z; cases z)⟩⟩ (Kp.put hS.tp)
    simp only [List.map_append, List.map_cons, List.map_nil, pyD] at hS2
    clear hq
    subst hE
    have hpe : F.pay.map pyD = F.pay.map fun e => D.tup [.int e.1, .int e.2] := rfl
    rw [hpe] at h2
    walk_at "dd"
    exact ⟨by omega, _, Sub.refl _, hS2⟩)

def R_AccountFile_bill (A : Ad) : DSpX := fun ds C P PX => ∃ q, ∃ t : Tag, ∃ n T F k, ds = [.ptr q, .int k] ∧ FX A C t n q T F ∧ FOk F ∧ -1000000 ≤ k ∧ k ≤ 1000000 ∧ (∀ x p, 0 ≤ k → F.bl[k.toNat]? = some x → t p = .file n 6 k.toNat → C p = some (blC A k.toNat x) → (∀ b d p' s ab ad as, FS A C t n q b d p' s ab ad as T F → ab[k.toNat]? = some p) → P (.ptr p) C) ∧ (¬ (0 ≤ k ∧ k < F.bl.length) → PX (.ref A.C_NoSuchBill) [] C)
theorem len_AccountFile_bill (A : Ad) : ∀ ds C P PX, R_AccountFile_bill A ds C P PX → ds.length = 2 := by rintro _ _ _ _ ⟨q, t, n, T, F, k, rfl, _⟩; rfl
theorem ok_AccountFile_bill (T : Txt K mg A P w) : FnOk P w K mg base (L2.CX P w) 1 A.a_AccountFile_bill A.d_AccountFile_bill ["self", "number"] (spX K (R_AccountFile_bill A)) :=
  ok_DX T.F_AccountFile_bill sc_AccountFile_bill (len_AccountFile_bill A) (fun cdv Ar outer s H E hr tk =>
    ds_cons (ds_if ((d_or (d_tcmp op_lt s_lt (d_var 1) (d_int)) (d_or1 (d_tcmp op_ge s_ge (d_var 1) (d_callB call_len s_len (by rfl) T.z_len (by decide +kernel) (d_cons (d_fld T.c_AccountFile T.n_AccountFile_bills (d_var 0)) (d_nil)))))).pt)
      (ds_one (ds_raiseI rfl tk T.x_NoSuchBill T.g_NoSuchBill (by exact rfl) (d_var 1)))
      (ds_nil))
    (ds_one (ds_ret (d_ix ix_seq s_ix (d_fld T.c_AccountFile T.n_AccountFile_bills (d_var 0)) (d_var 1))))) (fun ds C Pk PX h => by
    obtain ⟨q, t, n, T, F, k, rfl, hF, hO, hk0, hk1, hq, hx⟩ := h
    obtain ⟨b, d, p, s, ab, ad, as, hS⟩ := hF
    have h1 := hS.cq
    have h2 := hS.cb
    unfold flFs at h1
    have hlen := hS.rb.len
    have hlg : k.natAbs.log2 < 1920 := by
      rcases Nat.eq_zero_or_pos k.natAbs with z | z
      · rw [z]; decide
      · rw [Nat.log2_lt (by omega)]
        exact Nat.lt_of_lt_of_le (show k.natAbs < 2 ^ 20 by omega) (Nat.pow_le_pow_right (by decide) (by decide))
    walk_at "dd"
    by_cases g1 : k < 0
    · rw [if_pos g1]
      exact ⟨_, Sub.refl _, hx (by omega)⟩
    rw [if_neg g1]
    by_cases g2 : (F.bl.length : Int) ≤ k
    · rw [if_pos g2]
      exact ⟨_, Sub.refl _, hx (by omega)⟩
    rw [if_neg g2, atI_at (by omega), List.getElem?_map]
    have hi : ab[k.toNat]? = some (ab[k.toNat]'(by omega)) := List.getElem?_eq_getElem _
    obtain ⟨x, e1, e2, e3⟩ := hS.rb.get hi
    rw [hi]
    exact ⟨_, Sub.refl _, hq x _ (by omega) e1 e2 e3 fun _ _ _ _ _ _ _ g => by rw [hS.det g]; exact hi⟩)

def R_Bill_is_credit (A : Ad) : DSp := fun ds C P => ∃ p i x, ds = [.ptr p] ∧ C p = some (blC A i x) ∧ P (.bl (decide (x.am ≤ 0))) C
theorem len_Bill_is_credit (A : Ad) : ∀ ds C P, R_Bill_is_credit A ds C P → ds.length = 1 := by rintro _ _ _ ⟨p, i, x, rfl, _⟩; rfl
theorem ok_Bill_is_credit (T : Txt K mg A P w) : FnOk P w K mg base CX0 1 A.a_Bill_is_credit A.d_Bill_is_credit ["self"] (spD K (R_Bill_is_credit A)) :=
  ok_D T.F_Bill_is_credit sc_Bill_is_credit (len_Bill_is_credit A) (fun cdv Ar outer s H E hr =>
    ds_one (ds_ret (d_cmp op_le s_le (d_fld T.c_Bill T.n_Bill_amount (d_var 0)) (d_int)))) (fun ds C Pk h => by
    obtain ⟨p, i, x, rfl, hp, q⟩ := h
    unfold blC at hp
    walk_at "dd"
    exact ⟨_, Sub.refl _, q⟩)

def R_Dispute_init (A : Ad) : DSp := fun ds C P => ∃ p a b c d, ds = [.ptr p, a, b, c, d] ∧ C p = some (.ins A.C_Dispute []) ∧ P .non (cput C p (.ins A.C_Dispute [("number", a), ("bill", b), ("amount", c), ("made", d), ("state", .str "waiting")]))
theorem len_Dispute_init (A : Ad) : ∀ ds C P, R_Dispute_init A ds C P → ds.length = 5 := by rintro _ _ _ ⟨p, a, b, c, d, rfl, _⟩; rfl
theorem ok_Dispute_init (T : Txt K mg A P w) : FnOk P w K mg base CX0 1 A.a_Dispute_init A.d_Dispute_init ["self", "number", "bill", "amount", "made"] (spD K (R_Dispute_init A)) :=
  ok_D T.F_Dispute_init sc_Dispute_init (len_Dispute_init A) (fun cdv Ar outer s H E hr =>
    ds_cons (ds_fld T.c_Dispute T.n_Dispute_number (d_var 0) (d_var 1))
    (ds_cons (ds_fld T.c_Dispute T.n_Dispute_bill (d_var 0) (d_var 2))
    (ds_cons (ds_fld T.c_Dispute T.n_Dispute_amount (d_var 0) (d_var 3))
    (ds_cons (ds_fld T.c_Dispute T.n_Dispute_made (d_var 0) (d_var 4))
    (ds_one (ds_fld T.c_Dispute T.n_Dispute_state (d_var 0) (d_kstr T.k_WAITING))))))) (fun ds C Pk h => by
    obtain ⟨p, a, b, c, d, rfl, hp, q⟩ := h
    walk_at "dd"
    exact ⟨by decide, by decide, by decide, by decide, by decide, _, Sub.refl _, q⟩)

def R_granted_of (A : Ad) : DSp := fun ds C P => ∃ s, ∃ t : Tag, ∃ n as xs b, ds = [.ptr s, .int b] ∧ C s = some (.lst (as.map D.ptr)) ∧ Rw C t n 8 (dpC A) as xs ∧ P (.int (heldF xs 1 b)) C
theorem len_granted_of (A : Ad) : ∀ ds C P, R_granted_of A ds C P → ds.length = 2 := by rintro _ _ _ ⟨s, t, n, as, xs, b, rfl, _⟩; rfl
theorem ok_granted_of (T : Txt K mg A P w) : FnOk P w K mg base CX0 2 A.a_granted_of A.d_granted_of ["disputes", "bill"] (spD K (R_granted_of A)) :=
  ok_D T.F_granted_of sc_granted_of (len_granted_of A) (fun cdv Ar outer s H E hr =>
    ds_cons (ds_set 2 sc_granted_of.nd (d_int))
    (ds_consL (ds_for PassesOwn.never rfl (di_list (d_var 0)) (dg_name 3 sc_granted_of.nd)
      (ds_one (ds_if ((d_and (d_tcmp op_eq s_eq (d_fld T.c_Dispute T.n_Dispute_bill (d_var 3)) (d_var 1)) (d_and1 (d_tval (d_meth0 T.c_Dispute T.m_Dispute_is_granted (ok_Dispute_is_granted T) (hr.mono (by decide)) T.b_Dispute_is_granted (d_var 3))))).pt)
        (ds_one (ds_set 2 sc_granted_of.nd (d_op op_add s_add (d_var 2) (d_fld T.c_Dispute T.n_Dispute_amount (d_var 3)))))
        (ds_nil))))
    (ds_one (ds_ret (d_var 2))))) (fun ds C Pk h => by
    obtain ⟨s, t, n, as, xs, b, rfl, hs, hR, q⟩ := h
    refine seq_hide fun E' hE => ?_
    walk_at "dd"
    subst hE
    dsimp only
    refine seq_hide fun E' hE => ?_
    walk_at "dd"
    refine for_mapS (L := as) (enc := D.ptr) (st := fun C' => C' s = some (.lst (as.map D.ptr))) (fun j ρ' C' => (∃ o3, ρ' = [some (.ptr s), some (.int b), some (.int (heldF (xs.take j) 1 b)), o3]) ∧ C' = C) ⟨⟨_, rfl⟩, rfl⟩ (fun k ρ' C' h => by rw [h.2]; exact hs) ?_ ?_
    · rintro j a ρ' C' hj ⟨⟨o3, rfl⟩, rfl⟩
      obtain ⟨x, hx, _, hc⟩ := hR.get hj
      have e1 : heldF (xs.take (j + 1)) 1 b = heldF (xs.take j) 1 b + if x.bill = b ∧ x.st = 1 then x.am else 0 := by
        unfold heldF
        rw [take_snoc hx, List.filter_append, List.map_append, List.sum_append]
        by_cases g : x.bill = b ∧ x.st = 1 <;> simp [g]
      rw [e1]
      have hcc := hc
      unfold dpC at hcc
      clear hc e1
      generalize heldF (xs.take j) 1 b = tot
      by_cases g1 : x.bill = b
      · walk_at "dd"
        refine ⟨a, j, x, rfl, hcc, ?_⟩
        by_cases g2 : x.st = 1
        · rw [if_pos g2, decide_eq_true g2]
          walk_at "dd"
          exact ⟨_, rfl⟩
        · rw [if_neg g2, decide_eq_false g2, Int.add_zero]
          walk_at "dd"
          exact ⟨_, rfl⟩
      · rw [if_neg (fun z => g1 z.1), Int.add_zero]
        walk_at "dd"
        exact ⟨_, rfl⟩
    · rintro ρ' C' ⟨⟨o3, rfl⟩, rfl⟩
      rw [List.take_of_length_le (by rw [hR.len]; exact Nat.le_refl _)]
      subst hE
      walk_at "dd"
      exact ⟨_, Sub.refl _, q⟩)

def R_can_be_disputed (A : Ad) : DSp := fun ds C P => ∃ s, ∃ t : Tag, ∃ n as xs b a, ds = [.ptr s, .int b, .int a] ∧ C s = some (.lst (as.map D.ptr)) ∧ Rw C t n 8 (dpC A) as xs ∧ P (.int (a - heldF xs 0 b - heldF xs 1 b)) C
theorem len_can_be_disputed (A : Ad) : ∀ ds C P, R_can_be_disputed A ds C P → ds.length = 3 := by rintro _ _ _ ⟨s, t, n, as, xs, b, a, rfl, _⟩; rfl
theorem ok_can_be_disputed (T : Txt K mg A P w) : FnOk P w K mg base CX0 3 A.a_can_be_disputed A.d_can_be_disputed ["disputes", "bill", "amount"] (spD K (R_can_be_disputed A)) :=
  ok_D T.F_can_be_disputed sc_can_be_disputed (len_can_be_disputed A) (fun cdv Ar outer s H E hr =>
    ds_one (ds_ret (d_op op_sub s_sub (d_op op_sub s_sub (d_var 2) (d_call (ok_held_of T) (hr.mono (by decide)) T.g_held_of T.F_held_of.kp T.b_held_of (d_cons (d_var 0) (d_cons (d_var 1) (d_nil))))) (d_call (ok_granted_of T) (hr.mono (by decide)) T.g_granted_of T.F_granted_of.kp T.b_granted_of (d_cons (d_var 0) (d_cons (d_var 1) (d_nil))))))) (fun ds C Pk h => by
    obtain ⟨s, t, n, as, xs, b, a, rfl, hs, hR, q⟩ := h
    walk_at "dd"
    refine ⟨s, t, n, as, xs, b, rfl, hs, hR, ?_⟩
    walk_at "dd"
    refine ⟨s, t, n, as, xs, b, rfl, hs, hR, ?_⟩
    walk_at "dd"
    exact ⟨_, Sub.refl _, q⟩)

def R_AccountFile_dispute (A : Ad) : DSpX := fun ds C P PX => ∃ q, ∃ t : Tag, ∃ n T F b a k, ds = [.ptr q, .int b, .int a, .int k] ∧ FX A C t n q T F ∧ FOk F ∧ 0 ≤ b ∧ b ≤ 1000000 ∧ F.dp.length ≤ 900 ∧ (rfN F b a = 0 → ∀ (t' : Tag) (C' : Cells) r, FX A C' t' n q T (dsF F b a k) → FOk (dsF F b a k) → Kp n t t' C C' → P r C') ∧ (rfN F b a = 1 → PX (.ref A.C_NoSuchBill) [] C) ∧ (rfN F b a = 2 → PX (.ref A.C_NotInDispute) [] C) ∧ (rfN F b a = 3 → PX (.ref A.C_BadAmount) [] C)
theorem len_AccountFile_dispute (A : Ad) : ∀ ds C P PX, R_AccountFile_dispute A ds C P PX → ds.length = 4 := by rintro _ _ _ _ ⟨q, t, n, T, F, b, a, k, rfl, _⟩; rfl
theorem ok_AccountFile_dispute (T : Txt K mg A P w) : FnOk P w K mg base (L2.CX P w) 4 A.a_AccountFile_dispute A.d_AccountFile_dispute ["self", "number", "amount", "clock"] (spX K (R_AccountFile_dispute A)) :=
  ok_DX T.F_AccountFile_dispute sc_AccountFile_dispute (len_AccountFile_dispute A) (fun cdv Ar outer s H E hr tk =>
    ds_consL (ds_set 4 sc_AccountFile_dispute.nd (d_methX tk T.c_AccountFile T.m_AccountFile_bill (ok_AccountFile_bill T) (hr.mono (by decide)) T.b_AccountFile_bill (d_var 0) (d_cons (d_var 1) (d_nil))))
    (ds_consL (ds_if (d_tval (d_meth0 T.c_Bill T.m_Bill_is_credit (ok_Bill_is_credit T) (hr.mono (by decide)) T.b_Bill_is_credit (d_var 4)))
      (ds_one (ds_raise0 rfl tk T.x_NotInDispute T.g_NotInDispute (by exact rfl)))
      (ds_nil))
    (ds_consL (ds_if ((d_or (d_tcmp op_lt s_lt (d_var 2) (d_int)) (d_or1 (d_tcmp op_gt s_gt (d_var 2) (d_call (ok_can_be_disputed T) (hr.mono (by decide)) T.g_can_be_disputed T.F_can_be_disputed.kp T.b_can_be_disputed (d_cons (d_fld T.c_AccountFile T.n_AccountFile_disputes (d_var 0)) (d_cons (d_var 1) (d_cons (d_fld T.c_Bill T.n_Bill_amount (d_var 4)) (d_nil)))))))).pt)
      (ds_one (ds_raise0 rfl tk T.x_BadAmount T.g_BadAmount (by exact rfl)))
      (ds_nil))
    (ds_consL (ds_expr (d_bmL PySem.F.plainAttrs_list PySem.F.slot_list_append PySem.F.type_list_append mt_append s_append (d_fld T.c_AccountFile T.n_AccountFile_disputes (d_var 0)) (d_cons (d_make T.m_Dispute_init (ok_Dispute_init T) (hr.mono (by decide)) T.g_Dispute T.b_Dispute_init (d_cons (d_callB call_len s_len (by rfl) T.z_len (by decide +kernel) (d_cons (d_fld T.c_AccountFile T.n_AccountFile_disputes (d_var 0)) (d_nil))) (d_cons (d_var 1) (d_cons (d_var 2) (d_cons (d_var 3) (d_nil)))))) (d_nil))))
    (ds_one (ds_ret (d_op op_sub s_sub (d_callB call_len s_len (by rfl) T.z_len (by decide +kernel) (d_cons (d_fld T.c_AccountFile T.n_AccountFile_disputes (d_var 0)) (d_nil))) (d_int)))))))) (fun ds C Pk PX h => by
    obtain ⟨q, t, n, T, F, b, a, k, rfl, hF, hO, hb0, hb1, hl, hq, hx1, hx2, hx3⟩ := h
    unfold rfN at hq hx1 hx2 hx3
    have hF0 := hF
    obtain ⟨bb, d, p, s, ab, ad, as, hS⟩ := hF
    have h1 := hS.cq
    have h4 := hS.cs
    unfold flFs at h1
    refine seq_hide fun E' hE => ?_
    replace hq := Hid.mk hq
    replace hx1 := Hid.mk hx1
    replace hx2 := Hid.mk hx2
    replace hx3 := Hid.mk hx3
    walk_at "dd"
    refine ⟨q, t, n, T, F, b, rfl, hF0, hO, by omega, hb1, fun x y hb2 hxx ty hcy _ => ?_, fun hno => ?_⟩
    · subst hE
      dsimp only
      refine seq_hide fun E' hE => ?_
      have hcy2 := hcy
      unfold blC at hcy2
      clear hcy
      replace hq := hq.h
      replace hx2 := hx2.h
      replace hx3 := hx3.h
      rw [hxx] at hq hx2 hx3
      dsimp only at hq hx2 hx3
      replace hq := Hid.mk hq
      replace hx2 := Hid.mk hx2
      replace hx3 := Hid.mk hx3
      walk_at "dd"
      refine ⟨y, b.toNat, x, rfl, hcy2, ?_⟩
      by_cases g0 : x.am ≤ 0
      · rw [decide_eq_true g0]
        subst hE
        exact ⟨_, Sub.refl _, hx2.h (if_pos g0)⟩
      rw [decide_eq_false g0]
      subst hE
      dsimp only
      simp only [Bool.false_eq_true, if_false]
      refine seq_hide fun E' hE => ?_
      walk_at "dd"
      by_cases g1 : a < 1
      · rw [if_pos g1]
        subst hE
        exact ⟨_, Sub.refl _, hx3.h (by rw [if_neg g0, if_pos (.inl g1)])⟩
      rw [if_neg g1]
      refine ⟨s, t, n, as, F.dp, b, x.am, rfl, h4, hS.rs, ?_⟩
      walk_at "dd"
      by_cases g2 : x.am - heldF F.dp 0 b - heldF F.dp 1 b < a
      · rw [if_pos g2]
        subst hE
        exact ⟨_, Sub.refl _, hx3.h (by rw [if_neg g0, if_pos (.inr g2)])⟩
      rw [if_neg g2]
      clear hcy2
      have hdln : as.length = F.dp.length := hS.rs.len
      have hok2 : FOk (dsF F b a k) := ⟨hO.sb, hO.sd, hO.sp, by unfold dsF; rw [List.length_append]; simp; omega, hO.db, fun z hz => by
        rcases List.mem_append.mp hz with hz | hz
        · exact hO.dd z hz
        · simp only [List.mem_cons, List.not_mem_nil, or_false] at hz
          rw [hz]
          exact ⟨hb2, x, hxx, by omega⟩⟩
      subst hE
      dsimp only
      refine seq_hide fun E' hE => ?_
      walk_at "dd"
      intro y hy
      refine ⟨y, _, _, _, _, rfl, cput_same, rfl, ?_⟩
      rw [cput_cput]
      have hS3 := hS.add_dp hy ⟨b, a, k, 0⟩
      have hK3 := hS.kp_dp hy (dpC A F.dp.length ⟨b, a, k, 0⟩) (.lst ((as ++ [y]).map D.ptr)) (.file n 8 F.dp.length)
      have nsy : s ≠ y := cell_ne h4 hy
      have nqy : q ≠ y := cell_ne h1 hy
      have fin := fun r => hq.h (by rw [if_neg g0, if_neg (fun z => z.elim g1 g2)]) _ _ r ⟨bb, d, p, s, _, _, _, hS3⟩ hok2 hK3
      have hde : Cell.ins A.C_Dispute [("number", .int (F.dp.length : Int)), ("bill", .int b), ("amount", .int a), ("made", .int k), ("state", .str (Str.ofString "waiting"))] = dpC A F.dp.length ⟨b, a, k, 0⟩ := rfl
      rw [hde, cput_ne nsy, h4]
      have c1 := hS3.cq
      have c2 := hS3.cs
      unfold flFs at c1
      simp only [List.map_append, List.map_cons, List.map_nil] at fin c1 c2 ⊢
      refine ⟨by rw [List.length_map, hdln]; omega, ?_⟩
      clear h1 h4 hde hq hx1 hx2 hx3
      subst hE
      walk_at "dd"
      exact ⟨_, Sub.refl _, fin _⟩
    · subst hE
      refine ⟨_, Sub.refl _, hx1.h ?_⟩
      have e : F.bl[b.toNat]? = none := List.getElem?_eq_none (by omega)
      rw [e])

def R_law_kind (A : Ad) (K : PySem.W.Frag) : RExc := fun D P C => ∃ b1 b2 b3 b4 b5, PySem.W.kitOne K (.ref D) (.ref A.C_NoSuchBill) = some b1 ∧ PySem.W.kitOne K (.ref D) (.ref A.C_NoSuchDispute) = some b2 ∧ PySem.W.kitOne K (.ref D) (.ref A.C_NotInDispute) = some b3 ∧ PySem.W.kitOne K (.ref D) (.ref A.C_BadAmount) = some b4 ∧ PySem.W.kitOne K (.ref D) (.ref A.C_IsDecided) = some b5 ∧ P (kiD b1 b2 b3 b4 b5) C
theorem ok_law_kind (T : Txt K mg A P w) : FnE P w K mg base 1 A.a_law_kind A.d_law_kind "found" (R_law_kind A K) :=
  ok_E T.F_law_kind sc_law_kind (fun cdv Ar outer s H E a D oe hr hD hz hf =>
    ds_cons (ds_set 1 sc_law_kind.nd (d_orV (d_callB (cr_isE (a := a) (D := D) (oe := oe) List.mem_cons_self hD hz hf) (s_isE (K := K) (D := D) (a := a)) (by rfl) T.z_isinstance (by decide +kernel) (d_cons (d_var 0) (d_cons (d_fnV T.g_NoSuchBill) (d_nil)))) (d_one (d_callB (cr_isE (a := a) (D := D) (oe := oe) List.mem_cons_self hD hz hf) (s_isE (K := K) (D := D) (a := a)) (by rfl) T.z_isinstance (by decide +kernel) (d_cons (d_var 0) (d_cons (d_fnV T.g_NoSuchDispute) (d_nil)))))))
    (ds_one (ds_ret (d_tup (d_cons (d_var 1) (d_cons (d_callB (cr_isE (a := a) (D := D) (oe := oe) List.mem_cons_self hD hz hf) (s_isE (K := K) (D := D) (a := a)) (by rfl) T.z_isinstance (by decide +kernel) (d_cons (d_var 0) (d_cons (d_fnV T.g_NotInDispute) (d_nil)))) (d_cons (d_callB (cr_isE (a := a) (D := D) (oe := oe) List.mem_cons_self hD hz hf) (s_isE (K := K) (D := D) (a := a)) (by rfl) T.z_isinstance (by decide +kernel) (d_cons (d_var 0) (d_cons (d_fnV T.g_BadAmount) (d_nil)))) (d_cons (d_callB (cr_isE (a := a) (D := D) (oe := oe) List.mem_cons_self hD hz hf) (s_isE (K := K) (D := D) (a := a)) (by rfl) T.z_isinstance (by decide +kernel) (d_cons (d_var 0) (d_cons (d_fnV T.g_IsDecided) (d_nil)))) (d_nil))))))))) (fun D a C Pk h => by
    obtain ⟨b1, b2, b3, b4, b5, k1, k2, k3, k4, k5, q⟩ := h
    unfold kiD at q
    cases b1
    · walk_at "dd"
      exact ⟨_, rfl, _, rfl, _, rfl, _, rfl, _, rfl, _, Sub.refl _, q⟩
    · walk_at "dd"
      exact ⟨_, rfl, _, rfl, _, rfl, _, rfl, _, Sub.refl _, q⟩)

def R_law_disputes (A : Ad) : DSp := fun ds C P => ∃ q, ∃ t : Tag, ∃ T F b a k, ds = [.ptr q, .int b, .int a, .int k] ∧ FX A C t "acc" q T F ∧ FOk F ∧ 0 ≤ b ∧ b ≤ 1000000 ∧ F.dp.length ≤ 900 ∧ (rfN F b a = 0 → ∀ (t' : Tag) (C' : Cells), FX A C' t' "acc" q T (dsF F b a k) → FOk (dsF F b a k) → Kp "acc" t t' C C' → P .non C') ∧ (rfN F b a = 1 → P (.tup [.bl true, .bl false, .bl false, .bl false]) C) ∧ (rfN F b a = 2 → P (.tup [.bl false, .bl true, .bl false, .bl false]) C) ∧ (rfN F b a = 3 → P (.tup [.bl false, .bl false, .bl true, .bl false]) C)
theorem len_law_disputes (A : Ad) : ∀ ds C P, R_law_disputes A ds C P → ds.length = 4 := by rintro _ _ _ ⟨q, t, T, F, b, a, k, rfl, _⟩; rfl
theorem ok_law_disputes (T : Txt K mg A P w) : FnOk P w K mg base CX0 5 A.a_law_disputes A.d_law_disputes ["account", "number", "amount", "clock"] (spD K (R_law_disputes A)) :=
  ok_D T.F_law_disputes sc_law_disputes (len_law_disputes A) (fun cdv Ar outer s H E hr =>
    ds_consL (ds_tryF 4 rfl rfl sc_law_disputes.nd rfl rfl T.g_LineError takes0 (fun Wt pn xe tkt pot =>
      ds_one (ds_expr (d_methX tkt T.c_AccountFile T.m_AccountFile_dispute (ok_AccountFile_dispute T) (hr.mono (by decide)) T.b_AccountFile_dispute (d_var 0) (d_cons (d_var 1) (d_cons (d_var 2) (d_cons (d_var 3) (d_nil))))))) (ok_law_kind T) (hr.mono (by decide)) T.g_law_kind T.F_law_kind.kp T.b_law_kind)
    (ds_one (ds_ret (d_non)))) (fun ds C Pk h => by
    obtain ⟨q, t, T1, F, b, a, k, rfl, hF, hO, hb0, hb1, hl, hq, hx1, hx2, hx3⟩ := h
    have hq := Hid.mk hq
    replace hx1 := Hid.mk hx1
    replace hx2 := Hid.mk hx2
    replace hx3 := Hid.mk hx3
    have hF0 := Hid.mk hF
    obtain ⟨_, _, _, _, _, _, _, hS⟩ := hF
    have h1 := hS.cq
    unfold flFs at h1
    clear hS
    refine seq_hide fun E' hE => ?_
    walk_at "dd"
    refine ⟨q, t, "acc", T1, F, b, a, k, rfl, hF0.h, hO, hb0, hb1, hl, fun hn t' C' r hF' hO' hK' => ?_, fun hc => ?_, fun hc => ?_, fun hc => ?_⟩
    · subst hE
      clear h1
      walk_at "dd"
      exact ⟨_, Sub.refl _, hq.h hn t' C' hF' hO' hK'⟩
    · subst hE
      exact ⟨true, T.e_NoSuchBill_LineError, fun _ => ⟨_, rfl, rfl, T.xc_NoSuchBill, by decide, true, false, false, false, false, T.ki_NoSuchBill_NoSuchBill, T.ki_NoSuchBill_NoSuchDispute, T.ki_NoSuchBill_NotInDispute, T.ki_NoSuchBill_BadAmount, T.ki_NoSuchBill_IsDecided, _, Sub.refl _, hx1.h hc⟩, fun z => by cases z⟩
    · subst hE
      exact ⟨true, T.e_NotInDispute_LineError, fun _ => ⟨_, rfl, rfl, T.xc_NotInDispute, by decide, false, false, true, false, false, T.ki_NotInDispute_NoSuchBill, T.ki_NotInDispute_NoSuchDispute, T.ki_NotInDispute_NotInDispute, T.ki_NotInDispute_BadAmount, T.ki_NotInDispute_IsDecided, _, Sub.refl _, hx2.h hc⟩, fun z => by cases z⟩
    · subst hE
      exact ⟨true, T.e_BadAmount_LineError, fun _ => ⟨_, rfl, rfl, T.xc_BadAmount, by decide, false, false, false, true, false, T.ki_BadAmount_NoSuchBill, T.ki_BadAmount_NoSuchDispute, T.ki_BadAmount_NotInDispute, T.ki_BadAmount_BadAmount, T.ki_BadAmount_IsDecided, _, Sub.refl _, hx3.h hc⟩, fun z => by cases z⟩)

def R_law_spread (A : Ad) : DSp := fun ds C P => ∃ pm, ∃ t : Tag, ∃ pb pd ps ad as F b, ds = [.ptr pm, .int b] ∧ MS C t pm pb pd ps ad as F ∧ FOk F ∧ P (.int (heldF F.dp 0 b + heldF F.dp 1 b)) C
theorem len_law_spread (A : Ad) : ∀ ds C P, R_law_spread A ds C P → ds.length = 2 := by rintro _ _ _ ⟨pm, t, pb, pd, ps, ad, as, F, b, rfl, _⟩; rfl
theorem ok_law_spread (T : Txt K mg A P w) : FnOk P w K mg base CX0 1 A.a_law_spread A.d_law_spread ["model", "number"] (spD K (R_law_spread A)) :=
  ok_D T.F_law_spread sc_law_spread (len_law_spread A) (fun cdv Ar outer s H E hr =>
    ds_one (ds_ret (d_callB (cr_sum rfl) s_sum (by rfl) T.z_sum (by decide +kernel) (d_cons (d_lc rfl sc_law_spread.nd (di_list (d_dget hr (d_var 0) (d_str))) (blkOk_by (own := [("row", 2)]) (N := ["model", "number", "row"]) (sc := defScope s_law_spread) (by decide +kernel)) (by decide) (fun _ _ _ _ _ => dg_name 2 sc_law_spread.nd) (fun _ _ _ _ _ => dts_one ((d_and (d_tcmp op_eq s_eq (d_ix ix_seq s_ix (d_var 2) (d_int)) (d_var 1)) (d_and1 (d_tcmp op_ne s_ne (d_ix ix_seq s_ix (d_var 2) (d_int)) (d_str)))).pt)) (fun _ _ _ _ _ => d_ix ix_seq s_ix (d_var 2) (d_int))) (d_nil))))) (fun ds C Pk h => by
    obtain ⟨pm, t, pb, pd, ps, ad, as, F, b, rfl, hM, hO, q⟩ := h
    have h1 := hM.cm
    have h3 := hM.cs
    have m2 := mo_disputes pb pd ps F
    have hss := hO.ss
    walk_at "dd"
    refine lc_rw hM.rs (fun i y => if (decide (y.bill = b) && !(decide (2 ≤ y.st))) = true then some (.int y.am) else none) (fun C' hs => hs _ _ hM.cs) (by omega) (fun i a y C2 Q hy hcb hs hq => ?_) ?_
    · unfold mpC at hcb
      have hk := st_re y.st
      clear h1 h3
      walk_at "dd"
      by_cases g1 : y.bill = b
      · simp only [g1, decide_true, Bool.true_and] at hq
        rw [if_pos g1]
        by_cases g2 : (!decide (2 ≤ y.st)) = true
        · rw [if_pos g2] at hq ⊢; exact hq
        · rw [if_neg g2] at hq ⊢; exact hq
      · simp only [g1, decide_false, Bool.false_and, Bool.false_eq_true, if_false] at hq
        rw [if_neg g1]; exact hq
    have hz : (F.dp.zipIdx.filterMap fun e => if (decide (e.1.bill = b) && !(decide (2 ≤ e.1.st))) = true then some (D.int e.1.am) else none) = ((F.dp.filter fun y => decide (y.bill = b) && !(decide (2 ≤ y.st))).map fun y => y.am).map D.int := by
      rw [zix_fm (fun y : Dp => if (decide (y.bill = b) && !(decide (2 ≤ y.st))) = true then some (D.int y.am) else none), fmf (fun y : Dp => decide (y.bill = b) && !(decide (2 ≤ y.st))), List.map_map]; rfl
    rw [hz]
    refine ⟨_, seqOf_lst, _, Sub.refl _, ?_⟩
    rw [spr_sum]; exact q)

def R_law_dispute (A : Ad) : DSp := fun ds C P => ∃ q pm, ∃ t : Tag, ∃ T F st s k, ds = [.ptr q, .ptr pm, .ptr st, .int k] ∧ SS A C t q pm T F ∧ Ok F ∧ Sm F ∧ C st = some (.lst [.int s]) ∧ t st = .law 7 ∧ 0 ≤ s ∧ ∀ (t' : Tag) (C' : Cells) F' s', SS A C' t' q pm T F' → Ok F' → Gr F F' → C' st = some (.lst [.int s']) → t' st = .law 7 → 0 ≤ s' → P (.bl true) C'
theorem len_law_dispute (A : Ad) : ∀ ds C P, R_law_dispute A ds C P → ds.length = 4 := by rintro _ _ _ ⟨q, pm, t, T, F, st, s, k, rfl, _⟩; rfl
theorem ok_law_dispute (T : Txt K mg A P w) : FnOk P w K mg base CX0 6 A.a_law_dispute A.d_law_dispute ["account", "model", "state", "clock"] (spD K (R_law_dispute A)) :=
  ok_D T.F_law_dispute sc_law_dispute (len_law_dispute A) (fun cdv Ar outer s H E hr =>
    ds_consL (ds_set 4 sc_law_dispute.nd (d_call (ok_law_digit T) (hr.mono (by decide)) T.g_law_digit T.F_law_digit.kp T.b_law_digit (d_cons (d_var 2) (d_cons (d_int) (d_nil)))))
    (ds_consL (ds_set 5 sc_law_dispute.nd (d_call (ok_law_digit T) (hr.mono (by decide)) T.g_law_digit T.F_law_digit.kp T.b_law_digit (d_cons (d_var 2) (d_cons (d_int) (d_nil)))))
    (ds_cons (ds_set 6 sc_law_dispute.nd (d_non))
    (ds_consL (ds_if (d_tcmp op_ge s_ge (d_var 4) (d_callB call_len s_len (by rfl) T.z_len (by decide +kernel) (d_cons (d_dget hr (d_var 1) (d_str)) (d_nil))))
      (ds_one (ds_set 6 sc_law_dispute.nd (d_tup (d_cons (d_bl) (d_cons (d_bl) (d_cons (d_bl) (d_cons (d_bl) (d_nil))))))))
      (ds_one (ds_if (d_tcmp op_le s_le (d_ix ix_seq s_ix (d_ix ix_seq s_ix (d_dget hr (d_var 1) (d_str)) (d_var 4)) (d_int)) (d_int))
        (ds_one (ds_set 6 sc_law_dispute.nd (d_tup (d_cons (d_bl) (d_cons (d_bl) (d_cons (d_bl) (d_cons (d_bl) (d_nil))))))))
        (ds_one (ds_if ((d_or (d_tcmp op_lt s_lt (d_var 5) (d_int)) (d_or1 (d_tcmp op_gt s_gt (d_var 5) (d_op op_sub s_sub (d_ix ix_seq s_ix (d_ix ix_seq s_ix (d_dget hr (d_var 1) (d_str)) (d_var 4)) (d_int)) (d_call (ok_law_spread T) (hr.mono (by decide)) T.g_law_spread T.F_law_spread.kp T.b_law_spread (d_cons (d_var 1) (d_cons (d_var 4) (d_nil)))))))).pt)
          (ds_one (ds_set 6 sc_law_dispute.nd (d_tup (d_cons (d_bl) (d_cons (d_bl) (d_cons (d_bl) (d_cons (d_bl) (d_nil))))))))
          (ds_nil))))))
    (ds_consL (ds_if (d_tcmp (op_neD hr.units) s_neD (d_call (ok_law_disputes T) (hr.mono (by decide)) T.g_law_disputes T.F_law_disputes.kp T.b_law_disputes (d_cons (d_var 0) (d_cons (d_var 4) (d_cons (d_var 5) (d_cons (d_var 3) (d_nil)))))) (d_var 6))
      (ds_one (ds_ret (d_bl)))
      (ds_nil))
    (ds_consL (ds_if (d_tcmp op_isN s_isN (d_var 6) (d_non))
      (ds_one (ds_expr (d_bmL PySem.F.plainAttrs_list PySem.F.slot_list_append PySem.F.type_list_append mt_append s_append (d_dget hr (d_var 1) (d_str)) (d_cons (d_lstC (d_cons (d_var 4) (d_cons (d_var 5) (d_cons (d_str) (d_nil))))) (d_nil)))))
      (ds_nil))
    (ds_one (ds_ret (d_bl))))))))) (fun ds C Pk h => by
    obtain ⟨q, pm, t, T1, F, st, s, k, rfl, ⟨hF, pb, pd, ps, ad, as, hM⟩, hO, hSm, hst, tst, hs, qq⟩ := h
    refine seq_hide fun E' hE => ?_
    walk_at "dd"
    refine ⟨st, s, 6, rfl, hst, hs, by decide, by decide, fun d1 s1 hd0 hd1 hs1 => ?_⟩
    subst hE
    dsimp only
    refine seq_hide fun E' hE => ?_
    walk_at "dd"
    refine ⟨st, s1, 30, rfl, cput_same, hs1, by decide, by decide, fun d2 s2 he0 he1 hs2 => ?_⟩
    rw [cput_cput]
    have hF2 : FX A (cput C st (.lst [.int s2])) t "acc" q T1 F := hF.mono fun k' i a d ta hd => ⟨(cput_ne (ne_tag (t := t) (by rw [ta, tst]; simp))).trans hd, rfl⟩
    have hM2 := hM.put7 tst (.lst [.int s2])
    have hst2 : cput C st (.lst [.int s2]) st = some (.lst [.int s2]) := cput_same
    generalize cput C st (.lst [.int s2]) = C2 at *
    clear hF hM hst
    subst hE
    dsimp only
    refine seq_hide fun E' hE => ?_
    have h1 := hM2.cm
    have h2 := hM2.cb
    have h3 := hM2.cs
    have m1 := mo_bills pb pd ps F
    have m2 := mo_disputes pb pd ps F
    walk_at "dd"
    subst hE
    dsimp only
    refine seq_hide fun E' hE => ?_
    have hzl : F.bl.zipIdx.length = F.bl.length := List.length_zipIdx
    have hb2 := hSm.b
    have hs3 := hSm.s
    have tail : ∀ due : D, (rfN F d1 d2 = 0 ∧ due = .non) ∨ (rfN F d1 d2 = 1 ∧ due = .tup [.bl true, .bl false, .bl false, .bl false]) ∨ (rfN F d1 d2 = 2 ∧ due = .tup [.bl false, .bl true, .bl false, .bl false]) ∨ (rfN F d1 d2 = 3 ∧ due = .tup [.bl false, .bl false, .bl true, .bl false]) → E'.nx [some (.ptr q), some (.ptr pm), some (.ptr st), some (.int k), some (.int d1), some (.int d2), some due] C2 := by
      intro due hdue
      subst hE
      dsimp only
      refine seq_hide fun E' hE => ?_
      clear h1 h2 h3 m1
      walk_at "dd"
      have h4 : ∀ b1 b2 b3 b4, Dat 1 (.tup [.bl b1, .bl b2, .bl b3, .bl b4]) := fun b1 b2 b3 b4 => .tup fun d hd => by
        simp only [List.mem_cons, List.not_mem_nil, or_false] at hd
        rcases hd with rfl | rfl | rfl | rfl <;> exact .bl _
      have ret : ∀ ds : List D, E'.nx [some (.ptr q), some (.ptr pm), some (.ptr st), some (.int k), some (.int d1), some (.int d2), some (.tup ds)] C2 := fun ds => by
        subst hE
        dsimp only
        refine seq_hide fun E' hE => ?_
        walk_at "dd"
        subst hE
        walk_at "dd"
        exact ⟨_, Sub.refl _, qq t C2 F s2 ⟨hF2, pb, pd, ps, ad, as, hM2⟩ hO (Gr.refl F) hst2 tst hs2⟩
      refine ⟨q, t, T1, F, d1, d2, k, rfl, hF2, hO.f, hd0, by omega, by omega, fun hn t' C' hF3 hO3 hK3 => ?_, fun hn => ?_, fun hn => ?_, fun hn => ?_⟩
      · have hd : due = .non := by
          rcases hdue with ⟨_, h⟩ | ⟨h, _⟩ | ⟨h, _⟩ | ⟨h, _⟩
          · exact h
          all_goals (rw [hn] at h; cases h)
        subst hd
        refine ⟨1, by decide, .non, .non, ?_⟩
        have e := eqb_self (n := 1) (d := .non) .non
        have hM3 := hM2.mono fun a c hc hn => hK3 a c hc hn
        obtain ⟨f1, f2⟩ := hK3 st _ hst2 (fun k i z => by rw [tst] at z; cases z)
        have f3 := f2.trans tst
        clear ret hst2 hM2 hF2 hK3
        have h1 := hM3.cm
        have h3 := hM3.cs
        have hasl := hM3.rs.len
        show (if (!(D.eqb .non .non)) = true then _ else _)
        rw [e]
        simp only [Bool.not_true, Bool.false_eq_true, if_false]
        clear e
        subst hE
        dsimp only
        refine seq_hide fun E' hE => ?_
        walk_at "dd"
        intro x hx
        obtain ⟨hM4, hK4⟩ := hM3.add_dp hx ⟨d1, d2, k, 0⟩
        have npx : ps ≠ x := cell_ne h3 hx
        rw [cput_ne npx, h3]
        dsimp only
        rw [List.map_append] at hM4 hK4
        refine ⟨by rw [List.length_map, hasl]; omega, ?_⟩
        obtain ⟨g1, g2⟩ := hK4 st _ f1 (fun k i z => by rw [f3] at z; cases z) (fun k z => by rw [f3] at z; injection z with z; omega)
        have hF4 := hF3.km hK4
        have fin := qq _ _ (dsF F d1 d2 k) s2 ⟨hF4, pb, pd, ps, ad, as ++ [x], hM4⟩ ⟨hO3, hO.di⟩ ⟨Nat.le_succ _, Nat.le_succ _, Nat.le_succ _, by unfold dsF; rw [List.length_append]; exact Nat.le_refl _⟩ g1 (g2.trans f3) hs2
        replace fin := Hid.mk fin
        subst hE
        clear h1 h3 hM3 hM4 hK4 hF4 g1 f1
        walk_at "dd"
        exact ⟨_, Sub.refl _, fin.h⟩
      · have hd : due = .tup [.bl true, .bl false, .bl false, .bl false] := by
          rcases hdue with ⟨h, _⟩ | ⟨_, h⟩ | ⟨h, _⟩ | ⟨h, _⟩
          · rw [hn] at h; cases h
          · exact h
          all_goals (rw [hn] at h; cases h)
        subst hd
        refine ⟨1, by decide, h4 _ _ _ _, h4 _ _ _ _, ?_⟩
        have e := eqb_self (h4 true false false false)
        rw [res_tup, e]
        exact ret _
      · have hd : due = .tup [.bl false, .bl true, .bl false, .bl false] := by
          rcases hdue with ⟨h, _⟩ | ⟨h, _⟩ | ⟨_, h⟩ | ⟨h, _⟩
          · rw [hn] at h; cases h
          · rw [hn] at h; cases h
          · exact h
          · rw [hn] at h; cases h
        subst hd
        refine ⟨1, by decide, h4 _ _ _ _, h4 _ _ _ _, ?_⟩
        have e := eqb_self (h4 false true false false)
        rw [res_tup, e]
        exact ret _
      · have hd : due = .tup [.bl false, .bl false, .bl true, .bl false] := by
          rcases hdue with ⟨h, _⟩ | ⟨h, _⟩ | ⟨h, _⟩ | ⟨_, h⟩
          · rw [hn] at h; cases h
          · rw [hn] at h; cases h
          · rw [hn] at h; cases h
          · exact h
        subst hd
        refine ⟨1, by decide, h4 _ _ _ _, h4 _ _ _ _, ?_⟩
        have e := eqb_self (h4 false false true false)
        rw [res_tup, e]
        exact ret _
    cases hx : F.bl[d1.toNat]? with
    | none =>
      have hle : (F.bl.length : Int) ≤ d1 := by
        have := List.getElem?_eq_none_iff.mp hx
        omega
      have hN : rfN F d1 d2 = 1 := by unfold rfN; rw [hx]
      replace tail := Hid.mk tail
      clear hx
      walk_at "dd"
      exact tail.h _ (.inr (.inl ⟨hN, rfl⟩))
    | some x =>
      have hlt : ¬ (F.bl.length : Int) ≤ d1 := by
        have := (List.getElem?_eq_some_iff.mp hx).1
        omega
      have hat : atI (F.bl.zipIdx.map mbD) d1 = some (.tup [.int (d1.toNat : Int), .int x.am]) := by
        rw [atI_at hd0, List.getElem?_map, List.getElem?_zipIdx, hx, Nat.zero_add]; rfl
      have hN : rfN F d1 d2 = if x.am ≤ 0 then 2 else if d2 < 1 ∨ x.am - heldF F.dp 0 d1 - heldF F.dp 1 d1 < d2 then 3 else 0 := by unfold rfN; rw [hx]
      replace tail := Hid.mk tail
      replace hN := Hid.mk hN
      clear hx
      walk_at "dd"
      by_cases g0 : x.am ≤ 0
      · rw [if_pos g0]
        exact tail.h _ (.inr (.inr (.inl ⟨by rw [hN.h, if_pos g0], rfl⟩)))
      rw [if_neg g0]
      by_cases g1 : d2 < 1
      · rw [if_pos g1]
        exact tail.h _ (.inr (.inr (.inr ⟨by rw [hN.h, if_neg g0, if_pos (.inl g1)], rfl⟩)))
      rw [if_neg g1]
      refine ⟨pm, t, pb, pd, ps, ad, as, F, d1, rfl, hM2, hO.f, ?_⟩
      walk_at "dd"
      have hN := hN.h
      by_cases g2 : x.am - (heldF F.dp 0 d1 + heldF F.dp 1 d1) < d2
      · rw [if_pos g2]
        exact tail.h _ (.inr (.inr (.inr ⟨by rw [hN, if_neg g0, if_pos (.inr (by omega))], rfl⟩)))
      · rw [if_neg g2]
        exact tail.h _ (.inl ⟨by rw [hN, if_neg g0, if_neg (fun z => z.elim g1 (fun z => g2 (by omega)))], rfl⟩))

def R_Dispute_decide (A : Ad) : DSpX := fun ds C P PX => ∃ p i x g, ds = [.ptr p, .bl g] ∧ C p = some (dpC A i x) ∧ (x.st = 0 → P .non (cput C p (dpC A i { x with st := if g = true then 1 else 2 }))) ∧ (x.st ≠ 0 → PX (.ref A.C_IsDecided) [] C)
theorem len_Dispute_decide (A : Ad) : ∀ ds C P PX, R_Dispute_decide A ds C P PX → ds.length = 2 := by rintro _ _ _ _ ⟨p, i, x, g, rfl, _⟩; rfl
theorem ok_Dispute_decide (T : Txt K mg A P w) : FnOk P w K mg base (L2.CX P w) 2 A.a_Dispute_decide A.d_Dispute_decide ["self", "granted"] (spX K (R_Dispute_decide A)) :=
  ok_DX T.F_Dispute_decide sc_Dispute_decide (len_Dispute_decide A) (fun cdv Ar outer s H E hr tk =>
    ds_consL (ds_if (d_not (d_tval (d_meth0 T.c_Dispute T.m_Dispute_is_waiting (ok_Dispute_is_waiting T) (hr.mono (by decide)) T.b_Dispute_is_waiting (d_var 0))))
      (ds_one (ds_raise0 rfl tk T.x_IsDecided T.g_IsDecided (by exact rfl)))
      (ds_nil))
    (ds_one (ds_fld T.c_Dispute T.n_Dispute_state (d_var 0) (d_ifE (d_tval (d_var 1)) (d_kstr T.k_GRANTED) (d_kstr T.k_REFUSED))))) (fun ds C Pk PX h => by
    obtain ⟨p, i, x, g, rfl, hp, qn, qx⟩ := h
    have hpc := hp
    unfold dpC at hpc
    clear hp
    refine seq_hide fun E' hE => ?_
    walk_at "dd"
    refine ⟨p, i, x, rfl, hpc, ?_⟩
    dsimp only
    by_cases h0 : x.st = 0
    · have qn := qn h0
      rw [if_neg (by simp [h0])]
      clear qx
      subst hE
      dsimp only
      unfold dpC at qn
      cases g with
      | true =>
        simp only [if_true] at qn
        walk_at "dd"
        exact ⟨by decide, _, Sub.refl _, qn⟩
      | false =>
        simp only [Bool.false_eq_true, if_false] at qn
        walk_at "dd"
        exact ⟨by decide, _, Sub.refl _, qn⟩
    · rw [if_pos (by simp [h0])]
      have qx := qx h0
      subst hE
      exact ⟨_, Sub.refl _, qx⟩)

def R_AccountFile_put_off (A : Ad) : DSpX := fun ds C P _ => ∃ q, ∃ t : Tag, ∃ n T F k z, ds = [.ptr q, .int k, .int z] ∧ FX A C t n q T F ∧ FOk F ∧ 0 ≤ k ∧ (∃ y, F.bl[k.toNat]? = some y ∧ 0 < y.am) ∧ ∀ C', FX A C' t n q T (poF F k z) → Kp n t t C C' → P .non C'
theorem len_AccountFile_put_off (A : Ad) : ∀ ds C P PX, R_AccountFile_put_off A ds C P PX → ds.length = 3 := by rintro _ _ _ _ ⟨q, t, n, T, F, k, z, rfl, _⟩; rfl
theorem ok_AccountFile_put_off (T : Txt K mg A P w) : FnOk P w K mg base (L2.CX P w) 2 A.a_AccountFile_put_off A.d_AccountFile_put_off ["self", "number", "due"] (spX K (R_AccountFile_put_off A)) :=
  ok_DX T.F_AccountFile_put_off sc_AccountFile_put_off (len_AccountFile_put_off A) (fun cdv Ar outer s H E hr tk =>
    ds_consL (ds_set 3 sc_AccountFile_put_off.nd (d_methX tk T.c_AccountFile T.m_AccountFile_bill (ok_AccountFile_bill T) (hr.mono (by decide)) T.b_AccountFile_bill (d_var 0) (d_cons (d_var 1) (d_nil))))
    (ds_cons (ds_fld T.c_Bill T.n_Bill_due (d_var 3) (d_callB (call_max2 rfl) s_max2 (by rfl) T.z_max (by decide +kernel) (d_cons (d_fld T.c_Bill T.n_Bill_due (d_var 3)) (d_cons (d_var 2) (d_nil)))))
    (ds_one (ds_for (passes_of rfl) rfl (di_list (d_fld T.c_AccountFile T.n_AccountFile_demands (d_var 0))) (dg_name 4 sc_AccountFile_put_off.nd)
      (ds_one (ds_if ((d_and (d_tcmp op_eq s_eq (d_fld T.c_Demand T.n_Demand_kind (d_var 4)) (d_str)) (d_and1 (d_tcmp op_eq s_eq (d_fld T.c_Demand T.n_Demand_number (d_var 4)) (d_var 1)))).pt)
        (ds_one (ds_fld T.c_Demand T.n_Demand_due (d_var 4) (d_fld T.c_Bill T.n_Bill_due (d_var 3))))
        (ds_nil))))))) (fun ds C Pk PX h => by
    obtain ⟨q, t, n, T, F, k, z, rfl, hF, hO, hk, hy, hq⟩ := h
    have hF0 := hF
    obtain ⟨y, hy, hy0⟩ := hy
    have hkl := (List.getElem?_eq_some_iff.mp hy).1
    have hsb := hO.sb
    obtain ⟨b, d, p, s, ab, ad, as, hS⟩ := hF
    obtain ⟨v, hv⟩ := Option.isSome_iff_exists.mp (hO.db y (List.mem_of_getElem? hy) hy0)
    have h1 := hS.cq
    unfold flFs at h1
    refine seq_hide fun E' hE => ?_
    walk_at "dd"
    refine ⟨q, t, n, T, F, k, rfl, hF0, hO, by omega, by omega, fun y' a hk2 hy' ta hc hda => ?_, fun hno => absurd ⟨hk, by omega⟩ hno⟩
    rw [hy] at hy'; cases hy'
    have hcc := hc
    unfold blC at hcc
    rw [hv] at hcc
    clear hc
    have ha := hda _ _ _ _ _ _ _ hS
    obtain ⟨hS2, hK2⟩ := hS.set_bl ha { y with due := some (max v z) }
    have hvd : y.due.getD 0 = v := by rw [hv]; rfl
    have hpo : poF F k z = { F with bl := F.bl.set k.toNat { y with due := some (max v z) }, dm := F.dm.map (putM k (max v z)) } := by unfold poF; rw [hy]; dsimp only; rw [hvd]
    rw [hpo] at hq
    clear hpo hda
    subst hE
    dsimp only
    refine seq_hide fun E' hE => ?_
    walk_at "dd"
    show 5 < 1000 ∧ _
    refine ⟨by decide, ?_⟩
    have hbe : Cell.ins A.C_Bill [("number", .int (k.toNat : Int)), ("rows", y.rows), ("amount", .int y.am), ("made", .int y.made), ("due", .int (max v z))] = blC A k.toNat { y with due := some (max v z) } := rfl
    rw [hbe]
    clear hcc h1 hbe
    generalize cput C a (blC A k.toNat { y with due := some (max v z) }) = C1 at hS2 hK2 ⊢
    generalize hm : max v z = m at *
    have hca : C1 a = some (blC A k.toNat { y with due := some m }) := by
      obtain ⟨x, h1, _, h2⟩ := hS2.rb.get ha
      rw [List.getElem?_set_self hkl] at h1
      cases h1; exact h2
    subst hE
    dsimp only
    have h1 := hS2.cq
    have h2 := hS2.cd
    unfold flFs at h1
    clear hca
    walk_at "dd"
    refine for_mapS (L := ad) (enc := D.ptr) (st := fun C' => C' d = some (.lst (ad.map D.ptr))) (fun j ρ' C' => (∃ o4, ρ' = [some (.ptr q), some (.int k), some (.int z), some (.ptr a), o4]) ∧ FS A C' t n q b d p s ab ad as T { F with bl := F.bl.set k.toNat { y with due := some m }, dm := (F.dm.take j).map (putM k m) ++ F.dm.drop j } ∧ Kp n t t C C') ⟨⟨_, rfl⟩, by simpa using hS2, hK2⟩ (fun k ρ' C' h => h.2.1.cd) ?_ ?_
    · rintro j e ρ' C' hj ⟨⟨o4, rfl⟩, hS3, hK3⟩
      clear h1 h2
      obtain ⟨x, hx, _, _⟩ := hS.rd.get hj
      have hj2 : ((F.dm.take j).map (putM k m) ++ F.dm.drop j)[j]? = some x := by
        have hjl := (List.getElem?_eq_some_iff.mp hx).1
        rw [List.getElem?_append_right (by rw [List.length_map, List.length_take]; omega), List.length_map, List.length_take, List.getElem?_drop, show j + (j - min j F.dm.length) = j by omega]
        exact hx
      have hce : C' e = some (dmC A j x) := (hS3.rd.at_ j e x hj hj2).2
      have hca : C' a = some (blC A k.toNat { y with due := some m }) := by
        obtain ⟨x, h1, _, h2⟩ := hS3.rb.get ha
        rw [List.getElem?_set_self hkl] at h1
        cases h1; exact h2
      unfold dmC at hce
      unfold blC at hca
      by_cases g1 : x.kind = true
      · by_cases g2 : x.num = k
        · have hf : putM k m x = { x with due := m } := by unfold putM; rw [if_pos ⟨g1, g2⟩]
          obtain ⟨hS4, hK4⟩ := hS3.set_dm hj (putM k m x)
          dsimp only at hS4
          rw [set_step (putM k m) hx] at hS4
          have hK5 := hK3.trans hK4
          have hfe : dmC A j (putM k m x) = .ins A.C_Demand [("kind", .str (kdS x.kind)), ("number", .int x.num), ("amount", .int x.am), ("made", .int x.made), ("due", .int m)] := by rw [hf]; rfl
          rw [hfe] at hS4 hK5
          have hks : kdS x.kind = Str.ofString "bill" := by rw [g1]; rfl
          rw [hks] at hce hS4 hK5
          rw [g2] at hce hS4 hK5
          clear hf hfe hK4 g1 g2
          have hoi : oiD (some m) = .int m := rfl
          walk_at "dd"
          exact ⟨by decide, _, rfl⟩
        · have hf : putM k m x = x := by unfold putM; rw [if_neg (fun z => g2 z.2)]
          rw [set_same (putM k m) hx hf] at hS3
          have hks : kdS x.kind = Str.ofString "bill" := by rw [g1]; rfl
          rw [hks] at hce
          clear hf g1
          walk_at "dd"
          exact ⟨_, rfl⟩
      · have hf : putM k m x = x := by unfold putM; rw [if_neg (fun z => g1 z.1)]
        rw [set_same (putM k m) hx hf] at hS3
        have hks : kdS x.kind = Str.ofString "fee" := by rw [Bool.not_eq_true] at g1; rw [g1]; rfl
        rw [hks] at hce
        clear hf g1
        walk_at "dd"
        exact ⟨_, rfl⟩
    · rintro ρ' C' ⟨⟨o4, rfl⟩, hS3, hK3⟩
      have hdl := hS.rd.len
      rw [hdl, List.take_length, List.drop_length, List.append_nil] at hS3
      clear h1 h2
      walk_at "dd"
      exact ⟨_, Sub.refl _, hq _ ⟨b, d, p, s, ab, ad, as, hS3⟩ hK3⟩)

def R_AccountFile_decide (A : Ad) : DSpX := fun ds C P PX => ∃ q, ∃ t : Tag, ∃ n T F k g c, ds = [.ptr q, .int k, .bl g, .int c] ∧ FX A C t n q T F ∧ FOk F ∧ -1000000 ≤ k ∧ k ≤ 1000000 ∧ (∀ C' x, 0 ≤ k → F.dp[k.toNat]? = some x → x.st = 0 → FX A C' t n q T (deF F k g (c + T.term)) → Kp n t t C C' → P .non C') ∧ (¬ (0 ≤ k ∧ k < F.dp.length) → PX (.ref A.C_NoSuchDispute) [] C) ∧ ∀ x, 0 ≤ k → F.dp[k.toNat]? = some x → x.st ≠ 0 → PX (.ref A.C_IsDecided) [] C
theorem len_AccountFile_decide (A : Ad) : ∀ ds C P PX, R_AccountFile_decide A ds C P PX → ds.length = 4 := by rintro _ _ _ _ ⟨q, t, n, T, F, k, g, c, rfl, _⟩; rfl
theorem ok_AccountFile_decide (T : Txt K mg A P w) : FnOk P w K mg base (L2.CX P w) 3 A.a_AccountFile_decide A.d_AccountFile_decide ["self", "number", "granted", "clock"] (spX K (R_AccountFile_decide A)) :=
  ok_DX T.F_AccountFile_decide sc_AccountFile_decide (len_AccountFile_decide A) (fun cdv Ar outer s H E hr tk =>
    ds_cons (ds_if ((d_or (d_tcmp op_lt s_lt (d_var 1) (d_int)) (d_or1 (d_tcmp op_ge s_ge (d_var 1) (d_callB call_len s_len (by rfl) T.z_len (by decide +kernel) (d_cons (d_fld T.c_AccountFile T.n_AccountFile_disputes (d_var 0)) (d_nil)))))).pt)
      (ds_one (ds_raiseI rfl tk T.x_NoSuchDispute T.g_NoSuchDispute (by exact rfl) (d_var 1)))
      (ds_nil))
    (ds_cons (ds_set 4 sc_AccountFile_decide.nd (d_ix ix_seq s_ix (d_fld T.c_AccountFile T.n_AccountFile_disputes (d_var 0)) (d_var 1)))
    (ds_consL (ds_expr (d_methX tk T.c_Dispute T.m_Dispute_decide (ok_Dispute_decide T) (hr.mono (by decide)) T.b_Dispute_decide (d_var 4) (d_cons (d_var 2) (d_nil))))
    (ds_one (ds_if (d_not (d_tval (d_var 2)))
      (ds_one (ds_expr (d_methX tk T.c_AccountFile T.m_AccountFile_put_off (ok_AccountFile_put_off T) (hr.mono (by decide)) T.b_AccountFile_put_off (d_var 0) (d_cons (d_fld T.c_Dispute T.n_Dispute_bill (d_var 4)) (d_cons (d_meth T.c_Terms T.m_Terms_due_of (ok_Terms_due_of T) (hr.mono (by decide)) T.b_Terms_due_of (d_fld T.c_AccountFile T.n_AccountFile_terms (d_var 0)) (d_cons (d_var 3) (d_nil))) (d_nil))))))
      (ds_nil)))))) (fun ds C Pk PX h => by
    obtain ⟨q, t, n, T, F, k, g, c, rfl, hF, hO, hk0, hk1, hq, hxn, hxd⟩ := h
    obtain ⟨b, d, p, s, ab, ad, as, hS⟩ := hF
    have h1 := hS.cq
    unfold flFs at h1
    have h2 := hS.cs
    have hlen := hS.rs.len
    have hss := hO.ss
    have hlg : k.natAbs.log2 < 1920 := by
      rcases Nat.eq_zero_or_pos k.natAbs with z | z
      · rw [z]; decide
      · rw [Nat.log2_lt (by omega)]
        exact Nat.lt_of_lt_of_le (show k.natAbs < 2 ^ 20 by omega) (Nat.pow_le_pow_right (by decide) (by decide))
    refine seq_hide fun E' hE => ?_
    walk_at "dd"
    by_cases g1 : k < 0
    · rw [if_pos g1]
      have hx := hxn (by omega)
      subst hE
      exact ⟨_, Sub.refl _, hx⟩
    rw [if_neg g1]
    by_cases g2 : (F.dp.length : Int) ≤ k
    · rw [if_pos g2]
      have hx := hxn (by omega)
      subst hE
      exact ⟨_, Sub.refl _, hx⟩
    rw [if_neg g2]
    clear hxn
    have hi : as[k.toNat]? = some (as[k.toNat]'(by omega)) := List.getElem?_eq_getElem _
    obtain ⟨x, e1, e2, e3⟩ := hS.rs.get hi
    generalize as[k.toNat]'(by omega) = a at hi e2 e3
    have hat : atI (as.map D.ptr) k = some (.ptr a) := by rw [atI_at (by omega), List.getElem?_map, hi]; rfl
    subst hE
    dsimp only
    refine seq_hide fun E' hE => ?_
    clear hlen hlg
    walk_at "dd"
    subst hE
    dsimp only
    refine seq_hide fun E' hE => ?_
    walk_at "dd"
    refine ⟨⟨rfl, rfl⟩, a, k.toNat, x, g, rfl, e3, fun h0 => ?_, fun h0 => ?_⟩
    · obtain ⟨hS2, hK2⟩ := hS.set_dp hi { x with st := if g = true then 1 else 2 }
      have hq2 := fun C' => hq C' x (by omega) e1 h0
      have hdO := dcF_ok hO e1 g
      have hsf : FS A (cput C a (dpC A k.toNat { x with st := if g = true then 1 else 2 })) t n q b d p s ab ad as T (dcF F k g x) := hS2
      have hde : deF F k g (c + T.term) = if g = true then dcF F k g x else poF (dcF F k g x) x.bill (c + T.term) := by unfold deF; rw [e1]
      rw [hde] at hq2
      obtain ⟨hb0, v, hv1, hv2⟩ := hO.dd x (List.mem_of_getElem? e1)
      have hca : cput C a (dpC A k.toNat { x with st := if g = true then 1 else 2 }) a = some (dpC A k.toNat { x with st := if g = true then 1 else 2 }) := cput_same
      have h1 := hsf.cq
      unfold flFs at h1
      clear hq hxd hde hS2 hat h2 e3
      generalize cput C a (dpC A k.toNat { x with st := if g = true then 1 else 2 }) = C1 at *
      unfold dpC at hca
      subst hE
      dsimp only
      cases g with
      | true =>
        simp only [if_true] at hq2
        walk_at "dd"
        exact ⟨_, Sub.refl _, hq2 C1 ⟨b, d, p, s, _, _, _, hsf⟩ hK2⟩
      | false =>
        simp only [Bool.false_eq_true, if_false] at hq2
        walk_at "dd"
        refine ⟨⟨rfl, rfl⟩, T, c, rfl, ?_⟩
        dsimp only
        refine ⟨q, t, n, T, dcF F k false x, x.bill, c + T.term, rfl, ⟨b, d, p, s, _, _, _, hsf⟩, hdO, hb0, ⟨v, hv1, hv2⟩, fun C' hF' hK' => ?_⟩
        exact ⟨_, Sub.refl _, hq2 C' hF' (hK2.trans hK')⟩
    · have hx := hxd x (by omega) e1 h0
      subst hE
      exact ⟨_, Sub.refl _, hx⟩)

def R_law_decides (A : Ad) : DSp := fun ds C P => ∃ q, ∃ t : Tag, ∃ T F k g c, ds = [.ptr q, .int k, .bl g, .int c] ∧ FX A C t "acc" q T F ∧ FOk F ∧ 0 ≤ k ∧ k ≤ 1000000 ∧ (∀ C' x, F.dp[k.toNat]? = some x → x.st = 0 → FX A C' t "acc" q T (deF F k g (c + T.term)) → Kp "acc" t t C C' → P .non C') ∧ (F.dp[k.toNat]? = none → P (.tup [.bl true, .bl false, .bl false, .bl false]) C) ∧ ∀ x, F.dp[k.toNat]? = some x → x.st ≠ 0 → P (.tup [.bl false, .bl false, .bl false, .bl true]) C
theorem len_law_decides (A : Ad) : ∀ ds C P, R_law_decides A ds C P → ds.length = 4 := by rintro _ _ _ ⟨q, t, T, F, k, g, c, rfl, _⟩; rfl
theorem ok_law_decides (T : Txt K mg A P w) : FnOk P w K mg base CX0 4 A.a_law_decides A.d_law_decides ["account", "number", "granted", "clock"] (spD K (R_law_decides A)) :=
  ok_D T.F_law_decides sc_law_decides (len_law_decides A) (fun cdv Ar outer s H E hr =>
    ds_consL (ds_tryF 4 rfl rfl sc_law_decides.nd rfl rfl T.g_LineError takes0 (fun Wt pn xe tkt pot =>
      ds_one (ds_expr (d_methX tkt T.c_AccountFile T.m_AccountFile_decide (ok_AccountFile_decide T) (hr.mono (by decide)) T.b_AccountFile_decide (d_var 0) (d_cons (d_var 1) (d_cons (d_var 2) (d_cons (d_var 3) (d_nil))))))) (ok_law_kind T) (hr.mono (by decide)) T.g_law_kind T.F_law_kind.kp T.b_law_kind)
    (ds_one (ds_ret (d_non)))) (fun ds C Pk h => by
    obtain ⟨q, t, T1, F, k, g, c, rfl, hF, hO, hb0, hb1, hq, hx, hy⟩ := h
    have hq := Hid.mk hq
    have hx := Hid.mk hx
    have hy := Hid.mk hy
    have hF0 := Hid.mk hF
    obtain ⟨_, _, _, _, _, _, _, hS⟩ := hF
    have h1 := hS.cq
    unfold flFs at h1
    clear hS
    refine seq_hide fun E' hE => ?_
    walk_at "dd"
    refine ⟨q, t, "acc", T1, F, k, g, c, rfl, hF0.h, hO, by omega, hb1, fun C' x _ h2 h3 h4 h5 => ?_, fun hn => ?_, fun x _ h2 h3 => ?_⟩
    · subst hE
      clear h1
      have q := hq.h C' x h2 h3 h4 h5
      clear h3
      walk_at "dd"
      exact ⟨_, Sub.refl _, q⟩
    · subst hE
      exact ⟨true, T.e_NoSuchDispute_LineError, fun _ => ⟨_, rfl, rfl, T.xc_NoSuchDispute, by decide, false, true, false, false, false, T.ki_NoSuchDispute_NoSuchBill, T.ki_NoSuchDispute_NoSuchDispute, T.ki_NoSuchDispute_NotInDispute, T.ki_NoSuchDispute_BadAmount, T.ki_NoSuchDispute_IsDecided, _, Sub.refl _, hx.h (List.getElem?_eq_none (by omega))⟩, fun z => by cases z⟩
    · subst hE
      exact ⟨true, T.e_IsDecided_LineError, fun _ => ⟨_, rfl, rfl, T.xc_IsDecided, by decide, false, false, false, false, true, T.ki_IsDecided_NoSuchBill, T.ki_IsDecided_NoSuchDispute, T.ki_IsDecided_NotInDispute, T.ki_IsDecided_BadAmount, T.ki_IsDecided_IsDecided, _, Sub.refl _, hy.h x h2 h3⟩, fun z => by cases z⟩)

def R_law_decide (A : Ad) : DSp := fun ds C P => ∃ q pm, ∃ t : Tag, ∃ T F st s k, ds = [.ptr q, .ptr pm, .ptr st, .int k, .int T.term] ∧ SS A C t q pm T F ∧ Ok F ∧ Sm F ∧ C st = some (.lst [.int s]) ∧ t st = .law 7 ∧ 0 ≤ s ∧ ∀ (t' : Tag) (C' : Cells) F' s', SS A C' t' q pm T F' → Ok F' → Gr F F' → C' st = some (.lst [.int s']) → t' st = .law 7 → 0 ≤ s' → P (.bl true) C'
theorem len_law_decide (A : Ad) : ∀ ds C P, R_law_decide A ds C P → ds.length = 5 := by rintro _ _ _ ⟨q, pm, t, T, F, st, s, k, rfl, _⟩; rfl
theorem ok_law_decide (T : Txt K mg A P w) : FnOk P w K mg base CX0 5 A.a_law_decide A.d_law_decide ["account", "model", "state", "clock", "term"] (spD K (R_law_decide A)) :=
  ok_D T.F_law_decide sc_law_decide (len_law_decide A) (fun cdv Ar outer s H E hr =>
    ds_consL (ds_set 5 sc_law_decide.nd (d_call (ok_law_digit T) (hr.mono (by decide)) T.g_law_digit T.F_law_digit.kp T.b_law_digit (d_cons (d_var 2) (d_cons (d_int) (d_nil)))))
    (ds_consL (ds_set 6 sc_law_decide.nd (d_cmp op_eq s_eq (d_call (ok_law_digit T) (hr.mono (by decide)) T.g_law_digit T.F_law_digit.kp T.b_law_digit (d_cons (d_var 2) (d_cons (d_int) (d_nil)))) (d_int)))
    (ds_cons (ds_set 7 sc_law_decide.nd (d_non))
    (ds_consL (ds_if (d_tcmp op_ge s_ge (d_var 5) (d_callB call_len s_len (by rfl) T.z_len (by decide +kernel) (d_cons (d_dget hr (d_var 1) (d_str)) (d_nil))))
      (ds_one (ds_set 7 sc_law_decide.nd (d_tup (d_cons (d_bl) (d_cons (d_bl) (d_cons (d_bl) (d_cons (d_bl) (d_nil))))))))
      (ds_one (ds_if (d_tcmp op_ne s_ne (d_ix ix_seq s_ix (d_ix ix_seq s_ix (d_dget hr (d_var 1) (d_str)) (d_var 5)) (d_int)) (d_str))
        (ds_one (ds_set 7 sc_law_decide.nd (d_tup (d_cons (d_bl) (d_cons (d_bl) (d_cons (d_bl) (d_cons (d_bl) (d_nil))))))))
        (ds_nil))))
    (ds_consL (ds_if (d_tcmp (op_neD hr.units) s_neD (d_call (ok_law_decides T) (hr.mono (by decide)) T.g_law_decides T.F_law_decides.kp T.b_law_decides (d_cons (d_var 0) (d_cons (d_var 5) (d_cons (d_var 6) (d_cons (d_var 3) (d_nil)))))) (d_var 7))
      (ds_one (ds_ret (d_bl)))
      (ds_nil))
    (ds_consL (ds_if (d_tcmp op_isN s_isN (d_var 7) (d_non))
      (ds_consL (ds_set 8 sc_law_decide.nd (d_ix ix_seq s_ix (d_dget hr (d_var 1) (d_str)) (d_var 5)))
      (ds_consL (ds_setL (d_var 8) (d_int) (d_ix ix_seq s_ix (d_tup (d_cons (d_str) (d_cons (d_str) (d_nil)))) (d_callTy call_int1 s_int (by rfl) T.z_int (by decide +kernel) (d_cons (d_var 6) (d_nil)))))
      (ds_one (ds_for PassesOwn.never rfl (di_list (d_dget hr (d_var 1) (d_str))) (dg_name 9 sc_law_decide.nd)
        (ds_one (ds_if ((d_and (d_not (d_tval (d_var 6))) (d_and (d_tcmp op_eq s_eq (d_ix ix_seq s_ix (d_var 9) (d_int)) (d_str)) (d_and1 (d_tcmp op_eq s_eq (d_ix ix_seq s_ix (d_var 9) (d_int)) (d_ix ix_seq s_ix (d_var 8) (d_int)))))).pt)
          (ds_one (ds_setL (d_var 9) (d_int) (d_callB (call_max2 rfl) s_max2 (by rfl) T.z_max (by decide +kernel) (d_cons (d_ix ix_seq s_ix (d_var 9) (d_int)) (d_cons (d_op op_add s_add (d_var 3) (d_var 4)) (d_nil))))))
          (ds_nil)))))))
      (ds_nil))
    (ds_one (ds_ret (d_bl))))))))) (fun ds C Pk h => by
    obtain ⟨q, pm, t, T1, F, st, s, k, rfl, ⟨hF, pb, pd, ps, ad, as, hM⟩, hO, hSm, hst, tst, hs, qq⟩ := h
    refine seq_hide fun E' hE => ?_
    walk_at "dd"
    refine ⟨st, s, 5, rfl, hst, hs, by decide, by decide, fun d1 s1 hd0 hd1 hs1 => ?_⟩
    subst hE
    dsimp only
    refine seq_hide fun E' hE => ?_
    walk_at "dd"
    refine ⟨st, s1, 2, rfl, cput_same, hs1, by decide, by decide, fun d2 s2 he0 he1 hs2 => ?_⟩
    rw [cput_cput]
    have hF2 : FX A (cput C st (.lst [.int s2])) t "acc" q T1 F := hF.mono fun k' i a d ta hd => ⟨(cput_ne (ne_tag (t := t) (by rw [ta, tst]; simp))).trans hd, rfl⟩
    have hM2 := hM.put7 tst (.lst [.int s2])
    have hst2 : cput C st (.lst [.int s2]) st = some (.lst [.int s2]) := cput_same
    generalize cput C st (.lst [.int s2]) = C2 at *
    clear hF hM hst
    show dEq (.int d2) (.int 0) C2 _
    unfold dEq dEqv
    dsimp only
    rw [Bool.false_xor]
    generalize decide (d2 = 0) = g
    subst hE
    dsimp only
    have h3 := hM2.cs
    have m2 := mo_disputes pb pd ps F
    have h1 := hM2.cm
    have hasl := hM2.rs.len
    have hs3 := hSm.s
    walk_at "dd"
    refine seq_hide fun E' hE => ?_
    have tail : ∀ due : D, ((∃ x, F.dp[d1.toNat]? = some x ∧ x.st = 0) ∧ due = .non) ∨ (F.dp[d1.toNat]? = none ∧ due = .tup [.bl true, .bl false, .bl false, .bl false]) ∨ ((∃ x, F.dp[d1.toNat]? = some x ∧ x.st ≠ 0) ∧ due = .tup [.bl false, .bl false, .bl false, .bl true]) → E'.nx [some (.ptr q), some (.ptr pm), some (.ptr st), some (.int k), some (.int T1.term), some (.int d1), some (.bl g), some due, none, none] C2 := by
      intro due hdue
      subst hE
      dsimp only
      refine seq_hide fun E' hE => ?_
      clear h1 h3
      walk_at "dd"
      have h4 : ∀ b1 b2 b3 b4, Dat 1 (.tup [.bl b1, .bl b2, .bl b3, .bl b4]) := fun b1 b2 b3 b4 => .tup fun d hd => by
        simp only [List.mem_cons, List.not_mem_nil, or_false] at hd
        rcases hd with rfl | rfl | rfl | rfl <;> exact .bl _
      have ret : ∀ ds : List D, E'.nx [some (.ptr q), some (.ptr pm), some (.ptr st), some (.int k), some (.int T1.term), some (.int d1), some (.bl g), some (.tup ds), none, none] C2 := fun ds => by
        subst hE
        dsimp only
        refine seq_hide fun E' hE => ?_
        walk_at "dd"
        subst hE
        walk_at "dd"
        exact ⟨_, Sub.refl _, qq t C2 F s2 ⟨hF2, pb, pd, ps, ad, as, hM2⟩ hO (Gr.refl F) hst2 tst hs2⟩
      refine ⟨q, t, T1, F, d1, g, k, rfl, hF2, hO.f, hd0, by omega, fun C' x hx hx0 hF3 hK3 => ?_, fun hn => ?_, fun x hx hx0 => ?_⟩
      · have hd : due = .non := by
          rcases hdue with ⟨_, h⟩ | ⟨h, _⟩ | ⟨⟨y, h, h'⟩, _⟩
          · exact h
          · rw [hx] at h; cases h
          · rw [hx] at h; cases h; exact absurd hx0 h'
        subst hd
        refine ⟨1, by decide, .non, .non, ?_⟩
        have e := eqb_self (n := 1) (d := .non) .non
        have hM3 := hM2.mono fun a c hc hn => hK3 a c hc hn
        obtain ⟨f1, _⟩ := hK3 st _ hst2 (fun k i z => by rw [tst] at z; cases z)
        obtain ⟨a, ha, ta, hc⟩ := hM3.rs.adr hx
        clear ret hst2 hM2 hF2 hK3 hdue
        show (if (!(D.eqb .non .non)) = true then _ else _)
        rw [e]
        simp only [Bool.not_true, Bool.false_eq_true, if_false]
        clear e
        subst hE
        dsimp only
        refine seq_hide fun E' hE => ?_
        have h1 := hM3.cm
        have h3 := hM3.cs
        have hat : atI (as.map D.ptr) d1 = some (.ptr a) := by
          rw [atI_at hd0, List.getElem?_map, ha]; rfl
        walk_at "dd"
        refine seq_hide fun E3 hE3 => ?_
        walk_at "dd"
        subst hE3
        dsimp only
        refine seq_hide fun E3 hE3 => ?_
        have hc' := hc
        unfold mpC at hc'
        have hg : atI [D.str (Str.ofString "refused"), D.str (Str.ofString "granted")] (if g = true then 1 else 0) = some (.str (stS (if g = true then 1 else 2))) := by cases g <;> rfl
        replace hc := Hid.mk hc
        replace hx := Hid.mk hx
        have hix : ixN 3 2 = some 2 := by decide
        walk_at "dd"
        obtain ⟨hM4, hK4⟩ := hM3.set_dp ha { x with st := if g = true then 1 else 2 }
        obtain ⟨f2, f3⟩ := hK4 st _ f1 (fun k i z => by rw [tst] at z; cases z) (fun k z => by rw [tst] at z; injection z with z; omega)
        have hFa := hF3.km hK4
        have hce : cput C' a (mpC d1.toNat { x with st := if g = true then 1 else 2 }) a = some (.lst [.int x.bill, .int x.am, .str (stS (if g = true then 1 else 2))]) := cput_same
        show E3.nx _ (cput C' a (mpC d1.toNat { x with st := if g = true then 1 else 2 }))
        generalize cput C' a (mpC d1.toNat { x with st := if g = true then 1 else 2 }) = C4 at *
        clear hc hc' h1 h3 hM3 hK4 hF3 f1 hat hg hix
        have h1 := hM4.cm
        have h2 := hM4.cd
        have m1 := mo_demands pb pd ps { F with dp := F.dp.set d1.toNat { x with st := if g = true then 1 else 2 } }
        have hln := hM4.rd.len
        have hln : ad.length = F.dm.length := hln
        obtain ⟨y1, y2, y3, y4, y5, y6, y7, y8⟩ := de_eq hO hx.h g (k + T1.term)
        subst hE3
        dsimp only
        walk_at "dd"
        refine for_mapS (L := ad) (enc := D.ptr) (st := fun C'' => C'' pd = some (.lst (ad.map D.ptr))) (fun j ρ' C'' => (∃ x9, ρ' = [some (.ptr q), some (.ptr pm), some (.ptr st), some (.int k), some (.int T1.term), some (.int d1), some (.bl g), some .non, some (.ptr a), x9]) ∧ MS C'' t pm pb pd ps ad as { F with dp := F.dp.set d1.toNat { x with st := if g = true then 1 else 2 }, dm := (F.dm.take j).map (fun y => if g = true then y else ptm x.bill (k + T1.term) y) ++ F.dm.drop j } ∧ Km t t C4 C'' ∧ C'' a = some (.lst [.int x.bill, .int x.am, .str (stS (if g = true then 1 else 2))])) ⟨⟨none, rfl⟩, hM4, Km.refl _ _, hce⟩ (fun j ρ' C'' h => h.2.1.cd) ?_ ?_
        · clear h1 h2 m1 hce y1 y2 y3 y4 y5 y6 y7 y8 f2 hM4 hFa
          rintro j b ρ' C'' hj ⟨⟨x9, rfl⟩, hM5, hK5, hca⟩
          have hjl : j < F.dm.length := by rw [← hln]; exact (List.getElem?_eq_some_iff.mp hj).1
          have hdj : F.dm[j]? = some F.dm[j] := List.getElem?_eq_getElem hjl
          generalize F.dm[j] = y at hdj
          obtain ⟨w, hw, tb, hcb⟩ := hM5.rd.get hj
          have hwy : w = y := by
            rw [List.getElem?_append_right (by rw [List.length_map, List.length_take]; omega), List.length_map, List.length_take, Nat.min_eq_left (by omega), Nat.sub_self, List.getElem?_drop, Nat.add_zero, hdj] at hw
            cases hw; rfl
          subst hwy
          clear hw
          have hcb' := hcb
          unfold mdC at hcb'
          have hkk := kd_bi w.kind
          replace hM5 := Hid.mk hM5
          replace hcb := Hid.mk hcb
          replace hdj := Hid.mk hdj
          replace hj := Hid.mk hj
          replace hK5 := Hid.mk hK5
          have hix3 : ixN 4 3 = some 3 := by decide
          have hab : a ≠ b := ne_tag (t := t) (by rw [ta, tb]; simp)
          have stay : ∀ e : (fun y : Dm => if g = true then y else ptm x.bill (k + T1.term) y) w = w, MS C'' t pm pb pd ps ad as { F with dp := F.dp.set d1.toNat { x with st := if g = true then 1 else 2 }, dm := (F.dm.take (j + 1)).map (fun y => if g = true then y else ptm x.bill (k + T1.term) y) ++ F.dm.drop (j + 1) } := fun e => by
            have z := set_same (fun y : Dm => if g = true then y else ptm x.bill (k + T1.term) y) hdj.h e
            have q := hM5.h
            rw [z] at q
            exact q
          replace stay := Hid.mk stay
          walk_at "dd"
          cases g with
          | true => exact ⟨⟨_, rfl⟩, stay.h rfl, hK5.h⟩
          | false =>
            rw [if_pos (show (!false) = true from rfl)]
            by_cases g1 : w.kind = true
            · rw [if_pos g1]
              by_cases g2 : w.num = x.bill
              · rw [if_pos g2]
                obtain ⟨hM6, hK6⟩ := hM5.h.set_dm hj.h (ptm x.bill (k + T1.term) w)
                have z := set_step (fun y : Dm => if false = true then y else ptm x.bill (k + T1.term) y) hdj.h
                have ep : ptm x.bill (k + T1.term) w = { w with due := max w.due (k + T1.term) } := by unfold ptm; rw [if_pos ⟨g1, g2⟩]
                have ez : mdC j (ptm x.bill (k + T1.term) w) = .lst [.str (kdS w.kind), .int w.num, .int w.am, .int (max w.due (k + T1.term))] := by rw [ep]; rfl
                have hM7 : MS (cput C'' b (mdC j (ptm x.bill (k + T1.term) w))) t pm pb pd ps ad as { F with dp := F.dp.set d1.toNat { x with st := if false = true then 1 else 2 }, dm := (F.dm.take (j + 1)).map (fun y => if false = true then y else ptm x.bill (k + T1.term) y) ++ F.dm.drop (j + 1) } := by
                  rw [← z]; exact hM6
                rw [ez] at hM7 hK6
                exact ⟨⟨_, rfl⟩, hM7, hK5.h.trans hK6, (cput_ne hab).trans hca⟩
              · rw [if_neg g2]
                exact ⟨⟨_, rfl⟩, stay.h (by show ptm _ _ _ = _; unfold ptm; rw [if_neg (fun z => g2 z.2)]), hK5.h⟩
            · rw [if_neg g1]
              exact ⟨⟨_, rfl⟩, stay.h (by show ptm _ _ _ = _; unfold ptm; rw [if_neg (fun z => g1 z.1)]), hK5.h⟩
        · rintro ρ' C'' ⟨⟨x9, rfl⟩, hM5, hK5, hca⟩
          have e1 : (F.dm.take ad.length).map (fun y => if g = true then y else ptm x.bill (k + T1.term) y) ++ F.dm.drop ad.length = (deF F d1 g (k + T1.term)).dm := by
            rw [hln, List.take_length, List.drop_length, List.append_nil, y1]
          have hM6 : MS C'' t pm pb pd ps ad as (deF F d1 g (k + T1.term)) := hM5.congr y2 e1.symm y3 y4 y5 y6 y7
          obtain ⟨g1, g2⟩ := hK5 st _ f2 (fun k i z => by rw [tst] at z; cases z) (fun k z => by rw [tst] at z; injection z with z; omega)
          have fin := Hid.mk (qq t C'' _ s2 ⟨hFa.km hK5, pb, pd, ps, ad, as, hM6⟩ y8 ⟨by have := congrArg List.length y2; rw [List.length_map, List.length_map] at this; omega, by rw [y1, List.length_map]; exact Nat.le_succ _, by rw [y4]; exact Nat.le_succ _, by rw [y3, List.length_set]; exact Nat.le_succ _⟩ g1 tst hs2)
          clear h1 h2 m1 hce y1 y2 y3 y4 y5 y6 y7 y8 f2 hM4 hFa e1 hM5 hM6 hca g1 hK5
          subst hE
          walk_at "dd"
          exact ⟨_, Sub.refl _, fin.h⟩
      · have hd : due = .tup [.bl true, .bl false, .bl false, .bl false] := by
          rcases hdue with ⟨⟨y, h, _⟩, _⟩ | ⟨_, h⟩ | ⟨⟨y, h, _⟩, _⟩
          · rw [hn] at h; cases h
          · exact h
          · rw [hn] at h; cases h
        subst hd
        refine ⟨1, by decide, h4 _ _ _ _, h4 _ _ _ _, ?_⟩
        have e := eqb_self (h4 true false false false)
        rw [res_tup, e]
        exact ret _
      · have hd : due = .tup [.bl false, .bl false, .bl false, .bl true] := by
          rcases hdue with ⟨⟨y, h, h'⟩, _⟩ | ⟨h, _⟩ | ⟨_, h⟩
          · rw [hx] at h; cases h; exact absurd h' hx0
          · rw [hx] at h; cases h
          · exact h
        subst hd
        refine ⟨1, by decide, h4 _ _ _ _, h4 _ _ _ _, ?_⟩
        have e := eqb_self (h4 false false false true)
        rw [res_tup, e]
        exact ret _
    cases hx : F.dp[d1.toNat]? with
    | none =>
      have hle : (F.dp.length : Int) ≤ d1 := by
        have := List.getElem?_eq_none_iff.mp hx
        omega
      have tail := Hid.mk (tail (.tup [.bl true, .bl false, .bl false, .bl false]) (.inr (.inl ⟨hx, rfl⟩)))
      clear hx
      walk_at "dd"
      exact tail.h
    | some x =>
      have hlt : ¬ (F.dp.length : Int) ≤ d1 := by
        have := (List.getElem?_eq_some_iff.mp hx).1
        omega
      obtain ⟨a, ha, ta, hc⟩ := hM2.rs.adr hx
      have hat : atI (as.map D.ptr) d1 = some (.ptr a) := by
        rw [atI_at hd0, List.getElem?_map, ha]; rfl
      have hk := st_wa x.st
      unfold mpC at hc
      have tail1 := tail .non
      have tail2 := tail (.tup [.bl false, .bl false, .bl false, .bl true])
      rw [hx] at tail1 tail2
      replace tail1 := Hid.mk tail1
      replace tail2 := Hid.mk tail2
      clear hx tail
      walk_at "dd"
      by_cases g0 : x.st = 0
      · rw [if_neg (by simp [g0])]
        exact tail1.h (.inl ⟨⟨x, rfl, g0⟩, rfl⟩)
      · rw [if_pos (by simp [g0])]
        exact tail2.h (.inr (.inr ⟨⟨x, rfl, g0⟩, rfl⟩)))

def R_AccountFile_wants_reminder (A : Ad) : DSp := fun ds C P => ∃ q, ∃ t : Tag, ∃ n T F k, ds = [.ptr q, .int k] ∧ FX A C t n q T F ∧ FOk F ∧ P (.bl (wtF T F k)) C
theorem len_AccountFile_wants_reminder (A : Ad) : ∀ ds C P, R_AccountFile_wants_reminder A ds C P → ds.length = 2 := by rintro _ _ _ ⟨q, t, n, T, F, k, rfl, _⟩; rfl
theorem ok_AccountFile_wants_reminder (T : Txt K mg A P w) : FnOk P w K mg base CX0 7 A.a_AccountFile_wants_reminder A.d_AccountFile_wants_reminder ["self", "clock"] (spD K (R_AccountFile_wants_reminder A)) :=
  ok_D T.F_AccountFile_wants_reminder sc_AccountFile_wants_reminder (len_AccountFile_wants_reminder A) (fun cdv Ar outer s H E hr =>
    ds_consL (ds_if (d_tcmp op_eq s_eq (d_meth T.c_AccountFile T.m_AccountFile_overdue (ok_AccountFile_overdue T) (hr.mono (by decide)) T.b_AccountFile_overdue (d_var 0) (d_cons (d_var 1) (d_nil))) (d_int))
      (ds_one (ds_ret (d_bl)))
      (ds_nil))
    (ds_one (ds_ret (d_orV (d_cmp op_isN s_isN (d_fld T.c_AccountFile T.n_AccountFile_reminded (d_var 0)) (d_non)) (d_one (d_cmp op_ge s_ge (d_op op_sub s_sub (d_var 1) (d_fld T.c_AccountFile T.n_AccountFile_reminded (d_var 0))) (d_fld T.c_Terms T.n_Terms_gap (d_fld T.c_AccountFile T.n_AccountFile_terms (d_var 0))))))))) (fun ds C Pk h => by
    obtain ⟨q, t, n, T, F, k, rfl, hF, hO, hq⟩ := h
    have hF0 := hF
    obtain ⟨b, d, p, s, ab, ad, as, hS⟩ := hF
    have h1 := hS.cq
    unfold flFs at h1
    refine seq_hide fun E' hE => ?_
    walk_at "dd"
    refine ⟨q, t, n, T, F, k, rfl, hF0, hO, ?_⟩
    dsimp only
    unfold wtF at hq
    clear hF0
    by_cases g0 : (odF F k).sum = 0
    · rw [if_pos g0] at hq
      rw [g0]
      walk_at "dd"
      subst hE
      exact ⟨_, Sub.refl _, hq⟩
    · rw [if_neg g0] at hq
      walk_at "dd"
      subst hE
      have ft := ft_g A T
      cases hr : F.rem with
      | none =>
        rw [hr] at hq h1
        have hoi : oiD none = .non := rfl
        walk_at "dd"
        exact ⟨_, Sub.refl _, hq⟩
      | some r =>
        rw [hr] at hq h1
        have hoi : oiD (some r) = .int r := rfl
        walk_at "dd"
        exact ⟨_, Sub.refl _, hq⟩)

def R_Terms_reminder_fee (A : Ad) : DSp := fun ds C P => ∃ t o, ds = [tmD A t, .int o] ∧ CMul o t.rate ∧ P (.int (feeF t o)) C
theorem len_Terms_reminder_fee (A : Ad) : ∀ ds C P, R_Terms_reminder_fee A ds C P → ds.length = 2 := by rintro _ _ _ ⟨t, o, rfl, _⟩; rfl
theorem ok_Terms_reminder_fee (T : Txt K mg A P w) : FnOk P w K mg base CX0 1 A.a_Terms_reminder_fee A.d_Terms_reminder_fee ["self", "overdue"] (spD K (R_Terms_reminder_fee A)) :=
  ok_D T.F_Terms_reminder_fee sc_Terms_reminder_fee (len_Terms_reminder_fee A) (fun cdv Ar outer s H E hr =>
    ds_one (ds_ret (d_op op_add s_add (d_fld T.c_Terms T.n_Terms_fee (d_var 0)) (d_op op_fdivW s_divW (d_op op_mul s_mul (d_var 1) (d_fld T.c_Terms T.n_Terms_rate (d_var 0))) (d_int))))) (fun ds C Pk h => by
    obtain ⟨t, o, rfl, hm, q⟩ := h
    have h1 := ft_f A t
    have h2 := ft_r A t
    unfold feeF at q
    walk_at "dd"
    exact ⟨by decide, _, Sub.refl _, q⟩)

def R_AccountFile_add_fee (A : Ad) : DSp := fun ds C P => ∃ q, ∃ t : Tag, ∃ n T F a k, ds = [.ptr q, .int a, .int k] ∧ FX A C t n q T F ∧ FOk F ∧ ∀ (t' : Tag) (C' : Cells) r, FX A C' t' n q T { F with dm := F.dm ++ [⟨false, F.fees, a, k, k + T.term⟩], fees := F.fees + 1 } → Kp n t t' C C' → P r C'
theorem len_AccountFile_add_fee (A : Ad) : ∀ ds C P, R_AccountFile_add_fee A ds C P → ds.length = 3 := by rintro _ _ _ ⟨q, t, n, T, F, a, k, rfl, _⟩; rfl
theorem ok_AccountFile_add_fee (T : Txt K mg A P w) : FnOk P w K mg base CX0 3 A.a_AccountFile_add_fee A.d_AccountFile_add_fee ["self", "amount", "clock"] (spD K (R_AccountFile_add_fee A)) :=
  ok_D T.F_AccountFile_add_fee sc_AccountFile_add_fee (len_AccountFile_add_fee A) (fun cdv Ar outer s H E hr =>
    ds_consL (ds_set 3 sc_AccountFile_add_fee.nd (d_make T.m_Demand_init (ok_Demand_init T) (hr.mono (by decide)) T.g_Demand T.b_Demand_init (d_cons (d_str) (d_cons (d_fld T.c_AccountFile T.n_AccountFile_fees (d_var 0)) (d_cons (d_var 1) (d_cons (d_var 2) (d_cons (d_meth T.c_Terms T.m_Terms_due_of (ok_Terms_due_of T) (hr.mono (by decide)) T.b_Terms_due_of (d_fld T.c_AccountFile T.n_AccountFile_terms (d_var 0)) (d_cons (d_var 2) (d_nil))) (d_nil))))))))
    (ds_cons (ds_fld T.c_AccountFile T.n_AccountFile_fees (d_var 0) (d_op op_add s_add (d_fld T.c_AccountFile T.n_AccountFile_fees (d_var 0)) (d_int)))
    (ds_cons (ds_expr (d_bmL PySem.F.plainAttrs_list PySem.F.slot_list_append PySem.F.type_list_append mt_append s_append (d_fld T.c_AccountFile T.n_AccountFile_demands (d_var 0)) (d_cons (d_var 3) (d_nil))))
    (ds_one (ds_ret (d_var 3)))))) (fun ds C Pk h => by
    obtain ⟨q, t, n, T, F, a, k, rfl, hF, hO, hq⟩ := h
    obtain ⟨b, d, p, s, ab, ad, as, hS⟩ := hF
    have h1 := hS.cq
    have h3 := hS.cd
    unfold flFs at h1
    have hdl := hO.sd
    have hdln := hS.rd.len
    refine seq_hide fun E' hE => ?_
    walk_at "dd"
    refine ⟨⟨rfl, rfl⟩, T, k, rfl, ?_⟩
    walk_at "dd"
    intro y hy
    refine ⟨y, _, _, _, _, _, rfl, cput_same, rfl, ?_⟩
    rw [cput_cput]
    have hsub : DD.Sub C (cput C y (dmC A F.dm.length ⟨false, F.fees, a, k, k + T.term⟩)) := Sub.new hy
    have hfee : Cell.ins A.C_Demand [("kind", .str (Str.ofString "fee")), ("number", .int F.fees), ("amount", .int a), ("made", .int k), ("due", .int (k + T.term))] = dmC A F.dm.length ⟨false, F.fees, a, k, k + T.term⟩ := rfl
    rw [hfee]
    obtain ⟨hS2, hK2⟩ := hS.set_q (F.fees + 1) F.lev F.rem
    have nqy : q ≠ y := cell_ne h1 hy
    have ndy : d ≠ y := cell_ne h3 hy
    have ndq : d ≠ q := ne_tag (t := t) (by rw [hS.td, hS.tq]; simp)
    have hy2 : cput C q (.ins A.C_AccountFile (flFs A T { F with fees := F.fees + 1, lev := F.lev, rem := F.rem } b d p s)) y = none := (cput_ne nqy.symm).trans hy
    have hS4 := hS2.add_dm hy2 ⟨false, F.fees, a, k, k + T.term⟩
    have hK4 := hK2.trans (hS2.kp_dm hy2 (dmC A F.dm.length ⟨false, F.fees, a, k, k + T.term⟩) (.lst ((ad ++ [y]).map D.ptr)) (.file n 7 F.dm.length))
    have hq2 := fun r => hq _ _ r ⟨b, d, p, s, _, _, _, hS4⟩ hK4
    have hcm : cput (cput (cput C q (.ins A.C_AccountFile (flFs A T { F with fees := F.fees + 1, lev := F.lev, rem := F.rem } b d p s))) y (dmC A F.dm.length ⟨false, F.fees, a, k, k + T.term⟩)) d (.lst ((ad ++ [y]).map D.ptr)) = cput (cput (cput C y (dmC A F.dm.length ⟨false, F.fees, a, k, k + T.term⟩)) q (.ins A.C_AccountFile (flFs A T { F with fees := F.fees + 1, lev := F.lev, rem := F.rem } b d p s))) d (.lst ((ad ++ [y]).map D.ptr)) := by
      congr 1
      funext z
      by_cases z1 : z = q
      · subst z1; rw [cput_ne nqy, cput_same, cput_same]
      · by_cases z2 : z = y
        · subst z2; rw [cput_same, cput_ne z1, cput_same]
        · rw [cput_ne z2, cput_ne z1, cput_ne z1, cput_ne z2]
    dsimp only at hq2 hcm
    rw [hcm] at hq2
    simp only [List.map_append, List.map_cons, List.map_nil] at hq2
    unfold flFs at hq2
    have c1 := hsub _ _ h1
    have c3 := hsub _ _ h3
    clear hcm hS4 hK4 hS2 hK2 hfee hsub h1 h3 hq
    generalize cput C y (dmC A F.dm.length ⟨false, F.fees, a, k, k + T.term⟩) = C2 at *
    subst hE
    walk_at "dd"
    rw [cput_ne ndq, c3]
    exact ⟨by decide, trivial, by rw [List.length_map, hdln]; omega, _, Sub.refl _, hq2 _⟩)

def R_AccountFile_remind (A : Ad) : DSp := fun ds C P => ∃ q, ∃ t : Tag, ∃ n T F k, ds = [.ptr q, .int k] ∧ FX A C t n q T F ∧ FOk F ∧ F.dm.length ≤ 900 ∧ 0 ≤ T.rate ∧ T.rate ≤ 1000 ∧ ∀ (t' : Tag) (C' : Cells), Kp n t t' C C' → FX A C' t' n q T (rmF T F k).1 → P (match (rmF T F k).2 with | none => .non | some e => .tup [.int e.1, .int e.2]) C'
theorem len_AccountFile_remind (A : Ad) : ∀ ds C P, R_AccountFile_remind A ds C P → ds.length = 2 := by rintro _ _ _ ⟨q, t, n, T, F, k, rfl, _⟩; rfl
theorem ok_AccountFile_remind (T : Txt K mg A P w) : FnOk P w K mg base CX0 8 A.a_AccountFile_remind A.d_AccountFile_remind ["self", "clock"] (spD K (R_AccountFile_remind A)) :=
  ok_D T.F_AccountFile_remind sc_AccountFile_remind (len_AccountFile_remind A) (fun cdv Ar outer s H E hr =>
    ds_consL (ds_if (d_tcmp op_eq s_eq (d_meth T.c_AccountFile T.m_AccountFile_overdue (ok_AccountFile_overdue T) (hr.mono (by decide)) T.b_AccountFile_overdue (d_var 0) (d_cons (d_var 1) (d_nil))) (d_int))
      (ds_cons (ds_fld T.c_AccountFile T.n_AccountFile_level (d_var 0) (d_int))
      (ds_cons (ds_fld T.c_AccountFile T.n_AccountFile_reminded (d_var 0) (d_non))
      (ds_one (ds_ret (d_non)))))
      (ds_nil))
    (ds_consL (ds_if (d_not (d_tval (d_meth T.c_AccountFile T.m_AccountFile_wants_reminder (ok_AccountFile_wants_reminder T) (hr.mono (by decide)) T.b_AccountFile_wants_reminder (d_var 0) (d_cons (d_var 1) (d_nil)))))
      (ds_one (ds_ret (d_non)))
      (ds_nil))
    (ds_consL (ds_set 2 sc_AccountFile_remind.nd (d_meth T.c_Terms T.m_Terms_reminder_fee (ok_Terms_reminder_fee T) (hr.mono (by decide)) T.b_Terms_reminder_fee (d_fld T.c_AccountFile T.n_AccountFile_terms (d_var 0)) (d_cons (d_meth T.c_AccountFile T.m_AccountFile_overdue (ok_AccountFile_overdue T) (hr.mono (by decide)) T.b_AccountFile_overdue (d_var 0) (d_cons (d_var 1) (d_nil))) (d_nil))))
    (ds_cons (ds_fld T.c_AccountFile T.n_AccountFile_level (d_var 0) (d_op op_add s_add (d_fld T.c_AccountFile T.n_AccountFile_level (d_var 0)) (d_int)))
    (ds_cons (ds_fld T.c_AccountFile T.n_AccountFile_reminded (d_var 0) (d_var 1))
    (ds_consL (ds_if (d_tcmp op_gt s_gt (d_var 2) (d_int))
      (ds_one (ds_expr (d_meth T.c_AccountFile T.m_AccountFile_add_fee (ok_AccountFile_add_fee T) (hr.mono (by decide)) T.b_AccountFile_add_fee (d_var 0) (d_cons (d_var 2) (d_cons (d_var 1) (d_nil))))))
      (ds_nil))
    (ds_one (ds_ret (d_tup (d_cons (d_fld T.c_AccountFile T.n_AccountFile_level (d_var 0)) (d_cons (d_var 2) (d_nil)))))))))))) (fun ds C Pk h => by
    obtain ⟨q, t, n, T, F, k, rfl, hF, hO, hl, hr0, hr1, hq⟩ := h
    have hF0 := hF
    obtain ⟨b, d, p, s, ab, ad, as, hS⟩ := hF
    have h1 := hS.cq
    unfold flFs at h1
    refine seq_hide fun E' hE => ?_
    walk_at "dd"
    refine ⟨q, t, n, T, F, k, rfl, hF0, hO, ?_⟩
    dsimp only
    by_cases g0 : (odF F k).sum = 0
    · have hrm : rmF T F k = ({ F with lev := 0, rem := none }, none) := by unfold rmF; rw [if_pos g0]
      rw [hrm] at hq
      obtain ⟨hS2, hK2⟩ := hS.set_q F.fees 0 none
      have q2 := hq t _ hK2 ⟨b, d, p, s, _, _, _, hS2⟩
      unfold flFs at q2
      have hoi : oiD none = .non := rfl
      rw [hoi] at q2
      rw [g0]
      clear hq hrm hS2 hK2 hF0
      walk_at "dd"
      show 8 < 1000 ∧ 8 < 1000 ∧ _
      refine ⟨by decide, by decide, ?_⟩
      subst hE
      exact ⟨_, Sub.refl _, q2⟩
    walk_at "dd"
    by_cases g1 : wtF T F k = false
    · have hrm : rmF T F k = (F, none) := by unfold rmF; rw [if_neg g0, if_pos g1]
      rw [hrm] at hq
      have q2 := hq t C (Kp.refl _ _ _) hF0
      clear hq hrm
      subst hE
      dsimp only
      refine seq_hide fun E' hE => ?_
      walk_at "dd"
      refine ⟨q, t, n, T, F, k, rfl, hF0, hO, ?_⟩
      rw [g1]
      walk_at "dd"
      subst hE
      exact ⟨_, Sub.refl _, q2⟩
    rw [Bool.not_eq_false] at g1
    subst hE
    dsimp only
    refine seq_hide fun E' hE => ?_
    walk_at "dd"
    refine ⟨q, t, n, T, F, k, rfl, hF0, hO, ?_⟩
    rw [g1]
    walk_at "dd"
    subst hE
    dsimp only
    refine seq_hide fun E' hE => ?_
    walk_at "dd"
    refine ⟨⟨rfl, rfl⟩, q, t, n, T, F, k, rfl, hF0, hO, ?_⟩
    dsimp only
    refine ⟨T, _, rfl, .inr ⟨by omega, by omega⟩, ?_⟩
    generalize hfe : feeF T (odF F k).sum = fe
    have hrm : rmF T F k = if 0 < fe then ({ F with dm := F.dm ++ [⟨false, F.fees, fe, k, k + T.term⟩], fees := F.fees + 1, lev := F.lev + 1, rem := some k }, some (F.lev + 1, fe)) else ({ F with lev := F.lev + 1, rem := some k }, some (F.lev + 1, fe)) := by unfold rmF; rw [if_neg g0, if_neg (by rw [g1]; decide), hfe]
    rw [hrm] at hq
    obtain ⟨hS2, hK2⟩ := hS.set_q F.fees (F.lev + 1) (some k)
    have hF2 : FX A _ t n q T { F with fees := F.fees, lev := F.lev + 1, rem := some k } := ⟨b, d, p, s, _, _, _, hS2⟩
    have c1 := hS2.cq
    have hO2 : FOk { F with fees := F.fees, lev := F.lev + 1, rem := some k } := ⟨hO.sb, hO.sd, hO.sp, hO.ss, hO.db, hO.dd⟩
    have hce : Cell.ins A.C_AccountFile (flFs A T { F with fees := F.fees, lev := F.lev + 1, rem := some k } b d p s) = .ins A.C_AccountFile [("terms", tmD A T), ("bills", .ptr b), ("demands", .ptr d), ("payments", .ptr p), ("disputes", .ptr s), ("fees", .int F.fees), ("level", .int (F.lev + 1)), ("reminded", .int k)] := rfl
    rw [hce] at hF2 hK2 c1
    clear hce hS2 hrm hfe g0 g1
    subst hE
    dsimp only
    refine seq_hide fun E' hE => ?_
    walk_at "dd"
    show 8 < 1000 ∧ _
    refine ⟨by decide, ?_⟩
    subst hE
    dsimp only
    refine seq_hide fun E' hE => ?_
    walk_at "dd"
    show 8 < 1000 ∧ _
    refine ⟨by decide, ?_⟩
    clear h1
    generalize cput C q (.ins A.C_AccountFile [("terms", tmD A T), ("bills", .ptr b), ("demands", .ptr d), ("payments", .ptr p), ("disputes", .ptr s), ("fees", .int F.fees), ("level", .int (F.lev + 1)), ("reminded", .int k)]) = C2 at *
    subst hE
    dsimp only
    refine seq_hide fun E' hE => ?_
    by_cases g2 : 0 < fe
    · rw [if_pos g2] at hq
      replace hF2 := Hid.mk hF2
      replace hO2 := Hid.mk hO2
      replace hK2 := Hid.mk hK2
      walk_at "dd"
      refine ⟨q, t, n, T, _, fe, k, rfl, hF2.h, hO2.h, fun t' C' r hF3 hK3 => ?_⟩
      have q2 := hq t' C' (hK2.h.trans hK3) hF3
      obtain ⟨b', d', p', s', ab', ad', as', hS3⟩ := hF3
      have c2 := hS3.cq
      unfold flFs at c2
      clear hq c1
      subst hE
      walk_at "dd"
      exact ⟨_, Sub.refl _, q2⟩
    · rw [if_neg g2] at hq
      have q2 := hq t C2 hK2 hF2
      clear hq
      replace hF2 := Hid.mk hF2
      replace hO2 := Hid.mk hO2
      replace hK2 := Hid.mk hK2
      walk_at "dd"
      subst hE
      walk_at "dd"
      exact ⟨_, Sub.refl _, q2⟩)

def R_law_remind (A : Ad) : DSp := fun ds C P => ∃ q pm, ∃ t : Tag, ∃ T F k, ds = [.ptr q, .ptr pm, .int k, .tup [.int T.term, .int T.gap, .int T.fee, .int T.rate]] ∧ SS A C t q pm T F ∧ Ok F ∧ Sm F ∧ 0 ≤ T.rate ∧ T.rate ≤ 1000 ∧ ∀ (t' : Tag) (C' : Cells) F', SS A C' t' q pm T F' → Ok F' → Gr F F' → (∀ a c, C a = some c → t a = .law 7 → C' a = some c ∧ t' a = t a) → P (.bl true) C'
theorem len_law_remind (A : Ad) : ∀ ds C P, R_law_remind A ds C P → ds.length = 4 := by rintro _ _ _ ⟨q, pm, t, T, F, k, rfl, _⟩; rfl
theorem ok_law_remind (T : Txt K mg A P w) : FnOk P w K mg base CX0 9 A.a_law_remind A.d_law_remind ["account", "model", "clock", "numbers"] (spD K (R_law_remind A)) :=
  ok_D T.F_law_remind sc_law_remind (len_law_remind A) (fun cdv Ar outer s H E hr =>
    ds_consL (ds_set 4 sc_law_remind.nd (d_call (ok_law_over T) (hr.mono (by decide)) T.g_law_over T.F_law_over.kp T.b_law_over (d_cons (d_var 1) (d_cons (d_var 2) (d_nil)))))
    (ds_consL (ds_set 5 sc_law_remind.nd (d_andV (d_cmp op_gt s_gt (d_var 4) (d_int)) (d_one (d_orV (d_cmp op_isN s_isN (d_dget hr (d_var 1) (d_str)) (d_non)) (d_one (d_cmp op_ge s_ge (d_op op_sub s_sub (d_var 2) (d_dget hr (d_var 1) (d_str))) (d_ix ix_seq s_ix (d_var 3) (d_int))))))))
    (ds_consL (ds_if (d_tcmp op_ne s_ne (d_meth T.c_AccountFile T.m_AccountFile_wants_reminder (ok_AccountFile_wants_reminder T) (hr.mono (by decide)) T.b_AccountFile_wants_reminder (d_var 0) (d_cons (d_var 2) (d_nil))) (d_var 5))
      (ds_one (ds_ret (d_bl)))
      (ds_nil))
    (ds_consL (ds_set 6 sc_law_remind.nd (d_non))
    (ds_consL (ds_if (d_tcmp op_eq s_eq (d_var 4) (d_int))
      (ds_cons (ds_setD hr (d_var 1) (d_str) (d_int))
      (ds_one (ds_setD hr (d_var 1) (d_str) (d_non))))
      (ds_one (ds_if (d_tval (d_var 5))
        (ds_consL (ds_set 7 sc_law_remind.nd (d_op op_add s_add (d_ix ix_seq s_ix (d_var 3) (d_int)) (d_op op_fdivW s_divW (d_op op_mul s_mul (d_var 4) (d_ix ix_seq s_ix (d_var 3) (d_int))) (d_int))))
        (ds_consL (ds_setD hr (d_var 1) (d_str) (d_op op_add s_add (d_dget hr (d_var 1) (d_str)) (d_int)))
        (ds_consL (ds_setD hr (d_var 1) (d_str) (d_var 2))
        (ds_consL (ds_set 6 sc_law_remind.nd (d_tup (d_cons (d_dget hr (d_var 1) (d_str)) (d_cons (d_var 7) (d_nil)))))
        (ds_one (ds_if (d_tcmp op_gt s_gt (d_var 7) (d_int))
          (ds_cons (ds_expr (d_bmL PySem.F.plainAttrs_list PySem.F.slot_list_append PySem.F.type_list_append mt_append s_append (d_dget hr (d_var 1) (d_str)) (d_cons (d_lstC (d_cons (d_str) (d_cons (d_dget hr (d_var 1) (d_str)) (d_cons (d_var 7) (d_cons (d_op op_add s_add (d_var 2) (d_ix ix_seq s_ix (d_var 3) (d_int))) (d_nil)))))) (d_nil))))
          (ds_one (ds_setD hr (d_var 1) (d_str) (d_op op_add s_add (d_dget hr (d_var 1) (d_str)) (d_int)))))
          (ds_nil)))))))
        (ds_nil))))
    (ds_one (ds_ret (d_cmp (op_eqD hr.units) s_eqD (d_meth T.c_AccountFile T.m_AccountFile_remind (ok_AccountFile_remind T) (hr.mono (by decide)) T.b_AccountFile_remind (d_var 0) (d_cons (d_var 2) (d_nil))) (d_var 6))))))))) (fun ds C Pk h => by
    obtain ⟨q, pm, t, T1, F, k, rfl, ⟨hF, pb, pd, ps, ad, as, hM⟩, hO, hSm, hr0, hr1, qq⟩ := h
    have hF0 := Hid.mk hF
    obtain ⟨_, _, _, _, _, _, _, hS⟩ := hF
    have h1 := hM.cm
    have h2 := hM.cd
    have c1 := hS.cq
    unfold flFs at c1
    have m1 := mo_demands pb pd ps F
    have m3 := mo_level pb pd ps F
    have m4 := mo_when pb pd ps F
    have m5 := mo_fees pb pd ps F
    clear hS
    refine seq_hide fun E' hE => ?_
    walk_at "dd"
    refine ⟨pm, t, pb, pd, ps, ad, as, F, k, rfl, hM, hO.f, ?_⟩
    have hop := odF_pos F k
    generalize ho : (odF F k).sum = o at *
    have hrm : rmF T1 F k = if o = 0 then ({ F with lev := 0, rem := none }, none) else if wtF T1 F k = false then (F, none) else if 0 < feeF T1 o then ({ F with dm := F.dm ++ [⟨false, F.fees, feeF T1 o, k, k + T1.term⟩], fees := F.fees + 1, lev := F.lev + 1, rem := some k }, some (F.lev + 1, feeF T1 o)) else ({ F with lev := F.lev + 1, rem := some k }, some (F.lev + 1, feeF T1 o)) := by
      unfold rmF
      rw [ho]
    have hw0 : o = 0 → wtF T1 F k = false := fun h => by unfold wtF; rw [ho, if_pos h]
    have hwN : o ≠ 0 → F.rem = none → wtF T1 F k = true := fun h h2 => by unfold wtF; rw [ho, if_neg h, h2]
    have hwS : ∀ r, o ≠ 0 → F.rem = some r → wtF T1 F k = decide (T1.gap ≤ k - r) := fun r h h2 => by unfold wtF; rw [ho, if_neg h, h2]
    subst hE
    dsimp only
    refine seq_hide fun E' hE => ?_
    have wants : E'.nx [some (.ptr q), some (.ptr pm), some (.int k), some (.tup [.int T1.term, .int T1.gap, .int T1.fee, .int T1.rate]), some (.int o), some (.bl (wtF T1 F k)), none, none] C := by
      clear hw0 hwN hwS
      subst hE
      dsimp only
      refine seq_hide fun E' hE => ?_
      walk_at "dd"
      refine ⟨q, t, "acc", T1, F, k, rfl, hF0.h, hO.f, ?_⟩
      show dNe (.bl _) (.bl _) _ _
      unfold dNe dEqv
      dsimp only
      simp only [decide_true, Bool.true_xor, Bool.not_true, Bool.false_eq_true, if_false]
      subst hE
      dsimp only
      refine seq_hide fun E' hE => ?_
      walk_at "dd"
      subst hE
      dsimp only
      refine seq_hide fun E' hE => ?_
      have main : ∀ (t4 : Tag) (C4 : Cells) (ad4 : List Addr) (due : D) (x7 : Option D), MS C4 t4 pm pb pd ps ad4 as (rmF T1 F k).1 → Km t t4 C C4 → (due = match (rmF T1 F k).2 with | none => .non | some e => .tup [.int e.1, .int e.2]) → E'.nx [some (.ptr q), some (.ptr pm), some (.int k), some (.tup [.int T1.term, .int T1.gap, .int T1.fee, .int T1.rate]), some (.int o), some (.bl (wtF T1 F k)), some due, x7] C4 := by
        intro t4 C4 ad4 due x7 hM4 hK4 hdue
        have hF4 := Hid.mk (hF0.h.km hK4)
        obtain ⟨_, _, _, _, _, _, _, hS4⟩ := hF4.h
        have c4 := hS4.cq
        unfold flFs at c4
        clear hS4 h1 h2 c1 hrm ho
        subst hE
        walk_at "dd"
        have hd8 := hSm.d
        refine ⟨q, t4, "acc", T1, F, k, rfl, hF4.h, hO.f, by omega, hr0, hr1, fun t' C' hK5 hF5 => ?_⟩
        obtain ⟨r1, r2, r3, r4⟩ := rmF_rel T1 F k
        have hok : Ok (rmF T1 F k).1 := by
          refine ⟨rmF_ok hO.f (by omega) T1 k, fun x hx hk => ?_⟩
          rw [r1]
          rcases r4 with e | ⟨f, m, z, e⟩
          · rw [e] at hx; exact hO.di x hx hk
          · rw [e] at hx
            rcases List.mem_append.mp hx with hx | hx
            · exact hO.di x hx hk
            · simp only [List.mem_cons, List.not_mem_nil, or_false] at hx
              rw [hx] at hk; cases hk
        have hgr : Gr F (rmF T1 F k).1 := ⟨by rw [r1]; exact Nat.le_succ _, by rcases r4 with e | ⟨f, m, z, e⟩ <;> rw [e] <;> simp, by rw [r2]; exact Nat.le_succ _, by rw [r3]; exact Nat.le_succ _⟩
        have fin := qq t' C' _ ⟨hF5, pb, pd, ps, ad4, as, hM4.mono fun a c hc hn => hK5 a c hc hn⟩ hok hgr fun a c hc ht => by
          obtain ⟨e1, e2⟩ := hK4 a c hc (fun k i z => by rw [ht] at z; cases z) (fun k z => by rw [ht] at z; injection z with z; omega)
          obtain ⟨e3, e4⟩ := hK5 a c e1 (fun k i z => by rw [e2, ht] at z; cases z)
          exact ⟨e3, e4.trans e2⟩
        subst hdue
        cases hrr : (rmF T1 F k).2 with
        | none =>
          have e1 := eqb_self (n := 1) (d := .non) .non
          refine ⟨1, by decide, .non, .non, ?_⟩
          show ∃ C2, DD.Sub C2 C' ∧ Pk (.bl (D.eqb .non .non)) C2
          rw [e1]
          exact ⟨_, Sub.refl _, fin⟩
        | some e =>
          have d1 : Dat 1 (.tup [.int e.1, .int e.2]) := by
            refine .tup fun d hd => ?_
            simp only [List.mem_cons, List.not_mem_nil, or_false] at hd
            rcases hd with rfl | rfl <;> exact .int _
          have e1 := eqb_self d1
          refine ⟨1, by decide, d1, d1, ?_⟩
          show ∃ C2, DD.Sub C2 C' ∧ Pk (.bl (D.eqb (.tup [.int e.1, .int e.2]) (.tup [.int e.1, .int e.2]))) C2
          rw [e1]
          exact ⟨_, Sub.refl _, fin⟩
      have hm15 : ∀ F', (moT pb pd ps F').length < 100000 := fun F' => by unfold moT; simp
      by_cases g0 : o = 0
      · subst g0
        rw [if_pos rfl] at hrm
        obtain ⟨hM4, hK4⟩ := hM.set_m (F' := { F with lev := 0, rem := none }) rfl rfl rfl
        have fin := Hid.mk (main t _ ad .non none (by rw [hrm]; exact hM4) hK4 (by rw [hrm]))
        have z1 := mo_set_level pb pd ps F 0
        have z2 := mo_set_when pb pd ps { F with lev := 0 } none
        unfold oiD at z2
        clear main hrm ho hop hM4 hK4
        walk_at "dd"
        exact fin.h
      · cases hw : wtF T1 F k with
        | false =>
          rw [if_neg g0, if_pos hw] at hrm
          have fin := Hid.mk (main t C ad .non none (by rw [hrm]; exact hM) (Km.refl _ _) (by rw [hrm]))
          rw [hw] at fin
          clear main hrm ho hop hw
          walk_at "dd"
          exact fin.h
        | true =>
          rw [if_neg g0, if_neg (by rw [hw]; decide)] at hrm
          rw [hw] at main
          replace main := Hid.mk main
          replace hrm := Hid.mk hrm
          walk_at "dd"
          refine seq_hide fun E2 hE2 => ?_
          walk_at "dd"
          refine ⟨cmul_r (by omega) (by omega), by decide, ?_⟩
          rw [show T1.fee + o * T1.rate / 1000 = feeF T1 o from rfl]
          subst hE2
          dsimp only
          refine seq_hide fun E2 hE2 => ?_
          have z1 := mo_set_level pb pd ps F (F.lev + 1)
          walk_at "dd"
          obtain ⟨hM4, hK4⟩ := hM.set_m (F' := { F with lev := F.lev + 1 }) rfl rfl rfl
          have h1' := hM4.cm
          have h2' := hM4.cd
          generalize hC4 : cput C pm (.dK (moT pb pd ps { F with lev := F.lev + 1 })) = C4 at *
          clear h1 h2 z1 m3
          have m3 := mo_level pb pd ps { F with lev := F.lev + 1 }
          subst hE2
          dsimp only
          refine seq_hide fun E2 hE2 => ?_
          have z2 := mo_set_when pb pd ps { F with lev := F.lev + 1 } (some k)
          unfold oiD at z2
          walk_at "dd"
          obtain ⟨hM5, hK5⟩ := hM4.set_m (F' := { F with lev := F.lev + 1, rem := some k }) rfl rfl rfl
          have hK5 := hK4.trans hK5
          have h1 := hM5.cm
          have h2 := hM5.cd
          generalize hC5 : cput C4 pm (.dK (moT pb pd ps { F with lev := F.lev + 1, rem := some k })) = C5 at *
          clear h1' h2' z2 m3 m4 m5 hC4 hC5 hM4 hK4 m1
          have m3 := mo_level pb pd ps { F with lev := F.lev + 1, rem := some k }
          have m5 := mo_fees pb pd ps { F with lev := F.lev + 1, rem := some k }
          have m1 := mo_demands pb pd ps { F with lev := F.lev + 1, rem := some k }
          have hln := hM5.rd.len
          have hln : ad.length = F.dm.length := hln
          have hd8 := hSm.d
          subst hE2
          dsimp only
          refine seq_hide fun E2 hE2 => ?_
          walk_at "dd"
          subst hE2
          dsimp only
          by_cases g2 : 0 < feeF T1 o
          · have hrm := hrm.h
            rw [if_pos g2] at hrm
            walk_at "dd"
            intro x hx
            obtain ⟨hM6, hK6⟩ := hM5.add_dm hx ⟨false, F.fees, feeF T1 o, k, k + T1.term⟩
            obtain ⟨hM7, hK7⟩ := hM6.set_m (F' := { F with dm := F.dm ++ [⟨false, F.fees, feeF T1 o, k, k + T1.term⟩], lev := F.lev + 1, rem := some k, fees := F.fees + 1 }) rfl rfl rfl
            have fin := Hid.mk (main.h _ _ _ (.tup [.int (F.lev + 1), .int (feeF T1 o)]) (some (.int (feeF T1 o))) (by rw [hrm]; exact hM7) (hK5.trans (hK6.trans hK7)) (by rw [hrm]))
            have npd : pd ≠ x := cell_ne h2 hx
            have npm : pm ≠ x := cell_ne h1 hx
            have npp : pm ≠ pd := fun z => by rw [z, h2] at h1; cases h1
            rw [cput_ne npd, h2]
            dsimp only
            refine ⟨by rw [List.length_map, hln]; omega, ?_⟩
            have hp1 : cput (cput C5 x (.lst [.str (Str.ofString "fee"), .int F.fees, .int (feeF T1 o), .int (k + T1.term)])) pd (.lst (ad.map D.ptr ++ [.ptr x])) pm = some (.dK (moT pb pd ps { F with lev := F.lev + 1, rem := some k })) := (cput_ne npp).trans ((cput_ne npm).trans h1)
            have z5 := mo_set_fees pb pd ps { F with lev := F.lev + 1, rem := some k } (F.fees + 1)
            have fin2 := fin.h
            rw [List.map_append] at fin2
            replace fin2 := Hid.mk fin2
            clear fin hM6 hK6 hM7 hK7 h1 h2
            walk_at "dd"
            exact fin2.h
          · have hrm := hrm.h
            rw [if_neg g2] at hrm
            have fin := Hid.mk (main.h t C5 ad (.tup [.int (F.lev + 1), .int (feeF T1 o)]) (some (.int (feeF T1 o))) (by rw [hrm]; exact hM5) hK5 (by rw [hrm]))
            walk_at "dd"
            exact fin.h
    by_cases g0 : o = 0
    · have g1 : ¬ 0 < o := by omega
      rw [hw0 g0] at wants
      replace wants := Hid.mk wants
      clear hw0 hwN hwS hrm ho hop g0
      walk_at "dd"
      exact wants.h
    · have g1 : 0 < o := by omega
      cases hr : F.rem with
      | none =>
        rw [hwN g0 hr] at wants
        rw [hr] at m4
        unfold oiD at m4
        replace wants := Hid.mk wants
        clear hw0 hwN hwS hrm ho hop
        walk_at "dd"
        exact wants.h
      | some r =>
        rw [hwS r g0 hr] at wants
        rw [hr] at m4
        unfold oiD at m4
        replace wants := Hid.mk wants
        clear hw0 hwN hwS hrm ho hop
        walk_at "dd"
        exact wants.h)

def R_law (A : Ad) : DSp := fun ds C P => ∃ ns : List Int, ds = [.lst (ns.map D.int)] ∧ ns.length ≤ 63 ∧ ∀ C', P (.bl true) C'
theorem len_law (A : Ad) : ∀ ds C P, R_law A ds C P → ds.length = 1 := by rintro _ _ _ ⟨ns, rfl, _⟩; rfl
theorem law_go (A : Ad) : ∀ (ns : List Int) (P : DK), ns.length ≤ 63 → (∀ C', P (.bl true) C') → R_law A [.lst (ns.map D.int)] (fun _ => none) P := fun ns P hl k => ⟨ns, rfl, hl, k⟩

theorem ok_law (T : Txt K mg A P w) : FnOk P w K mg base CX0 10 A.a_law A.d_law ["script"] (spD K (R_law A)) :=
  ok_D T.F_law sc_law (len_law A) (fun cdv Ar outer s H E hr =>
    ds_consL (ds_set 1 sc_law.nd (d_call (ok_law_state T) (hr.mono (by decide)) T.g_law_state T.F_law_state.kp T.b_law_state (d_cons (d_call (ok_law_cell T) (hr.mono (by decide)) T.g_law_cell T.F_law_cell.kp T.b_law_cell (d_cons (d_var 0) (d_cons (d_int) (d_nil)))) (d_cons (d_int) (d_nil)))))
    (ds_consL (ds_set 2 sc_law.nd (d_tup (d_cons (d_call (ok_law_digit T) (hr.mono (by decide)) T.g_law_digit T.F_law_digit.kp T.b_law_digit (d_cons (d_var 1) (d_cons (d_int) (d_nil)))) (d_cons (d_op op_add s_add (d_int) (d_call (ok_law_digit T) (hr.mono (by decide)) T.g_law_digit T.F_law_digit.kp T.b_law_digit (d_cons (d_var 1) (d_cons (d_int) (d_nil))))) (d_cons (d_call (ok_law_digit T) (hr.mono (by decide)) T.g_law_digit T.F_law_digit.kp T.b_law_digit (d_cons (d_var 1) (d_cons (d_int) (d_nil)))) (d_cons (d_ix ix_seq s_ix (d_tup (d_cons (d_int) (d_cons (d_int) (d_cons (d_int) (d_nil))))) (d_call (ok_law_digit T) (hr.mono (by decide)) T.g_law_digit T.F_law_digit.kp T.b_law_digit (d_cons (d_var 1) (d_cons (d_int) (d_nil))))) (d_nil)))))))
    (ds_consL (ds_set 3 sc_law.nd (d_make T.m_AccountFile_init (ok_AccountFile_init T) (hr.mono (by decide)) T.g_AccountFile T.b_AccountFile_init (d_cons (d_makeXF takes0 T.m_Terms_init (ok_Terms_init T) (hr.mono (by decide)) T.g_Terms T.b_Terms_init (d_cons (d_ix ix_seq s_ix (d_var 2) (d_int)) (d_cons (d_ix ix_seq s_ix (d_var 2) (d_int)) (d_cons (d_ix ix_seq s_ix (d_var 2) (d_int)) (d_cons (d_ix ix_seq s_ix (d_var 2) (d_int)) (d_nil)))))) (d_nil))))
    (ds_consL (ds_set 4 sc_law.nd (d_call0 (ok_law_new T) (hr.mono (by decide)) T.g_law_new T.F_law_new.kp T.b_law_new))
    (ds_cons (ds_set 5 sc_law.nd (d_int))
    (ds_consL (ds_for PassesOwn.never rfl (di_rng1 (by rfl) T.z_range (d_cons (d_callB (call_min2 rfl) s_min2 (by rfl) T.z_min (by decide +kernel) (d_cons (d_int) (d_cons (d_op op_add s_add (d_int) (d_callB call_len s_len (by rfl) T.z_len (by decide +kernel) (d_cons (d_var 0) (d_nil)))) (d_nil)))) (d_nil))) (dg_name 6 sc_law.nd)
      (ds_consL (ds_set 7 sc_law.nd (d_call (ok_law_state T) (hr.mono (by decide)) T.g_law_state T.F_law_state.kp T.b_law_state (d_cons (d_call (ok_law_cell T) (hr.mono (by decide)) T.g_law_cell T.F_law_cell.kp T.b_law_cell (d_cons (d_var 0) (d_cons (d_var 6) (d_nil)))) (d_cons (d_var 6) (d_nil)))))
      (ds_consL (ds_set 5 sc_law.nd (d_op op_add s_add (d_var 5) (d_call (ok_law_digit T) (hr.mono (by decide)) T.g_law_digit T.F_law_digit.kp T.b_law_digit (d_cons (d_var 7) (d_cons (d_int) (d_nil))))))
      (ds_consL (ds_set 8 sc_law.nd (d_call (ok_law_digit T) (hr.mono (by decide)) T.g_law_digit T.F_law_digit.kp T.b_law_digit (d_cons (d_var 7) (d_cons (d_int) (d_nil)))))
      (ds_cons (ds_set 9 sc_law.nd (d_bl))
      (ds_consL (ds_if (d_tcmp op_lt s_lt (d_var 8) (d_int))
        (ds_one (ds_set 9 sc_law.nd (d_call (ok_law_bill T) (hr.mono (by decide)) T.g_law_bill T.F_law_bill.kp T.b_law_bill (d_cons (d_var 3) (d_cons (d_var 4) (d_cons (d_var 7) (d_cons (d_var 5) (d_cons (d_ix ix_seq s_ix (d_var 2) (d_int)) (d_nil)))))))))
        (ds_one (ds_if (d_tcmp op_eq s_eq (d_var 8) (d_int))
          (ds_consL (ds_set 10 sc_law.nd (d_call (ok_law_digit T) (hr.mono (by decide)) T.g_law_digit T.F_law_digit.kp T.b_law_digit (d_cons (d_var 7) (d_cons (d_int) (d_nil)))))
          (ds_one (ds_if (d_tcmp op_gt s_gt (d_var 10) (d_int))
            (ds_consL (ds_expr (d_methX takes0 T.c_AccountFile T.m_AccountFile_pay (ok_AccountFile_pay T) (hr.mono (by decide)) T.b_AccountFile_pay (d_var 3) (d_cons (d_var 10) (d_cons (d_var 5) (d_nil)))))
            (ds_one (ds_setD hr (d_var 4) (d_str) (d_op op_add s_add (d_dget hr (d_var 4) (d_str)) (d_var 10)))))
            (ds_nil))))
          (ds_one (ds_if (d_tcmp op_eq s_eq (d_var 8) (d_int))
            (ds_one (ds_set 9 sc_law.nd (d_call (ok_law_dispute T) (hr.mono (by decide)) T.g_law_dispute T.F_law_dispute.kp T.b_law_dispute (d_cons (d_var 3) (d_cons (d_var 4) (d_cons (d_var 7) (d_cons (d_var 5) (d_nil))))))))
            (ds_one (ds_if (d_tcmp op_eq s_eq (d_var 8) (d_int))
              (ds_one (ds_set 9 sc_law.nd (d_call (ok_law_decide T) (hr.mono (by decide)) T.g_law_decide T.F_law_decide.kp T.b_law_decide (d_cons (d_var 3) (d_cons (d_var 4) (d_cons (d_var 7) (d_cons (d_var 5) (d_cons (d_ix ix_seq s_ix (d_var 2) (d_int)) (d_nil)))))))))
              (ds_one (ds_set 9 sc_law.nd (d_call (ok_law_remind T) (hr.mono (by decide)) T.g_law_remind T.F_law_remind.kp T.b_law_remind (d_cons (d_var 3) (d_cons (d_var 4) (d_cons (d_var 5) (d_cons (d_var 2) (d_nil)))))))))))))))
      (ds_one (ds_if ((d_or (d_not (d_tval (d_var 9))) (d_or1 (d_not (d_tval (d_call (ok_law_same T) (hr.mono (by decide)) T.g_law_same T.F_law_same.kp T.b_law_same (d_cons (d_var 3) (d_cons (d_var 4) (d_cons (d_op op_add s_add (d_var 5) (d_call (ok_law_digit T) (hr.mono (by decide)) T.g_law_digit T.F_law_digit.kp T.b_law_digit (d_cons (d_var 7) (d_cons (d_int) (d_nil))))) (d_nil))))))))).pt)
        (ds_one (ds_ret (d_bl)))
        (ds_nil)))))))))
    (ds_one (ds_ret (d_bl))))))))) (fun ds C Pk h => by
    obtain ⟨ns, rfl, hl, qz⟩ := h
    refine seq_hide fun E' hE => ?_
    walk_at "dd"
    refine ⟨ns, 0, rfl, hl, by decide, fun v => ⟨v, 70, rfl, by decide, by decide, fun p s hs hp => ?_⟩⟩
    have hcp : cput C p (.lst [.int s]) p = some (.lst [.int s]) := cput_same
    generalize cput C p (.lst [.int s]) = C1 at *
    subst hE
    dsimp only
    refine seq_hide fun E' hE => ?_
    walk_at "dd"
    refine ⟨p, s, 30, rfl, hcp, hs, by decide, by decide, fun d1 s1 ha0 ha1 hs1 => ?_⟩
    dsimp only
    refine ⟨p, s1, 20, rfl, cput_same, hs1, by decide, by decide, fun d2 s2 hb0 hb1 hs2 => ?_⟩
    rw [cput_cput]
    walk_at "dd"
    refine ⟨p, s2, 4, rfl, cput_same, hs2, by decide, by decide, fun d3 s3 hc0 hc1 hs3 => ?_⟩
    rw [cput_cput]
    walk_at "dd"
    refine ⟨p, s3, 3, rfl, cput_same, hs3, by decide, by decide, fun d4 s4 he0 he1 hs4 => ?_⟩
    rw [cput_cput]
    obtain ⟨r, hr0, hr1, hat⟩ : ∃ r : Int, 0 ≤ r ∧ r ≤ 1000 ∧ atI [D.int 0, D.int 50, D.int 1000] d4 = some (.int r) := by
      have : d4 = 0 ∨ d4 = 1 ∨ d4 = 2 := by omega
      rcases this with rfl | rfl | rfl
      · exact ⟨0, by decide, by decide, rfl⟩
      · exact ⟨50, by decide, by decide, rfl⟩
      · exact ⟨1000, by decide, by decide, rfl⟩
    dsimp only
    rw [hat]
    dsimp only
    generalize cput C1 p (.lst [.int s4]) = C2
    clear hcp hp hat
    have hT : refT ⟨d1, 1 + d2, d3, r⟩ = none := by
      unfold refT
      dsimp only
      rw [if_neg (by omega), if_neg (by omega), if_neg (by omega), if_neg (by omega)]
    subst hE
    dsimp only
    refine seq_hide fun E' hE => ?_
    walk_at "dd"
    intro p1 hp1
    refine ⟨p1, ⟨d1, 1 + d2, d3, r⟩, rfl, cput_same, fun _ => ⟨rfl, ?_⟩, fun s hs => by rw [hT] at hs; cases hs⟩
    rw [cput_cput, cput_same]
    refine ⟨C2, Sub.new hp1, hp1, fun q hq => ?_⟩
    refine ⟨q, ⟨d1, 1 + d2, d3, r⟩, fun _ => .law 50, "acc", rfl, cput_same, fun t C3 _ hF => ⟨rfl, ?_⟩⟩
    have hnum : D.tup [.int d1, .int (1 + d2), .int d3, .int r] = .tup [.int (Tm.mk d1 (1 + d2) d3 r).term, .int (Tm.mk d1 (1 + d2) d3 r).gap, .int (Tm.mk d1 (1 + d2) d3 r).fee, .int (Tm.mk d1 (1 + d2) d3 r).rate] := rfl
    rw [hnum]
    have hq0 : 0 ≤ (Tm.mk d1 (1 + d2) d3 r).rate := hr0
    have hq1 : (Tm.mk d1 (1 + d2) d3 r).rate ≤ 1000 := hr1
    generalize (Tm.mk d1 (1 + d2) d3 r) = T0 at *
    clear hnum hT hq hp1 hr0 hr1 ha0 ha1 hb0 hb1 hc0 hc1 he0 he1 hs hs1 hs2 hs3 hs4
    subst hE
    dsimp only
    refine seq_hide fun E' hE => ?_
    walk_at "dd"
    refine ⟨rfl, t, fun t2 C4 pm pb pd ps hk hM => ?_⟩
    have hS : SS A C4 t2 q pm T0 emF := ⟨hF.mono fun k i a c ta hc => hk a c hc, pb, pd, ps, [], [], hM⟩
    clear hF hk hM
    dsimp only
    subst hE
    dsimp only
    refine seq_hide fun E' hE => ?_
    walk_at "dd"
    subst hE
    dsimp only
    refine seq_hide fun E' hE => ?_
    walk_at "dd"
    refine ⟨by omega, for_rng (fun j ρ' C' => ∃ (t : Tag) (F : Fl) (clk : Int), SS A C' t q pm T0 F ∧ Ok F ∧ (F.bl.length ≤ j ∧ F.dm.length ≤ j ∧ F.pay.length ≤ j ∧ F.dp.length ≤ j) ∧ ∃ x6 x7 x8 x9 x10, ρ' = [some (.lst (ns.map D.int)), some (.ptr p), some (.tup [.int T0.term, .int T0.gap, .int T0.fee, .int T0.rate]), some (.ptr q), some (.ptr pm), some (.int clk), x6, x7, x8, x9, x10]) ⟨t2, emF, 0, hS, ⟨⟨Nat.zero_le _, Nat.zero_le _, Nat.zero_le _, Nat.zero_le _, (fun x hx => by cases hx), (fun x hx => by cases hx)⟩, fun x hx => by cases hx⟩, ⟨Nat.le_refl _, Nat.le_refl _, Nat.le_refl _, Nat.le_refl _⟩, _, _, _, _, _, rfl⟩ ?_ ?_⟩
    · clear hS
      rintro j ρ' C' hj ⟨t, F, clk, hS, hO, ⟨l1, l2, l3, l4⟩, x6, x7, x8, x9, x10, rfl⟩
      have hj : j < (min 40 (12 + (ns.length : Int))).toNat := hj
      refine seq_hide fun E2 hE2 => ?_
      walk_at "dd"
      refine ⟨ns, (j : Int), rfl, hl, by omega, fun v => ⟨v, (j : Int), rfl, by omega, by omega, fun st s hs hp => ?_⟩⟩
      have hS2 := hS.same (C' := cput C' st (.lst [.int s])) (t' := tset t st (.law 7)) fun a c hc => ⟨(cput_ne (cell_ne hc hp)).trans hc, tset_ne (cell_ne hc hp)⟩
      have hts : tset t st (.law 7) st = .law 7 := tset_same
      have hcs : cput C' st (.lst [.int s]) st = some (.lst [.int s]) := cput_same
      clear hS
      generalize tset t st (.law 7) = t3 at *
      generalize cput C' st (.lst [.int s]) = C5 at *
      clear hp
      subst hE2
      dsimp only
      refine seq_hide fun E2 hE2 => ?_
      walk_at "dd"
      refine ⟨st, s, 16, rfl, hcs, hs, by decide, by decide, fun d1 s1 hd1 hd1' hs1 => ?_⟩
      have hS3 := hS2.put7 hts (.lst [.int s1])
      have hcs3 : cput C5 st (.lst [.int s1]) st = some (.lst [.int s1]) := cput_same
      generalize cput C5 st (.lst [.int s1]) = C6 at *
      clear hS2 hcs
      walk_at "dd"
      generalize clk + d1 = clk2
      subst hE2
      dsimp only
      refine seq_hide fun E2 hE2 => ?_
      walk_at "dd"
      refine ⟨st, s1, 8, rfl, hcs3, hs1, by decide, by decide, fun d2 s2 hd2 hd2' hs2 => ?_⟩
      have hS4 := hS3.put7 hts (.lst [.int s2])
      have hcs4 : cput C6 st (.lst [.int s2]) st = some (.lst [.int s2]) := cput_same
      generalize cput C6 st (.lst [.int s2]) = C7 at *
      clear hS3 hcs3
      walk_at "dd"
      subst hE2
      dsimp only
      walk_at "dd"
      refine seq_hide fun E2 hE2 => ?_
      have fin : ∀ (t : Tag) (C' : Cells) (F : Fl) (s3 : Int) (x10 : Option D), SS A C' t q pm T0 F → Ok F → (F.bl.length ≤ j + 1 ∧ F.dm.length ≤ j + 1 ∧ F.pay.length ≤ j + 1 ∧ F.dp.length ≤ j + 1) → C' st = some (.lst [.int s3]) → t st = .law 7 → 0 ≤ s3 → E2.nx [some (.lst (ns.map D.int)), some (.ptr p), some (.tup [.int T0.term, .int T0.gap, .int T0.fee, .int T0.rate]), some (.ptr q), some (.ptr pm), some (.int clk2), some (.int j), some (.ptr st), some (.int d2), some (.bl true), x10] C' := by
        clear hS4 hO hcs4 hts
        intro t C' F s3 x10 hS hO hl hc ht hs3
        have hS := Hid.mk hS
        have hO := Hid.mk hO
        have hl := Hid.mk hl
        subst hE2
        dsimp only
        walk_at "dd"
        refine ⟨st, s3, 9, rfl, hc, hs3, by decide, by decide, fun d3 s4 hd3 hd3' hs4 => ?_⟩
        have hS5 := Hid.mk (hS.h.put7 ht (.lst [.int s4]))
        walk_at "dd"
        refine ⟨q, pm, t, T0, F, clk2 + d3, rfl, hS5.h, hO.h.f, ?_⟩
        dsimp only
        exact ⟨t, F, clk2, hS5.h, hO.h, hl.h, _, _, _, _, _, rfl⟩
      clear hE2
      have hsm : Sm F := ⟨by omega, by omega, by omega, by omega⟩
      have fin := Hid.mk fin
      replace hS4 := Hid.mk hS4
      replace hO := Hid.mk hO
      have up : ∀ F', Gr F F' → (F'.bl.length ≤ j + 1 ∧ F'.dm.length ≤ j + 1 ∧ F'.pay.length ≤ j + 1 ∧ F'.dp.length ≤ j + 1) := fun F' g => ⟨Nat.le_trans g.b (by omega), Nat.le_trans g.d (by omega), Nat.le_trans g.p (by omega), Nat.le_trans g.s (by omega)⟩
      replace up := Hid.mk up
      by_cases g1 : d2 < 3
      · walk_at "dd"
        refine ⟨q, pm, t3, T0, F, st, s2, clk2, rfl, hS4.h, hO.h, hsm, hcs4, hts, hs2, fun t' C' F' s' x1 x2 x3 x4 x5 x6 => ?_⟩
        dsimp only
        exact fin.h t' C' F' s' _ x1 x2 (up.h F' x3) x4 x5 x6
      by_cases g2 : d2 = 3
      · subst g2
        walk_at "dd"
        refine seq_hide fun E3 hE3 => ?_
        walk_at "dd"
        refine ⟨st, s2, 40, rfl, hcs4, hs2, by decide, by decide, fun d3 s3 hd3 hd3' hs3 => ?_⟩
        have hS5 := hS4.h.put7 hts (.lst [.int s3])
        have hcs5 : cput C7 st (.lst [.int s3]) st = some (.lst [.int s3]) := cput_same
        generalize cput C7 st (.lst [.int s3]) = C8 at *
        clear hS4 hcs4
        walk_at "dd"
        subst hE3
        dsimp only
        by_cases g6 : 0 < d3
        · obtain ⟨hF5, pb, pd, ps, ad, as, hM5⟩ := hS5
          have hF0 := Hid.mk hF5
          obtain ⟨_, _, _, _, _, _, _, hX⟩ := hF5
          have c1 := hX.cq
          unfold flFs at c1
          clear hX
          walk_at "dd"
          refine seq_hide fun E3 hE3 => ?_
          walk_at "dd"
          refine ⟨q, t3, "acc", T0, F, d3, clk2, rfl, hF0.h, hO.h.f, by omega, fun C9 hF6 hK6 => ?_⟩
          have hM6 := hM5.mono fun a c hc hn => hK6 a c hc hn
          obtain ⟨f1, _⟩ := hK6 st _ hcs5 (fun k i z => by rw [hts] at z; cases z)
          clear c1 hM5 hcs5 hF0
          have h1 := hM6.cm
          have m1 := mo_paid pb pd ps F
          have z1 := mo_set_paid pb pd ps F d3 clk2
          obtain ⟨hM7, hK7⟩ := hM6.set_m (F' := { F with pay := F.pay ++ [(d3, clk2)] }) rfl rfl rfl
          obtain ⟨f2, _⟩ := hK7 st _ f1 (fun k i z => by rw [hts] at z; cases z) (fun k z => by rw [hts] at z; injection z with z; omega)
          have hok : Ok { F with pay := F.pay ++ [(d3, clk2)] } := ⟨⟨hO.h.f.sb, hO.h.f.sd, by rw [List.length_append]; simp; omega, hO.h.f.ss, hO.h.f.db, hO.h.f.dd⟩, hO.h.di⟩
          have fin2 := fun x10 => fin.h t3 _ _ s3 x10 ⟨hF6.km hK7, pb, pd, ps, ad, as, hM7⟩ hok (up.h _ ⟨Nat.le_succ _, Nat.le_succ _, by rw [List.length_append]; exact Nat.le_refl _, Nat.le_succ _⟩) f2 hts hs3
          have hm15 : (moT pb pd ps F).length < 100000 := by unfold moT; simp
          replace fin2 := Hid.mk fin2
          clear hF6 hM6 hM7 hK7 hK6 f1 f2 hok fin
          dsimp only
          subst hE3
          dsimp only
          walk_at "dd"
          exact fin2.h _
        · have fin2 := fun x10 => fin.h t3 C8 F s3 x10 hS5 hO.h (up.h _ (Gr.refl F)) hcs5 hts hs3
          replace fin2 := Hid.mk fin2
          walk_at "dd"
          exact fin2.h _
      by_cases g3 : d2 = 4
      · subst g3
        walk_at "dd"
        refine ⟨q, pm, t3, T0, F, st, s2, clk2, rfl, hS4.h, hO.h, hsm, hcs4, hts, hs2, fun t' C' F' s' x1 x2 x3 x4 x5 x6 => ?_⟩
        dsimp only
        exact fin.h t' C' F' s' _ x1 x2 (up.h F' x3) x4 x5 x6
      by_cases g4 : d2 = 5
      · subst g4
        walk_at "dd"
        refine ⟨q, pm, t3, T0, F, st, s2, clk2, rfl, hS4.h, hO.h, hsm, hcs4, hts, hs2, fun t' C' F' s' x1 x2 x3 x4 x5 x6 => ?_⟩
        dsimp only
        exact fin.h t' C' F' s' _ x1 x2 (up.h F' x3) x4 x5 x6
      walk_at "dd"
      refine ⟨q, pm, t3, T0, F, clk2, rfl, hS4.h, hO.h, hsm, hq0, hq1, fun t' C' F' x1 x2 x3 x4 => ?_⟩
      dsimp only
      obtain ⟨y1, y2⟩ := x4 _ _ hcs4 hts
      exact fin.h t' C' F' s2 _ x1 x2 (up.h F' x3) y1 (y2.trans hts) hs2
    · rintro ρ' C' ⟨t, F, clk, hS, hO, _, x6, x7, x8, x9, x10, rfl⟩
      subst hE
      walk_at "dd"
      exact ⟨_, Sub.refl _⟩)

end
/-! ### what the top has written, the head -/
theorem all_mk {l : PySem.W.OpenLaw} {w : World} {K : PySem.W.Frag} {h : Heap} {mg : Str → Option Value} {fa : Addr} (X : K.In h) (G : h.Ns mainGlobals mg) (hfa : mg "law" = some (.ref fa))
    {C_Bill : Addr}
    {C_Demand : Addr}
    {C_LineError : Addr}
    {C_BadTerms : Addr}
    {C_NoSuchBill : Addr}
    {C_NoSuchDispute : Addr}
    {C_BadAmount : Addr}
    {C_IsDecided : Addr}
    {C_NotInDispute : Addr}
    {C_Dispute : Addr}
    {C_AccountFile : Addr}
    {C_Terms : Addr}
    {t_GRANTED : Tok}
    {t_REFUSED : Tok}
    {t_WAITING : Tok}
    {f_law_state : Addr} {od_law_state an_law_state : Option Addr} {sl_law_state : Array (Option Value)} {oc_law_state kV_law_state dc_law_state pm_law_state cd_law_state ct_law_state : Value}
    {f_AccountFile_init : Addr} {od_AccountFile_init an_AccountFile_init : Option Addr} {sl_AccountFile_init : Array (Option Value)} {oc_AccountFile_init kV_AccountFile_init dc_AccountFile_init pm_AccountFile_init cd_AccountFile_init ct_AccountFile_init : Value}
    {f_law_new : Addr} {od_law_new an_law_new : Option Addr} {sl_law_new : Array (Option Value)} {oc_law_new kV_law_new dc_law_new pm_law_new cd_law_new ct_law_new : Value}
    {f_law_cell : Addr} {od_law_cell an_law_cell : Option Addr} {sl_law_cell : Array (Option Value)} {oc_law_cell kV_law_cell dc_law_cell pm_law_cell cd_law_cell ct_law_cell : Value}
    {f_law_digit : Addr} {od_law_digit an_law_digit : Option Addr} {sl_law_digit : Array (Option Value)} {oc_law_digit kV_law_digit dc_law_digit pm_law_digit cd_law_digit ct_law_digit : Value}
    {f_BadTerms_init cd_BadTerms_init cc_BadTerms_init : Addr} {od_BadTerms_init an_BadTerms_init cdd_BadTerms_init cld_BadTerms_init : Option Addr} {sl_BadTerms_init ccs_BadTerms_init csl_BadTerms_init : Array (Option Value)} {vs_BadTerms_init : Array Value} {oc_BadTerms_init kV_BadTerms_init dc_BadTerms_init pm_BadTerms_init ct_BadTerms_init ccl_BadTerms_init cl_BadTerms_init : Value} {file_BadTerms_init : Str} {tf_BadTerms_init : Tok}
    {nm_BadTerms qn_BadTerms : Str} {N_BadTerms : Addr} {bs_BadTerms bm_BadTerms sub_BadTerms : List Value} {sn_BadTerms : List Str} {ab_BadTerms : Bool} {col_BadTerms : Option Bool} {dd_BadTerms : Option Addr} {k0_BadTerms k1_BadTerms k2_BadTerms k3_BadTerms k5_BadTerms : Option Value}
    {f_Terms_init : Addr} {od_Terms_init an_Terms_init : Option Addr} {sl_Terms_init : Array (Option Value)} {oc_Terms_init kV_Terms_init dc_Terms_init pm_Terms_init cd_Terms_init ct_Terms_init : Value}
    {f_Bill_init : Addr} {od_Bill_init an_Bill_init : Option Addr} {sl_Bill_init : Array (Option Value)} {oc_Bill_init kV_Bill_init dc_Bill_init pm_Bill_init cd_Bill_init ct_Bill_init : Value}
    {f_Terms_due_of : Addr} {od_Terms_due_of an_Terms_due_of : Option Addr} {sl_Terms_due_of : Array (Option Value)} {oc_Terms_due_of kV_Terms_due_of dc_Terms_due_of pm_Terms_due_of cd_Terms_due_of ct_Terms_due_of : Value}
    {f_Demand_init : Addr} {od_Demand_init an_Demand_init : Option Addr} {sl_Demand_init : Array (Option Value)} {oc_Demand_init kV_Demand_init dc_Demand_init pm_Demand_init cd_Demand_init ct_Demand_init : Value}
    {f_AccountFile_add_bill : Addr} {od_AccountFile_add_bill an_AccountFile_add_bill : Option Addr} {sl_AccountFile_add_bill : Array (Option Value)} {oc_AccountFile_add_bill kV_AccountFile_add_bill dc_AccountFile_add_bill pm_AccountFile_add_bill cd_AccountFile_add_bill ct_AccountFile_add_bill : Value}
    {f_Bill_row : Addr} {od_Bill_row an_Bill_row : Option Addr} {sl_Bill_row : Array (Option Value)} {oc_Bill_row kV_Bill_row dc_Bill_row pm_Bill_row cd_Bill_row ct_Bill_row : Value}
    {f_law_bill : Addr} {od_law_bill an_law_bill : Option Addr} {sl_law_bill : Array (Option Value)} {oc_law_bill kV_law_bill dc_law_bill pm_law_bill cd_law_bill ct_law_bill : Value}
    {f_law_means : Addr} {od_law_means an_law_means : Option Addr} {sl_law_means : Array (Option Value)} {oc_law_means kV_law_means dc_law_means pm_law_means cd_law_means ct_law_means : Value}
    {f_law_left : Addr} {od_law_left an_law_left : Option Addr} {sl_law_left : Array (Option Value)} {oc_law_left kV_law_left dc_law_left pm_law_left cd_law_left ct_law_left : Value}
    {f_allot : Addr} {od_allot an_allot : Option Addr} {sl_allot : Array (Option Value)} {oc_allot kV_allot dc_allot pm_allot cd_allot ct_allot : Value}
    {f_open_amounts : Addr} {od_open_amounts an_open_amounts : Option Addr} {sl_open_amounts : Array (Option Value)} {oc_open_amounts kV_open_amounts dc_open_amounts pm_open_amounts cd_open_amounts ct_open_amounts : Value}
    {f_Dispute_is_granted : Addr} {od_Dispute_is_granted an_Dispute_is_granted : Option Addr} {sl_Dispute_is_granted : Array (Option Value)} {oc_Dispute_is_granted kV_Dispute_is_granted dc_Dispute_is_granted pm_Dispute_is_granted cd_Dispute_is_granted ct_Dispute_is_granted : Value}
    {f_all_granted : Addr} {od_all_granted an_all_granted : Option Addr} {sl_all_granted : Array (Option Value)} {oc_all_granted kV_all_granted dc_all_granted pm_all_granted cd_all_granted ct_all_granted : Value}
    {f_AccountFile_paid : Addr} {od_AccountFile_paid an_AccountFile_paid : Option Addr} {sl_AccountFile_paid : Array (Option Value)} {oc_AccountFile_paid kV_AccountFile_paid dc_AccountFile_paid pm_AccountFile_paid cd_AccountFile_paid ct_AccountFile_paid : Value}
    {f_AccountFile_credit_sum : Addr} {od_AccountFile_credit_sum an_AccountFile_credit_sum : Option Addr} {sl_AccountFile_credit_sum : Array (Option Value)} {oc_AccountFile_credit_sum kV_AccountFile_credit_sum dc_AccountFile_credit_sum pm_AccountFile_credit_sum cd_AccountFile_credit_sum ct_AccountFile_credit_sum : Value}
    {f_AccountFile_means : Addr} {od_AccountFile_means an_AccountFile_means : Option Addr} {sl_AccountFile_means : Array (Option Value)} {oc_AccountFile_means kV_AccountFile_means dc_AccountFile_means pm_AccountFile_means cd_AccountFile_means ct_AccountFile_means : Value}
    {f_AccountFile_amounts : Addr} {od_AccountFile_amounts an_AccountFile_amounts : Option Addr} {sl_AccountFile_amounts : Array (Option Value)} {oc_AccountFile_amounts kV_AccountFile_amounts dc_AccountFile_amounts pm_AccountFile_amounts cd_AccountFile_amounts ct_AccountFile_amounts : Value}
    {f_AccountFile_open_list : Addr} {od_AccountFile_open_list an_AccountFile_open_list : Option Addr} {sl_AccountFile_open_list : Array (Option Value)} {oc_AccountFile_open_list kV_AccountFile_open_list dc_AccountFile_open_list pm_AccountFile_open_list cd_AccountFile_open_list ct_AccountFile_open_list : Value}
    {f_AccountFile_open_total : Addr} {od_AccountFile_open_total an_AccountFile_open_total : Option Addr} {sl_AccountFile_open_total : Array (Option Value)} {oc_AccountFile_open_total kV_AccountFile_open_total dc_AccountFile_open_total pm_AccountFile_open_total cd_AccountFile_open_total ct_AccountFile_open_total : Value}
    {f_credit_of : Addr} {od_credit_of an_credit_of : Option Addr} {sl_credit_of : Array (Option Value)} {oc_credit_of kV_credit_of dc_credit_of pm_credit_of cd_credit_of ct_credit_of : Value}
    {f_AccountFile_credit : Addr} {od_AccountFile_credit an_AccountFile_credit : Option Addr} {sl_AccountFile_credit : Array (Option Value)} {oc_AccountFile_credit kV_AccountFile_credit dc_AccountFile_credit pm_AccountFile_credit cd_AccountFile_credit ct_AccountFile_credit : Value}
    {f_AccountFile_asked : Addr} {od_AccountFile_asked an_AccountFile_asked : Option Addr} {sl_AccountFile_asked : Array (Option Value)} {oc_AccountFile_asked kV_AccountFile_asked dc_AccountFile_asked pm_AccountFile_asked cd_AccountFile_asked ct_AccountFile_asked : Value}
    {f_Dispute_is_waiting : Addr} {od_Dispute_is_waiting an_Dispute_is_waiting : Option Addr} {sl_Dispute_is_waiting : Array (Option Value)} {oc_Dispute_is_waiting kV_Dispute_is_waiting dc_Dispute_is_waiting pm_Dispute_is_waiting cd_Dispute_is_waiting ct_Dispute_is_waiting : Value}
    {f_held_of : Addr} {od_held_of an_held_of : Option Addr} {sl_held_of : Array (Option Value)} {oc_held_of kV_held_of dc_held_of pm_held_of cd_held_of ct_held_of : Value}
    {f_AccountFile_held : Addr} {od_AccountFile_held an_AccountFile_held : Option Addr} {sl_AccountFile_held : Array (Option Value)} {oc_AccountFile_held kV_AccountFile_held dc_AccountFile_held pm_AccountFile_held cd_AccountFile_held ct_AccountFile_held : Value}
    {f_AccountFile_overdue_list : Addr} {od_AccountFile_overdue_list an_AccountFile_overdue_list : Option Addr} {sl_AccountFile_overdue_list : Array (Option Value)} {oc_AccountFile_overdue_list kV_AccountFile_overdue_list dc_AccountFile_overdue_list pm_AccountFile_overdue_list cd_AccountFile_overdue_list ct_AccountFile_overdue_list : Value}
    {f_AccountFile_overdue : Addr} {od_AccountFile_overdue an_AccountFile_overdue : Option Addr} {sl_AccountFile_overdue : Array (Option Value)} {oc_AccountFile_overdue kV_AccountFile_overdue dc_AccountFile_overdue pm_AccountFile_overdue cd_AccountFile_overdue ct_AccountFile_overdue : Value}
    {f_law_over : Addr} {od_law_over an_law_over : Option Addr} {sl_law_over : Array (Option Value)} {oc_law_over kV_law_over dc_law_over pm_law_over cd_law_over ct_law_over : Value}
    {f_Demand_row : Addr} {od_Demand_row an_Demand_row : Option Addr} {sl_Demand_row : Array (Option Value)} {oc_Demand_row kV_Demand_row dc_Demand_row pm_Demand_row cd_Demand_row ct_Demand_row : Value}
    {f_law_same : Addr} {od_law_same an_law_same : Option Addr} {sl_law_same : Array (Option Value)} {oc_law_same kV_law_same dc_law_same pm_law_same cd_law_same ct_law_same : Value}
    {f_AccountFile_pay : Addr} {od_AccountFile_pay an_AccountFile_pay : Option Addr} {sl_AccountFile_pay : Array (Option Value)} {oc_AccountFile_pay kV_AccountFile_pay dc_AccountFile_pay pm_AccountFile_pay cd_AccountFile_pay ct_AccountFile_pay : Value}
    {f_AccountFile_bill : Addr} {od_AccountFile_bill an_AccountFile_bill : Option Addr} {sl_AccountFile_bill : Array (Option Value)} {oc_AccountFile_bill kV_AccountFile_bill dc_AccountFile_bill pm_AccountFile_bill cd_AccountFile_bill ct_AccountFile_bill : Value}
    {f_Bill_is_credit : Addr} {od_Bill_is_credit an_Bill_is_credit : Option Addr} {sl_Bill_is_credit : Array (Option Value)} {oc_Bill_is_credit kV_Bill_is_credit dc_Bill_is_credit pm_Bill_is_credit cd_Bill_is_credit ct_Bill_is_credit : Value}
    {f_Dispute_init : Addr} {od_Dispute_init an_Dispute_init : Option Addr} {sl_Dispute_init : Array (Option Value)} {oc_Dispute_init kV_Dispute_init dc_Dispute_init pm_Dispute_init cd_Dispute_init ct_Dispute_init : Value}
    {f_granted_of : Addr} {od_granted_of an_granted_of : Option Addr} {sl_granted_of : Array (Option Value)} {oc_granted_of kV_granted_of dc_granted_of pm_granted_of cd_granted_of ct_granted_of : Value}
    {f_can_be_disputed : Addr} {od_can_be_disputed an_can_be_disputed : Option Addr} {sl_can_be_disputed : Array (Option Value)} {oc_can_be_disputed kV_can_be_disputed dc_can_be_disputed pm_can_be_disputed cd_can_be_disputed ct_can_be_disputed : Value}
    {f_AccountFile_dispute : Addr} {od_AccountFile_dispute an_AccountFile_dispute : Option Addr} {sl_AccountFile_dispute : Array (Option Value)} {oc_AccountFile_dispute kV_AccountFile_dispute dc_AccountFile_dispute pm_AccountFile_dispute cd_AccountFile_dispute ct_AccountFile_dispute : Value}
    {f_law_kind : Addr} {od_law_kind an_law_kind : Option Addr} {sl_law_kind : Array (Option Value)} {oc_law_kind kV_law_kind dc_law_kind pm_law_kind cd_law_kind ct_law_kind : Value}
    {f_law_disputes : Addr} {od_law_disputes an_law_disputes : Option Addr} {sl_law_disputes : Array (Option Value)} {oc_law_disputes kV_law_disputes dc_law_disputes pm_law_disputes cd_law_disputes ct_law_disputes : Value}
    {f_law_spread : Addr} {od_law_spread an_law_spread : Option Addr} {sl_law_spread : Array (Option Value)} {oc_law_spread kV_law_spread dc_law_spread pm_law_spread cd_law_spread ct_law_spread : Value}
    {f_law_dispute : Addr} {od_law_dispute an_law_dispute : Option Addr} {sl_law_dispute : Array (Option Value)} {oc_law_dispute kV_law_dispute dc_law_dispute pm_law_dispute cd_law_dispute ct_law_dispute : Value}
    {f_Dispute_decide : Addr} {od_Dispute_decide an_Dispute_decide : Option Addr} {sl_Dispute_decide : Array (Option Value)} {oc_Dispute_decide kV_Dispute_decide dc_Dispute_decide pm_Dispute_decide cd_Dispute_decide ct_Dispute_decide : Value}
    {f_AccountFile_put_off : Addr} {od_AccountFile_put_off an_AccountFile_put_off : Option Addr} {sl_AccountFile_put_off : Array (Option Value)} {oc_AccountFile_put_off kV_AccountFile_put_off dc_AccountFile_put_off pm_AccountFile_put_off cd_AccountFile_put_off ct_AccountFile_put_off : Value}
    {f_AccountFile_decide : Addr} {od_AccountFile_decide an_AccountFile_decide : Option Addr} {sl_AccountFile_decide : Array (Option Value)} {oc_AccountFile_decide kV_AccountFile_decide dc_AccountFile_decide pm_AccountFile_decide cd_AccountFile_decide ct_AccountFile_decide : Value}
    {f_law_decides : Addr} {od_law_decides an_law_decides : Option Addr} {sl_law_decides : Array (Option Value)} {oc_law_decides kV_law_decides dc_law_decides pm_law_decides cd_law_decides ct_law_decides : Value}
    {f_law_decide : Addr} {od_law_decide an_law_decide : Option Addr} {sl_law_decide : Array (Option Value)} {oc_law_decide kV_law_decide dc_law_decide pm_law_decide cd_law_decide ct_law_decide : Value}
    {f_AccountFile_wants_reminder : Addr} {od_AccountFile_wants_reminder an_AccountFile_wants_reminder : Option Addr} {sl_AccountFile_wants_reminder : Array (Option Value)} {oc_AccountFile_wants_reminder kV_AccountFile_wants_reminder dc_AccountFile_wants_reminder pm_AccountFile_wants_reminder cd_AccountFile_wants_reminder ct_AccountFile_wants_reminder : Value}
    {f_Terms_reminder_fee : Addr} {od_Terms_reminder_fee an_Terms_reminder_fee : Option Addr} {sl_Terms_reminder_fee : Array (Option Value)} {oc_Terms_reminder_fee kV_Terms_reminder_fee dc_Terms_reminder_fee pm_Terms_reminder_fee cd_Terms_reminder_fee ct_Terms_reminder_fee : Value}
    {f_AccountFile_add_fee : Addr} {od_AccountFile_add_fee an_AccountFile_add_fee : Option Addr} {sl_AccountFile_add_fee : Array (Option Value)} {oc_AccountFile_add_fee kV_AccountFile_add_fee dc_AccountFile_add_fee pm_AccountFile_add_fee cd_AccountFile_add_fee ct_AccountFile_add_fee : Value}
    {f_AccountFile_remind : Addr} {od_AccountFile_remind an_AccountFile_remind : Option Addr} {sl_AccountFile_remind : Array (Option Value)} {oc_AccountFile_remind kV_AccountFile_remind dc_AccountFile_remind pm_AccountFile_remind cd_AccountFile_remind ct_AccountFile_remind : Value}
    {f_law_remind : Addr} {od_law_remind an_law_remind : Option Addr} {sl_law_remind : Array (Option Value)} {oc_law_remind kV_law_remind dc_law_remind pm_law_remind cd_law_remind ct_law_remind : Value}
    {f_law : Addr} {od_law an_law : Option Addr} {sl_law : Array (Option Value)} {oc_law kV_law dc_law pm_law cd_law ct_law : Value}
    (aC_Bill : PySem.W.nsIn K mainGlobals "Bill" = some (some (.ref C_Bill)))
    (pg_Bill : PySem.W.plainGet K C_Bill Str.empty = true)
    (hd_Bill : PySem.W.hasDictIn K C_Bill = true)
    (po_Bill : PySem.W.plainOver K C_Bill = true)
    (sa_Bill : PySem.W.findIn K (.ref C_Bill) "__setattr__" = some (some (.builtin "object.__setattr__")))
    (mk_Bill : PySem.W.makesIn K C_Bill = true)
    (kc_Bill : PySem.W.keepIn K (.ref C_Bill) = true)
    (aC_Demand : PySem.W.nsIn K mainGlobals "Demand" = some (some (.ref C_Demand)))
    (pg_Demand : PySem.W.plainGet K C_Demand Str.empty = true)
    (hd_Demand : PySem.W.hasDictIn K C_Demand = true)
    (po_Demand : PySem.W.plainOver K C_Demand = true)
    (sa_Demand : PySem.W.findIn K (.ref C_Demand) "__setattr__" = some (some (.builtin "object.__setattr__")))
    (mk_Demand : PySem.W.makesIn K C_Demand = true)
    (kc_Demand : PySem.W.keepIn K (.ref C_Demand) = true)
    (aC_LineError : PySem.W.nsIn K mainGlobals "LineError" = some (some (.ref C_LineError)))
    (xi_LineError : PySem.W.excIn K C_LineError [.type "ValueError", .type "Exception", .type "BaseException", .type "object"] "ValueError.__new__" = true)
    (xb_LineError : PySem.W.subIn K (.ref C_LineError) (.type "BaseException") = some true)
    (xt_LineError : PySem.W.typeIn K (.ref C_LineError) = some (.type "type"))
    (xk_LineError : PySem.W.keepIn K (.ref C_LineError) = true)
    (xc_LineError : PySem.W.isClsIn K C_LineError = true)
    (aC_BadTerms : PySem.W.nsIn K mainGlobals "BadTerms" = some (some (.ref C_BadTerms)))
    (xb_BadTerms : PySem.W.subIn K (.ref C_BadTerms) (.type "BaseException") = some true)
    (xt_BadTerms : PySem.W.typeIn K (.ref C_BadTerms) = some (.type "type"))
    (xk_BadTerms : PySem.W.keepIn K (.ref C_BadTerms) = true)
    (xc_BadTerms : PySem.W.isClsIn K C_BadTerms = true)
    (aC_NoSuchBill : PySem.W.nsIn K mainGlobals "NoSuchBill" = some (some (.ref C_NoSuchBill)))
    (xi_NoSuchBill : PySem.W.excIn K C_NoSuchBill [.type "ValueError", .type "Exception", .type "BaseException", .type "object"] "ValueError.__new__" = true)
    (xb_NoSuchBill : PySem.W.subIn K (.ref C_NoSuchBill) (.type "BaseException") = some true)
    (xt_NoSuchBill : PySem.W.typeIn K (.ref C_NoSuchBill) = some (.type "type"))
    (xk_NoSuchBill : PySem.W.keepIn K (.ref C_NoSuchBill) = true)
    (xc_NoSuchBill : PySem.W.isClsIn K C_NoSuchBill = true)
    (aC_NoSuchDispute : PySem.W.nsIn K mainGlobals "NoSuchDispute" = some (some (.ref C_NoSuchDispute)))
    (xi_NoSuchDispute : PySem.W.excIn K C_NoSuchDispute [.type "ValueError", .type "Exception", .type "BaseException", .type "object"] "ValueError.__new__" = true)
    (xb_NoSuchDispute : PySem.W.subIn K (.ref C_NoSuchDispute) (.type "BaseException") = some true)
    (xt_NoSuchDispute : PySem.W.typeIn K (.ref C_NoSuchDispute) = some (.type "type"))
    (xk_NoSuchDispute : PySem.W.keepIn K (.ref C_NoSuchDispute) = true)
    (xc_NoSuchDispute : PySem.W.isClsIn K C_NoSuchDispute = true)
    (aC_BadAmount : PySem.W.nsIn K mainGlobals "BadAmount" = some (some (.ref C_BadAmount)))
    (xi_BadAmount : PySem.W.excIn K C_BadAmount [.type "ValueError", .type "Exception", .type "BaseException", .type "object"] "ValueError.__new__" = true)
    (xb_BadAmount : PySem.W.subIn K (.ref C_BadAmount) (.type "BaseException") = some true)
    (xt_BadAmount : PySem.W.typeIn K (.ref C_BadAmount) = some (.type "type"))
    (xk_BadAmount : PySem.W.keepIn K (.ref C_BadAmount) = true)
    (xc_BadAmount : PySem.W.isClsIn K C_BadAmount = true)
    (aC_IsDecided : PySem.W.nsIn K mainGlobals "IsDecided" = some (some (.ref C_IsDecided)))
    (xi_IsDecided : PySem.W.excIn K C_IsDecided [.type "ValueError", .type "Exception", .type "BaseException", .type "object"] "ValueError.__new__" = true)
    (xb_IsDecided : PySem.W.subIn K (.ref C_IsDecided) (.type "BaseException") = some true)
    (xt_IsDecided : PySem.W.typeIn K (.ref C_IsDecided) = some (.type "type"))
    (xk_IsDecided : PySem.W.keepIn K (.ref C_IsDecided) = true)
    (xc_IsDecided : PySem.W.isClsIn K C_IsDecided = true)
    (aC_NotInDispute : PySem.W.nsIn K mainGlobals "NotInDispute" = some (some (.ref C_NotInDispute)))
    (xi_NotInDispute : PySem.W.excIn K C_NotInDispute [.type "ValueError", .type "Exception", .type "BaseException", .type "object"] "ValueError.__new__" = true)
    (xb_NotInDispute : PySem.W.subIn K (.ref C_NotInDispute) (.type "BaseException") = some true)
    (xt_NotInDispute : PySem.W.typeIn K (.ref C_NotInDispute) = some (.type "type"))
    (xk_NotInDispute : PySem.W.keepIn K (.ref C_NotInDispute) = true)
    (xc_NotInDispute : PySem.W.isClsIn K C_NotInDispute = true)
    (aC_Dispute : PySem.W.nsIn K mainGlobals "Dispute" = some (some (.ref C_Dispute)))
    (pg_Dispute : PySem.W.plainGet K C_Dispute Str.empty = true)
    (hd_Dispute : PySem.W.hasDictIn K C_Dispute = true)
    (po_Dispute : PySem.W.plainOver K C_Dispute = true)
    (sa_Dispute : PySem.W.findIn K (.ref C_Dispute) "__setattr__" = some (some (.builtin "object.__setattr__")))
    (mk_Dispute : PySem.W.makesIn K C_Dispute = true)
    (kc_Dispute : PySem.W.keepIn K (.ref C_Dispute) = true)
    (aC_AccountFile : PySem.W.nsIn K mainGlobals "AccountFile" = some (some (.ref C_AccountFile)))
    (pg_AccountFile : PySem.W.plainGet K C_AccountFile Str.empty = true)
    (hd_AccountFile : PySem.W.hasDictIn K C_AccountFile = true)
    (po_AccountFile : PySem.W.plainOver K C_AccountFile = true)
    (sa_AccountFile : PySem.W.findIn K (.ref C_AccountFile) "__setattr__" = some (some (.builtin "object.__setattr__")))
    (mk_AccountFile : PySem.W.makesIn K C_AccountFile = true)
    (kc_AccountFile : PySem.W.keepIn K (.ref C_AccountFile) = true)
    (aC_Terms : PySem.W.nsIn K mainGlobals "Terms" = some (some (.ref C_Terms)))
    (pg_Terms : PySem.W.plainGet K C_Terms Str.empty = true)
    (hd_Terms : PySem.W.hasDictIn K C_Terms = true)
    (po_Terms : PySem.W.plainOver K C_Terms = true)
    (sa_Terms : PySem.W.findIn K (.ref C_Terms) "__setattr__" = some (some (.builtin "object.__setattr__")))
    (mk_Terms : PySem.W.makesIn K C_Terms = true)
    (kc_Terms : PySem.W.keepIn K (.ref C_Terms) = true)
    (xs_BadAmount_LineError : PySem.W.subIn K (.ref C_BadAmount) (.ref C_LineError) = some true)
    (xs_BadTerms_LineError : PySem.W.subIn K (.ref C_BadTerms) (.ref C_LineError) = some true)
    (xs_IsDecided_LineError : PySem.W.subIn K (.ref C_IsDecided) (.ref C_LineError) = some true)
    (xs_NoSuchBill_LineError : PySem.W.subIn K (.ref C_NoSuchBill) (.ref C_LineError) = some true)
    (xs_NoSuchDispute_LineError : PySem.W.subIn K (.ref C_NoSuchDispute) (.ref C_LineError) = some true)
    (xs_NotInDispute_LineError : PySem.W.subIn K (.ref C_NotInDispute) (.ref C_LineError) = some true)
    (ks_class : PySem.W.specialIn K (.builtin "object.__class__") "__get__" = some (some (.builtin "getset_descriptor.__get__")))
    (kt_class : PySem.W.takesIn K (.builtin "object.__class__") = some true)
    (kg_BadAmount : PySem.W.findIn K (.ref C_BadAmount) "__getattribute__" = some (some (.builtin "BaseException.__getattribute__")))
    (kh_BadAmount : PySem.W.findIn K (.ref C_BadAmount) "__getattr__" = some none)
    (kd_BadAmount : PySem.W.hasDictIn K C_BadAmount = true)
    (kc_BadAmount : PySem.W.findIn K (.ref C_BadAmount) "__class__" = some (some (.builtin "object.__class__")))
    (km_BadAmount : PySem.W.mroIn K C_BadAmount (.type "object") = some true)
    (ki_BadAmount_BadAmount : PySem.W.kitOne K (.ref C_BadAmount) (.ref C_BadAmount) = some true)
    (ki_BadAmount_IsDecided : PySem.W.kitOne K (.ref C_BadAmount) (.ref C_IsDecided) = some false)
    (ki_BadAmount_NoSuchBill : PySem.W.kitOne K (.ref C_BadAmount) (.ref C_NoSuchBill) = some false)
    (ki_BadAmount_NoSuchDispute : PySem.W.kitOne K (.ref C_BadAmount) (.ref C_NoSuchDispute) = some false)
    (ki_BadAmount_NotInDispute : PySem.W.kitOne K (.ref C_BadAmount) (.ref C_NotInDispute) = some false)
    (kg_BadTerms : PySem.W.findIn K (.ref C_BadTerms) "__getattribute__" = some (some (.builtin "BaseException.__getattribute__")))
    (kh_BadTerms : PySem.W.findIn K (.ref C_BadTerms) "__getattr__" = some none)
    (kd_BadTerms : PySem.W.hasDictIn K C_BadTerms = true)
    (kc_BadTerms : PySem.W.findIn K (.ref C_BadTerms) "__class__" = some (some (.builtin "object.__class__")))
    (km_BadTerms : PySem.W.mroIn K C_BadTerms (.type "object") = some true)
    (ki_BadTerms_BadAmount : PySem.W.kitOne K (.ref C_BadTerms) (.ref C_BadAmount) = some false)
    (ki_BadTerms_IsDecided : PySem.W.kitOne K (.ref C_BadTerms) (.ref C_IsDecided) = some false)
    (ki_BadTerms_NoSuchBill : PySem.W.kitOne K (.ref C_BadTerms) (.ref C_NoSuchBill) = some false)
    (ki_BadTerms_NoSuchDispute : PySem.W.kitOne K (.ref C_BadTerms) (.ref C_NoSuchDispute) = some false)
    (ki_BadTerms_NotInDispute : PySem.W.kitOne K (.ref C_BadTerms) (.ref C_NotInDispute) = some false)
    (kg_IsDecided : PySem.W.findIn K (.ref C_IsDecided) "__getattribute__" = some (some (.builtin "BaseException.__getattribute__")))
    (kh_IsDecided : PySem.W.findIn K (.ref C_IsDecided) "__getattr__" = some none)
    (kd_IsDecided : PySem.W.hasDictIn K C_IsDecided = true)
    (kc_IsDecided : PySem.W.findIn K (.ref C_IsDecided) "__class__" = some (some (.builtin "object.__class__")))
    (km_IsDecided : PySem.W.mroIn K C_IsDecided (.type "object") = some true)
    (ki_IsDecided_BadAmount : PySem.W.kitOne K (.ref C_IsDecided) (.ref C_BadAmount) = some false)
    (ki_IsDecided_IsDecided : PySem.W.kitOne K (.ref C_IsDecided) (.ref C_IsDecided) = some true)
    (ki_IsDecided_NoSuchBill : PySem.W.kitOne K (.ref C_IsDecided) (.ref C_NoSuchBill) = some false)
    (ki_IsDecided_NoSuchDispute : PySem.W.kitOne K (.ref C_IsDecided) (.ref C_NoSuchDispute) = some false)
    (ki_IsDecided_NotInDispute : PySem.W.kitOne K (.ref C_IsDecided) (.ref C_NotInDispute) = some false)
    (kg_NoSuchBill : PySem.W.findIn K (.ref C_NoSuchBill) "__getattribute__" = some (some (.builtin "BaseException.__getattribute__")))
    (kh_NoSuchBill : PySem.W.findIn K (.ref C_NoSuchBill) "__getattr__" = some none)
    (kd_NoSuchBill : PySem.W.hasDictIn K C_NoSuchBill = true)
    (kc_NoSuchBill : PySem.W.findIn K (.ref C_NoSuchBill) "__class__" = some (some (.builtin "object.__class__")))
    (km_NoSuchBill : PySem.W.mroIn K C_NoSuchBill (.type "object") = some true)
    (ki_NoSuchBill_BadAmount : PySem.W.kitOne K (.ref C_NoSuchBill) (.ref C_BadAmount) = some false)
    (ki_NoSuchBill_IsDecided : PySem.W.kitOne K (.ref C_NoSuchBill) (.ref C_IsDecided) = some false)
    (ki_NoSuchBill_NoSuchBill : PySem.W.kitOne K (.ref C_NoSuchBill) (.ref C_NoSuchBill) = some true)
    (ki_NoSuchBill_NoSuchDispute : PySem.W.kitOne K (.ref C_NoSuchBill) (.ref C_NoSuchDispute) = some false)
    (ki_NoSuchBill_NotInDispute : PySem.W.kitOne K (.ref C_NoSuchBill) (.ref C_NotInDispute) = some false)
    (kg_NoSuchDispute : PySem.W.findIn K (.ref C_NoSuchDispute) "__getattribute__" = some (some (.builtin "BaseException.__getattribute__")))
    (kh_NoSuchDispute : PySem.W.findIn K (.ref C_NoSuchDispute) "__getattr__" = some none)
    (kd_NoSuchDispute : PySem.W.hasDictIn K C_NoSuchDispute = true)
    (kc_NoSuchDispute : PySem.W.findIn K (.ref C_NoSuchDispute) "__class__" = some (some (.builtin "object.__class__")))
    (km_NoSuchDispute : PySem.W.mroIn K C_NoSuchDispute (.type "object") = some true)
    (ki_NoSuchDispute_BadAmount : PySem.W.kitOne K (.ref C_NoSuchDispute) (.ref C_BadAmount) = some false)
    (ki_NoSuchDispute_IsDecided : PySem.W.kitOne K (.ref C_NoSuchDispute) (.ref C_IsDecided) = some false)
    (ki_NoSuchDispute_NoSuchBill : PySem.W.kitOne K (.ref C_NoSuchDispute) (.ref C_NoSuchBill) = some false)
    (ki_NoSuchDispute_NoSuchDispute : PySem.W.kitOne K (.ref C_NoSuchDispute) (.ref C_NoSuchDispute) = some true)
    (ki_NoSuchDispute_NotInDispute : PySem.W.kitOne K (.ref C_NoSuchDispute) (.ref C_NotInDispute) = some false)
    (kg_NotInDispute : PySem.W.findIn K (.ref C_NotInDispute) "__getattribute__" = some (some (.builtin "BaseException.__getattribute__")))
    (kh_NotInDispute : PySem.W.findIn K (.ref C_NotInDispute) "__getattr__" = some none)
    (kd_NotInDispute : PySem.W.hasDictIn K C_NotInDispute = true)
    (kc_NotInDispute : PySem.W.findIn K (.ref C_NotInDispute) "__class__" = some (some (.builtin "object.__class__")))
    (km_NotInDispute : PySem.W.mroIn K C_NotInDispute (.type "object") = some true)
    (ki_NotInDispute_BadAmount : PySem.W.kitOne K (.ref C_NotInDispute) (.ref C_BadAmount) = some false)
    (ki_NotInDispute_IsDecided : PySem.W.kitOne K (.ref C_NotInDispute) (.ref C_IsDecided) = some false)
    (ki_NotInDispute_NoSuchBill : PySem.W.kitOne K (.ref C_NotInDispute) (.ref C_NoSuchBill) = some false)
    (ki_NotInDispute_NoSuchDispute : PySem.W.kitOne K (.ref C_NotInDispute) (.ref C_NoSuchDispute) = some false)
    (ki_NotInDispute_NotInDispute : PySem.W.kitOne K (.ref C_NotInDispute) (.ref C_NotInDispute) = some true)
    (na_AccountFile_bills : PySem.W.findIn K (.ref C_AccountFile) (Str.ofString "bills") = some none)
    (na_AccountFile_demands : PySem.W.findIn K (.ref C_AccountFile) (Str.ofString "demands") = some none)
    (na_AccountFile_disputes : PySem.W.findIn K (.ref C_AccountFile) (Str.ofString "disputes") = some none)
    (na_AccountFile_fees : PySem.W.findIn K (.ref C_AccountFile) (Str.ofString "fees") = some none)
    (na_AccountFile_level : PySem.W.findIn K (.ref C_AccountFile) (Str.ofString "level") = some none)
    (na_AccountFile_payments : PySem.W.findIn K (.ref C_AccountFile) (Str.ofString "payments") = some none)
    (na_AccountFile_reminded : PySem.W.findIn K (.ref C_AccountFile) (Str.ofString "reminded") = some none)
    (na_AccountFile_terms : PySem.W.findIn K (.ref C_AccountFile) (Str.ofString "terms") = some none)
    (na_Bill_amount : PySem.W.findIn K (.ref C_Bill) (Str.ofString "amount") = some none)
    (na_Bill_due : PySem.W.findIn K (.ref C_Bill) (Str.ofString "due") = some none)
    (na_Bill_made : PySem.W.findIn K (.ref C_Bill) (Str.ofString "made") = some none)
    (na_Bill_number : PySem.W.findIn K (.ref C_Bill) (Str.ofString "number") = some none)
    (na_Bill_rows : PySem.W.findIn K (.ref C_Bill) (Str.ofString "rows") = some none)
    (na_Demand_amount : PySem.W.findIn K (.ref C_Demand) (Str.ofString "amount") = some none)
    (na_Demand_due : PySem.W.findIn K (.ref C_Demand) (Str.ofString "due") = some none)
    (na_Demand_kind : PySem.W.findIn K (.ref C_Demand) (Str.ofString "kind") = some none)
    (na_Demand_made : PySem.W.findIn K (.ref C_Demand) (Str.ofString "made") = some none)
    (na_Demand_number : PySem.W.findIn K (.ref C_Demand) (Str.ofString "number") = some none)
    (na_Dispute_amount : PySem.W.findIn K (.ref C_Dispute) (Str.ofString "amount") = some none)
    (na_Dispute_bill : PySem.W.findIn K (.ref C_Dispute) (Str.ofString "bill") = some none)
    (na_Dispute_made : PySem.W.findIn K (.ref C_Dispute) (Str.ofString "made") = some none)
    (na_Dispute_number : PySem.W.findIn K (.ref C_Dispute) (Str.ofString "number") = some none)
    (na_Dispute_state : PySem.W.findIn K (.ref C_Dispute) (Str.ofString "state") = some none)
    (na_Terms_fee : PySem.W.findIn K (.ref C_Terms) (Str.ofString "fee") = some none)
    (na_Terms_gap : PySem.W.findIn K (.ref C_Terms) (Str.ofString "gap") = some none)
    (na_Terms_rate : PySem.W.findIn K (.ref C_Terms) (Str.ofString "rate") = some none)
    (na_Terms_term : PySem.W.findIn K (.ref C_Terms) (Str.ofString "term") = some none)
    (z_int : PySem.W.nsIn K mainGlobals "int" = some none)
    (z_isinstance : PySem.W.nsIn K mainGlobals "isinstance" = some none)
    (z_len : PySem.W.nsIn K mainGlobals "len" = some none)
    (z_list : PySem.W.nsIn K mainGlobals "list" = some none)
    (z_max : PySem.W.nsIn K mainGlobals "max" = some none)
    (z_min : PySem.W.nsIn K mainGlobals "min" = some none)
    (z_range : PySem.W.nsIn K mainGlobals "range" = some none)
    (z_sum : PySem.W.nsIn K mainGlobals "sum" = some none)
    (z_super : PySem.W.nsIn K mainGlobals "super" = some none)
    (z_tuple : PySem.W.nsIn K mainGlobals "tuple" = some none)
    (kk_GRANTED : PySem.W.nsIn K mainGlobals "GRANTED" = some (some (.str (Str.ofString "granted") t_GRANTED)))
    (kk_REFUSED : PySem.W.nsIn K mainGlobals "REFUSED" = some (some (.str (Str.ofString "refused") t_REFUSED)))
    (kk_WAITING : PySem.W.nsIn K mainGlobals "WAITING" = some (some (.str (Str.ofString "waiting") t_WAITING)))
    (a_law_state : PySem.W.nsIn K mainGlobals "_law_state" = some (some (.ref f_law_state)))
    (l_law_state : K.lookup f_law_state = some ⟨oc_law_state, od_law_state, .func (PySem.W.fnOf "_law_state" "_law_state" (defArgs s_law_state) (defBody s_law_state) (defScope s_law_state) .none kV_law_state dc_law_state pm_law_state an_law_state cd_law_state ct_law_state), sl_law_state⟩)
    (c_law_state : PySem.W.codeIn K cd_law_state "_law_state" = true)
    (k_law_state : PySem.W.keepIn K (.ref f_law_state) = true)
    (a_AccountFile_init : PySem.W.findIn K (.ref C_AccountFile) "__init__" = some (some (.ref f_AccountFile_init)))
    (i_AccountFile_init : PySem.W.isFn K (.ref f_AccountFile_init) = true)
    (l_AccountFile_init : K.lookup f_AccountFile_init = some ⟨oc_AccountFile_init, od_AccountFile_init, .func (PySem.W.fnOf "__init__" "AccountFile.__init__" (defArgs s_AccountFile_init) (defBody s_AccountFile_init) (defScope s_AccountFile_init) .none kV_AccountFile_init dc_AccountFile_init pm_AccountFile_init an_AccountFile_init cd_AccountFile_init ct_AccountFile_init), sl_AccountFile_init⟩)
    (c_AccountFile_init : PySem.W.codeIn K cd_AccountFile_init "AccountFile.__init__" = true)
    (k_AccountFile_init : PySem.W.keepIn K (.ref f_AccountFile_init) = true)
    (a_law_new : PySem.W.nsIn K mainGlobals "_law_new" = some (some (.ref f_law_new)))
    (l_law_new : K.lookup f_law_new = some ⟨oc_law_new, od_law_new, .func (PySem.W.fnOf "_law_new" "_law_new" (defArgs s_law_new) (defBody s_law_new) (defScope s_law_new) .none kV_law_new dc_law_new pm_law_new an_law_new cd_law_new ct_law_new), sl_law_new⟩)
    (c_law_new : PySem.W.codeIn K cd_law_new "_law_new" = true)
    (k_law_new : PySem.W.keepIn K (.ref f_law_new) = true)
    (a_law_cell : PySem.W.nsIn K mainGlobals "_law_cell" = some (some (.ref f_law_cell)))
    (l_law_cell : K.lookup f_law_cell = some ⟨oc_law_cell, od_law_cell, .func (PySem.W.fnOf "_law_cell" "_law_cell" (defArgs s_law_cell) (defBody s_law_cell) (defScope s_law_cell) .none kV_law_cell dc_law_cell pm_law_cell an_law_cell cd_law_cell ct_law_cell), sl_law_cell⟩)
    (c_law_cell : PySem.W.codeIn K cd_law_cell "_law_cell" = true)
    (k_law_cell : PySem.W.keepIn K (.ref f_law_cell) = true)
    (a_law_digit : PySem.W.nsIn K mainGlobals "_law_digit" = some (some (.ref f_law_digit)))
    (l_law_digit : K.lookup f_law_digit = some ⟨oc_law_digit, od_law_digit, .func (PySem.W.fnOf "_law_digit" "_law_digit" (defArgs s_law_digit) (defBody s_law_digit) (defScope s_law_digit) .none kV_law_digit dc_law_digit pm_law_digit an_law_digit cd_law_digit ct_law_digit), sl_law_digit⟩)
    (c_law_digit : PySem.W.codeIn K cd_law_digit "_law_digit" = true)
    (k_law_digit : PySem.W.keepIn K (.ref f_law_digit) = true)
    (ko_BadTerms : K.lookup C_BadTerms = some (excClassObj nm_BadTerms qn_BadTerms C_BadTerms N_BadTerms bs_BadTerms bm_BadTerms true sn_BadTerms sub_BadTerms ab_BadTerms col_BadTerms dd_BadTerms k0_BadTerms k1_BadTerms k2_BadTerms k3_BadTerms k5_BadTerms "ValueError.__new__"))
    (kr_BadTerms : PySem.HandSPX.refsVE bm_BadTerms = true)
    (a_BadTerms_init : PySem.W.findIn K (.ref C_BadTerms) "__init__" = some (some (.ref f_BadTerms_init)))
    (i_BadTerms_init : PySem.W.typeIn K (.ref f_BadTerms_init) = some (.type "function"))
    (l_BadTerms_init : K.lookup f_BadTerms_init = some ⟨oc_BadTerms_init, od_BadTerms_init, .func (PySem.W.ksFn "__init__" "BadTerms.__init__" (defArgs s_BadTerms_init) (defBody s_BadTerms_init) (defScope s_BadTerms_init) .none kV_BadTerms_init dc_BadTerms_init pm_BadTerms_init an_BadTerms_init (.ref cd_BadTerms_init) ct_BadTerms_init cc_BadTerms_init), sl_BadTerms_init⟩)
    (c_BadTerms_init : PySem.W.codeIn K (.ref cd_BadTerms_init) "BadTerms.__init__" = true)
    (kd_BadTerms_init : K.lookup cd_BadTerms_init = some ⟨ccl_BadTerms_init, cdd_BadTerms_init, .fields vs_BadTerms_init, ccs_BadTerms_init⟩)
    (kv_BadTerms_init : vs_BadTerms_init[2]? = some (.str file_BadTerms_init tf_BadTerms_init))
    (kf_BadTerms_init : ((l.prog.main.file : Str) == file_BadTerms_init) = true)
    (kh_BadTerms_init : (l.prog.main.scope.names.lookup ("super" : Str)).isSome = false)
    (kc_BadTerms_init : K.lookup cc_BadTerms_init = some ⟨cl_BadTerms_init, cld_BadTerms_init, .cell (some (.ref C_BadTerms)), csl_BadTerms_init⟩)
    (sa_BadTerms : PySem.W.findIn K (.ref C_BadTerms) "__setattr__" = some (some (.builtin "object.__setattr__")))
    (su_BadTerms : PySem.W.ks_superIn K C_BadTerms C_BadTerms "__init__" = some (some (.builtin "ValueError.__init__")))
    (sv_BadTerms : PySem.W.subIn K (.ref C_BadTerms) (.type "ValueError") = some true)
    (sm_BadTerms : PySem.W.mroIn K C_BadTerms (.ref C_BadTerms) = some true)
    (op_BadTerms : PySem.W.nsIn K cStatics "thirdparty.any" = some none)
    (nf_BadTerms : PySem.W.findIn K (.ref C_BadTerms) "what" = some none)
    (ga_BadTerms : PySem.W.findIn K (.ref C_BadTerms) "__getattribute__" = some (some (.builtin "BaseException.__getattribute__")))
    (gg_BadTerms : PySem.W.findIn K (.ref C_BadTerms) "__getattr__" = some none)
    (hd_BadTerms : PySem.W.hasDictIn K C_BadTerms = true)
    (a_Terms_init : PySem.W.findIn K (.ref C_Terms) "__init__" = some (some (.ref f_Terms_init)))
    (i_Terms_init : PySem.W.isFn K (.ref f_Terms_init) = true)
    (l_Terms_init : K.lookup f_Terms_init = some ⟨oc_Terms_init, od_Terms_init, .func (PySem.W.fnOf "__init__" "Terms.__init__" (defArgs s_Terms_init) (defBody s_Terms_init) (defScope s_Terms_init) .none kV_Terms_init dc_Terms_init pm_Terms_init an_Terms_init cd_Terms_init ct_Terms_init), sl_Terms_init⟩)
    (c_Terms_init : PySem.W.codeIn K cd_Terms_init "Terms.__init__" = true)
    (k_Terms_init : PySem.W.keepIn K (.ref f_Terms_init) = true)
    (a_Bill_init : PySem.W.findIn K (.ref C_Bill) "__init__" = some (some (.ref f_Bill_init)))
    (i_Bill_init : PySem.W.isFn K (.ref f_Bill_init) = true)
    (l_Bill_init : K.lookup f_Bill_init = some ⟨oc_Bill_init, od_Bill_init, .func (PySem.W.fnOf "__init__" "Bill.__init__" (defArgs s_Bill_init) (defBody s_Bill_init) (defScope s_Bill_init) .none kV_Bill_init dc_Bill_init pm_Bill_init an_Bill_init cd_Bill_init ct_Bill_init), sl_Bill_init⟩)
    (c_Bill_init : PySem.W.codeIn K cd_Bill_init "Bill.__init__" = true)
    (k_Bill_init : PySem.W.keepIn K (.ref f_Bill_init) = true)
    (a_Terms_due_of : PySem.W.findIn K (.ref C_Terms) "due_of" = some (some (.ref f_Terms_due_of)))
    (i_Terms_due_of : PySem.W.isFn K (.ref f_Terms_due_of) = true)
    (l_Terms_due_of : K.lookup f_Terms_due_of = some ⟨oc_Terms_due_of, od_Terms_due_of, .func (PySem.W.fnOf "due_of" "Terms.due_of" (defArgs s_Terms_due_of) (defBody s_Terms_due_of) (defScope s_Terms_due_of) .none kV_Terms_due_of dc_Terms_due_of pm_Terms_due_of an_Terms_due_of cd_Terms_due_of ct_Terms_due_of), sl_Terms_due_of⟩)
    (c_Terms_due_of : PySem.W.codeIn K cd_Terms_due_of "Terms.due_of" = true)
    (k_Terms_due_of : PySem.W.keepIn K (.ref f_Terms_due_of) = true)
    (a_Demand_init : PySem.W.findIn K (.ref C_Demand) "__init__" = some (some (.ref f_Demand_init)))
    (i_Demand_init : PySem.W.isFn K (.ref f_Demand_init) = true)
    (l_Demand_init : K.lookup f_Demand_init = some ⟨oc_Demand_init, od_Demand_init, .func (PySem.W.fnOf "__init__" "Demand.__init__" (defArgs s_Demand_init) (defBody s_Demand_init) (defScope s_Demand_init) .none kV_Demand_init dc_Demand_init pm_Demand_init an_Demand_init cd_Demand_init ct_Demand_init), sl_Demand_init⟩)
    (c_Demand_init : PySem.W.codeIn K cd_Demand_init "Demand.__init__" = true)
    (k_Demand_init : PySem.W.keepIn K (.ref f_Demand_init) = true)
    (a_AccountFile_add_bill : PySem.W.findIn K (.ref C_AccountFile) "add_bill" = some (some (.ref f_AccountFile_add_bill)))
    (i_AccountFile_add_bill : PySem.W.isFn K (.ref f_AccountFile_add_bill) = true)
    (l_AccountFile_add_bill : K.lookup f_AccountFile_add_bill = some ⟨oc_AccountFile_add_bill, od_AccountFile_add_bill, .func (PySem.W.fnOf "add_bill" "AccountFile.add_bill" (defArgs s_AccountFile_add_bill) (defBody s_AccountFile_add_bill) (defScope s_AccountFile_add_bill) .none kV_AccountFile_add_bill dc_AccountFile_add_bill pm_AccountFile_add_bill an_AccountFile_add_bill cd_AccountFile_add_bill ct_AccountFile_add_bill), sl_AccountFile_add_bill⟩)
    (c_AccountFile_add_bill : PySem.W.codeIn K cd_AccountFile_add_bill "AccountFile.add_bill" = true)
    (k_AccountFile_add_bill : PySem.W.keepIn K (.ref f_AccountFile_add_bill) = true)
    (a_Bill_row : PySem.W.findIn K (.ref C_Bill) "row" = some (some (.ref f_Bill_row)))
    (i_Bill_row : PySem.W.isFn K (.ref f_Bill_row) = true)
    (l_Bill_row : K.lookup f_Bill_row = some ⟨oc_Bill_row, od_Bill_row, .func (PySem.W.fnOf "row" "Bill.row" (defArgs s_Bill_row) (defBody s_Bill_row) (defScope s_Bill_row) .none kV_Bill_row dc_Bill_row pm_Bill_row an_Bill_row cd_Bill_row ct_Bill_row), sl_Bill_row⟩)
    (c_Bill_row : PySem.W.codeIn K cd_Bill_row "Bill.row" = true)
    (k_Bill_row : PySem.W.keepIn K (.ref f_Bill_row) = true)
    (a_law_bill : PySem.W.nsIn K mainGlobals "_law_bill" = some (some (.ref f_law_bill)))
    (l_law_bill : K.lookup f_law_bill = some ⟨oc_law_bill, od_law_bill, .func (PySem.W.fnOf "_law_bill" "_law_bill" (defArgs s_law_bill) (defBody s_law_bill) (defScope s_law_bill) .none kV_law_bill dc_law_bill pm_law_bill an_law_bill cd_law_bill ct_law_bill), sl_law_bill⟩)
    (c_law_bill : PySem.W.codeIn K cd_law_bill "_law_bill" = true)
    (k_law_bill : PySem.W.keepIn K (.ref f_law_bill) = true)
    (a_law_means : PySem.W.nsIn K mainGlobals "_law_means" = some (some (.ref f_law_means)))
    (l_law_means : K.lookup f_law_means = some ⟨oc_law_means, od_law_means, .func (PySem.W.fnOf "_law_means" "_law_means" (defArgs s_law_means) (defBody s_law_means) (defScope s_law_means) .none kV_law_means dc_law_means pm_law_means an_law_means cd_law_means ct_law_means), sl_law_means⟩)
    (c_law_means : PySem.W.codeIn K cd_law_means "_law_means" = true)
    (k_law_means : PySem.W.keepIn K (.ref f_law_means) = true)
    (a_law_left : PySem.W.nsIn K mainGlobals "_law_left" = some (some (.ref f_law_left)))
    (l_law_left : K.lookup f_law_left = some ⟨oc_law_left, od_law_left, .func (PySem.W.fnOf "_law_left" "_law_left" (defArgs s_law_left) (defBody s_law_left) (defScope s_law_left) .none kV_law_left dc_law_left pm_law_left an_law_left cd_law_left ct_law_left), sl_law_left⟩)
    (c_law_left : PySem.W.codeIn K cd_law_left "_law_left" = true)
    (k_law_left : PySem.W.keepIn K (.ref f_law_left) = true)
    (a_allot : PySem.W.nsIn K mainGlobals "allot" = some (some (.ref f_allot)))
    (l_allot : K.lookup f_allot = some ⟨oc_allot, od_allot, .func (PySem.W.fnOf "allot" "allot" (defArgs s_allot) (defBody s_allot) (defScope s_allot) .none kV_allot dc_allot pm_allot an_allot cd_allot ct_allot), sl_allot⟩)
    (c_allot : PySem.W.codeIn K cd_allot "allot" = true)
    (k_allot : PySem.W.keepIn K (.ref f_allot) = true)
    (a_open_amounts : PySem.W.nsIn K mainGlobals "open_amounts" = some (some (.ref f_open_amounts)))
    (l_open_amounts : K.lookup f_open_amounts = some ⟨oc_open_amounts, od_open_amounts, .func (PySem.W.fnOf "open_amounts" "open_amounts" (defArgs s_open_amounts) (defBody s_open_amounts) (defScope s_open_amounts) .none kV_open_amounts dc_open_amounts pm_open_amounts an_open_amounts cd_open_amounts ct_open_amounts), sl_open_amounts⟩)
    (c_open_amounts : PySem.W.codeIn K cd_open_amounts "open_amounts" = true)
    (k_open_amounts : PySem.W.keepIn K (.ref f_open_amounts) = true)
    (a_Dispute_is_granted : PySem.W.findIn K (.ref C_Dispute) "is_granted" = some (some (.ref f_Dispute_is_granted)))
    (i_Dispute_is_granted : PySem.W.isFn K (.ref f_Dispute_is_granted) = true)
    (l_Dispute_is_granted : K.lookup f_Dispute_is_granted = some ⟨oc_Dispute_is_granted, od_Dispute_is_granted, .func (PySem.W.fnOf "is_granted" "Dispute.is_granted" (defArgs s_Dispute_is_granted) (defBody s_Dispute_is_granted) (defScope s_Dispute_is_granted) .none kV_Dispute_is_granted dc_Dispute_is_granted pm_Dispute_is_granted an_Dispute_is_granted cd_Dispute_is_granted ct_Dispute_is_granted), sl_Dispute_is_granted⟩)
    (c_Dispute_is_granted : PySem.W.codeIn K cd_Dispute_is_granted "Dispute.is_granted" = true)
    (k_Dispute_is_granted : PySem.W.keepIn K (.ref f_Dispute_is_granted) = true)
    (a_all_granted : PySem.W.nsIn K mainGlobals "all_granted" = some (some (.ref f_all_granted)))
    (l_all_granted : K.lookup f_all_granted = some ⟨oc_all_granted, od_all_granted, .func (PySem.W.fnOf "all_granted" "all_granted" (defArgs s_all_granted) (defBody s_all_granted) (defScope s_all_granted) .none kV_all_granted dc_all_granted pm_all_granted an_all_granted cd_all_granted ct_all_granted), sl_all_granted⟩)
    (c_all_granted : PySem.W.codeIn K cd_all_granted "all_granted" = true)
    (k_all_granted : PySem.W.keepIn K (.ref f_all_granted) = true)
    (a_AccountFile_paid : PySem.W.findIn K (.ref C_AccountFile) "paid" = some (some (.ref f_AccountFile_paid)))
    (i_AccountFile_paid : PySem.W.isFn K (.ref f_AccountFile_paid) = true)
    (l_AccountFile_paid : K.lookup f_AccountFile_paid = some ⟨oc_AccountFile_paid, od_AccountFile_paid, .func (PySem.W.fnOf "paid" "AccountFile.paid" (defArgs s_AccountFile_paid) (defBody s_AccountFile_paid) (defScope s_AccountFile_paid) .none kV_AccountFile_paid dc_AccountFile_paid pm_AccountFile_paid an_AccountFile_paid cd_AccountFile_paid ct_AccountFile_paid), sl_AccountFile_paid⟩)
    (c_AccountFile_paid : PySem.W.codeIn K cd_AccountFile_paid "AccountFile.paid" = true)
    (k_AccountFile_paid : PySem.W.keepIn K (.ref f_AccountFile_paid) = true)
    (a_AccountFile_credit_sum : PySem.W.findIn K (.ref C_AccountFile) "credit_sum" = some (some (.ref f_AccountFile_credit_sum)))
    (i_AccountFile_credit_sum : PySem.W.isFn K (.ref f_AccountFile_credit_sum) = true)
    (l_AccountFile_credit_sum : K.lookup f_AccountFile_credit_sum = some ⟨oc_AccountFile_credit_sum, od_AccountFile_credit_sum, .func (PySem.W.fnOf "credit_sum" "AccountFile.credit_sum" (defArgs s_AccountFile_credit_sum) (defBody s_AccountFile_credit_sum) (defScope s_AccountFile_credit_sum) .none kV_AccountFile_credit_sum dc_AccountFile_credit_sum pm_AccountFile_credit_sum an_AccountFile_credit_sum cd_AccountFile_credit_sum ct_AccountFile_credit_sum), sl_AccountFile_credit_sum⟩)
    (c_AccountFile_credit_sum : PySem.W.codeIn K cd_AccountFile_credit_sum "AccountFile.credit_sum" = true)
    (k_AccountFile_credit_sum : PySem.W.keepIn K (.ref f_AccountFile_credit_sum) = true)
    (a_AccountFile_means : PySem.W.findIn K (.ref C_AccountFile) "means" = some (some (.ref f_AccountFile_means)))
    (i_AccountFile_means : PySem.W.isFn K (.ref f_AccountFile_means) = true)
    (l_AccountFile_means : K.lookup f_AccountFile_means = some ⟨oc_AccountFile_means, od_AccountFile_means, .func (PySem.W.fnOf "means" "AccountFile.means" (defArgs s_AccountFile_means) (defBody s_AccountFile_means) (defScope s_AccountFile_means) .none kV_AccountFile_means dc_AccountFile_means pm_AccountFile_means an_AccountFile_means cd_AccountFile_means ct_AccountFile_means), sl_AccountFile_means⟩)
    (c_AccountFile_means : PySem.W.codeIn K cd_AccountFile_means "AccountFile.means" = true)
    (k_AccountFile_means : PySem.W.keepIn K (.ref f_AccountFile_means) = true)
    (a_AccountFile_amounts : PySem.W.findIn K (.ref C_AccountFile) "amounts" = some (some (.ref f_AccountFile_amounts)))
    (i_AccountFile_amounts : PySem.W.isFn K (.ref f_AccountFile_amounts) = true)
    (l_AccountFile_amounts : K.lookup f_AccountFile_amounts = some ⟨oc_AccountFile_amounts, od_AccountFile_amounts, .func (PySem.W.fnOf "amounts" "AccountFile.amounts" (defArgs s_AccountFile_amounts) (defBody s_AccountFile_amounts) (defScope s_AccountFile_amounts) .none kV_AccountFile_amounts dc_AccountFile_amounts pm_AccountFile_amounts an_AccountFile_amounts cd_AccountFile_amounts ct_AccountFile_amounts), sl_AccountFile_amounts⟩)
    (c_AccountFile_amounts : PySem.W.codeIn K cd_AccountFile_amounts "AccountFile.amounts" = true)
    (k_AccountFile_amounts : PySem.W.keepIn K (.ref f_AccountFile_amounts) = true)
    (a_AccountFile_open_list : PySem.W.findIn K (.ref C_AccountFile) "open_list" = some (some (.ref f_AccountFile_open_list)))
    (i_AccountFile_open_list : PySem.W.isFn K (.ref f_AccountFile_open_list) = true)
    (l_AccountFile_open_list : K.lookup f_AccountFile_open_list = some ⟨oc_AccountFile_open_list, od_AccountFile_open_list, .func (PySem.W.fnOf "open_list" "AccountFile.open_list" (defArgs s_AccountFile_open_list) (defBody s_AccountFile_open_list) (defScope s_AccountFile_open_list) .none kV_AccountFile_open_list dc_AccountFile_open_list pm_AccountFile_open_list an_AccountFile_open_list cd_AccountFile_open_list ct_AccountFile_open_list), sl_AccountFile_open_list⟩)
    (c_AccountFile_open_list : PySem.W.codeIn K cd_AccountFile_open_list "AccountFile.open_list" = true)
    (k_AccountFile_open_list : PySem.W.keepIn K (.ref f_AccountFile_open_list) = true)
    (a_AccountFile_open_total : PySem.W.findIn K (.ref C_AccountFile) "open_total" = some (some (.ref f_AccountFile_open_total)))
    (i_AccountFile_open_total : PySem.W.isFn K (.ref f_AccountFile_open_total) = true)
    (l_AccountFile_open_total : K.lookup f_AccountFile_open_total = some ⟨oc_AccountFile_open_total, od_AccountFile_open_total, .func (PySem.W.fnOf "open_total" "AccountFile.open_total" (defArgs s_AccountFile_open_total) (defBody s_AccountFile_open_total) (defScope s_AccountFile_open_total) .none kV_AccountFile_open_total dc_AccountFile_open_total pm_AccountFile_open_total an_AccountFile_open_total cd_AccountFile_open_total ct_AccountFile_open_total), sl_AccountFile_open_total⟩)
    (c_AccountFile_open_total : PySem.W.codeIn K cd_AccountFile_open_total "AccountFile.open_total" = true)
    (k_AccountFile_open_total : PySem.W.keepIn K (.ref f_AccountFile_open_total) = true)
    (a_credit_of : PySem.W.nsIn K mainGlobals "credit_of" = some (some (.ref f_credit_of)))
    (l_credit_of : K.lookup f_credit_of = some ⟨oc_credit_of, od_credit_of, .func (PySem.W.fnOf "credit_of" "credit_of" (defArgs s_credit_of) (defBody s_credit_of) (defScope s_credit_of) .none kV_credit_of dc_credit_of pm_credit_of an_credit_of cd_credit_of ct_credit_of), sl_credit_of⟩)
    (c_credit_of : PySem.W.codeIn K cd_credit_of "credit_of" = true)
    (k_credit_of : PySem.W.keepIn K (.ref f_credit_of) = true)
    (a_AccountFile_credit : PySem.W.findIn K (.ref C_AccountFile) "credit" = some (some (.ref f_AccountFile_credit)))
    (i_AccountFile_credit : PySem.W.isFn K (.ref f_AccountFile_credit) = true)
    (l_AccountFile_credit : K.lookup f_AccountFile_credit = some ⟨oc_AccountFile_credit, od_AccountFile_credit, .func (PySem.W.fnOf "credit" "AccountFile.credit" (defArgs s_AccountFile_credit) (defBody s_AccountFile_credit) (defScope s_AccountFile_credit) .none kV_AccountFile_credit dc_AccountFile_credit pm_AccountFile_credit an_AccountFile_credit cd_AccountFile_credit ct_AccountFile_credit), sl_AccountFile_credit⟩)
    (c_AccountFile_credit : PySem.W.codeIn K cd_AccountFile_credit "AccountFile.credit" = true)
    (k_AccountFile_credit : PySem.W.keepIn K (.ref f_AccountFile_credit) = true)
    (a_AccountFile_asked : PySem.W.findIn K (.ref C_AccountFile) "asked" = some (some (.ref f_AccountFile_asked)))
    (i_AccountFile_asked : PySem.W.isFn K (.ref f_AccountFile_asked) = true)
    (l_AccountFile_asked : K.lookup f_AccountFile_asked = some ⟨oc_AccountFile_asked, od_AccountFile_asked, .func (PySem.W.fnOf "asked" "AccountFile.asked" (defArgs s_AccountFile_asked) (defBody s_AccountFile_asked) (defScope s_AccountFile_asked) .none kV_AccountFile_asked dc_AccountFile_asked pm_AccountFile_asked an_AccountFile_asked cd_AccountFile_asked ct_AccountFile_asked), sl_AccountFile_asked⟩)
    (c_AccountFile_asked : PySem.W.codeIn K cd_AccountFile_asked "AccountFile.asked" = true)
    (k_AccountFile_asked : PySem.W.keepIn K (.ref f_AccountFile_asked) = true)
    (a_Dispute_is_waiting : PySem.W.findIn K (.ref C_Dispute) "is_waiting" = some (some (.ref f_Dispute_is_waiting)))
    (i_Dispute_is_waiting : PySem.W.isFn K (.ref f_Dispute_is_waiting) = true)
    (l_Dispute_is_waiting : K.lookup f_Dispute_is_waiting = some ⟨oc_Dispute_is_waiting, od_Dispute_is_waiting, .func (PySem.W.fnOf "is_waiting" "Dispute.is_waiting" (defArgs s_Dispute_is_waiting) (defBody s_Dispute_is_waiting) (defScope s_Dispute_is_waiting) .none kV_Dispute_is_waiting dc_Dispute_is_waiting pm_Dispute_is_waiting an_Dispute_is_waiting cd_Dispute_is_waiting ct_Dispute_is_waiting), sl_Dispute_is_waiting⟩)
    (c_Dispute_is_waiting : PySem.W.codeIn K cd_Dispute_is_waiting "Dispute.is_waiting" = true)
    (k_Dispute_is_waiting : PySem.W.keepIn K (.ref f_Dispute_is_waiting) = true)
    (a_held_of : PySem.W.nsIn K mainGlobals "held_of" = some (some (.ref f_held_of)))
    (l_held_of : K.lookup f_held_of = some ⟨oc_held_of, od_held_of, .func (PySem.W.fnOf "held_of" "held_of" (defArgs s_held_of) (defBody s_held_of) (defScope s_held_of) .none kV_held_of dc_held_of pm_held_of an_held_of cd_held_of ct_held_of), sl_held_of⟩)
    (c_held_of : PySem.W.codeIn K cd_held_of "held_of" = true)
    (k_held_of : PySem.W.keepIn K (.ref f_held_of) = true)
    (a_AccountFile_held : PySem.W.findIn K (.ref C_AccountFile) "held" = some (some (.ref f_AccountFile_held)))
    (i_AccountFile_held : PySem.W.isFn K (.ref f_AccountFile_held) = true)
    (l_AccountFile_held : K.lookup f_AccountFile_held = some ⟨oc_AccountFile_held, od_AccountFile_held, .func (PySem.W.fnOf "held" "AccountFile.held" (defArgs s_AccountFile_held) (defBody s_AccountFile_held) (defScope s_AccountFile_held) .none kV_AccountFile_held dc_AccountFile_held pm_AccountFile_held an_AccountFile_held cd_AccountFile_held ct_AccountFile_held), sl_AccountFile_held⟩)
    (c_AccountFile_held : PySem.W.codeIn K cd_AccountFile_held "AccountFile.held" = true)
    (k_AccountFile_held : PySem.W.keepIn K (.ref f_AccountFile_held) = true)
    (a_AccountFile_overdue_list : PySem.W.findIn K (.ref C_AccountFile) "overdue_list" = some (some (.ref f_AccountFile_overdue_list)))
    (i_AccountFile_overdue_list : PySem.W.isFn K (.ref f_AccountFile_overdue_list) = true)
    (l_AccountFile_overdue_list : K.lookup f_AccountFile_overdue_list = some ⟨oc_AccountFile_overdue_list, od_AccountFile_overdue_list, .func (PySem.W.fnOf "overdue_list" "AccountFile.overdue_list" (defArgs s_AccountFile_overdue_list) (defBody s_AccountFile_overdue_list) (defScope s_AccountFile_overdue_list) .none kV_AccountFile_overdue_list dc_AccountFile_overdue_list pm_AccountFile_overdue_list an_AccountFile_overdue_list cd_AccountFile_overdue_list ct_AccountFile_overdue_list), sl_AccountFile_overdue_list⟩)
    (c_AccountFile_overdue_list : PySem.W.codeIn K cd_AccountFile_overdue_list "AccountFile.overdue_list" = true)
    (k_AccountFile_overdue_list : PySem.W.keepIn K (.ref f_AccountFile_overdue_list) = true)
    (a_AccountFile_overdue : PySem.W.findIn K (.ref C_AccountFile) "overdue" = some (some (.ref f_AccountFile_overdue)))
    (i_AccountFile_overdue : PySem.W.isFn K (.ref f_AccountFile_overdue) = true)
    (l_AccountFile_overdue : K.lookup f_AccountFile_overdue = some ⟨oc_AccountFile_overdue, od_AccountFile_overdue, .func (PySem.W.fnOf "overdue" "AccountFile.overdue" (defArgs s_AccountFile_overdue) (defBody s_AccountFile_overdue) (defScope s_AccountFile_overdue) .none kV_AccountFile_overdue dc_AccountFile_overdue pm_AccountFile_overdue an_AccountFile_overdue cd_AccountFile_overdue ct_AccountFile_overdue), sl_AccountFile_overdue⟩)
    (c_AccountFile_overdue : PySem.W.codeIn K cd_AccountFile_overdue "AccountFile.overdue" = true)
    (k_AccountFile_overdue : PySem.W.keepIn K (.ref f_AccountFile_overdue) = true)
    (a_law_over : PySem.W.nsIn K mainGlobals "_law_over" = some (some (.ref f_law_over)))
    (l_law_over : K.lookup f_law_over = some ⟨oc_law_over, od_law_over, .func (PySem.W.fnOf "_law_over" "_law_over" (defArgs s_law_over) (defBody s_law_over) (defScope s_law_over) .none kV_law_over dc_law_over pm_law_over an_law_over cd_law_over ct_law_over), sl_law_over⟩)
    (c_law_over : PySem.W.codeIn K cd_law_over "_law_over" = true)
    (k_law_over : PySem.W.keepIn K (.ref f_law_over) = true)
    (a_Demand_row : PySem.W.findIn K (.ref C_Demand) "row" = some (some (.ref f_Demand_row)))
    (i_Demand_row : PySem.W.isFn K (.ref f_Demand_row) = true)
    (l_Demand_row : K.lookup f_Demand_row = some ⟨oc_Demand_row, od_Demand_row, .func (PySem.W.fnOf "row" "Demand.row" (defArgs s_Demand_row) (defBody s_Demand_row) (defScope s_Demand_row) .none kV_Demand_row dc_Demand_row pm_Demand_row an_Demand_row cd_Demand_row ct_Demand_row), sl_Demand_row⟩)
    (c_Demand_row : PySem.W.codeIn K cd_Demand_row "Demand.row" = true)
    (k_Demand_row : PySem.W.keepIn K (.ref f_Demand_row) = true)
    (a_law_same : PySem.W.nsIn K mainGlobals "_law_same" = some (some (.ref f_law_same)))
    (l_law_same : K.lookup f_law_same = some ⟨oc_law_same, od_law_same, .func (PySem.W.fnOf "_law_same" "_law_same" (defArgs s_law_same) (defBody s_law_same) (defScope s_law_same) .none kV_law_same dc_law_same pm_law_same an_law_same cd_law_same ct_law_same), sl_law_same⟩)
    (c_law_same : PySem.W.codeIn K cd_law_same "_law_same" = true)
    (k_law_same : PySem.W.keepIn K (.ref f_law_same) = true)
    (a_AccountFile_pay : PySem.W.findIn K (.ref C_AccountFile) "pay" = some (some (.ref f_AccountFile_pay)))
    (i_AccountFile_pay : PySem.W.isFn K (.ref f_AccountFile_pay) = true)
    (l_AccountFile_pay : K.lookup f_AccountFile_pay = some ⟨oc_AccountFile_pay, od_AccountFile_pay, .func (PySem.W.fnOf "pay" "AccountFile.pay" (defArgs s_AccountFile_pay) (defBody s_AccountFile_pay) (defScope s_AccountFile_pay) .none kV_AccountFile_pay dc_AccountFile_pay pm_AccountFile_pay an_AccountFile_pay cd_AccountFile_pay ct_AccountFile_pay), sl_AccountFile_pay⟩)
    (c_AccountFile_pay : PySem.W.codeIn K cd_AccountFile_pay "AccountFile.pay" = true)
    (k_AccountFile_pay : PySem.W.keepIn K (.ref f_AccountFile_pay) = true)
    (a_AccountFile_bill : PySem.W.findIn K (.ref C_AccountFile) "bill" = some (some (.ref f_AccountFile_bill)))
    (i_AccountFile_bill : PySem.W.isFn K (.ref f_AccountFile_bill) = true)
    (l_AccountFile_bill : K.lookup f_AccountFile_bill = some ⟨oc_AccountFile_bill, od_AccountFile_bill, .func (PySem.W.fnOf "bill" "AccountFile.bill" (defArgs s_AccountFile_bill) (defBody s_AccountFile_bill) (defScope s_AccountFile_bill) .none kV_AccountFile_bill dc_AccountFile_bill pm_AccountFile_bill an_AccountFile_bill cd_AccountFile_bill ct_AccountFile_bill), sl_AccountFile_bill⟩)
    (c_AccountFile_bill : PySem.W.codeIn K cd_AccountFile_bill "AccountFile.bill" = true)
    (k_AccountFile_bill : PySem.W.keepIn K (.ref f_AccountFile_bill) = true)
    (a_Bill_is_credit : PySem.W.findIn K (.ref C_Bill) "is_credit" = some (some (.ref f_Bill_is_credit)))
    (i_Bill_is_credit : PySem.W.isFn K (.ref f_Bill_is_credit) = true)
    (l_Bill_is_credit : K.lookup f_Bill_is_credit = some ⟨oc_Bill_is_credit, od_Bill_is_credit, .func (PySem.W.fnOf "is_credit" "Bill.is_credit" (defArgs s_Bill_is_credit) (defBody s_Bill_is_credit) (defScope s_Bill_is_credit) .none kV_Bill_is_credit dc_Bill_is_credit pm_Bill_is_credit an_Bill_is_credit cd_Bill_is_credit ct_Bill_is_credit), sl_Bill_is_credit⟩)
    (c_Bill_is_credit : PySem.W.codeIn K cd_Bill_is_credit "Bill.is_credit" = true)
    (k_Bill_is_credit : PySem.W.keepIn K (.ref f_Bill_is_credit) = true)
    (a_Dispute_init : PySem.W.findIn K (.ref C_Dispute) "__init__" = some (some (.ref f_Dispute_init)))
    (i_Dispute_init : PySem.W.isFn K (.ref f_Dispute_init) = true)
    (l_Dispute_init : K.lookup f_Dispute_init = some ⟨oc_Dispute_init, od_Dispute_init, .func (PySem.W.fnOf "__init__" "Dispute.__init__" (defArgs s_Dispute_init) (defBody s_Dispute_init) (defScope s_Dispute_init) .none kV_Dispute_init dc_Dispute_init pm_Dispute_init an_Dispute_init cd_Dispute_init ct_Dispute_init), sl_Dispute_init⟩)
    (c_Dispute_init : PySem.W.codeIn K cd_Dispute_init "Dispute.__init__" = true)
    (k_Dispute_init : PySem.W.keepIn K (.ref f_Dispute_init) = true)
    (a_granted_of : PySem.W.nsIn K mainGlobals "granted_of" = some (some (.ref f_granted_of)))
    (l_granted_of : K.lookup f_granted_of = some ⟨oc_granted_of, od_granted_of, .func (PySem.W.fnOf "granted_of" "granted_of" (defArgs s_granted_of) (defBody s_granted_of) (defScope s_granted_of) .none kV_granted_of dc_granted_of pm_granted_of an_granted_of cd_granted_of ct_granted_of), sl_granted_of⟩)
    (c_granted_of : PySem.W.codeIn K cd_granted_of "granted_of" = true)
    (k_granted_of : PySem.W.keepIn K (.ref f_granted_of) = true)
    (a_can_be_disputed : PySem.W.nsIn K mainGlobals "can_be_disputed" = some (some (.ref f_can_be_disputed)))
    (l_can_be_disputed : K.lookup f_can_be_disputed = some ⟨oc_can_be_disputed, od_can_be_disputed, .func (PySem.W.fnOf "can_be_disputed" "can_be_disputed" (defArgs s_can_be_disputed) (defBody s_can_be_disputed) (defScope s_can_be_disputed) .none kV_can_be_disputed dc_can_be_disputed pm_can_be_disputed an_can_be_disputed cd_can_be_disputed ct_can_be_disputed), sl_can_be_disputed⟩)
    (c_can_be_disputed : PySem.W.codeIn K cd_can_be_disputed "can_be_disputed" = true)
    (k_can_be_disputed : PySem.W.keepIn K (.ref f_can_be_disputed) = true)
    (a_AccountFile_dispute : PySem.W.findIn K (.ref C_AccountFile) "dispute" = some (some (.ref f_AccountFile_dispute)))
    (i_AccountFile_dispute : PySem.W.isFn K (.ref f_AccountFile_dispute) = true)
    (l_AccountFile_dispute : K.lookup f_AccountFile_dispute = some ⟨oc_AccountFile_dispute, od_AccountFile_dispute, .func (PySem.W.fnOf "dispute" "AccountFile.dispute" (defArgs s_AccountFile_dispute) (defBody s_AccountFile_dispute) (defScope s_AccountFile_dispute) .none kV_AccountFile_dispute dc_AccountFile_dispute pm_AccountFile_dispute an_AccountFile_dispute cd_AccountFile_dispute ct_AccountFile_dispute), sl_AccountFile_dispute⟩)
    (c_AccountFile_dispute : PySem.W.codeIn K cd_AccountFile_dispute "AccountFile.dispute" = true)
    (k_AccountFile_dispute : PySem.W.keepIn K (.ref f_AccountFile_dispute) = true)
    (a_law_kind : PySem.W.nsIn K mainGlobals "_law_kind" = some (some (.ref f_law_kind)))
    (l_law_kind : K.lookup f_law_kind = some ⟨oc_law_kind, od_law_kind, .func (PySem.W.fnOf "_law_kind" "_law_kind" (defArgs s_law_kind) (defBody s_law_kind) (defScope s_law_kind) .none kV_law_kind dc_law_kind pm_law_kind an_law_kind cd_law_kind ct_law_kind), sl_law_kind⟩)
    (c_law_kind : PySem.W.codeIn K cd_law_kind "_law_kind" = true)
    (k_law_kind : PySem.W.keepIn K (.ref f_law_kind) = true)
    (a_law_disputes : PySem.W.nsIn K mainGlobals "_law_disputes" = some (some (.ref f_law_disputes)))
    (l_law_disputes : K.lookup f_law_disputes = some ⟨oc_law_disputes, od_law_disputes, .func (PySem.W.fnOf "_law_disputes" "_law_disputes" (defArgs s_law_disputes) (defBody s_law_disputes) (defScope s_law_disputes) .none kV_law_disputes dc_law_disputes pm_law_disputes an_law_disputes cd_law_disputes ct_law_disputes), sl_law_disputes⟩)
    (c_law_disputes : PySem.W.codeIn K cd_law_disputes "_law_disputes" = true)
    (k_law_disputes : PySem.W.keepIn K (.ref f_law_disputes) = true)
    (a_law_spread : PySem.W.nsIn K mainGlobals "_law_spread" = some (some (.ref f_law_spread)))
    (l_law_spread : K.lookup f_law_spread = some ⟨oc_law_spread, od_law_spread, .func (PySem.W.fnOf "_law_spread" "_law_spread" (defArgs s_law_spread) (defBody s_law_spread) (defScope s_law_spread) .none kV_law_spread dc_law_spread pm_law_spread an_law_spread cd_law_spread ct_law_spread), sl_law_spread⟩)
    (c_law_spread : PySem.W.codeIn K cd_law_spread "_law_spread" = true)
    (k_law_spread : PySem.W.keepIn K (.ref f_law_spread) = true)
    (a_law_dispute : PySem.W.nsIn K mainGlobals "_law_dispute" = some (some (.ref f_law_dispute)))
    (l_law_dispute : K.lookup f_law_dispute = some ⟨oc_law_dispute, od_law_dispute, .func (PySem.W.fnOf "_law_dispute" "_law_dispute" (defArgs s_law_dispute) (defBody s_law_dispute) (defScope s_law_dispute) .none kV_law_dispute dc_law_dispute pm_law_dispute an_law_dispute cd_law_dispute ct_law_dispute), sl_law_dispute⟩)
    (c_law_dispute : PySem.W.codeIn K cd_law_dispute "_law_dispute" = true)
    (k_law_dispute : PySem.W.keepIn K (.ref f_law_dispute) = true)
    (a_Dispute_decide : PySem.W.findIn K (.ref C_Dispute) "decide" = some (some (.ref f_Dispute_decide)))
    (i_Dispute_decide : PySem.W.isFn K (.ref f_Dispute_decide) = true)
    (l_Dispute_decide : K.lookup f_Dispute_decide = some ⟨oc_Dispute_decide, od_Dispute_decide, .func (PySem.W.fnOf "decide" "Dispute.decide" (defArgs s_Dispute_decide) (defBody s_Dispute_decide) (defScope s_Dispute_decide) .none kV_Dispute_decide dc_Dispute_decide pm_Dispute_decide an_Dispute_decide cd_Dispute_decide ct_Dispute_decide), sl_Dispute_decide⟩)
    (c_Dispute_decide : PySem.W.codeIn K cd_Dispute_decide "Dispute.decide" = true)
    (k_Dispute_decide : PySem.W.keepIn K (.ref f_Dispute_decide) = true)
    (a_AccountFile_put_off : PySem.W.findIn K (.ref C_AccountFile) "put_off" = some (some (.ref f_AccountFile_put_off)))
    (i_AccountFile_put_off : PySem.W.isFn K (.ref f_AccountFile_put_off) = true)
    (l_AccountFile_put_off : K.lookup f_AccountFile_put_off = some ⟨oc_AccountFile_put_off, od_AccountFile_put_off, .func (PySem.W.fnOf "put_off" "AccountFile.put_off" (defArgs s_AccountFile_put_off) (defBody s_AccountFile_put_off) (defScope s_AccountFile_put_off) .none kV_AccountFile_put_off dc_AccountFile_put_off pm_AccountFile_put_off an_AccountFile_put_off cd_AccountFile_put_off ct_AccountFile_put_off), sl_AccountFile_put_off⟩)
    (c_AccountFile_put_off : PySem.W.codeIn K cd_AccountFile_put_off "AccountFile.put_off" = true)
    (k_AccountFile_put_off : PySem.W.keepIn K (.ref f_AccountFile_put_off) = true)
    (a_AccountFile_decide : PySem.W.findIn K (.ref C_AccountFile) "decide" = some (some (.ref f_AccountFile_decide)))
    (i_AccountFile_decide : PySem.W.isFn K (.ref f_AccountFile_decide) = true)
    (l_AccountFile_decide : K.lookup f_AccountFile_decide = some ⟨oc_AccountFile_decide, od_AccountFile_decide, .func (PySem.W.fnOf "decide" "AccountFile.decide" (defArgs s_AccountFile_decide) (defBody s_AccountFile_decide) (defScope s_AccountFile_decide) .none kV_AccountFile_decide dc_AccountFile_decide pm_AccountFile_decide an_AccountFile_decide cd_AccountFile_decide ct_AccountFile_decide), sl_AccountFile_decide⟩)
    (c_AccountFile_decide : PySem.W.codeIn K cd_AccountFile_decide "AccountFile.decide" = true)
    (k_AccountFile_decide : PySem.W.keepIn K (.ref f_AccountFile_decide) = true)
    (a_law_decides : PySem.W.nsIn K mainGlobals "_law_decides" = some (some (.ref f_law_decides)))
    (l_law_decides : K.lookup f_law_decides = some ⟨oc_law_decides, od_law_decides, .func (PySem.W.fnOf "_law_decides" "_law_decides" (defArgs s_law_decides) (defBody s_law_decides) (defScope s_law_decides) .none kV_law_decides dc_law_decides pm_law_decides an_law_decides cd_law_decides ct_law_decides), sl_law_decides⟩)
    (c_law_decides : PySem.W.codeIn K cd_law_decides "_law_decides" = true)
    (k_law_decides : PySem.W.keepIn K (.ref f_law_decides) = true)
    (a_law_decide : PySem.W.nsIn K mainGlobals "_law_decide" = some (some (.ref f_law_decide)))
    (l_law_decide : K.lookup f_law_decide = some ⟨oc_law_decide, od_law_decide, .func (PySem.W.fnOf "_law_decide" "_law_decide" (defArgs s_law_decide) (defBody s_law_decide) (defScope s_law_decide) .none kV_law_decide dc_law_decide pm_law_decide an_law_decide cd_law_decide ct_law_decide), sl_law_decide⟩)
    (c_law_decide : PySem.W.codeIn K cd_law_decide "_law_decide" = true)
    (k_law_decide : PySem.W.keepIn K (.ref f_law_decide) = true)
    (a_AccountFile_wants_reminder : PySem.W.findIn K (.ref C_AccountFile) "wants_reminder" = some (some (.ref f_AccountFile_wants_reminder)))
    (i_AccountFile_wants_reminder : PySem.W.isFn K (.ref f_AccountFile_wants_reminder) = true)
    (l_AccountFile_wants_reminder : K.lookup f_AccountFile_wants_reminder = some ⟨oc_AccountFile_wants_reminder, od_AccountFile_wants_reminder, .func (PySem.W.fnOf "wants_reminder" "AccountFile.wants_reminder" (defArgs s_AccountFile_wants_reminder) (defBody s_AccountFile_wants_reminder) (defScope s_AccountFile_wants_reminder) .none kV_AccountFile_wants_reminder dc_AccountFile_wants_reminder pm_AccountFile_wants_reminder an_AccountFile_wants_reminder cd_AccountFile_wants_reminder ct_AccountFile_wants_reminder), sl_AccountFile_wants_reminder⟩)
    (c_AccountFile_wants_reminder : PySem.W.codeIn K cd_AccountFile_wants_reminder "AccountFile.wants_reminder" = true)
    (k_AccountFile_wants_reminder : PySem.W.keepIn K (.ref f_AccountFile_wants_reminder) = true)
    (a_Terms_reminder_fee : PySem.W.findIn K (.ref C_Terms) "reminder_fee" = some (some (.ref f_Terms_reminder_fee)))
    (i_Terms_reminder_fee : PySem.W.isFn K (.ref f_Terms_reminder_fee) = true)
    (l_Terms_reminder_fee : K.lookup f_Terms_reminder_fee = some ⟨oc_Terms_reminder_fee, od_Terms_reminder_fee, .func (PySem.W.fnOf "reminder_fee" "Terms.reminder_fee" (defArgs s_Terms_reminder_fee) (defBody s_Terms_reminder_fee) (defScope s_Terms_reminder_fee) .none kV_Terms_reminder_fee dc_Terms_reminder_fee pm_Terms_reminder_fee an_Terms_reminder_fee cd_Terms_reminder_fee ct_Terms_reminder_fee), sl_Terms_reminder_fee⟩)
    (c_Terms_reminder_fee : PySem.W.codeIn K cd_Terms_reminder_fee "Terms.reminder_fee" = true)
    (k_Terms_reminder_fee : PySem.W.keepIn K (.ref f_Terms_reminder_fee) = true)
    (a_AccountFile_add_fee : PySem.W.findIn K (.ref C_AccountFile) "add_fee" = some (some (.ref f_AccountFile_add_fee)))
    (i_AccountFile_add_fee : PySem.W.isFn K (.ref f_AccountFile_add_fee) = true)
    (l_AccountFile_add_fee : K.lookup f_AccountFile_add_fee = some ⟨oc_AccountFile_add_fee, od_AccountFile_add_fee, .func (PySem.W.fnOf "add_fee" "AccountFile.add_fee" (defArgs s_AccountFile_add_fee) (defBody s_AccountFile_add_fee) (defScope s_AccountFile_add_fee) .none kV_AccountFile_add_fee dc_AccountFile_add_fee pm_AccountFile_add_fee an_AccountFile_add_fee cd_AccountFile_add_fee ct_AccountFile_add_fee), sl_AccountFile_add_fee⟩)
    (c_AccountFile_add_fee : PySem.W.codeIn K cd_AccountFile_add_fee "AccountFile.add_fee" = true)
    (k_AccountFile_add_fee : PySem.W.keepIn K (.ref f_AccountFile_add_fee) = true)
    (a_AccountFile_remind : PySem.W.findIn K (.ref C_AccountFile) "remind" = some (some (.ref f_AccountFile_remind)))
    (i_AccountFile_remind : PySem.W.isFn K (.ref f_AccountFile_remind) = true)
    (l_AccountFile_remind : K.lookup f_AccountFile_remind = some ⟨oc_AccountFile_remind, od_AccountFile_remind, .func (PySem.W.fnOf "remind" "AccountFile.remind" (defArgs s_AccountFile_remind) (defBody s_AccountFile_remind) (defScope s_AccountFile_remind) .none kV_AccountFile_remind dc_AccountFile_remind pm_AccountFile_remind an_AccountFile_remind cd_AccountFile_remind ct_AccountFile_remind), sl_AccountFile_remind⟩)
    (c_AccountFile_remind : PySem.W.codeIn K cd_AccountFile_remind "AccountFile.remind" = true)
    (k_AccountFile_remind : PySem.W.keepIn K (.ref f_AccountFile_remind) = true)
    (a_law_remind : PySem.W.nsIn K mainGlobals "_law_remind" = some (some (.ref f_law_remind)))
    (l_law_remind : K.lookup f_law_remind = some ⟨oc_law_remind, od_law_remind, .func (PySem.W.fnOf "_law_remind" "_law_remind" (defArgs s_law_remind) (defBody s_law_remind) (defScope s_law_remind) .none kV_law_remind dc_law_remind pm_law_remind an_law_remind cd_law_remind ct_law_remind), sl_law_remind⟩)
    (c_law_remind : PySem.W.codeIn K cd_law_remind "_law_remind" = true)
    (k_law_remind : PySem.W.keepIn K (.ref f_law_remind) = true)
    (a_law : PySem.W.nsIn K mainGlobals "law" = some (some (.ref f_law)))
    (l_law : K.lookup f_law = some ⟨oc_law, od_law, .func (PySem.W.fnOf "law" "law" (defArgs s_law) (defBody s_law) (defScope s_law) .none kV_law dc_law pm_law an_law cd_law ct_law), sl_law⟩)
    (c_law : PySem.W.codeIn K cd_law "law" = true)
    (k_law : PySem.W.keepIn K (.ref f_law) = true)
    : ∃ (A : Ad) (fd : FuncData), (∀ (s : Shared) (v : Value), BindsTo s fd ⟨[v], []⟩ [("script", v)]) ∧ ∀ base : Heap, K.In base → base.Ns mainGlobals mg → FnOk l.prog w K mg base CX0 10 fa fd ["script"] (spD K (R_law A)) := by
  have e := hfa.symm.trans (PySem.W.mg_of X G a_law)
  cases e
  have F_law_state := fun_mk (st := s_law_state) l_law_state c_law_state k_law_state
  have b_law_state := F_law_state.binds (ps := ["cell", "k"]) fun _ _ _ _ _ _ us hl => match us, hl with | [_, _], _ => rfl
  have F_AccountFile_init := fun_mk (st := s_AccountFile_init) l_AccountFile_init c_AccountFile_init k_AccountFile_init
  have b_AccountFile_init := F_AccountFile_init.binds (ps := ["self", "terms"]) fun _ _ _ _ _ _ us hl => match us, hl with | [_, _], _ => rfl
  have F_law_new := fun_mk (st := s_law_new) l_law_new c_law_new k_law_new
  have b_law_new := F_law_new.binds (ps := []) fun _ _ _ _ _ _ us hl => match us, hl with | [], _ => rfl
  have F_law_cell := fun_mk (st := s_law_cell) l_law_cell c_law_cell k_law_cell
  have b_law_cell := F_law_cell.binds (ps := ["script", "k"]) fun _ _ _ _ _ _ us hl => match us, hl with | [_, _], _ => rfl
  have F_law_digit := fun_mk (st := s_law_digit) l_law_digit c_law_digit k_law_digit
  have b_law_digit := F_law_digit.binds (ps := ["state", "many"]) fun _ _ _ _ _ _ us hl => match us, hl with | [_, _], _ => rfl
  have F_Terms_init := fun_mk (st := s_Terms_init) l_Terms_init c_Terms_init k_Terms_init
  have b_Terms_init := F_Terms_init.binds (ps := ["self", "term", "gap", "fee", "rate"]) fun _ _ _ _ _ _ us hl => match us, hl with | [_, _, _, _, _], _ => rfl
  have F_Bill_init := fun_mk (st := s_Bill_init) l_Bill_init c_Bill_init k_Bill_init
  have b_Bill_init := F_Bill_init.binds (ps := ["self", "number", "rows", "amount", "made", "due"]) fun _ _ _ _ _ _ us hl => match us, hl with | [_, _, _, _, _, _], _ => rfl
  have F_Terms_due_of := fun_mk (st := s_Terms_due_of) l_Terms_due_of c_Terms_due_of k_Terms_due_of
  have b_Terms_due_of := F_Terms_due_of.binds (ps := ["self", "clock"]) fun _ _ _ _ _ _ us hl => match us, hl with | [_, _], _ => rfl
  have F_Demand_init := fun_mk (st := s_Demand_init) l_Demand_init c_Demand_init k_Demand_init
  have b_Demand_init := F_Demand_init.binds (ps := ["self", "kind", "number", "amount", "made", "due"]) fun _ _ _ _ _ _ us hl => match us, hl with | [_, _, _, _, _, _], _ => rfl
  have F_AccountFile_add_bill := fun_mk (st := s_AccountFile_add_bill) l_AccountFile_add_bill c_AccountFile_add_bill k_AccountFile_add_bill
  have b_AccountFile_add_bill := F_AccountFile_add_bill.binds (ps := ["self", "rows", "amount", "clock"]) fun _ _ _ _ _ _ us hl => match us, hl with | [_, _, _, _], _ => rfl
  have F_Bill_row := fun_mk (st := s_Bill_row) l_Bill_row c_Bill_row k_Bill_row
  have b_Bill_row := F_Bill_row.binds (ps := ["self"]) fun _ _ _ _ _ _ us hl => match us, hl with | [_], _ => rfl
  have F_law_bill := fun_mk (st := s_law_bill) l_law_bill c_law_bill k_law_bill
  have b_law_bill := F_law_bill.binds (ps := ["account", "model", "state", "clock", "term"]) fun _ _ _ _ _ _ us hl => match us, hl with | [_, _, _, _, _], _ => rfl
  have F_law_means := fun_mk (st := s_law_means) l_law_means c_law_means k_law_means
  have b_law_means := F_law_means.binds (ps := ["model"]) fun _ _ _ _ _ _ us hl => match us, hl with | [_], _ => rfl
  have F_law_left := fun_mk (st := s_law_left) l_law_left c_law_left k_law_left
  have b_law_left := F_law_left.binds (ps := ["model"]) fun _ _ _ _ _ _ us hl => match us, hl with | [_], _ => rfl
  have F_allot := fun_mk (st := s_allot) l_allot c_allot k_allot
  have b_allot := F_allot.binds (ps := ["means", "amounts"]) fun _ _ _ _ _ _ us hl => match us, hl with | [_, _], _ => rfl
  have F_open_amounts := fun_mk (st := s_open_amounts) l_open_amounts c_open_amounts k_open_amounts
  have b_open_amounts := F_open_amounts.binds (ps := ["means", "amounts"]) fun _ _ _ _ _ _ us hl => match us, hl with | [_, _], _ => rfl
  have F_Dispute_is_granted := fun_mk (st := s_Dispute_is_granted) l_Dispute_is_granted c_Dispute_is_granted k_Dispute_is_granted
  have b_Dispute_is_granted := F_Dispute_is_granted.binds (ps := ["self"]) fun _ _ _ _ _ _ us hl => match us, hl with | [_], _ => rfl
  have F_all_granted := fun_mk (st := s_all_granted) l_all_granted c_all_granted k_all_granted
  have b_all_granted := F_all_granted.binds (ps := ["disputes"]) fun _ _ _ _ _ _ us hl => match us, hl with | [_], _ => rfl
  have F_AccountFile_paid := fun_mk (st := s_AccountFile_paid) l_AccountFile_paid c_AccountFile_paid k_AccountFile_paid
  have b_AccountFile_paid := F_AccountFile_paid.binds (ps := ["self"]) fun _ _ _ _ _ _ us hl => match us, hl with | [_], _ => rfl
  have F_AccountFile_credit_sum := fun_mk (st := s_AccountFile_credit_sum) l_AccountFile_credit_sum c_AccountFile_credit_sum k_AccountFile_credit_sum
  have b_AccountFile_credit_sum := F_AccountFile_credit_sum.binds (ps := ["self"]) fun _ _ _ _ _ _ us hl => match us, hl with | [_], _ => rfl
  have F_AccountFile_means := fun_mk (st := s_AccountFile_means) l_AccountFile_means c_AccountFile_means k_AccountFile_means
  have b_AccountFile_means := F_AccountFile_means.binds (ps := ["self"]) fun _ _ _ _ _ _ us hl => match us, hl with | [_], _ => rfl
  have F_AccountFile_amounts := fun_mk (st := s_AccountFile_amounts) l_AccountFile_amounts c_AccountFile_amounts k_AccountFile_amounts
  have b_AccountFile_amounts := F_AccountFile_amounts.binds (ps := ["self"]) fun _ _ _ _ _ _ us hl => match us, hl with | [_], _ => rfl
  have F_AccountFile_open_list := fun_mk (st := s_AccountFile_open_list) l_AccountFile_open_list c_AccountFile_open_list k_AccountFile_open_list
  have b_AccountFile_open_list := F_AccountFile_open_list.binds (ps := ["self"]) fun _ _ _ _ _ _ us hl => match us, hl with | [_], _ => rfl
  have F_AccountFile_open_total := fun_mk (st := s_AccountFile_open_total) l_AccountFile_open_total c_AccountFile_open_total k_AccountFile_open_total
  have b_AccountFile_open_total := F_AccountFile_open_total.binds (ps := ["self"]) fun _ _ _ _ _ _ us hl => match us, hl with | [_], _ => rfl
  have F_credit_of := fun_mk (st := s_credit_of) l_credit_of c_credit_of k_credit_of
  have b_credit_of := F_credit_of.binds (ps := ["means", "amounts"]) fun _ _ _ _ _ _ us hl => match us, hl with | [_, _], _ => rfl
  have F_AccountFile_credit := fun_mk (st := s_AccountFile_credit) l_AccountFile_credit c_AccountFile_credit k_AccountFile_credit
  have b_AccountFile_credit := F_AccountFile_credit.binds (ps := ["self"]) fun _ _ _ _ _ _ us hl => match us, hl with | [_], _ => rfl
  have F_AccountFile_asked := fun_mk (st := s_AccountFile_asked) l_AccountFile_asked c_AccountFile_asked k_AccountFile_asked
  have b_AccountFile_asked := F_AccountFile_asked.binds (ps := ["self"]) fun _ _ _ _ _ _ us hl => match us, hl with | [_], _ => rfl
  have F_Dispute_is_waiting := fun_mk (st := s_Dispute_is_waiting) l_Dispute_is_waiting c_Dispute_is_waiting k_Dispute_is_waiting
  have b_Dispute_is_waiting := F_Dispute_is_waiting.binds (ps := ["self"]) fun _ _ _ _ _ _ us hl => match us, hl with | [_], _ => rfl
  have F_held_of := fun_mk (st := s_held_of) l_held_of c_held_of k_held_of
  have b_held_of := F_held_of.binds (ps := ["disputes", "bill"]) fun _ _ _ _ _ _ us hl => match us, hl with | [_, _], _ => rfl
  have F_AccountFile_held := fun_mk (st := s_AccountFile_held) l_AccountFile_held c_AccountFile_held k_AccountFile_held
  have b_AccountFile_held := F_AccountFile_held.binds (ps := ["self", "demand"]) fun _ _ _ _ _ _ us hl => match us, hl with | [_, _], _ => rfl
  have F_AccountFile_overdue_list := fun_mk (st := s_AccountFile_overdue_list) l_AccountFile_overdue_list c_AccountFile_overdue_list k_AccountFile_overdue_list
  have b_AccountFile_overdue_list := F_AccountFile_overdue_list.binds (ps := ["self", "clock"]) fun _ _ _ _ _ _ us hl => match us, hl with | [_, _], _ => rfl
  have F_AccountFile_overdue := fun_mk (st := s_AccountFile_overdue) l_AccountFile_overdue c_AccountFile_overdue k_AccountFile_overdue
  have b_AccountFile_overdue := F_AccountFile_overdue.binds (ps := ["self", "clock"]) fun _ _ _ _ _ _ us hl => match us, hl with | [_, _], _ => rfl
  have F_law_over := fun_mk (st := s_law_over) l_law_over c_law_over k_law_over
  have b_law_over := F_law_over.binds (ps := ["model", "clock"]) fun _ _ _ _ _ _ us hl => match us, hl with | [_, _], _ => rfl
  have F_Demand_row := fun_mk (st := s_Demand_row) l_Demand_row c_Demand_row k_Demand_row
  have b_Demand_row := F_Demand_row.binds (ps := ["self"]) fun _ _ _ _ _ _ us hl => match us, hl with | [_], _ => rfl
  have F_law_same := fun_mk (st := s_law_same) l_law_same c_law_same k_law_same
  have b_law_same := F_law_same.binds (ps := ["account", "model", "clock"]) fun _ _ _ _ _ _ us hl => match us, hl with | [_, _, _], _ => rfl
  have F_AccountFile_pay := fun_mk (st := s_AccountFile_pay) l_AccountFile_pay c_AccountFile_pay k_AccountFile_pay
  have b_AccountFile_pay := F_AccountFile_pay.binds (ps := ["self", "amount", "clock"]) fun _ _ _ _ _ _ us hl => match us, hl with | [_, _, _], _ => rfl
  have F_AccountFile_bill := fun_mk (st := s_AccountFile_bill) l_AccountFile_bill c_AccountFile_bill k_AccountFile_bill
  have b_AccountFile_bill := F_AccountFile_bill.binds (ps := ["self", "number"]) fun _ _ _ _ _ _ us hl => match us, hl with | [_, _], _ => rfl
  have F_Bill_is_credit := fun_mk (st := s_Bill_is_credit) l_Bill_is_credit c_Bill_is_credit k_Bill_is_credit
  have b_Bill_is_credit := F_Bill_is_credit.binds (ps := ["self"]) fun _ _ _ _ _ _ us hl => match us, hl with | [_], _ => rfl
  have F_Dispute_init := fun_mk (st := s_Dispute_init) l_Dispute_init c_Dispute_init k_Dispute_init
  have b_Dispute_init := F_Dispute_init.binds (ps := ["self", "number", "bill", "amount", "made"]) fun _ _ _ _ _ _ us hl => match us, hl with | [_, _, _, _, _], _ => rfl
  have F_granted_of := fun_mk (st := s_granted_of) l_granted_of c_granted_of k_granted_of
  have b_granted_of := F_granted_of.binds (ps := ["disputes", "bill"]) fun _ _ _ _ _ _ us hl => match us, hl with | [_, _], _ => rfl
  have F_can_be_disputed := fun_mk (st := s_can_be_disputed) l_can_be_disputed c_can_be_disputed k_can_be_disputed
  have b_can_be_disputed := F_can_be_disputed.binds (ps := ["disputes", "bill", "amount"]) fun _ _ _ _ _ _ us hl => match us, hl with | [_, _, _], _ => rfl
  have F_AccountFile_dispute := fun_mk (st := s_AccountFile_dispute) l_AccountFile_dispute c_AccountFile_dispute k_AccountFile_dispute
  have b_AccountFile_dispute := F_AccountFile_dispute.binds (ps := ["self", "number", "amount", "clock"]) fun _ _ _ _ _ _ us hl => match us, hl with | [_, _, _, _], _ => rfl
  have F_law_kind := fun_mk (st := s_law_kind) l_law_kind c_law_kind k_law_kind
  have b_law_kind := F_law_kind.binds (ps := ["found"]) fun _ _ _ _ _ _ us hl => match us, hl with | [_], _ => rfl
  have F_law_disputes := fun_mk (st := s_law_disputes) l_law_disputes c_law_disputes k_law_disputes
  have b_law_disputes := F_law_disputes.binds (ps := ["account", "number", "amount", "clock"]) fun _ _ _ _ _ _ us hl => match us, hl with | [_, _, _, _], _ => rfl
  have F_law_spread := fun_mk (st := s_law_spread) l_law_spread c_law_spread k_law_spread
  have b_law_spread := F_law_spread.binds (ps := ["model", "number"]) fun _ _ _ _ _ _ us hl => match us, hl with | [_, _], _ => rfl
  have F_law_dispute := fun_mk (st := s_law_dispute) l_law_dispute c_law_dispute k_law_dispute
  have b_law_dispute := F_law_dispute.binds (ps := ["account", "model", "state", "clock"]) fun _ _ _ _ _ _ us hl => match us, hl with | [_, _, _, _], _ => rfl
  have F_Dispute_decide := fun_mk (st := s_Dispute_decide) l_Dispute_decide c_Dispute_decide k_Dispute_decide
  have b_Dispute_decide := F_Dispute_decide.binds (ps := ["self", "granted"]) fun _ _ _ _ _ _ us hl => match us, hl with | [_, _], _ => rfl
  have F_AccountFile_put_off := fun_mk (st := s_AccountFile_put_off) l_AccountFile_put_off c_AccountFile_put_off k_AccountFile_put_off
  have b_AccountFile_put_off := F_AccountFile_put_off.binds (ps := ["self", "number", "due"]) fun _ _ _ _ _ _ us hl => match us, hl with | [_, _, _], _ => rfl
  have F_AccountFile_decide := fun_mk (st := s_AccountFile_decide) l_AccountFile_decide c_AccountFile_decide k_AccountFile_decide
  have b_AccountFile_decide := F_AccountFile_decide.binds (ps := ["self", "number", "granted", "clock"]) fun _ _ _ _ _ _ us hl => match us, hl with | [_, _, _, _], _ => rfl
  have F_law_decides := fun_mk (st := s_law_decides) l_law_decides c_law_decides k_law_decides
  have b_law_decides := F_law_decides.binds (ps := ["account", "number", "granted", "clock"]) fun _ _ _ _ _ _ us hl => match us, hl with | [_, _, _, _], _ => rfl
  have F_law_decide := fun_mk (st := s_law_decide) l_law_decide c_law_decide k_law_decide
  have b_law_decide := F_law_decide.binds (ps := ["account", "model", "state", "clock", "term"]) fun _ _ _ _ _ _ us hl => match us, hl with | [_, _, _, _, _], _ => rfl
  have F_AccountFile_wants_reminder := fun_mk (st := s_AccountFile_wants_reminder) l_AccountFile_wants_reminder c_AccountFile_wants_reminder k_AccountFile_wants_reminder
  have b_AccountFile_wants_reminder := F_AccountFile_wants_reminder.binds (ps := ["self", "clock"]) fun _ _ _ _ _ _ us hl => match us, hl with | [_, _], _ => rfl
  have F_Terms_reminder_fee := fun_mk (st := s_Terms_reminder_fee) l_Terms_reminder_fee c_Terms_reminder_fee k_Terms_reminder_fee
  have b_Terms_reminder_fee := F_Terms_reminder_fee.binds (ps := ["self", "overdue"]) fun _ _ _ _ _ _ us hl => match us, hl with | [_, _], _ => rfl
  have F_AccountFile_add_fee := fun_mk (st := s_AccountFile_add_fee) l_AccountFile_add_fee c_AccountFile_add_fee k_AccountFile_add_fee
  have b_AccountFile_add_fee := F_AccountFile_add_fee.binds (ps := ["self", "amount", "clock"]) fun _ _ _ _ _ _ us hl => match us, hl with | [_, _, _], _ => rfl
  have F_AccountFile_remind := fun_mk (st := s_AccountFile_remind) l_AccountFile_remind c_AccountFile_remind k_AccountFile_remind
  have b_AccountFile_remind := F_AccountFile_remind.binds (ps := ["self", "clock"]) fun _ _ _ _ _ _ us hl => match us, hl with | [_, _], _ => rfl
  have F_law_remind := fun_mk (st := s_law_remind) l_law_remind c_law_remind k_law_remind
  have b_law_remind := F_law_remind.binds (ps := ["account", "model", "clock", "numbers"]) fun _ _ _ _ _ _ us hl => match us, hl with | [_, _, _, _], _ => rfl
  have F_law := fun_mk (st := s_law) l_law c_law k_law
  have b_law := F_law.binds (ps := ["script"]) fun _ _ _ _ _ _ us hl => match us, hl with | [_], _ => rfl
  let A : Ad := { a_law_state := f_law_state, d_law_state := PySem.W.fnOf "_law_state" "_law_state" (defArgs s_law_state) (defBody s_law_state) (defScope s_law_state) .none kV_law_state dc_law_state pm_law_state an_law_state cd_law_state ct_law_state, a_AccountFile_init := f_AccountFile_init, d_AccountFile_init := PySem.W.fnOf "__init__" "AccountFile.__init__" (defArgs s_AccountFile_init) (defBody s_AccountFile_init) (defScope s_AccountFile_init) .none kV_AccountFile_init dc_AccountFile_init pm_AccountFile_init an_AccountFile_init cd_AccountFile_init ct_AccountFile_init, a_law_new := f_law_new, d_law_new := PySem.W.fnOf "_law_new" "_law_new" (defArgs s_law_new) (defBody s_law_new) (defScope s_law_new) .none kV_law_new dc_law_new pm_law_new an_law_new cd_law_new ct_law_new, a_law_cell := f_law_cell, d_law_cell := PySem.W.fnOf "_law_cell" "_law_cell" (defArgs s_law_cell) (defBody s_law_cell) (defScope s_law_cell) .none kV_law_cell dc_law_cell pm_law_cell an_law_cell cd_law_cell ct_law_cell, a_law_digit := f_law_digit, d_law_digit := PySem.W.fnOf "_law_digit" "_law_digit" (defArgs s_law_digit) (defBody s_law_digit) (defScope s_law_digit) .none kV_law_digit dc_law_digit pm_law_digit an_law_digit cd_law_digit ct_law_digit, a_BadTerms_init := f_BadTerms_init, d_BadTerms_init := PySem.W.ksFn "__init__" "BadTerms.__init__" (defArgs s_BadTerms_init) (defBody s_BadTerms_init) (defScope s_BadTerms_init) .none kV_BadTerms_init dc_BadTerms_init pm_BadTerms_init an_BadTerms_init (.ref cd_BadTerms_init) ct_BadTerms_init cc_BadTerms_init, a_Terms_init := f_Terms_init, d_Terms_init := PySem.W.fnOf "__init__" "Terms.__init__" (defArgs s_Terms_init) (defBody s_Terms_init) (defScope s_Terms_init) .none kV_Terms_init dc_Terms_init pm_Terms_init an_Terms_init cd_Terms_init ct_Terms_init, a_Bill_init := f_Bill_init, d_Bill_init := PySem.W.fnOf "__init__" "Bill.__init__" (defArgs s_Bill_init) (defBody s_Bill_init) (defScope s_Bill_init) .none kV_Bill_init dc_Bill_init pm_Bill_init an_Bill_init cd_Bill_init ct_Bill_init, a_Terms_due_of := f_Terms_due_of, d_Terms_due_of := PySem.W.fnOf "due_of" "Terms.due_of" (defArgs s_Terms_due_of) (defBody s_Terms_due_of) (defScope s_Terms_due_of) .none kV_Terms_due_of dc_Terms_due_of pm_Terms_due_of an_Terms_due_of cd_Terms_due_of ct_Terms_due_of, a_Demand_init := f_Demand_init, d_Demand_init := PySem.W.fnOf "__init__" "Demand.__init__" (defArgs s_Demand_init) (defBody s_Demand_init) (defScope s_Demand_init) .none kV_Demand_init dc_Demand_init pm_Demand_init an_Demand_init cd_Demand_init ct_Demand_init, a_AccountFile_add_bill := f_AccountFile_add_bill, d_AccountFile_add_bill := PySem.W.fnOf "add_bill" "AccountFile.add_bill" (defArgs s_AccountFile_add_bill) (defBody s_AccountFile_add_bill) (defScope s_AccountFile_add_bill) .none kV_AccountFile_add_bill dc_AccountFile_add_bill pm_AccountFile_add_bill an_AccountFile_add_bill cd_AccountFile_add_bill ct_AccountFile_add_bill, a_Bill_row := f_Bill_row, d_Bill_row := PySem.W.fnOf "row" "Bill.row" (defArgs s_Bill_row) (defBody s_Bill_row) (defScope s_Bill_row) .none kV_Bill_row dc_Bill_row pm_Bill_row an_Bill_row cd_Bill_row ct_Bill_row, a_law_bill := f_law_bill, d_law_bill := PySem.W.fnOf "_law_bill" "_law_bill" (defArgs s_law_bill) (defBody s_law_bill) (defScope s_law_bill) .none kV_law_bill dc_law_bill pm_law_bill an_law_bill cd_law_bill ct_law_bill, a_law_means := f_law_means, d_law_means := PySem.W.fnOf "_law_means" "_law_means" (defArgs s_law_means) (defBody s_law_means) (defScope s_law_means) .none kV_law_means dc_law_means pm_law_means an_law_means cd_law_means ct_law_means, a_law_left := f_law_left, d_law_left := PySem.W.fnOf "_law_left" "_law_left" (defArgs s_law_left) (defBody s_law_left) (defScope s_law_left) .none kV_law_left dc_law_left pm_law_left an_law_left cd_law_left ct_law_left, a_allot := f_allot, d_allot := PySem.W.fnOf "allot" "allot" (defArgs s_allot) (defBody s_allot) (defScope s_allot) .none kV_allot dc_allot pm_allot an_allot cd_allot ct_allot, a_open_amounts := f_open_amounts, d_open_amounts := PySem.W.fnOf "open_amounts" "open_amounts" (defArgs s_open_amounts) (defBody s_open_amounts) (defScope s_open_amounts) .none kV_open_amounts dc_open_amounts pm_open_amounts an_open_amounts cd_open_amounts ct_open_amounts, a_Dispute_is_granted := f_Dispute_is_granted, d_Dispute_is_granted := PySem.W.fnOf "is_granted" "Dispute.is_granted" (defArgs s_Dispute_is_granted) (defBody s_Dispute_is_granted) (defScope s_Dispute_is_granted) .none kV_Dispute_is_granted dc_Dispute_is_granted pm_Dispute_is_granted an_Dispute_is_granted cd_Dispute_is_granted ct_Dispute_is_granted, a_all_granted := f_all_granted, d_all_granted := PySem.W.fnOf "all_granted" "all_granted" (defArgs s_all_granted) (defBody s_all_granted) (defScope s_all_granted) .none kV_all_granted dc_all_granted pm_all_granted an_all_granted cd_all_granted ct_all_granted, a_AccountFile_paid := f_AccountFile_paid, d_AccountFile_paid := PySem.W.fnOf "paid" "AccountFile.paid" (defArgs s_AccountFile_paid) (defBody s_AccountFile_paid) (defScope s_AccountFile_paid) .none kV_AccountFile_paid dc_AccountFile_paid pm_AccountFile_paid an_AccountFile_paid cd_AccountFile_paid ct_AccountFile_paid, a_AccountFile_credit_sum := f_AccountFile_credit_sum, d_AccountFile_credit_sum := PySem.W.fnOf "credit_sum" "AccountFile.credit_sum" (defArgs s_AccountFile_credit_sum) (defBody s_AccountFile_credit_sum) (defScope s_AccountFile_credit_sum) .none kV_AccountFile_credit_sum dc_AccountFile_credit_sum pm_AccountFile_credit_sum an_AccountFile_credit_sum cd_AccountFile_credit_sum ct_AccountFile_credit_sum, a_AccountFile_means := f_AccountFile_means, d_AccountFile_means := PySem.W.fnOf "means" "AccountFile.means" (defArgs s_AccountFile_means) (defBody s_AccountFile_means) (defScope s_AccountFile_means) .none kV_AccountFile_means dc_AccountFile_means pm_AccountFile_means an_AccountFile_means cd_AccountFile_means ct_AccountFile_means, a_AccountFile_amounts := f_AccountFile_amounts, d_AccountFile_amounts := PySem.W.fnOf "amounts" "AccountFile.amounts" (defArgs s_AccountFile_amounts) (defBody s_AccountFile_amounts) (defScope s_AccountFile_amounts) .none kV_AccountFile_amounts dc_AccountFile_amounts pm_AccountFile_amounts an_AccountFile_amounts cd_AccountFile_amounts ct_AccountFile_amounts, a_AccountFile_open_list := f_AccountFile_open_list, d_AccountFile_open_list := PySem.W.fnOf "open_list" "AccountFile.open_list" (defArgs s_AccountFile_open_list) (defBody s_AccountFile_open_list) (defScope s_AccountFile_open_list) .none kV_AccountFile_open_list dc_AccountFile_open_list pm_AccountFile_open_list an_AccountFile_open_list cd_AccountFile_open_list ct_AccountFile_open_list, a_AccountFile_open_total := f_AccountFile_open_total, d_AccountFile_open_total := PySem.W.fnOf "open_total" "AccountFile.open_total" (defArgs s_AccountFile_open_total) (defBody s_AccountFile_open_total) (defScope s_AccountFile_open_total) .none kV_AccountFile_open_total dc_AccountFile_open_total pm_AccountFile_open_total an_AccountFile_open_total cd_AccountFile_open_total ct_AccountFile_open_total, a_credit_of := f_credit_of, d_credit_of := PySem.W.fnOf "credit_of" "credit_of" (defArgs s_credit_of) (defBody s_credit_of) (defScope s_credit_of) .none kV_credit_of dc_credit_of pm_credit_of an_credit_of cd_credit_of ct_credit_of, a_AccountFile_credit := f_AccountFile_credit, d_AccountFile_credit := PySem.W.fnOf "credit" "AccountFile.credit" (defArgs s_AccountFile_credit) (defBody s_AccountFile_credit) (defScope s_AccountFile_credit) .none kV_AccountFile_credit dc_AccountFile_credit pm_AccountFile_credit an_AccountFile_credit cd_AccountFile_credit ct_AccountFile_credit, a_AccountFile_asked := f_AccountFile_asked, d_AccountFile_asked := PySem.W.fnOf "asked" "AccountFile.asked" (defArgs s_AccountFile_asked) (defBody s_AccountFile_asked) (defScope s_AccountFile_asked) .none kV_AccountFile_asked dc_AccountFile_asked pm_AccountFile_asked an_AccountFile_asked cd_AccountFile_asked ct_AccountFile_asked, a_Dispute_is_waiting := f_Dispute_is_waiting, d_Dispute_is_waiting := PySem.W.fnOf "is_waiting" "Dispute.is_waiting" (defArgs s_Dispute_is_waiting) (defBody s_Dispute_is_waiting) (defScope s_Dispute_is_waiting) .none kV_Dispute_is_waiting dc_Dispute_is_waiting pm_Dispute_is_waiting an_Dispute_is_waiting cd_Dispute_is_waiting ct_Dispute_is_waiting, a_held_of := f_held_of, d_held_of := PySem.W.fnOf "held_of" "held_of" (defArgs s_held_of) (defBody s_held_of) (defScope s_held_of) .none kV_held_of dc_held_of pm_held_of an_held_of cd_held_of ct_held_of, a_AccountFile_held := f_AccountFile_held, d_AccountFile_held := PySem.W.fnOf "held" "AccountFile.held" (defArgs s_AccountFile_held) (defBody s_AccountFile_held) (defScope s_AccountFile_held) .none kV_AccountFile_held dc_AccountFile_held pm_AccountFile_held an_AccountFile_held cd_AccountFile_held ct_AccountFile_held, a_AccountFile_overdue_list := f_AccountFile_overdue_list, d_AccountFile_overdue_list := PySem.W.fnOf "overdue_list" "AccountFile.overdue_list" (defArgs s_AccountFile_overdue_list) (defBody s_AccountFile_overdue_list) (defScope s_AccountFile_overdue_list) .none kV_AccountFile_overdue_list dc_AccountFile_overdue_list pm_AccountFile_overdue_list an_AccountFile_overdue_list cd_AccountFile_overdue_list ct_AccountFile_overdue_list, a_AccountFile_overdue := f_AccountFile_overdue, d_AccountFile_overdue := PySem.W.fnOf "overdue" "AccountFile.overdue" (defArgs s_AccountFile_overdue) (defBody s_AccountFile_overdue) (defScope s_AccountFile_overdue) .none kV_AccountFile_overdue dc_AccountFile_overdue pm_AccountFile_overdue an_AccountFile_overdue cd_AccountFile_overdue ct_AccountFile_overdue, a_law_over := f_law_over, d_law_over := PySem.W.fnOf "_law_over" "_law_over" (defArgs s_law_over) (defBody s_law_over) (defScope s_law_over) .none kV_law_over dc_law_over pm_law_over an_law_over cd_law_over ct_law_over, a_Demand_row := f_Demand_row, d_Demand_row := PySem.W.fnOf "row" "Demand.row" (defArgs s_Demand_row) (defBody s_Demand_row) (defScope s_Demand_row) .none kV_Demand_row dc_Demand_row pm_Demand_row an_Demand_row cd_Demand_row ct_Demand_row, a_law_same := f_law_same, d_law_same := PySem.W.fnOf "_law_same" "_law_same" (defArgs s_law_same) (defBody s_law_same) (defScope s_law_same) .none kV_law_same dc_law_same pm_law_same an_law_same cd_law_same ct_law_same, a_AccountFile_pay := f_AccountFile_pay, d_AccountFile_pay := PySem.W.fnOf "pay" "AccountFile.pay" (defArgs s_AccountFile_pay) (defBody s_AccountFile_pay) (defScope s_AccountFile_pay) .none kV_AccountFile_pay dc_AccountFile_pay pm_AccountFile_pay an_AccountFile_pay cd_AccountFile_pay ct_AccountFile_pay, a_AccountFile_bill := f_AccountFile_bill, d_AccountFile_bill := PySem.W.fnOf "bill" "AccountFile.bill" (defArgs s_AccountFile_bill) (defBody s_AccountFile_bill) (defScope s_AccountFile_bill) .none kV_AccountFile_bill dc_AccountFile_bill pm_AccountFile_bill an_AccountFile_bill cd_AccountFile_bill ct_AccountFile_bill, a_Bill_is_credit := f_Bill_is_credit, d_Bill_is_credit := PySem.W.fnOf "is_credit" "Bill.is_credit" (defArgs s_Bill_is_credit) (defBody s_Bill_is_credit) (defScope s_Bill_is_credit) .none kV_Bill_is_credit dc_Bill_is_credit pm_Bill_is_credit an_Bill_is_credit cd_Bill_is_credit ct_Bill_is_credit, a_Dispute_init := f_Dispute_init, d_Dispute_init := PySem.W.fnOf "__init__" "Dispute.__init__" (defArgs s_Dispute_init) (defBody s_Dispute_init) (defScope s_Dispute_init) .none kV_Dispute_init dc_Dispute_init pm_Dispute_init an_Dispute_init cd_Dispute_init ct_Dispute_init, a_granted_of := f_granted_of, d_granted_of := PySem.W.fnOf "granted_of" "granted_of" (defArgs s_granted_of) (defBody s_granted_of) (defScope s_granted_of) .none kV_granted_of dc_granted_of pm_granted_of an_granted_of cd_granted_of ct_granted_of, a_can_be_disputed := f_can_be_disputed, d_can_be_disputed := PySem.W.fnOf "can_be_disputed" "can_be_disputed" (defArgs s_can_be_disputed) (defBody s_can_be_disputed) (defScope s_can_be_disputed) .none kV_can_be_disputed dc_can_be_disputed pm_can_be_disputed an_can_be_disputed cd_can_be_disputed ct_can_be_disputed, a_AccountFile_dispute := f_AccountFile_dispute, d_AccountFile_dispute := PySem.W.fnOf "dispute" "AccountFile.dispute" (defArgs s_AccountFile_dispute) (defBody s_AccountFile_dispute) (defScope s_AccountFile_dispute) .none kV_AccountFile_dispute dc_AccountFile_dispute pm_AccountFile_dispute an_AccountFile_dispute cd_AccountFile_dispute ct_AccountFile_dispute, a_law_kind := f_law_kind, d_law_kind := PySem.W.fnOf "_law_kind" "_law_kind" (defArgs s_law_kind) (defBody s_law_kind) (defScope s_law_kind) .none kV_law_kind dc_law_kind pm_law_kind an_law_kind cd_law_kind ct_law_kind, a_law_disputes := f_law_disputes, d_law_disputes := PySem.W.fnOf "_law_disputes" "_law_disputes" (defArgs s_law_disputes) (defBody s_law_disputes) (defScope s_law_disputes) .none kV_law_disputes dc_law_disputes pm_law_disputes an_law_disputes cd_law_disputes ct_law_disputes, a_law_spread := f_law_spread, d_law_spread := PySem.W.fnOf "_law_spread" "_law_spread" (defArgs s_law_spread) (defBody s_law_spread) (defScope s_law_spread) .none kV_law_spread dc_law_spread pm_law_spread an_law_spread cd_law_spread ct_law_spread, a_law_dispute := f_law_dispute, d_law_dispute := PySem.W.fnOf "_law_dispute" "_law_dispute" (defArgs s_law_dispute) (defBody s_law_dispute) (defScope s_law_dispute) .none kV_law_dispute dc_law_dispute pm_law_dispute an_law_dispute cd_law_dispute ct_law_dispute, a_Dispute_decide := f_Dispute_decide, d_Dispute_decide := PySem.W.fnOf "decide" "Dispute.decide" (defArgs s_Dispute_decide) (defBody s_Dispute_decide) (defScope s_Dispute_decide) .none kV_Dispute_decide dc_Dispute_decide pm_Dispute_decide an_Dispute_decide cd_Dispute_decide ct_Dispute_decide, a_AccountFile_put_off := f_AccountFile_put_off, d_AccountFile_put_off := PySem.W.fnOf "put_off" "AccountFile.put_off" (defArgs s_AccountFile_put_off) (defBody s_AccountFile_put_off) (defScope s_AccountFile_put_off) .none kV_AccountFile_put_off dc_AccountFile_put_off pm_AccountFile_put_off an_AccountFile_put_off cd_AccountFile_put_off ct_AccountFile_put_off, a_AccountFile_decide := f_AccountFile_decide, d_AccountFile_decide := PySem.W.fnOf "decide" "AccountFile.decide" (defArgs s_AccountFile_decide) (defBody s_AccountFile_decide) (defScope s_AccountFile_decide) .none kV_AccountFile_decide dc_AccountFile_decide pm_AccountFile_decide an_AccountFile_decide cd_AccountFile_decide ct_AccountFile_decide, a_law_decides := f_law_decides, d_law_decides := PySem.W.fnOf "_law_decides" "_law_decides" (defArgs s_law_decides) (defBody s_law_decides) (defScope s_law_decides) .none kV_law_decides dc_law_decides pm_law_decides an_law_decides cd_law_decides ct_law_decides, a_law_decide := f_law_decide, d_law_decide := PySem.W.fnOf "_law_decide" "_law_decide" (defArgs s_law_decide) (defBody s_law_decide) (defScope s_law_decide) .none kV_law_decide dc_law_decide pm_law_decide an_law_decide cd_law_decide ct_law_decide, a_AccountFile_wants_reminder := f_AccountFile_wants_reminder, d_AccountFile_wants_reminder := PySem.W.fnOf "wants_reminder" "AccountFile.wants_reminder" (defArgs s_AccountFile_wants_reminder) (defBody s_AccountFile_wants_reminder) (defScope s_AccountFile_wants_reminder) .none kV_AccountFile_wants_reminder dc_AccountFile_wants_reminder pm_AccountFile_wants_reminder an_AccountFile_wants_reminder cd_AccountFile_wants_reminder ct_AccountFile_wants_reminder, a_Terms_reminder_fee := f_Terms_reminder_fee, d_Terms_reminder_fee := PySem.W.fnOf "reminder_fee" "Terms.reminder_fee" (defArgs s_Terms_reminder_fee) (defBody s_Terms_reminder_fee) (defScope s_Terms_reminder_fee) .none kV_Terms_reminder_fee dc_Terms_reminder_fee pm_Terms_reminder_fee an_Terms_reminder_fee cd_Terms_reminder_fee ct_Terms_reminder_fee, a_AccountFile_add_fee := f_AccountFile_add_fee, d_AccountFile_add_fee := PySem.W.fnOf "add_fee" "AccountFile.add_fee" (defArgs s_AccountFile_add_fee) (defBody s_AccountFile_add_fee) (defScope s_AccountFile_add_fee) .none kV_AccountFile_add_fee dc_AccountFile_add_fee pm_AccountFile_add_fee an_AccountFile_add_fee cd_AccountFile_add_fee ct_AccountFile_add_fee, a_AccountFile_remind := f_AccountFile_remind, d_AccountFile_remind := PySem.W.fnOf "remind" "AccountFile.remind" (defArgs s_AccountFile_remind) (defBody s_AccountFile_remind) (defScope s_AccountFile_remind) .none kV_AccountFile_remind dc_AccountFile_remind pm_AccountFile_remind an_AccountFile_remind cd_AccountFile_remind ct_AccountFile_remind, a_law_remind := f_law_remind, d_law_remind := PySem.W.fnOf "_law_remind" "_law_remind" (defArgs s_law_remind) (defBody s_law_remind) (defScope s_law_remind) .none kV_law_remind dc_law_remind pm_law_remind an_law_remind cd_law_remind ct_law_remind, a_law := fa, d_law := PySem.W.fnOf "law" "law" (defArgs s_law) (defBody s_law) (defScope s_law) .none kV_law dc_law pm_law an_law cd_law ct_law, C_Bill := C_Bill, C_Demand := C_Demand, C_LineError := C_LineError, C_BadTerms := C_BadTerms, C_NoSuchBill := C_NoSuchBill, C_NoSuchDispute := C_NoSuchDispute, C_BadAmount := C_BadAmount, C_IsDecided := C_IsDecided, C_NotInDispute := C_NotInDispute, C_Dispute := C_Dispute, C_AccountFile := C_AccountFile, C_Terms := C_Terms }
  have T : Txt K mg A l.prog w := { F_law_state := F_law_state, b_law_state := b_law_state, g_law_state := PySem.W.mg_of X G a_law_state, F_AccountFile_init := F_AccountFile_init, b_AccountFile_init := b_AccountFile_init, m_AccountFile_init := ⟨mk_AccountFile, a_AccountFile_init, i_AccountFile_init, kc_AccountFile⟩, F_law_new := F_law_new, b_law_new := b_law_new, g_law_new := PySem.W.mg_of X G a_law_new, F_law_cell := F_law_cell, b_law_cell := b_law_cell, g_law_cell := PySem.W.mg_of X G a_law_cell, F_law_digit := F_law_digit, b_law_digit := b_law_digit, g_law_digit := PySem.W.mg_of X G a_law_digit, o_BadTerms := { oex := ⟨⟨_, _, _, _, _, _, _, _, _, _, _, _, _, _, _, ko_BadTerms, kr_BadTerms⟩, sa_BadTerms, xb_BadTerms, xt_BadTerms, xk_BadTerms⟩, par := ⟨rfl, _, rfl, rfl⟩, fn := ⟨_, _, _, _, _, _, _, _, _, _, _, _, _, rfl, l_BadTerms_init, c_BadTerms_init, ⟨_, _, _, _, _, _, kd_BadTerms_init, kv_BadTerms_init, kf_BadTerms_init⟩, _, _, _, kc_BadTerms_init⟩, htop := kh_BadTerms_init, hsup := PySem.W.mg_none_of X G z_super, sup := su_BadTerms, sub := sv_BadTerms, sel := sm_BadTerms, opq := op_BadTerms, nof := nf_BadTerms }, oi_BadTerms := a_BadTerms_init, ot_BadTerms := i_BadTerms_init, ob_BadTerms := Binds.all (fun us hl => match us, hl with | [_, _], _ => rfl), xf_BadTerms := ⟨ga_BadTerms, gg_BadTerms, xb_BadTerms, hd_BadTerms⟩, F_Terms_init := F_Terms_init, b_Terms_init := b_Terms_init, m_Terms_init := ⟨mk_Terms, a_Terms_init, i_Terms_init, kc_Terms⟩, F_Bill_init := F_Bill_init, b_Bill_init := b_Bill_init, m_Bill_init := ⟨mk_Bill, a_Bill_init, i_Bill_init, kc_Bill⟩, F_Terms_due_of := F_Terms_due_of, b_Terms_due_of := b_Terms_due_of, m_Terms_due_of := ⟨a_Terms_due_of, i_Terms_due_of, k_Terms_due_of⟩, F_Demand_init := F_Demand_init, b_Demand_init := b_Demand_init, m_Demand_init := ⟨mk_Demand, a_Demand_init, i_Demand_init, kc_Demand⟩, F_AccountFile_add_bill := F_AccountFile_add_bill, b_AccountFile_add_bill := b_AccountFile_add_bill, m_AccountFile_add_bill := ⟨a_AccountFile_add_bill, i_AccountFile_add_bill, k_AccountFile_add_bill⟩, F_Bill_row := F_Bill_row, b_Bill_row := b_Bill_row, m_Bill_row := ⟨a_Bill_row, i_Bill_row, k_Bill_row⟩, F_law_bill := F_law_bill, b_law_bill := b_law_bill, g_law_bill := PySem.W.mg_of X G a_law_bill, F_law_means := F_law_means, b_law_means := b_law_means, g_law_means := PySem.W.mg_of X G a_law_means, F_law_left := F_law_left, b_law_left := b_law_left, g_law_left := PySem.W.mg_of X G a_law_left, F_allot := F_allot, b_allot := b_allot, g_allot := PySem.W.mg_of X G a_allot, F_open_amounts := F_open_amounts, b_open_amounts := b_open_amounts, g_open_amounts := PySem.W.mg_of X G a_open_amounts, F_Dispute_is_granted := F_Dispute_is_granted, b_Dispute_is_granted := b_Dispute_is_granted, m_Dispute_is_granted := ⟨a_Dispute_is_granted, i_Dispute_is_granted, k_Dispute_is_granted⟩, F_all_granted := F_all_granted, b_all_granted := b_all_granted, g_all_granted := PySem.W.mg_of X G a_all_granted, F_AccountFile_paid := F_AccountFile_paid, b_AccountFile_paid := b_AccountFile_paid, m_AccountFile_paid := ⟨a_AccountFile_paid, i_AccountFile_paid, k_AccountFile_paid⟩, F_AccountFile_credit_sum := F_AccountFile_credit_sum, b_AccountFile_credit_sum := b_AccountFile_credit_sum, m_AccountFile_credit_sum := ⟨a_AccountFile_credit_sum, i_AccountFile_credit_sum, k_AccountFile_credit_sum⟩, F_AccountFile_means := F_AccountFile_means, b_AccountFile_means := b_AccountFile_means, m_AccountFile_means := ⟨a_AccountFile_means, i_AccountFile_means, k_AccountFile_means⟩, F_AccountFile_amounts := F_AccountFile_amounts, b_AccountFile_amounts := b_AccountFile_amounts, m_AccountFile_amounts := ⟨a_AccountFile_amounts, i_AccountFile_amounts, k_AccountFile_amounts⟩, F_AccountFile_open_list := F_AccountFile_open_list, b_AccountFile_open_list := b_AccountFile_open_list, m_AccountFile_open_list := ⟨a_AccountFile_open_list, i_AccountFile_open_list, k_AccountFile_open_list⟩, F_AccountFile_open_total := F_AccountFile_open_total, b_AccountFile_open_total := b_AccountFile_open_total, m_AccountFile_open_total := ⟨a_AccountFile_open_total, i_AccountFile_open_total, k_AccountFile_open_total⟩, F_credit_of := F_credit_of, b_credit_of := b_credit_of, g_credit_of := PySem.W.mg_of X G a_credit_of, F_AccountFile_credit := F_AccountFile_credit, b_AccountFile_credit := b_AccountFile_credit, m_AccountFile_credit := ⟨a_AccountFile_credit, i_AccountFile_credit, k_AccountFile_credit⟩, F_AccountFile_asked := F_AccountFile_asked, b_AccountFile_asked := b_AccountFile_asked, m_AccountFile_asked := ⟨a_AccountFile_asked, i_AccountFile_asked, k_AccountFile_asked⟩, F_Dispute_is_waiting := F_Dispute_is_waiting, b_Dispute_is_waiting := b_Dispute_is_waiting, m_Dispute_is_waiting := ⟨a_Dispute_is_waiting, i_Dispute_is_waiting, k_Dispute_is_waiting⟩, F_held_of := F_held_of, b_held_of := b_held_of, g_held_of := PySem.W.mg_of X G a_held_of, F_AccountFile_held := F_AccountFile_held, b_AccountFile_held := b_AccountFile_held, m_AccountFile_held := ⟨a_AccountFile_held, i_AccountFile_held, k_AccountFile_held⟩, F_AccountFile_overdue_list := F_AccountFile_overdue_list, b_AccountFile_overdue_list := b_AccountFile_overdue_list, m_AccountFile_overdue_list := ⟨a_AccountFile_overdue_list, i_AccountFile_overdue_list, k_AccountFile_overdue_list⟩, F_AccountFile_overdue := F_AccountFile_overdue, b_AccountFile_overdue := b_AccountFile_overdue, m_AccountFile_overdue := ⟨a_AccountFile_overdue, i_AccountFile_overdue, k_AccountFile_overdue⟩, F_law_over := F_law_over, b_law_over := b_law_over, g_law_over := PySem.W.mg_of X G a_law_over, F_Demand_row := F_Demand_row, b_Demand_row := b_Demand_row, m_Demand_row := ⟨a_Demand_row, i_Demand_row, k_Demand_row⟩, F_law_same := F_law_same, b_law_same := b_law_same, g_law_same := PySem.W.mg_of X G a_law_same, F_AccountFile_pay := F_AccountFile_pay, b_AccountFile_pay := b_AccountFile_pay, m_AccountFile_pay := ⟨a_AccountFile_pay, i_AccountFile_pay, k_AccountFile_pay⟩, F_AccountFile_bill := F_AccountFile_bill, b_AccountFile_bill := b_AccountFile_bill, m_AccountFile_bill := ⟨a_AccountFile_bill, i_AccountFile_bill, k_AccountFile_bill⟩, F_Bill_is_credit := F_Bill_is_credit, b_Bill_is_credit := b_Bill_is_credit, m_Bill_is_credit := ⟨a_Bill_is_credit, i_Bill_is_credit, k_Bill_is_credit⟩, F_Dispute_init := F_Dispute_init, b_Dispute_init := b_Dispute_init, m_Dispute_init := ⟨mk_Dispute, a_Dispute_init, i_Dispute_init, kc_Dispute⟩, F_granted_of := F_granted_of, b_granted_of := b_granted_of, g_granted_of := PySem.W.mg_of X G a_granted_of, F_can_be_disputed := F_can_be_disputed, b_can_be_disputed := b_can_be_disputed, g_can_be_disputed := PySem.W.mg_of X G a_can_be_disputed, F_AccountFile_dispute := F_AccountFile_dispute, b_AccountFile_dispute := b_AccountFile_dispute, m_AccountFile_dispute := ⟨a_AccountFile_dispute, i_AccountFile_dispute, k_AccountFile_dispute⟩, F_law_kind := F_law_kind, b_law_kind := b_law_kind, g_law_kind := PySem.W.mg_of X G a_law_kind, F_law_disputes := F_law_disputes, b_law_disputes := b_law_disputes, g_law_disputes := PySem.W.mg_of X G a_law_disputes, F_law_spread := F_law_spread, b_law_spread := b_law_spread, g_law_spread := PySem.W.mg_of X G a_law_spread, F_law_dispute := F_law_dispute, b_law_dispute := b_law_dispute, g_law_dispute := PySem.W.mg_of X G a_law_dispute, F_Dispute_decide := F_Dispute_decide, b_Dispute_decide := b_Dispute_decide, m_Dispute_decide := ⟨a_Dispute_decide, i_Dispute_decide, k_Dispute_decide⟩, F_AccountFile_put_off := F_AccountFile_put_off, b_AccountFile_put_off := b_AccountFile_put_off, m_AccountFile_put_off := ⟨a_AccountFile_put_off, i_AccountFile_put_off, k_AccountFile_put_off⟩, F_AccountFile_decide := F_AccountFile_decide, b_AccountFile_decide := b_AccountFile_decide, m_AccountFile_decide := ⟨a_AccountFile_decide, i_AccountFile_decide, k_AccountFile_decide⟩, F_law_decides := F_law_decides, b_law_decides := b_law_decides, g_law_decides := PySem.W.mg_of X G a_law_decides, F_law_decide := F_law_decide, b_law_decide := b_law_decide, g_law_decide := PySem.W.mg_of X G a_law_decide, F_AccountFile_wants_reminder := F_AccountFile_wants_reminder, b_AccountFile_wants_reminder := b_AccountFile_wants_reminder, m_AccountFile_wants_reminder := ⟨a_AccountFile_wants_reminder, i_AccountFile_wants_reminder, k_AccountFile_wants_reminder⟩, F_Terms_reminder_fee := F_Terms_reminder_fee, b_Terms_reminder_fee := b_Terms_reminder_fee, m_Terms_reminder_fee := ⟨a_Terms_reminder_fee, i_Terms_reminder_fee, k_Terms_reminder_fee⟩, F_AccountFile_add_fee := F_AccountFile_add_fee, b_AccountFile_add_fee := b_AccountFile_add_fee, m_AccountFile_add_fee := ⟨a_AccountFile_add_fee, i_AccountFile_add_fee, k_AccountFile_add_fee⟩, F_AccountFile_remind := F_AccountFile_remind, b_AccountFile_remind := b_AccountFile_remind, m_AccountFile_remind := ⟨a_AccountFile_remind, i_AccountFile_remind, k_AccountFile_remind⟩, F_law_remind := F_law_remind, b_law_remind := b_law_remind, g_law_remind := PySem.W.mg_of X G a_law_remind, F_law := F_law, b_law := b_law, g_law := PySem.W.mg_of X G a_law, g_Bill := PySem.W.mg_of X G aC_Bill, c_Bill := ⟨pg_Bill, hd_Bill, po_Bill, sa_Bill⟩, g_Demand := PySem.W.mg_of X G aC_Demand, c_Demand := ⟨pg_Demand, hd_Demand, po_Demand, sa_Demand⟩, g_LineError := PySem.W.mg_of X G aC_LineError, x_LineError := ⟨xi_LineError, xb_LineError, xt_LineError, xk_LineError⟩, g_BadTerms := PySem.W.mg_of X G aC_BadTerms, g_NoSuchBill := PySem.W.mg_of X G aC_NoSuchBill, x_NoSuchBill := ⟨xi_NoSuchBill, xb_NoSuchBill, xt_NoSuchBill, xk_NoSuchBill⟩, g_NoSuchDispute := PySem.W.mg_of X G aC_NoSuchDispute, x_NoSuchDispute := ⟨xi_NoSuchDispute, xb_NoSuchDispute, xt_NoSuchDispute, xk_NoSuchDispute⟩, g_BadAmount := PySem.W.mg_of X G aC_BadAmount, x_BadAmount := ⟨xi_BadAmount, xb_BadAmount, xt_BadAmount, xk_BadAmount⟩, g_IsDecided := PySem.W.mg_of X G aC_IsDecided, x_IsDecided := ⟨xi_IsDecided, xb_IsDecided, xt_IsDecided, xk_IsDecided⟩, g_NotInDispute := PySem.W.mg_of X G aC_NotInDispute, x_NotInDispute := ⟨xi_NotInDispute, xb_NotInDispute, xt_NotInDispute, xk_NotInDispute⟩, g_Dispute := PySem.W.mg_of X G aC_Dispute, c_Dispute := ⟨pg_Dispute, hd_Dispute, po_Dispute, sa_Dispute⟩, g_AccountFile := PySem.W.mg_of X G aC_AccountFile, c_AccountFile := ⟨pg_AccountFile, hd_AccountFile, po_AccountFile, sa_AccountFile⟩, g_Terms := PySem.W.mg_of X G aC_Terms, c_Terms := ⟨pg_Terms, hd_Terms, po_Terms, sa_Terms⟩, e_BadAmount_LineError := exm_is xb_LineError xc_LineError xt_LineError xs_BadAmount_LineError, e_BadTerms_LineError := exm_is xb_LineError xc_LineError xt_LineError xs_BadTerms_LineError, e_IsDecided_LineError := exm_is xb_LineError xc_LineError xt_LineError xs_IsDecided_LineError, e_NoSuchBill_LineError := exm_is xb_LineError xc_LineError xt_LineError xs_NoSuchBill_LineError, e_NoSuchDispute_LineError := exm_is xb_LineError xc_LineError xt_LineError xs_NoSuchDispute_LineError, e_NotInDispute_LineError := exm_is xb_LineError xc_LineError xt_LineError xs_NotInDispute_LineError, xc_BadAmount := ⟨kg_BadAmount, kh_BadAmount, xb_BadAmount, kd_BadAmount, kc_BadAmount, ks_class, kt_class, km_BadAmount⟩, ki_BadAmount_BadAmount := ki_BadAmount_BadAmount, ki_BadAmount_IsDecided := ki_BadAmount_IsDecided, ki_BadAmount_NoSuchBill := ki_BadAmount_NoSuchBill, ki_BadAmount_NoSuchDispute := ki_BadAmount_NoSuchDispute, ki_BadAmount_NotInDispute := ki_BadAmount_NotInDispute, xc_BadTerms := ⟨kg_BadTerms, kh_BadTerms, xb_BadTerms, kd_BadTerms, kc_BadTerms, ks_class, kt_class, km_BadTerms⟩, ki_BadTerms_BadAmount := ki_BadTerms_BadAmount, ki_BadTerms_IsDecided := ki_BadTerms_IsDecided, ki_BadTerms_NoSuchBill := ki_BadTerms_NoSuchBill, ki_BadTerms_NoSuchDispute := ki_BadTerms_NoSuchDispute, ki_BadTerms_NotInDispute := ki_BadTerms_NotInDispute, xc_IsDecided := ⟨kg_IsDecided, kh_IsDecided, xb_IsDecided, kd_IsDecided, kc_IsDecided, ks_class, kt_class, km_IsDecided⟩, ki_IsDecided_BadAmount := ki_IsDecided_BadAmount, ki_IsDecided_IsDecided := ki_IsDecided_IsDecided, ki_IsDecided_NoSuchBill := ki_IsDecided_NoSuchBill, ki_IsDecided_NoSuchDispute := ki_IsDecided_NoSuchDispute, ki_IsDecided_NotInDispute := ki_IsDecided_NotInDispute, xc_NoSuchBill := ⟨kg_NoSuchBill, kh_NoSuchBill, xb_NoSuchBill, kd_NoSuchBill, kc_NoSuchBill, ks_class, kt_class, km_NoSuchBill⟩, ki_NoSuchBill_BadAmount := ki_NoSuchBill_BadAmount, ki_NoSuchBill_IsDecided := ki_NoSuchBill_IsDecided, ki_NoSuchBill_NoSuchBill := ki_NoSuchBill_NoSuchBill, ki_NoSuchBill_NoSuchDispute := ki_NoSuchBill_NoSuchDispute, ki_NoSuchBill_NotInDispute := ki_NoSuchBill_NotInDispute, xc_NoSuchDispute := ⟨kg_NoSuchDispute, kh_NoSuchDispute, xb_NoSuchDispute, kd_NoSuchDispute, kc_NoSuchDispute, ks_class, kt_class, km_NoSuchDispute⟩, ki_NoSuchDispute_BadAmount := ki_NoSuchDispute_BadAmount, ki_NoSuchDispute_IsDecided := ki_NoSuchDispute_IsDecided, ki_NoSuchDispute_NoSuchBill := ki_NoSuchDispute_NoSuchBill, ki_NoSuchDispute_NoSuchDispute := ki_NoSuchDispute_NoSuchDispute, ki_NoSuchDispute_NotInDispute := ki_NoSuchDispute_NotInDispute, xc_NotInDispute := ⟨kg_NotInDispute, kh_NotInDispute, xb_NotInDispute, kd_NotInDispute, kc_NotInDispute, ks_class, kt_class, km_NotInDispute⟩, ki_NotInDispute_BadAmount := ki_NotInDispute_BadAmount, ki_NotInDispute_IsDecided := ki_NotInDispute_IsDecided, ki_NotInDispute_NoSuchBill := ki_NotInDispute_NoSuchBill, ki_NotInDispute_NoSuchDispute := ki_NotInDispute_NoSuchDispute, ki_NotInDispute_NotInDispute := ki_NotInDispute_NotInDispute, n_AccountFile_bills := na_AccountFile_bills, n_AccountFile_demands := na_AccountFile_demands, n_AccountFile_disputes := na_AccountFile_disputes, n_AccountFile_fees := na_AccountFile_fees, n_AccountFile_level := na_AccountFile_level, n_AccountFile_payments := na_AccountFile_payments, n_AccountFile_reminded := na_AccountFile_reminded, n_AccountFile_terms := na_AccountFile_terms, n_Bill_amount := na_Bill_amount, n_Bill_due := na_Bill_due, n_Bill_made := na_Bill_made, n_Bill_number := na_Bill_number, n_Bill_rows := na_Bill_rows, n_Demand_amount := na_Demand_amount, n_Demand_due := na_Demand_due, n_Demand_kind := na_Demand_kind, n_Demand_made := na_Demand_made, n_Demand_number := na_Demand_number, n_Dispute_amount := na_Dispute_amount, n_Dispute_bill := na_Dispute_bill, n_Dispute_made := na_Dispute_made, n_Dispute_number := na_Dispute_number, n_Dispute_state := na_Dispute_state, n_Terms_fee := na_Terms_fee, n_Terms_gap := na_Terms_gap, n_Terms_rate := na_Terms_rate, n_Terms_term := na_Terms_term, z_int := PySem.W.mg_none_of X G z_int, z_isinstance := PySem.W.mg_none_of X G z_isinstance, z_len := PySem.W.mg_none_of X G z_len, z_list := PySem.W.mg_none_of X G z_list, z_max := PySem.W.mg_none_of X G z_max, z_min := PySem.W.mg_none_of X G z_min, z_range := PySem.W.mg_none_of X G z_range, z_sum := PySem.W.mg_none_of X G z_sum, z_super := PySem.W.mg_none_of X G z_super, z_tuple := PySem.W.mg_none_of X G z_tuple, k_GRANTED := ⟨_, PySem.W.mg_of X G kk_GRANTED⟩, k_REFUSED := ⟨_, PySem.W.mg_of X G kk_REFUSED⟩, k_WAITING := ⟨_, PySem.W.mg_of X G kk_WAITING⟩ }
  exact ⟨A, A.d_law, fun s v => .of_eq rfl, fun base _ _ => ok_law T⟩
theorem walk {l : PySem.W.OpenLaw} {q : Program} {loose : List Str} {XP : (Str → Option Value) → Heap → Prop} {YP : World → Heap → Prop} {d : DefRec} {K : Params → PySem.W.Frag} (hn : l.most = some 63) (hdf : d.params.defaults = [])
    (hY : ∀ (w : World) (h : Heap), YP w h → (K w.params).In h)
    (F : ∀ (w : World) (mg : Str → Option Value) (fa : Addr) (h : Heap), (K w.params).In h → h.Ns mainGlobals mg → mg d.name = some (.ref fa) →
      ∃ (A : Ad) (fd : FuncData), (∀ (s : Shared) (u : Value), BindsTo s fd ⟨[u], []⟩ [("script", u)]) ∧ ∀ base : Heap, (K w.params).In base → base.Ns mainGlobals mg → FnOk l.prog w (K w.params) mg base CX0 10 fa fd ["script"] (spD (K w.params) (R_law A))) :
    PySem.W.WalkO q loose XP YP l.row.toRowW d [] (fun f vs => PySem.call f vs) :=
  L2.walk_of (n := 63) (k := 10) (x := "script") (CX := fun _ => CX0) (sp := fun w => spLawD (K w.params)) hn (by decide) hdf ⟨rfl, by decide, by decide⟩ hY (fun w mg fa h KX G hm => by
    obtain ⟨A, fd, b, G⟩ := F w mg fa h KX G hm
    exact ⟨fd, b, fun base h1 h2 => (G base h1 h2).imp (spLaw_imp (R_law A) (law_go A))⟩) (fun _ _ a ns hl _ hS => ⟨a, ns, rfl, hS, hl, fun _ => rfl⟩) fun _ _ _ _ _ z => z
end Law

open PySem PySem.W PyProof.Rows in
set_option maxRecDepth 100000 in
set_option maxHeartbeats 0 in
theorem PySem.Challenge.cw_copperhouse_k08_files_of_accounts_holds : PySem.Challenge.rw_copperhouse_k08_files_of_accounts.Holds := by
  refine Law.hd ?_
  k_fill
  refine Law.walk (l := PySem.Challenge.rw_copperhouse_k08_files_of_accounts) rfl rfl (fun w h Y => PySem.W.kIn_of Y) ?F
  case F =>
    intro w mg fa h KX G hmg
    refine' Law.all_mk KX G hmg ?aC_Bill ?pg_Bill ?hd_Bill ?po_Bill ?sa_Bill ?mk_Bill ?kc_Bill ?aC_Demand ?pg_Demand ?hd_Demand ?po_Demand ?sa_Demand ?mk_Demand ?kc_Demand ?aC_LineError ?xi_LineError ?xb_LineError ?xt_LineError ?xk_LineError ?xc_LineError ?aC_BadTerms ?xb_BadTerms ?xt_BadTerms ?xk_BadTerms ?xc_BadTerms ?aC_NoSuchBill ?xi_NoSuchBill ?xb_NoSuchBill ?xt_NoSuchBill ?xk_NoSuchBill ?xc_NoSuchBill ?aC_NoSuchDispute ?xi_NoSuchDispute ?xb_NoSuchDispute ?xt_NoSuchDispute ?xk_NoSuchDispute ?xc_NoSuchDispute ?aC_BadAmount ?xi_BadAmount ?xb_BadAmount ?xt_BadAmount ?xk_BadAmount ?xc_BadAmount ?aC_IsDecided ?xi_IsDecided ?xb_IsDecided ?xt_IsDecided ?xk_IsDecided ?xc_IsDecided ?aC_NotInDispute ?xi_NotInDispute ?xb_NotInDispute ?xt_NotInDispute ?xk_NotInDispute ?xc_NotInDispute ?aC_Dispute ?pg_Dispute ?hd_Dispute ?po_Dispute ?sa_Dispute ?mk_Dispute ?kc_Dispute ?aC_AccountFile ?pg_AccountFile ?hd_AccountFile ?po_AccountFile ?sa_AccountFile ?mk_AccountFile ?kc_AccountFile ?aC_Terms ?pg_Terms ?hd_Terms ?po_Terms ?sa_Terms ?mk_Terms ?kc_Terms ?xs_BadAmount_LineError ?xs_BadTerms_LineError ?xs_IsDecided_LineError ?xs_NoSuchBill_LineError ?xs_NoSuchDispute_LineError ?xs_NotInDispute_LineError ?ks_class ?kt_class ?kg_BadAmount ?kh_BadAmount ?kd_BadAmount ?kc_BadAmount ?km_BadAmount ?ki_BadAmount_BadAmount ?ki_BadAmount_IsDecided ?ki_BadAmount_NoSuchBill ?ki_BadAmount_NoSuchDispute ?ki_BadAmount_NotInDispute ?kg_BadTerms ?kh_BadTerms ?kd_BadTerms ?kc_BadTerms ?km_BadTerms ?ki_BadTerms_BadAmount ?ki_BadTerms_IsDecided ?ki_BadTerms_NoSuchBill ?ki_BadTerms_NoSuchDispute ?ki_BadTerms_NotInDispute ?kg_IsDecided ?kh_IsDecided ?kd_IsDecided ?kc_IsDecided ?km_IsDecided ?ki_IsDecided_BadAmount ?ki_IsDecided_IsDecided ?ki_IsDecided_NoSuchBill ?ki_IsDecided_NoSuchDispute ?ki_IsDecided_NotInDispute ?kg_NoSuchBill ?kh_NoSuchBill ?kd_NoSuchBill ?kc_NoSuchBill ?km_NoSuchBill ?ki_NoSuchBill_BadAmount ?ki_NoSuchBill_IsDecided ?ki_NoSuchBill_NoSuchBill ?ki_NoSuchBill_NoSuchDispute ?ki_NoSuchBill_NotInDispute ?kg_NoSuchDispute ?kh_NoSuchDispute ?kd_NoSuchDispute ?kc_NoSuchDispute ?km_NoSuchDispute ?ki_NoSuchDispute_BadAmount ?ki_NoSuchDispute_IsDecided ?ki_NoSuchDispute_NoSuchBill ?ki_NoSuchDispute_NoSuchDispute ?ki_NoSuchDispute_NotInDispute ?kg_NotInDispute ?kh_NotInDispute ?kd_NotInDispute ?kc_NotInDispute ?km_NotInDispute ?ki_NotInDispute_BadAmount ?ki_NotInDispute_IsDecided ?ki_NotInDispute_NoSuchBill ?ki_NotInDispute_NoSuchDispute ?ki_NotInDispute_NotInDispute ?na_AccountFile_bills ?na_AccountFile_demands ?na_AccountFile_disputes ?na_AccountFile_fees ?na_AccountFile_level ?na_AccountFile_payments ?na_AccountFile_reminded ?na_AccountFile_terms ?na_Bill_amount ?na_Bill_due ?na_Bill_made ?na_Bill_number ?na_Bill_rows ?na_Demand_amount ?na_Demand_due ?na_Demand_kind ?na_Demand_made ?na_Demand_number ?na_Dispute_amount ?na_Dispute_bill ?na_Dispute_made ?na_Dispute_number ?na_Dispute_state ?na_Terms_fee ?na_Terms_gap ?na_Terms_rate ?na_Terms_term ?z_int ?z_isinstance ?z_len ?z_list ?z_max ?z_min ?z_range ?z_sum ?z_super ?z_tuple ?kk_GRANTED ?kk_REFUSED ?kk_WAITING ?a_law_state ?l_law_state ?c_law_state ?k_law_state ?a_AccountFile_init ?i_AccountFile_init ?l_AccountFile_init ?c_AccountFile_init ?k_AccountFile_init ?a_law_new ?l_law_new ?c_law_new ?k_law_new ?a_law_cell ?l_law_cell ?c_law_cell ?k_law_cell ?a_law_digit ?l_law_digit ?c_law_digit ?k_law_digit ?ko_BadTerms ?kr_BadTerms ?a_BadTerms_init ?i_BadTerms_init ?l_BadTerms_init ?c_BadTerms_init ?kd_BadTerms_init ?kv_BadTerms_init ?kf_BadTerms_init ?kh_BadTerms_init ?kc_BadTerms_init ?sa_BadTerms ?su_BadTerms ?sv_BadTerms ?sm_BadTerms ?op_BadTerms ?nf_BadTerms ?ga_BadTerms ?gg_BadTerms ?hd_BadTerms ?a_Terms_init ?i_Terms_init ?l_Terms_init ?c_Terms_init ?k_Terms_init ?a_Bill_init ?i_Bill_init ?l_Bill_init ?c_Bill_init ?k_Bill_init ?a_Terms_due_of ?i_Terms_due_of ?l_Terms_due_of ?c_Terms_due_of ?k_Terms_due_of ?a_Demand_init ?i_Demand_init ?l_Demand_init ?c_Demand_init ?k_Demand_init ?a_AccountFile_add_bill ?i_AccountFile_add_bill ?l_AccountFile_add_bill ?c_AccountFile_add_bill ?k_AccountFile_add_bill ?a_Bill_row ?i_Bill_row ?l_Bill_row ?c_Bill_row ?k_Bill_row ?a_law_bill ?l_law_bill ?c_law_bill ?k_law_bill ?a_law_means ?l_law_means ?c_law_means ?k_law_means ?a_law_left ?l_law_left ?c_law_left ?k_law_left ?a_allot ?l_allot ?c_allot ?k_allot ?a_open_amounts ?l_open_amounts ?c_open_amounts ?k_open_amounts ?a_Dispute_is_granted ?i_Dispute_is_granted ?l_Dispute_is_granted ?c_Dispute_is_granted ?k_Dispute_is_granted ?a_all_granted ?l_all_granted ?c_all_granted ?k_all_granted ?a_AccountFile_paid ?i_AccountFile_paid ?l_AccountFile_paid ?c_AccountFile_paid ?k_AccountFile_paid ?a_AccountFile_credit_sum ?i_AccountFile_credit_sum ?l_AccountFile_credit_sum ?c_AccountFile_credit_sum ?k_AccountFile_credit_sum ?a_AccountFile_means ?i_AccountFile_means ?l_AccountFile_means ?c_AccountFile_means ?k_AccountFile_means ?a_AccountFile_amounts ?i_AccountFile_amounts ?l_AccountFile_amounts ?c_AccountFile_amounts ?k_AccountFile_amounts ?a_AccountFile_open_list ?i_AccountFile_open_list ?l_AccountFile_open_list ?c_AccountFile_open_list ?k_AccountFile_open_list ?a_AccountFile_open_total ?i_AccountFile_open_total ?l_AccountFile_open_total ?c_AccountFile_open_total ?k_AccountFile_open_total ?a_credit_of ?l_credit_of ?c_credit_of ?k_credit_of ?a_AccountFile_credit ?i_AccountFile_credit ?l_AccountFile_credit ?c_AccountFile_credit ?k_AccountFile_credit ?a_AccountFile_asked ?i_AccountFile_asked ?l_AccountFile_asked ?c_AccountFile_asked ?k_AccountFile_asked ?a_Dispute_is_waiting ?i_Dispute_is_waiting ?l_Dispute_is_waiting ?c_Dispute_is_waiting ?k_Dispute_is_waiting ?a_held_of ?l_held_of ?c_held_of ?k_held_of ?a_AccountFile_held ?i_AccountFile_held ?l_AccountFile_held ?c_AccountFile_held ?k_AccountFile_held ?a_AccountFile_overdue_list ?i_AccountFile_overdue_list ?l_AccountFile_overdue_list ?c_AccountFile_overdue_list ?k_AccountFile_overdue_list ?a_AccountFile_overdue ?i_AccountFile_overdue ?l_AccountFile_overdue ?c_AccountFile_overdue ?k_AccountFile_overdue ?a_law_over ?l_law_over ?c_law_over ?k_law_over ?a_Demand_row ?i_Demand_row ?l_Demand_row ?c_Demand_row ?k_Demand_row ?a_law_same ?l_law_same ?c_law_same ?k_law_same ?a_AccountFile_pay ?i_AccountFile_pay ?l_AccountFile_pay ?c_AccountFile_pay ?k_AccountFile_pay ?a_AccountFile_bill ?i_AccountFile_bill ?l_AccountFile_bill ?c_AccountFile_bill ?k_AccountFile_bill ?a_Bill_is_credit ?i_Bill_is_credit ?l_Bill_is_credit ?c_Bill_is_credit ?k_Bill_is_credit ?a_Dispute_init ?i_Dispute_init ?l_Dispute_init ?c_Dispute_init ?k_Dispute_init ?a_granted_of ?l_granted_of ?c_granted_of ?k_granted_of ?a_can_be_disputed ?l_can_be_disputed ?c_can_be_disputed ?k_can_be_disputed ?a_AccountFile_dispute ?i_AccountFile_dispute ?l_AccountFile_dispute ?c_AccountFile_dispute ?k_AccountFile_dispute ?a_law_kind ?l_law_kind ?c_law_kind ?k_law_kind ?a_law_disputes ?l_law_disputes ?c_law_disputes ?k_law_disputes ?a_law_spread ?l_law_spread ?c_law_spread ?k_law_spread ?a_law_dispute ?l_law_dispute ?c_law_dispute ?k_law_dispute ?a_Dispute_decide ?i_Dispute_decide ?l_Dispute_decide ?c_Dispute_decide ?k_Dispute_decide ?a_AccountFile_put_off ?i_AccountFile_put_off ?l_AccountFile_put_off ?c_AccountFile_put_off ?k_AccountFile_put_off ?a_AccountFile_decide ?i_AccountFile_decide ?l_AccountFile_decide ?c_AccountFile_decide ?k_AccountFile_decide ?a_law_decides ?l_law_decides ?c_law_decides ?k_law_decides ?a_law_decide ?l_law_decide ?c_law_decide ?k_law_decide ?a_AccountFile_wants_reminder ?i_AccountFile_wants_reminder ?l_AccountFile_wants_reminder ?c_AccountFile_wants_reminder ?k_AccountFile_wants_reminder ?a_Terms_reminder_fee ?i_Terms_reminder_fee ?l_Terms_reminder_fee ?c_Terms_reminder_fee ?k_Terms_reminder_fee ?a_AccountFile_add_fee ?i_AccountFile_add_fee ?l_AccountFile_add_fee ?c_AccountFile_add_fee ?k_AccountFile_add_fee ?a_AccountFile_remind ?i_AccountFile_remind ?l_AccountFile_remind ?c_AccountFile_remind ?k_AccountFile_remind ?a_law_remind ?l_law_remind ?c_law_remind ?k_law_remind ?a_law ?l_law ?c_law ?k_law
    (case aC_Bill => k_is)
    (case pg_Bill => k_is)
    (case hd_Bill => k_is)
    (case po_Bill => k_is)
    (case sa_Bill => k_is)
    (case mk_Bill => k_is)
    (case kc_Bill => k_is)
    (case aC_Demand => k_is)
    (case pg_Demand => k_is)
    (case hd_Demand => k_is)
    (case po_Demand => k_is)
    (case sa_Demand => k_is)
    (case mk_Demand => k_is)
    (case kc_Demand => k_is)
    (case aC_LineError => k_is)
    (case xi_LineError => k_exc)
    (case xb_LineError => k_is)
    (case xt_LineError => k_is)
    (case xk_LineError => k_is)
    (case xc_LineError => k_is)
    (case aC_BadTerms => k_is)
    (case xb_BadTerms => k_is)
    (case xt_BadTerms => k_is)
    (case xk_BadTerms => k_is)
    (case xc_BadTerms => k_is)
    (case aC_NoSuchBill => k_is)
    (case xi_NoSuchBill => k_exc)
    (case xb_NoSuchBill => k_is)
    (case xt_NoSuchBill => k_is)
    (case xk_NoSuchBill => k_is)
    (case xc_NoSuchBill => k_is)
    (case aC_NoSuchDispute => k_is)
    (case xi_NoSuchDispute => k_exc)
    (case xb_NoSuchDispute => k_is)
    (case xt_NoSuchDispute => k_is)
    (case xk_NoSuchDispute => k_is)
    (case xc_NoSuchDispute => k_is)
    (case aC_BadAmount => k_is)
    (case xi_BadAmount => k_exc)
    (case xb_BadAmount => k_is)
    (case xt_BadAmount => k_is)
    (case xk_BadAmount => k_is)
    (case xc_BadAmount => k_is)
    (case aC_IsDecided => k_is)
    (case xi_IsDecided => k_exc)
    (case xb_IsDecided => k_is)
    (case xt_IsDecided => k_is)
    (case xk_IsDecided => k_is)
    (case xc_IsDecided => k_is)
    (case aC_NotInDispute => k_is)
    (case xi_NotInDispute => k_exc)
    (case xb_NotInDispute => k_is)
    (case xt_NotInDispute => k_is)
    (case xk_NotInDispute => k_is)
    (case xc_NotInDispute => k_is)
    (case aC_Dispute => k_is)
    (case pg_Dispute => k_is)
    (case hd_Dispute => k_is)
    (case po_Dispute => k_is)
    (case sa_Dispute => k_is)
    (case mk_Dispute => k_is)
    (case kc_Dispute => k_is)
    (case aC_AccountFile => k_is)
    (case pg_AccountFile => k_is)
    (case hd_AccountFile => k_is)
    (case po_AccountFile => k_is)
    (case sa_AccountFile => k_is)
    (case mk_AccountFile => k_is)
    (case kc_AccountFile => k_is)
    (case aC_Terms => k_is)
    (case pg_Terms => k_is)
    (case hd_Terms => k_is)
    (case po_Terms => k_is)
    (case sa_Terms => k_is)
    (case mk_Terms => k_is)
    (case kc_Terms => k_is)
    (case xs_BadAmount_LineError => k_is)
    (case xs_BadTerms_LineError => k_is)
    (case xs_IsDecided_LineError => k_is)
    (case xs_NoSuchBill_LineError => k_is)
    (case xs_NoSuchDispute_LineError => k_is)
    (case xs_NotInDispute_LineError => k_is)
    (case ks_class => k_is)
    (case kt_class => k_is)
    (case kg_BadAmount => k_is)
    (case kh_BadAmount => k_is)
    (case kd_BadAmount => k_is)
    (case kc_BadAmount => k_is)
    (case km_BadAmount => k_is)
    (case ki_BadAmount_BadAmount => kit_is)
    (case ki_BadAmount_IsDecided => kit_is)
    (case ki_BadAmount_NoSuchBill => kit_is)
    (case ki_BadAmount_NoSuchDispute => kit_is)
    (case ki_BadAmount_NotInDispute => kit_is)
    (case kg_BadTerms => k_is)
    (case kh_BadTerms => k_is)
    (case kd_BadTerms => k_is)
    (case kc_BadTerms => k_is)
    (case km_BadTerms => k_is)
    (case ki_BadTerms_BadAmount => kit_is)
    (case ki_BadTerms_IsDecided => kit_is)
    (case ki_BadTerms_NoSuchBill => kit_is)
    (case ki_BadTerms_NoSuchDispute => kit_is)
    (case ki_BadTerms_NotInDispute => kit_is)
    (case kg_IsDecided => k_is)
    (case kh_IsDecided => k_is)
    (case kd_IsDecided => k_is)
    (case kc_IsDecided => k_is)
    (case km_IsDecided => k_is)
    (case ki_IsDecided_BadAmount => kit_is)
    (case ki_IsDecided_IsDecided => kit_is)
    (case ki_IsDecided_NoSuchBill => kit_is)
    (case ki_IsDecided_NoSuchDispute => kit_is)
    (case ki_IsDecided_NotInDispute => kit_is)
    (case kg_NoSuchBill => k_is)
    (case kh_NoSuchBill => k_is)
    (case kd_NoSuchBill => k_is)
    (case kc_NoSuchBill => k_is)
    (case km_NoSuchBill => k_is)
    (case ki_NoSuchBill_BadAmount => kit_is)
    (case ki_NoSuchBill_IsDecided => kit_is)
    (case ki_NoSuchBill_NoSuchBill => kit_is)
    (case ki_NoSuchBill_NoSuchDispute => kit_is)
    (case ki_NoSuchBill_NotInDispute => kit_is)
    (case kg_NoSuchDispute => k_is)
    (case kh_NoSuchDispute => k_is)
    (case kd_NoSuchDispute => k_is)
    (case kc_NoSuchDispute => k_is)
    (case km_NoSuchDispute => k_is)
    (case ki_NoSuchDispute_BadAmount => kit_is)
    (case ki_NoSuchDispute_IsDecided => kit_is)
    (case ki_NoSuchDispute_NoSuchBill => kit_is)
    (case ki_NoSuchDispute_NoSuchDispute => kit_is)
    (case ki_NoSuchDispute_NotInDispute => kit_is)
    (case kg_NotInDispute => k_is)
    (case kh_NotInDispute => k_is)
    (case kd_NotInDispute => k_is)
    (case kc_NotInDispute => k_is)
    (case km_NotInDispute => k_is)
    (case ki_NotInDispute_BadAmount => kit_is)
    (case ki_NotInDispute_IsDecided => kit_is)
    (case ki_NotInDispute_NoSuchBill => kit_is)
    (case ki_NotInDispute_NoSuchDispute => kit_is)
    (case ki_NotInDispute_NotInDispute => kit_is)
    (case na_AccountFile_bills => k_is)
    (case na_AccountFile_demands => k_is)
    (case na_AccountFile_disputes => k_is)
    (case na_AccountFile_fees => k_is)
    (case na_AccountFile_level => k_is)
    (case na_AccountFile_payments => k_is)
    (case na_AccountFile_reminded => k_is)
    (case na_AccountFile_terms => k_is)
    (case na_Bill_amount => k_is)
    (case na_Bill_due => k_is)
    (case na_Bill_made => k_is)
    (case na_Bill_number => k_is)
    (case na_Bill_rows => k_is)
    (case na_Demand_amount => k_is)
    (case na_Demand_due => k_is)
    (case na_Demand_kind => k_is)
    (case na_Demand_made => k_is)
    (case na_Demand_number => k_is)
    (case na_Dispute_amount => k_is)
    (case na_Dispute_bill => k_is)
    (case na_Dispute_made => k_is)
    (case na_Dispute_number => k_is)
    (case na_Dispute_state => k_is)
    (case na_Terms_fee => k_is)
    (case na_Terms_gap => k_is)
    (case na_Terms_rate => k_is)
    (case na_Terms_term => k_is)
    (case z_int => k_is)
    (case z_isinstance => k_is)
    (case z_len => k_is)
    (case z_list => k_is)
    (case z_max => k_is)
    (case z_min => k_is)
    (case z_range => k_is)
    (case z_sum => k_is)
    (case z_super => k_is)
    (case z_tuple => k_is)
    (case kk_GRANTED => k_is)
    (case kk_REFUSED => k_is)
    (case kk_WAITING => k_is)
    (case a_law_state => k_is)
    (case l_law_state => k_is)
    (case c_law_state => k_is)
    (case k_law_state => k_is)
    (case a_AccountFile_init => k_is)
    (case i_AccountFile_init => k_is)
    (case l_AccountFile_init => k_is)
    (case c_AccountFile_init => k_is)
    (case k_AccountFile_init => k_is)
    (case a_law_new => k_is)
    (case l_law_new => k_is)
    (case c_law_new => k_is)
    (case k_law_new => k_is)
    (case a_law_cell => k_is)
    (case l_law_cell => k_is)
    (case c_law_cell => k_is)
    (case k_law_cell => k_is)
    (case a_law_digit => k_is)
    (case l_law_digit => k_is)
    (case c_law_digit => k_is)
    (case k_law_digit => k_is)
    (case ko_BadTerms => k_is)
    (case kr_BadTerms => first | rfl | decide +kernel)
    (case a_BadTerms_init => k_is)
    (case i_BadTerms_init => k_is)
    (case l_BadTerms_init => k_is)
    (case c_BadTerms_init => k_is)
    (case kd_BadTerms_init => k_is)
    (case kv_BadTerms_init => rfl)
    (case kf_BadTerms_init => first | rfl | decide +kernel)
    (case kh_BadTerms_init => first | rfl | decide +kernel)
    (case kc_BadTerms_init => k_is)
    (case sa_BadTerms => k_is)
    (case su_BadTerms => ks_is)
    (case sv_BadTerms => k_is)
    (case sm_BadTerms => k_is)
    (case op_BadTerms => k_is)
    (case nf_BadTerms => k_is)
    (case ga_BadTerms => k_is)
    (case gg_BadTerms => k_is)
    (case hd_BadTerms => k_is)
    (case a_Terms_init => k_is)
    (case i_Terms_init => k_is)
    (case l_Terms_init => k_is)
    (case c_Terms_init => k_is)
    (case k_Terms_init => k_is)
    (case a_Bill_init => k_is)
    (case i_Bill_init => k_is)
    (case l_Bill_init => k_is)
    (case c_Bill_init => k_is)
    (case k_Bill_init => k_is)
    (case a_Terms_due_of => k_is)
    (case i_Terms_due_of => k_is)
    (case l_Terms_due_of => k_is)
    (case c_Terms_due_of => k_is)
    (case k_Terms_due_of => k_is)
    (case a_Demand_init => k_is)
    (case i_Demand_init => k_is)
    (case l_Demand_init => k_is)
    (case c_Demand_init => k_is)
    (case k_Demand_init => k_is)
    (case a_AccountFile_add_bill => k_is)
    (case i_AccountFile_add_bill => k_is)
    (case l_AccountFile_add_bill => k_is)
    (case c_AccountFile_add_bill => k_is)
    (case k_AccountFile_add_bill => k_is)
    (case a_Bill_row => k_is)
    (case i_Bill_row => k_is)
    (case l_Bill_row => k_is)
    (case c_Bill_row => k_is)
    (case k_Bill_row => k_is)
    (case a_law_bill => k_is)
    (case l_law_bill => k_is)
    (case c_law_bill => k_is)
    (case k_law_bill => k_is)
    (case a_law_means => k_is)
    (case l_law_means => k_is)
    (case c_law_means => k_is)
    (case k_law_means => k_is)
    (case a_law_left => k_is)
    (case l_law_left => k_is)
    (case c_law_left => k_is)
    (case k_law_left => k_is)
    (case a_allot => k_is)
    (case l_allot => k_is)
    (case c_allot => k_is)
    (case k_allot => k_is)
    (case a_open_amounts => k_is)
    (case l_open_amounts => k_is)
    (case c_open_amounts => k_is)
    (case k_open_amounts => k_is)
    (case a_Dispute_is_granted => k_is)
    (case i_Dispute_is_granted => k_is)
    (case l_Dispute_is_granted => k_is)
    (case c_Dispute_is_granted => k_is)
    (case k_Dispute_is_granted => k_is)
    (case a_all_granted => k_is)
    (case l_all_granted => k_is)
    (case c_all_granted => k_is)
    (case k_all_granted => k_is)
    (case a_AccountFile_paid => k_is)
    (case i_AccountFile_paid => k_is)
    (case l_AccountFile_paid => k_is)
    (case c_AccountFile_paid => k_is)
    (case k_AccountFile_paid => k_is)
    (case a_AccountFile_credit_sum => k_is)
    (case i_AccountFile_credit_sum => k_is)
    (case l_AccountFile_credit_sum => k_is)
    (case c_AccountFile_credit_sum => k_is)
    (case k_AccountFile_credit_sum => k_is)
    (case a_AccountFile_means => k_is)
    (case i_AccountFile_means => k_is)
    (case l_AccountFile_means => k_is)
    (case c_AccountFile_means => k_is)
    (case k_AccountFile_means => k_is)
    (case a_AccountFile_amounts => k_is)
    (case i_AccountFile_amounts => k_is)
    (case l_AccountFile_amounts => k_is)
    (case c_AccountFile_amounts => k_is)
    (case k_AccountFile_amounts => k_is)
    (case a_AccountFile_open_list => k_is)
    (case i_AccountFile_open_list => k_is)
    (case l_AccountFile_open_list => k_is)
    (case c_AccountFile_open_list => k_is)
    (case k_AccountFile_open_list => k_is)
    (case a_AccountFile_open_total => k_is)
    (case i_AccountFile_open_total => k_is)
    (case l_AccountFile_open_total => k_is)
    (case c_AccountFile_open_total => k_is)
    (case k_AccountFile_open_total => k_is)
    (case a_credit_of => k_is)
    (case l_credit_of => k_is)
    (case c_credit_of => k_is)
    (case k_credit_of => k_is)
    (case a_AccountFile_credit => k_is)
    (case i_AccountFile_credit => k_is)
    (case l_AccountFile_credit => k_is)
    (case c_AccountFile_credit => k_is)
    (case k_AccountFile_credit => k_is)
    (case a_AccountFile_asked => k_is)
    (case i_AccountFile_asked => k_is)
    (case l_AccountFile_asked => k_is)
    (case c_AccountFile_asked => k_is)
    (case k_AccountFile_asked => k_is)
    (case a_Dispute_is_waiting => k_is)
    (case i_Dispute_is_waiting => k_is)
    (case l_Dispute_is_waiting => k_is)
    (case c_Dispute_is_waiting => k_is)
    (case k_Dispute_is_waiting => k_is)
    (case a_held_of => k_is)
    (case l_held_of => k_is)
    (case c_held_of => k_is)
    (case k_held_of => k_is)
    (case a_AccountFile_held => k_is)
    (case i_AccountFile_held => k_is)
    (case l_AccountFile_held => k_is)
    (case c_AccountFile_held => k_is)
    (case k_AccountFile_held => k_is)
    (case a_AccountFile_overdue_list => k_is)
    (case i_AccountFile_overdue_list => k_is)
    (case l_AccountFile_overdue_list => k_is)
    (case c_AccountFile_overdue_list => k_is)
    (case k_AccountFile_overdue_list => k_is)
    (case a_AccountFile_overdue => k_is)
    (case i_AccountFile_overdue => k_is)
    (case l_AccountFile_overdue => k_is)
    (case c_AccountFile_overdue => k_is)
    (case k_AccountFile_overdue => k_is)
    (case a_law_over => k_is)
    (case l_law_over => k_is)
    (case c_law_over => k_is)
    (case k_law_over => k_is)
    (case a_Demand_row => k_is)
    (case i_Demand_row => k_is)
    (case l_Demand_row => k_is)
    (case c_Demand_row => k_is)
    (case k_Demand_row => k_is)
    (case a_law_same => k_is)
    (case l_law_same => k_is)
    (case c_law_same => k_is)
    (case k_law_same => k_is)
    (case a_AccountFile_pay => k_is)
    (case i_AccountFile_pay => k_is)
    (case l_AccountFile_pay => k_is)
    (case c_AccountFile_pay => k_is)
    (case k_AccountFile_pay => k_is)
    (case a_AccountFile_bill => k_is)
    (case i_AccountFile_bill => k_is)
    (case l_AccountFile_bill => k_is)
    (case c_AccountFile_bill => k_is)
    (case k_AccountFile_bill => k_is)
    (case a_Bill_is_credit => k_is)
    (case i_Bill_is_credit => k_is)
    (case l_Bill_is_credit => k_is)
    (case c_Bill_is_credit => k_is)
    (case k_Bill_is_credit => k_is)
    (case a_Dispute_init => k_is)
    (case i_Dispute_init => k_is)
    (case l_Dispute_init => k_is)
    (case c_Dispute_init => k_is)
    (case k_Dispute_init => k_is)
    (case a_granted_of => k_is)
    (case l_granted_of => k_is)
    (case c_granted_of => k_is)
    (case k_granted_of => k_is)
    (case a_can_be_disputed => k_is)
    (case l_can_be_disputed => k_is)
    (case c_can_be_disputed => k_is)
    (case k_can_be_disputed => k_is)
    (case a_AccountFile_dispute => k_is)
    (case i_AccountFile_dispute => k_is)
    (case l_AccountFile_dispute => k_is)
    (case c_AccountFile_dispute => k_is)
    (case k_AccountFile_dispute => k_is)
    (case a_law_kind => k_is)
    (case l_law_kind => k_is)
    (case c_law_kind => k_is)
    (case k_law_kind => k_is)
    (case a_law_disputes => k_is)
    (case l_law_disputes => k_is)
    (case c_law_disputes => k_is)
    (case k_law_disputes => k_is)
    (case a_law_spread => k_is)
    (case l_law_spread => k_is)
    (case c_law_spread => k_is)
    (case k_law_spread => k_is)
    (case a_law_dispute => k_is)
    (case l_law_dispute => k_is)
    (case c_law_dispute => k_is)
    (case k_law_dispute => k_is)
    (case a_Dispute_decide => k_is)
    (case i_Dispute_decide => k_is)
    (case l_Dispute_decide => k_is)
    (case c_Dispute_decide => k_is)
    (case k_Dispute_decide => k_is)
    (case a_AccountFile_put_off => k_is)
    (case i_AccountFile_put_off => k_is)
    (case l_AccountFile_put_off => k_is)
    (case c_AccountFile_put_off => k_is)
    (case k_AccountFile_put_off => k_is)
    (case a_AccountFile_decide => k_is)
    (case i_AccountFile_decide => k_is)
    (case l_AccountFile_decide => k_is)
    (case c_AccountFile_decide => k_is)
    (case k_AccountFile_decide => k_is)
    (case a_law_decides => k_is)
    (case l_law_decides => k_is)
    (case c_law_decides => k_is)
    (case k_law_decides => k_is)
    (case a_law_decide => k_is)
    (case l_law_decide => k_is)
    (case c_law_decide => k_is)
    (case k_law_decide => k_is)
    (case a_AccountFile_wants_reminder => k_is)
    (case i_AccountFile_wants_reminder => k_is)
    (case l_AccountFile_wants_reminder => k_is)
    (case c_AccountFile_wants_reminder => k_is)
    (case k_AccountFile_wants_reminder => k_is)
    (case a_Terms_reminder_fee => k_is)
    (case i_Terms_reminder_fee => k_is)
    (case l_Terms_reminder_fee => k_is)
    (case c_Terms_reminder_fee => k_is)
    (case k_Terms_reminder_fee => k_is)
    (case a_AccountFile_add_fee => k_is)
    (case i_AccountFile_add_fee => k_is)
    (case l_AccountFile_add_fee => k_is)
    (case c_AccountFile_add_fee => k_is)
    (case k_AccountFile_add_fee => k_is)
    (case a_AccountFile_remind => k_is)
    (case i_AccountFile_remind => k_is)
    (case l_AccountFile_remind => k_is)
    (case c_AccountFile_remind => k_is)
    (case k_AccountFile_remind => k_is)
    (case a_law_remind => k_is)
    (case l_law_remind => k_is)
    (case c_law_remind => k_is)
    (case k_law_remind => k_is)
    (case a_law => k_is)
    (case l_law => k_is)
    (case c_law => k_is)
    (case k_law => k_is)
