import PyProof.Rows.All
import Wide.All
import OpenK.AllK
import Wide.FinOn
import HandS.ForMost
import HandS.Exc
import HandS.TryOnly
import HandS.ExcOwn
import HandS.WordsExc
import HandS.CallSlots
import HandS.Wide
import HandS.SortInts
import PyProof.Rows.SeqMore
import KE.SortData
import HandS.TupAny
import HandS.Flt
import HandS.More
import HandS.Conv
import HandS.TupLen
import KE.KEqDict
import HandS.DeepEq
import KE.DataMinMax
import PySem.Challenge.RW_copperhouse_k11_texts_and_amounts_as_oct

set_option Elab.async false
set_option linter.all false
set_option maxRecDepth 100000
set_option maxHeartbeats 4000000
/-! A layer of plain data over the hand layer: values as trees (D), what may still change as cells, readings that speak of these alone. -/
namespace DD
open PySem L2

/-! ### data -/
inductive D where
  | non | bl (b : Bool) | int (i : Int) | str (x : Str)
  | tup (xs : List D) | lst (xs : List D) | ins (C : Addr) (fs : List (String × D)) | ptr (a : Addr) | ktup (xs : List D)
  | dK (kvs : List (L2.Key × D)) | dT (kvs : List (List L2.Key × D))
instance : Inhabited D := ⟨.non⟩
inductive Cell where
  | lst (xs : List D) | ins (C : Addr) (fs : List (String × D)) | dK (kvs : List (L2.Key × D)) | dT (kvs : List (List L2.Key × D))
  | lK (kvs : List (L2.Key × D)) (od : Obj) (vs : List (L2.Key × V)) | lT (kvs : List (List L2.Key × D)) (od : Obj) (vs : List (List L2.Key × V))
abbrev Cells := Addr → Option Cell
abbrev DEnv := List (Option D)
def cput (C : Cells) (a : Addr) (c : Cell) : Cells := fun b => if b = a then some c else C b
theorem cput_same {C : Cells} {a : Addr} {c : Cell} : cput C a c a = some c := by unfold cput; rw [if_pos rfl]
theorem cput_ne {C : Cells} {a b : Addr} {c : Cell} (h : b ≠ a) : cput C a c b = C b := by unfold cput; rw [if_neg h]
theorem cput_cput {C : Cells} {a : Addr} {c d : Cell} : cput (cput C a c) a d = cput C a d := by
  funext b; unfold cput; split <;> rfl
/-- nothing more is claimed -/
def Sub (C C' : Cells) : Prop := ∀ a c, C a = some c → C' a = some c
theorem Sub.refl (C : Cells) : Sub C C := fun _ _ h => h
theorem Sub.trans {A B C : Cells} (h : Sub A B) (g : Sub B C) : Sub A C := fun a c e => g a c (h a c e)
theorem Sub.new {C : Cells} {a : Addr} {c : Cell} (h : C a = none) : Sub C (cput C a c) := fun b d e => by
  by_cases q : b = a
  · rw [q, h] at e; cases e
  · rw [cput_ne q]; exact e
theorem Sub.put {C C' : Cells} {a : Addr} {c : Cell} (s : Sub C C') (h : C a = none) : Sub C (cput C' a c) := fun b d e => by
  by_cases q : b = a
  · rw [q, h] at e; cases e
  · rw [cput_ne q]; exact s b d e
theorem cell_ne {C : Cells} {a b : Addr} {c : Cell} (h : C a = some c) (g : C b = none) : a ≠ b := fun e => by
  rw [e, g] at h; cases h
theorem cell_ne' {C : Cells} {a b : Addr} {c : Cell} (h : C a = some c) (g : C b = none) : b ≠ a := fun e => cell_ne h g e.symm

/-! ### heaps: what is known stays -/
/-- what may be locked for a while -/
def lockable : HO → Bool
  | .dK _ => true
  | .dT _ => true
  | _ => false
def Ex (H H' : Hp) : Prop := ∀ a o, H a = some o → H' a = some o ∨ (lockable o = true ∧ ∃ od, H' a = some (.frz od o))
theorem Ex.refl (H : Hp) : Ex H H := fun _ _ h => .inl h
theorem Ex.trans {H H1 H2 : Hp} (a : Ex H H1) (b : Ex H1 H2) : Ex H H2 := fun x o h => by
  rcases a x o h with h1 | ⟨l, od, h1⟩
  · exact b x o h1
  · rcases b x _ h1 with h2 | ⟨l2, _⟩
    · exact .inr ⟨l, od, h2⟩
    · cases l2
theorem Ex.nd {H H' : Hp} (e : Ex H H') {a : Addr} {o : HO} (h : H a = some o) (n : lockable o = false) : H' a = some o := by
  rcases e a o h with h1 | ⟨l, _⟩
  · exact h1
  · rw [n] at l; cases l
theorem Ex.some {H H' : Hp} (e : Ex H H') {a : Addr} {o : HO} (h : H a = some o) : ∃ u, H' a = some u := by
  rcases e a o h with h1 | ⟨_, od, h1⟩
  · exact ⟨_, h1⟩
  · exact ⟨_, h1⟩
theorem Ex.new {H : Hp} {p : Addr} {o : HO} (h : H p = none) : Ex H (upd H p o) := fun a u e => by
  rw [upd_ne (ne_of_none e h)]
  exact .inl e
theorem Ex.mut {H H' : Hp} {p : Addr} {o : HO} (e : Ex H H') (h : H p = none) : Ex H (upd H' p o) := fun a u ha => by
  rw [upd_ne (ne_of_none ha h)]
  exact e a u ha
theorem Ex.free {H H' : Hp} {p : Addr} (e : Ex H H') (h : H' p = none) : H p = none := by
  cases h1 : H p with
  | none => rfl
  | some o =>
    obtain ⟨u, h2⟩ := e.some h1
    rw [h2] at h
    cases h
theorem ex_rd {H H' : Hp} {a : Addr} {u : HO} (e : Ex H H') (h : Rd H a u) : Rd H' a u := by
  rcases h with h | ⟨o, h⟩
  · rcases e a _ h with h1 | ⟨_, od, h1⟩
    · exact Or.inl h1
    · exact Or.inr ⟨od, h1⟩
  · exact Or.inr ⟨o, e.nd h rfl⟩
theorem ex_l {K : PySem.W.Frag} {H H' : Hp} {a : Addr} {xs : List V} (e : Ex H H') (h : SqL K H a xs) : SqL K H' a xs := by
  rcases h with h | h
  · exact Or.inl (ex_rd e h)
  · exact Or.inr h
theorem ex_t {K : PySem.W.Frag} {H H' : Hp} {a : Addr} {xs : List V} (e : Ex H H') (h : SqT K H a xs) : SqT K H' a xs := by
  rcases h with h | h
  · exact Or.inl (ex_rd e h)
  · exact Or.inr h

/-! ### what a value stands for -/
mutual
inductive Rep (K : PySem.W.Frag) (F : Hp) : V → D → Prop
  | non : Rep K F .non .non
  | bl (b : Bool) : Rep K F (.bl b) (.bl b)
  | int (i : Int) : Rep K F (.int i) (.int i)
  | str (x : Str) : Rep K F (.str x) (.str x)
  | tup {a : Addr} {xs : List V} {ds : List D} : F a = some (.tup xs) → RepL K F xs ds → Rep K F (.ref a) (.tup ds)
  | ktup {a : Addr} {xs : List V} {ds : List D} : SqT K F a xs → RepL K F xs ds → Rep K F (.ref a) (.ktup ds)
  | lst {a : Addr} {xs : List V} {ds : List D} : SqL K F a xs → RepL K F xs ds → Rep K F (.ref a) (.lst ds)
  | ins {a C dx : Addr} {gs : List (Str × V)} {fs : List (String × D)} : F a = some (.ins C dx gs) → RepF K F gs fs → Rep K F (.ref a) (.ins C fs)
  | ptr (a : Addr) : Rep K F (.ref a) (.ptr a)
  | dK {a : Addr} {od : Obj} {vs : List (L2.Key × V)} {kvs : List (L2.Key × D)} : F a = some (.frz od (.dK vs)) → RepK K F vs kvs → Rep K F (.ref a) (.dK kvs)
  | dT {a : Addr} {od : Obj} {vs : List (List L2.Key × V)} {kvs : List (List L2.Key × D)} : F a = some (.frz od (.dT vs)) → RepT K F vs kvs → Rep K F (.ref a) (.dT kvs)
inductive RepL (K : PySem.W.Frag) (F : Hp) : List V → List D → Prop
  | nil : RepL K F [] []
  | cons {v : V} {vs : List V} {d : D} {ds : List D} : Rep K F v d → RepL K F vs ds → RepL K F (v :: vs) (d :: ds)
inductive RepF (K : PySem.W.Frag) (F : Hp) : List (Str × V) → List (String × D) → Prop
  | nil : RepF K F [] []
  | cons {f : String} {v : V} {vs : List (Str × V)} {d : D} {ds : List (String × D)} : Rep K F v d → RepF K F vs ds → RepF K F ((Str.ofString f, v) :: vs) ((f, d) :: ds)
inductive RepK (K : PySem.W.Frag) (F : Hp) : List (L2.Key × V) → List (L2.Key × D) → Prop
  | nil : RepK K F [] []
  | cons {k : L2.Key} {v : V} {vs : List (L2.Key × V)} {d : D} {ds : List (L2.Key × D)} : Rep K F v d → RepK K F vs ds → RepK K F ((k, v) :: vs) ((k, d) :: ds)
inductive RepT (K : PySem.W.Frag) (F : Hp) : List (List L2.Key × V) → List (List L2.Key × D) → Prop
  | nil : RepT K F [] []
  | cons {k : List L2.Key} {v : V} {vs : List (List L2.Key × V)} {d : D} {ds : List (List L2.Key × D)} : Rep K F v d → RepT K F vs ds → RepT K F ((k, v) :: vs) ((k, d) :: ds)
end
mutual
theorem Rep.mono {K : PySem.W.Frag} {F F' : Hp} (e : Ex F F') : ∀ {v : V} {d : D}, Rep K F v d → Rep K F' v d
  | _, _, .non => .non
  | _, _, .bl b => .bl b
  | _, _, .int i => .int i
  | _, _, .str x => .str x
  | _, _, .tup h r => .tup (e.nd h rfl) (RepL.mono e r)
  | _, _, .ktup h r => .ktup (ex_t e h) (RepL.mono e r)
  | _, _, .lst h r => .lst (ex_l e h) (RepL.mono e r)
  | _, _, .ins h r => .ins (e.nd h rfl) (RepF.mono e r)
  | _, _, .ptr a => .ptr a
  | _, _, .dK h r => .dK (e.nd h rfl) (RepK.mono e r)
  | _, _, .dT h r => .dT (e.nd h rfl) (RepT.mono e r)
theorem RepL.mono {K : PySem.W.Frag} {F F' : Hp} (e : Ex F F') : ∀ {v : List V} {d : List D}, RepL K F v d → RepL K F' v d
  | _, _, .nil => .nil
  | _, _, .cons h r => .cons (Rep.mono e h) (RepL.mono e r)
theorem RepF.mono {K : PySem.W.Frag} {F F' : Hp} (e : Ex F F') : ∀ {v : List (Str × V)} {d : List (String × D)}, RepF K F v d → RepF K F' v d
  | _, _, .nil => .nil
  | _, _, .cons h r => .cons (Rep.mono e h) (RepF.mono e r)
theorem RepK.mono {K : PySem.W.Frag} {F F' : Hp} (e : Ex F F') : ∀ {v : List (L2.Key × V)} {d : List (L2.Key × D)}, RepK K F v d → RepK K F' v d
  | _, _, .nil => .nil
  | _, _, .cons h r => .cons (Rep.mono e h) (RepK.mono e r)
theorem RepT.mono {K : PySem.W.Frag} {F F' : Hp} (e : Ex F F') : ∀ {v : List (List L2.Key × V)} {d : List (List L2.Key × D)}, RepT K F v d → RepT K F' v d
  | _, _, .nil => .nil
  | _, _, .cons h r => .cons (Rep.mono e h) (RepT.mono e r)
end
section
variable {K : PySem.W.Frag} {F : Hp}
theorem RepL.length : ∀ {xs : List V} {ds : List D}, RepL K F xs ds → xs.length = ds.length
  | _, _, .nil => rfl
  | _, _, .cons _ r => congrArg (· + 1) r.length
theorem RepL.get : ∀ {xs : List V} {ds : List D} {i : Nat} {d : D}, RepL K F xs ds → ds[i]? = some d → ∃ v, xs[i]? = some v ∧ Rep K F v d
  | _, _, _, _, .nil, e => by simp at e
  | _, _, 0, _, .cons h _, e => by simp at e; subst e; exact ⟨_, rfl, h⟩
  | _, _, i + 1, _, .cons _ r, e => by
    obtain ⟨v, h1, h2⟩ := RepL.get (i := i) r (by simpa using e)
    exact ⟨v, by simpa using h1, h2⟩
theorem RepL.getV : ∀ {xs : List V} {ds : List D} {i : Nat} {v : V}, RepL K F xs ds → xs[i]? = some v → ∃ d, ds[i]? = some d ∧ Rep K F v d
  | _, _, _, _, .nil, e => by simp at e
  | _, _, 0, _, .cons h _, e => by simp at e; subst e; exact ⟨_, rfl, h⟩
  | _, _, i + 1, _, .cons _ r, e => by
    obtain ⟨d, h1, h2⟩ := RepL.getV (i := i) r (by simpa using e)
    exact ⟨d, by simpa using h1, h2⟩
theorem RepL.append : ∀ {xs ys : List V} {ds es : List D}, RepL K F xs ds → RepL K F ys es → RepL K F (xs ++ ys) (ds ++ es)
  | _, _, _, _, .nil, s => s
  | _, _, _, _, .cons h r, s => .cons h (RepL.append r s)
theorem RepL.set {v : V} {d : D} (h : Rep K F v d) : ∀ {xs : List V} {ds : List D} (i : Nat), RepL K F xs ds → RepL K F (xs.set i v) (ds.set i d)
  | _, _, _, .nil => .nil
  | _, _, 0, .cons _ r => .cons h r
  | _, _, i + 1, .cons q r => .cons q (RepL.set h i r)
theorem RepL.drop : ∀ {xs : List V} {ds : List D} (n : Nat), RepL K F xs ds → RepL K F (xs.drop n) (ds.drop n)
  | _, _, 0, r => r
  | _, _, _ + 1, .nil => .nil
  | _, _, n + 1, .cons _ r => RepL.drop n r
theorem RepL.take : ∀ {xs : List V} {ds : List D} (n : Nat), RepL K F xs ds → RepL K F (xs.take n) (ds.take n)
  | _, _, 0, _ => .nil
  | _, _, _ + 1, .nil => .nil
  | _, _, n + 1, .cons h r => .cons h (RepL.take n r)
theorem RepL.dropLast {xs : List V} {ds : List D} (h : RepL K F xs ds) : RepL K F xs.dropLast ds.dropLast := by
  rw [List.dropLast_eq_take, List.dropLast_eq_take, h.length]
  exact h.take _
theorem RepL.reverse : ∀ {xs : List V} {ds : List D}, RepL K F xs ds → RepL K F xs.reverse ds.reverse
  | _, _, .nil => .nil
  | _, _, .cons h r => by
    rw [List.reverse_cons, List.reverse_cons]
    exact r.reverse.append (.cons h .nil)
theorem RepL.ints : ∀ ns : List Int, RepL K F (ns.map V.int) (ns.map D.int)
  | [] => .nil
  | n :: r => .cons (.int n) (RepL.ints r)
theorem RepL.of_ints : ∀ {ns : List Int} {xs : List V}, RepL K F xs (ns.map D.int) → xs = ns.map V.int
  | [], _, .nil => rfl
  | n :: r, _, .cons h t => by
    cases h
    rw [RepL.of_ints t] <;> rfl
theorem RepL.of_strs : ∀ {ns : List Str} {xs : List V}, RepL K F xs (ns.map D.str) → xs = ns.map V.str
  | [], _, .nil => rfl
  | n :: r, _, .cons h t => by
    cases h
    rw [RepL.of_strs t] <;> rfl
theorem RepL.rep {v : V} {d : D} (h : Rep K F v d) : ∀ n, RepL K F (List.replicate n v) (List.replicate n d)
  | 0 => .nil
  | n + 1 => .cons h (RepL.rep h n)
end
theorem ofString_inj {a b : String} (h : Str.ofString a = Str.ofString b) : a = b := by
  rw [Str.ofString_eq_toList, Str.ofString_eq_toList] at h
  have h2 : a.toList.map Char.toNat = b.toList.map Char.toNat := by
    have := congrArg Str.cps h
    simpa using congrArg Array.toList this
  have inj : ∀ l m : List Char, l.map Char.toNat = m.map Char.toNat → l = m := by
    intro l
    induction l with
    | nil => intro m e; cases m with
      | nil => rfl
      | cons _ _ => simp at e
    | cons c r ih => intro m e; cases m with
      | nil => simp at e
      | cons d s =>
        simp only [List.map_cons, List.cons.injEq] at e
        have q : c = d := by
          have := e.1
          exact Char.ext (UInt32.toNat_inj.mp this)
        rw [q, ih s e.2]
  have h3 := inj _ _ h2
  have := congrArg String.ofList h3
  simpa using this
theorem ofString_eq_iff {a b : String} : (Str.ofString a = Str.ofString b) = (a = b) := propext ⟨ofString_inj, fun h => by rw [h]⟩
section
variable {K : PySem.W.Frag} {F : Hp}
theorem RepF.length : ∀ {xs : List (Str × V)} {ds : List (String × D)}, RepF K F xs ds → xs.length = ds.length
  | _, _, .nil => rfl
  | _, _, .cons _ r => congrArg (· + 1) r.length
theorem RepF.lookup {f : String} : ∀ {xs : List (Str × V)} {ds : List (String × D)} {d : D}, RepF K F xs ds → ds.lookup f = some d → ∃ v, xs.lookup (Str.ofString f) = some v ∧ Rep K F v d
  | _, _, _, .nil, e => by simp at e
  | _, _, d, .cons (f := g) h r, e => by
    by_cases q : f = g
    · subst q
      simp only [List.lookup, beq_self_eq_true] at e ⊢
      cases e
      exact ⟨_, rfl, h⟩
    · have b1 : (f == g) = false := beq_eq_false_iff_ne.mpr q
      have b2 : (Str.ofString f == Str.ofString g) = false := beq_eq_false_iff_ne.mpr fun e => q (ofString_inj e)
      simp only [List.lookup, b1, b2] at e ⊢
      exact RepF.lookup r e
theorem RepF.lookup_none {f : String} : ∀ {xs : List (Str × V)} {ds : List (String × D)}, RepF K F xs ds → ds.lookup f = none → xs.lookup (Str.ofString f) = none
  | _, _, .nil, _ => rfl
  | _, _, .cons (f := g) h r, e => by
    by_cases q : f = g
    · subst q
      simp only [List.lookup, beq_self_eq_true] at e
      cases e
    · have b1 : (f == g) = false := beq_eq_false_iff_ne.mpr q
      have b2 : (Str.ofString f == Str.ofString g) = false := beq_eq_false_iff_ne.mpr fun e => q (ofString_inj e)
      simp only [List.lookup, b1, b2] at e ⊢
      exact RepF.lookup_none r e
end
/-- an attribute stored -/
def dput (f : String) (v : D) : List (String × D) → List (String × D)
  | [] => [(f, v)]
  | (g, x) :: r => if g = f then (g, v) :: r else (g, x) :: dput f v r
theorem RepF.put {K : PySem.W.Frag} {F : Hp} {f : String} {v : V} {d : D} (h : Rep K F v d) : ∀ {xs : List (Str × V)} {ds : List (String × D)}, RepF K F xs ds → RepF K F (putF (Str.ofString f) v xs) (dput f d ds)
  | _, _, .nil => .cons h .nil
  | _, _, .cons (f := g) q r => by
    by_cases e : g = f
    · subst e
      simp only [putF, dput, if_true]
      exact .cons h r
    · have e2 : ¬ Str.ofString g = Str.ofString f := fun z => e (ofString_inj z)
      simp only [putF, dput, if_neg e, if_neg e2]
      exact .cons q (RepF.put h r)

/-! ### the state: frozen heap F, cells C, heap H; slots -/
def RepC (K : PySem.W.Frag) (F H : Hp) (a : Addr) : Cell → Prop
  | .lst ds => ∃ xs, H a = some (.lst xs) ∧ RepL K F xs ds
  | .ins C fs => ∃ dx gs, H a = some (.ins C dx gs) ∧ RepF K F gs fs
  | .dK kvs => ∃ vs, H a = some (.dK vs) ∧ RepK K F vs kvs
  | .dT kvs => ∃ vs, H a = some (.dT vs) ∧ RepT K F vs kvs
  | .lK kvs od vs => H a = some (.frz od (.dK vs)) ∧ RepK K F vs kvs
  | .lT kvs od vs => H a = some (.frz od (.dT vs)) ∧ RepT K F vs kvs
structure Hs (K : PySem.W.Frag) (F : Hp) (C : Cells) (H : Hp) : Prop where
  ex : Ex F H
  cell : ∀ a c, C a = some c → F a = none ∧ RepC K F H a c
def EnvR (K : PySem.W.Frag) (F : Hp) (σ : L2.St) (ρ : DEnv) : Prop := σ.length = ρ.length ∧ ∀ (i : Nat) (d : D), ρ[i]? = some (some d) → ∃ v, σ[i]? = some (some v) ∧ Rep K F v d
section
variable {K : PySem.W.Frag} {F F' H H' : Hp} {C C' : Cells} {σ : L2.St} {ρ : DEnv} {a : Addr} {c : Cell}
theorem RepC.ex (e : Ex F F') {H : Hp} : ∀ {c : Cell}, RepC K F H a c → RepC K F' H a c
  | .lst _, ⟨xs, h, r⟩ => ⟨xs, h, r.mono e⟩
  | .ins _ _, ⟨dx, gs, h, r⟩ => ⟨dx, gs, h, r.mono e⟩
  | .dK _, ⟨vs, h, r⟩ => ⟨vs, h, r.mono e⟩
  | .dT _, ⟨vs, h, r⟩ => ⟨vs, h, r.mono e⟩
  | .lK _ _ _, ⟨h, r⟩ => ⟨h, r.mono e⟩
  | .lT _ _ _, ⟨h, r⟩ => ⟨h, r.mono e⟩
theorem RepC.at (h : H' a = H a) : ∀ {c : Cell}, RepC K F H a c → RepC K F H' a c
  | .lst _, ⟨xs, q, r⟩ => ⟨xs, h.trans q, r⟩
  | .ins _ _, ⟨dx, gs, q, r⟩ => ⟨dx, gs, h.trans q, r⟩
  | .dK _, ⟨vs, q, r⟩ => ⟨vs, h.trans q, r⟩
  | .dT _, ⟨vs, q, r⟩ => ⟨vs, h.trans q, r⟩
  | .lK _ _ _, ⟨q, r⟩ => ⟨h.trans q, r⟩
  | .lT _ _ _, ⟨q, r⟩ => ⟨h.trans q, r⟩
theorem RepC.some : ∀ {c : Cell}, RepC K F H a c → ∃ o, H a = Option.some o
  | .lst _, ⟨_, h, _⟩ => ⟨_, h⟩
  | .ins _ _, ⟨_, _, h, _⟩ => ⟨_, h⟩
  | .dK _, ⟨_, h, _⟩ => ⟨_, h⟩
  | .dT _, ⟨_, h, _⟩ => ⟨_, h⟩
  | .lK _ _ _, ⟨h, _⟩ => ⟨_, h⟩
  | .lT _ _ _, ⟨h, _⟩ => ⟨_, h⟩
theorem Hs.sub (h : Hs K F C H) (s : Sub C' C) : Hs K F C' H := ⟨h.ex, fun a c e => h.cell a c (s a c e)⟩
theorem Hs.fresh (h : Hs K F C H) {p : Addr} (hp : H p = none) : F p = none ∧ C p = none := by
  refine ⟨h.ex.free hp, ?_⟩
  cases e : C p with
  | none => rfl
  | some c =>
    obtain ⟨_, r⟩ := h.cell p c e
    obtain ⟨o, q⟩ := r.some
    rw [hp] at q; cases q
/-- a new frozen object -/
theorem Hs.lay (h : Hs K F C H) {p : Addr} {o : HO} (hp : H p = none) : Ex F (upd F p o) ∧ Hs K (upd F p o) C (upd H p o) := by
  obtain ⟨f0, c0⟩ := h.fresh hp
  refine ⟨Ex.new f0, fun a u e => ?_, fun a c e => ?_⟩
  · by_cases q : a = p
    · subst q; rw [upd_same] at e ⊢; exact .inl e
    · rw [upd_ne q] at e ⊢; exact h.ex a u e
  · have q : a ≠ p := cell_ne e c0
    obtain ⟨f1, r⟩ := h.cell a c e
    exact ⟨by rw [upd_ne q]; exact f1, (r.ex (Ex.new f0)).at (upd_ne q)⟩
/-- a new cell, or a cell that changes -/
theorem Hs.put (h : Hs K F C H) {p : Addr} {o : HO} {c : Cell} (hp : F p = none) (hc : RepC K F (upd H p o) p c) : Hs K F (cput C p c) (upd H p o) := by
  refine ⟨h.ex.mut hp, fun a d e => ?_⟩
  by_cases q : a = p
  · subst q
    rw [cput_same] at e; cases e
    exact ⟨hp, hc⟩
  · rw [cput_ne q] at e
    obtain ⟨f1, r⟩ := h.cell a d e
    exact ⟨f1, r.at (upd_ne q)⟩
/-- a cell that is not to change any more -/
theorem Hs.freeze (h : Hs K F C H) {p : Addr} {c : Cell} (e : C p = some c) (hs : Sub C' C) (hn : C' p = none) : ∃ o, H p = some o ∧ Ex F (upd F p o) ∧ Hs K (upd F p o) C' H ∧ upd F p o p = some o ∧ RepC K F H p c := by
  obtain ⟨f0, r⟩ := h.cell p c e
  obtain ⟨o, ho⟩ := r.some
  refine ⟨o, ho, Ex.new f0, ⟨fun a u q => ?_, fun a d q => ?_⟩, upd_same, r⟩
  · by_cases z : a = p
    · subst z; rw [upd_same] at q; cases q; exact .inl ho
    · rw [upd_ne z] at q; exact h.ex a u q
  · have z : a ≠ p := cell_ne q hn
    obtain ⟨f1, r1⟩ := h.cell a d (hs a d q)
    exact ⟨by rw [upd_ne z]; exact f1, r1.ex (Ex.new f0)⟩
theorem EnvR.mono (e : Ex F F') (h : EnvR K F σ ρ) : EnvR K F' σ ρ := ⟨h.1, fun i d q => by
  obtain ⟨v, h1, h2⟩ := h.2 i d q
  exact ⟨v, h1, h2.mono e⟩⟩
theorem EnvR.set {v : V} {d : D} {i : Nat} (h : EnvR K F σ ρ) (r : Rep K F v d) : EnvR K F (σ.set i (some v)) (ρ.set i (some d)) := by
  refine ⟨by rw [List.length_set, List.length_set]; exact h.1, fun j u q => ?_⟩
  by_cases e : i = j
  · subst e
    have hl : i < ρ.length := by
      rcases Nat.lt_or_ge i ρ.length with z | z
      · exact z
      · rw [List.getElem?_eq_none (by rw [List.length_set]; exact z)] at q; cases q
    rw [List.getElem?_set_self hl] at q
    cases q
    exact ⟨v, by rw [List.getElem?_set_self (by rw [h.1]; exact hl)], r⟩
  · rw [List.getElem?_set_ne e] at q
    obtain ⟨w, h1, h2⟩ := h.2 j u q
    exact ⟨w, by rw [List.getElem?_set_ne e]; exact h1, h2⟩
/-- slots may be forgotten -/
def Fgt (ρ ρ' : DEnv) : Prop := ρ.length = ρ'.length ∧ ∀ (i : Nat) (d : D), ρ'[i]? = some (some d) → ρ[i]? = some (some d)
theorem EnvR.fgt {ρ' : DEnv} (h : EnvR K F σ ρ) (f : Fgt ρ ρ') : EnvR K F σ ρ' := ⟨h.1.trans f.1, fun i d q => h.2 i d (f.2 i d q)⟩
end
end DD

set_option Elab.async false
set_option linter.all false
set_option maxRecDepth 100000
set_option maxHeartbeats 4000000
/-! Readings over data: expressions, tests, arguments. -/
namespace DD
open PySem L2 PyProof.Rows

abbrev DK := D → Cells → Prop
abbrev DX := Value → List (String × D) → DEnv → Cells → Prop
abbrev DE := DEnv → Cells → DK → DX → Prop
abbrev DA := DEnv → Cells → (List D → Cells → Prop) → DX → Prop
abbrev DT := DEnv → Cells → (Bool → Cells → Prop) → DX → Prop
structure DEnds where
  nx : DEnv → Cells → Prop
  rt : DK
  bk : DEnv → Cells → Prop
  ct : DEnv → Cells → Prop
  ex : DX
abbrev DS := DEnds → DEnv → Cells → Prop
abbrev DR2 := D → D → Cells → DK → Prop
abbrev DR1 := D → Cells → DK → Prop
abbrev DRA := List D → Cells → DK → Prop

/-- an exception's own fields -/
def XRep (K : PySem.W.Frag) (F H : Hp) (d : Option Addr) (fs : List (String × D)) : Prop := fs = [] ∨ ∃ dd gs, d = some dd ∧ H dd = some (.xd gs) ∧ RepF K F gs fs
def ExR (K : PySem.W.Frag) (F : Hp) (W : WX) (PX : DX) : Prop :=
  ∀ cls d fs σ F' H ρ C, Ex F F' → Hs K F' C H → EnvR K F' σ ρ → XRep K F' H d fs → PX cls fs ρ C → W cls d σ H
theorem ExR.mono {K : PySem.W.Frag} {F F' : Hp} {W : WX} {PX : DX} (e : Ex F F') (h : ExR K F W PX) : ExR K F' W PX :=
  fun cls d fs σ F1 H ρ C e1 => h cls d fs σ F1 H ρ C (e.trans e1)
/-- what is wanted of a value, of arguments, of a truth -/
def Kont (K : PySem.W.Frag) (F : Hp) (P : DK) (Q : VK) : Prop := ∀ v F' H' d C', Ex F F' → Hs K F' C' H' → Rep K F' v d → P d C' → Q v H'
def KontA (K : PySem.W.Frag) (F : Hp) (P : List D → Cells → Prop) (Q : List V → Hp → Prop) : Prop := ∀ vs F' H' ds C', Ex F F' → Hs K F' C' H' → RepL K F' vs ds → P ds C' → Q vs H'
def KontT (K : PySem.W.Frag) (F : Hp) (P : Bool → Cells → Prop) (Q : Bool → Hp → Prop) : Prop := ∀ b F' H' C', Ex F F' → Hs K F' C' H' → P b C' → Q b H'
theorem Kont.mono {K : PySem.W.Frag} {F F' : Hp} {P : DK} {Q : VK} (e : Ex F F') (h : Kont K F P Q) : Kont K F' P Q := fun v F1 H1 d C1 e1 => h v F1 H1 d C1 (e.trans e1)
theorem KontA.mono {K : PySem.W.Frag} {F F' : Hp} {P : List D → Cells → Prop} {Q : List V → Hp → Prop} (e : Ex F F') (h : KontA K F P Q) : KontA K F' P Q := fun v F1 H1 d C1 e1 => h v F1 H1 d C1 (e.trans e1)
theorem KontT.mono {K : PySem.W.Frag} {F F' : Hp} {P : Bool → Cells → Prop} {Q : Bool → Hp → Prop} (e : Ex F F') (h : KontT K F P Q) : KontT K F' P Q := fun v F1 H1 C1 e1 => h v F1 H1 C1 (e.trans e1)

def tE (K : PySem.W.Frag) (W : WX) (w : DE) : TE := fun σ H Q => ∃ F C ρ P PX, Hs K F C H ∧ EnvR K F σ ρ ∧ ExR K F W PX ∧ w ρ C P PX ∧ Kont K F P Q
def tA (K : PySem.W.Frag) (W : WX) (w : DA) : TA := fun σ H Q => ∃ F C ρ P PX, Hs K F C H ∧ EnvR K F σ ρ ∧ ExR K F W PX ∧ w ρ C P PX ∧ KontA K F P Q
def tT (K : PySem.W.Frag) (W : WX) (w : DT) : TT := fun σ H Q => ∃ F C ρ P PX, Hs K F C H ∧ EnvR K F σ ρ ∧ ExR K F W PX ∧ w ρ C P PX ∧ KontT K F P Q

/-! ### weaker readings -/
section
variable {X : Cx}
theorem PE.imp {e : Expr} {t t' : TE} (h : PE X e t) (i : ∀ σ H Q, t' σ H Q → t σ H Q) : PE X e t' := ⟨fun pins s σ H Q I w => h.run pins s σ H Q I (i σ H Q w)⟩
theorem PT.imp {e : Expr} {t t' : TT} (h : PT X e t) (i : ∀ σ H Q, t' σ H Q → t σ H Q) : PT X e t' := ⟨fun pins s σ H Q I w => h.run pins s σ H Q I (i σ H Q w)⟩
theorem PW.imp {e : Expr} {t t' : TT} (h : PW X e t) (i : ∀ σ H Q, t' σ H Q → t σ H Q) : PW X e t' := ⟨fun wh pins s σ H Q I w => h.run wh pins s σ H Q I (i σ H Q w)⟩
theorem PA.imp {e : List Expr} {t t' : TA} (h : PA X e t) (i : ∀ σ H Q, t' σ H Q → t σ H Q) : PA X e t' := ⟨fun pos pins s σ H Q I w => h.run pos pins s σ H Q I (i σ H Q w)⟩
theorem PS.imp {e : Stmt} {t t' : TS} (h : PS X e t) (i : ∀ D σ H, t' D σ H → t D σ H) : PS X e t' := ⟨fun pins s σ H D I w => h.run pins s σ H D I (i D σ H w)⟩
theorem PSs.imp {e : List Stmt} {t t' : TS} (h : PSs X e t) (i : ∀ D σ H, t' D σ H → t D σ H) : PSs X e t' := ⟨fun pins s σ H D I w => h.run pins s σ H D I (i D σ H w)⟩
end

/-! ### names, constants, arguments -/
def wVar (i : Nat) (ρ : DEnv) (C : Cells) (P : DK) (_ : DX) : Prop := match (ρ[i]? : Option (Option D)) with | some (some d) => P d C | _ => False
def wC (d : D) (_ : DEnv) (C : Cells) (P : DK) (_ : DX) : Prop := P d C
def wNil (_ : DEnv) (C : Cells) (P : List D → Cells → Prop) (_ : DX) : Prop := P [] C
def wCons (a : DE) (r : DA) (ρ : DEnv) (C : Cells) (P : List D → Cells → Prop) (PX : DX) : Prop := a ρ C (fun d C1 => r ρ C1 (fun ds C2 => P (d :: ds) C2) PX) PX
section
variable {X : Cx} {W : WX} {K : PySem.W.Frag}
theorem i_var {i : Nat} {σ : L2.St} {H : Hp} {Q : VK} (h : tE K W (wVar i) σ H Q) : tVar i σ H Q := by
  obtain ⟨F, C, ρ, P, PX, hs, en, xr, w, k⟩ := h
  unfold wVar at w
  split at w
  · rename_i d q
    obtain ⟨v, h1, r⟩ := en.2 i d q
    exact ⟨v, h1, k v F H d C (Ex.refl F) hs r w⟩
  · exact w.elim
theorem d_var (i : Nat) {x : Str} {pos : Pos} (hN : X.N[i]? = some x := by rfl) (hv : Vis X.env.scope x := by first | exact Or.inl rfl | exact Or.inr (Or.inl rfl) | exact Or.inr (Or.inr rfl)) (hd : (x == ("__debug__" : Str)) = false := by decide)
    (hcd : (x == ("__classdict__" : Str)) = false := by decide) : PE X (.Name x pos) (tE X.K W (wVar i)) := PE.imp (pe_var hN hv hd hcd) fun _ _ _ => i_var
theorem i_c {v : V} {d : D} (r : ∀ F, Rep K F v d) {σ : L2.St} {H : Hp} {Q : VK} (h : tE K W (wC d) σ H Q) : tC v σ H Q := by
  obtain ⟨F, C, ρ, P, PX, hs, en, xr, w, k⟩ := h
  exact k v F H d C (Ex.refl F) hs (r F) w
theorem d_int {i j pos} : PE X (.Constant (.int i) j pos) (tE X.K W (wC (.int i))) := PE.imp pe_int fun _ _ _ => i_c fun _ => .int i
theorem d_bl {b j pos} : PE X (.Constant (.bool b) j pos) (tE X.K W (wC (.bl b))) := PE.imp pe_bl fun _ _ _ => i_c fun _ => .bl b
theorem d_non {j pos} : PE X (.Constant .none j pos) (tE X.K W (wC .non)) := PE.imp pe_non fun _ _ _ => i_c fun _ => .non
theorem d_str {x j pos} : PE X (.Constant (.str x) j pos) (tE X.K W (wC (.str x))) := PE.imp pe_str fun _ _ _ => i_c fun _ => .str x
/-- a module's name -/
theorem d_glob {x : Str} {v : V} {d : D} {u : Value} {pos : Pos} (hg : Gl X x) (hm : X.mg x = some u) (r : RelV v u) (hr : ∀ F, Rep X.K F v d) (hd : (x == ("__debug__" : Str)) = false := by decide) : PE X (.Name x pos) (tE X.K W (wC d)) :=
  PE.imp (pe_glob hg hm r hd) fun _ _ _ => i_c hr
theorem d_nil : PA X [] (tA X.K W wNil) := PA.imp pa_nil fun σ H Q ⟨F, C, ρ, P, PX, hs, en, xr, w, k⟩ => k [] F H [] C (Ex.refl F) hs .nil w
theorem i_cons {wa : DE} {wr : DA} {σ : L2.St} {H : Hp} {Q : List V → Hp → Prop} (h : tA K W (wCons wa wr) σ H Q) : tCons (tE K W wa) (tA K W wr) σ H Q := by
  obtain ⟨F, C, ρ, P, PX, hs, en, xr, w, k⟩ := h
  exact ⟨F, C, ρ, _, PX, hs, en, xr, w, fun v F1 H1 d C1 e1 h1 rd q => ⟨F1, C1, ρ, _, PX, h1, en.mono e1, xr.mono e1, q, fun vs F2 H2 ds C2 e2 h2 rl q2 => k (v :: vs) F2 H2 (d :: ds) C2 (e1.trans e2) h2 (.cons (rd.mono e2) rl) q2⟩⟩
theorem d_cons {e : Expr} {es : List Expr} {wa : DE} {wr : DA} (ha : PE X e (tE X.K W wa)) (hr : PA X es (tA X.K W wr)) (hs : starEach (e :: es) X.env = (false, eval e X.env) :: starEach es X.env := by rfl) : PA X (e :: es) (tA X.K W (wCons wa wr)) :=
  PA.imp (pa_cons ha hr hs) fun _ _ _ => i_cons
end

/-! ### operators -/
/-- an operation on two values, its reading on data -/
def SimR (K : PySem.W.Frag) (r : R2) (rd : DR2) : Prop := ∀ F C H x y dx dy P Q, Hs K F C H → Rep K F x dx → Rep K F y dy → rd dx dy C P → Kont K F P Q → r x y H Q
def Sim1 (K : PySem.W.Frag) (r : V → Hp → VK → Prop) (rd : DR1) : Prop := ∀ F C H x dx P Q, Hs K F C H → Rep K F x dx → rd dx C P → Kont K F P Q → r x H Q
def SimA (K : PySem.W.Frag) (r : List V → Hp → VK → Prop) (rd : DRA) : Prop := ∀ F C H xs ds P Q, Hs K F C H → RepL K F xs ds → rd ds C P → Kont K F P Q → r xs H Q
def wOp (r : DR2) (a b : DE) (ρ : DEnv) (C : Cells) (P : DK) (PX : DX) : Prop := a ρ C (fun x C1 => b ρ C1 (fun y C2 => r x y C2 P) PX) PX
def wUn (r : DR1) (a : DE) (ρ : DEnv) (C : Cells) (P : DK) (PX : DX) : Prop := a ρ C (fun x C1 => r x C1 P) PX
def wCB (r : DRA) (a : DA) (ρ : DEnv) (C : Cells) (P : DK) (PX : DX) : Prop := a ρ C (fun xs C1 => r xs C1 P) PX
section
variable {X : Cx} {W : WX} {K : PySem.W.Frag} {a b : Expr} {wa wb : DE} {pos : Pos}
theorem i_op {r : R2} {rd : DR2} (hr : SimR K r rd) {σ : L2.St} {H : Hp} {Q : VK} (h : tE K W (wOp rd wa wb) σ H Q) : tOp r (tE K W wa) (tE K W wb) σ H Q := by
  obtain ⟨F, C, ρ, P, PX, hs, en, xr, w, k⟩ := h
  exact ⟨F, C, ρ, _, PX, hs, en, xr, w, fun v F1 H1 d C1 e1 h1 rd1 q => ⟨F1, C1, ρ, _, PX, h1, en.mono e1, xr.mono e1, q, fun u F2 H2 du C2 e2 h2 ru q2 => hr F2 C2 H2 v u d du P Q h2 (rd1.mono e2) ru q2 (k.mono (e1.trans e2))⟩⟩
theorem i_un {r : V → Hp → VK → Prop} {rd : DR1} (hr : Sim1 K r rd) {σ : L2.St} {H : Hp} {Q : VK} (h : tE K W (wUn rd wa) σ H Q) : tUn r (tE K W wa) σ H Q := by
  obtain ⟨F, C, ρ, P, PX, hs, en, xr, w, k⟩ := h
  exact ⟨F, C, ρ, _, PX, hs, en, xr, w, fun v F1 H1 d C1 e1 h1 rd1 q => hr F1 C1 H1 v d P Q h1 rd1 q (k.mono e1)⟩
theorem i_cb {r : List V → Hp → VK → Prop} {rd : DRA} {wr : DA} (hr : SimA K r rd) {σ : L2.St} {H : Hp} {Q : VK} (h : tE K W (wCB rd wr) σ H Q) : tCB r (tA K W wr) σ H Q := by
  obtain ⟨F, C, ρ, P, PX, hs, en, xr, w, k⟩ := h
  exact ⟨F, C, ρ, _, PX, hs, en, xr, w, fun v F1 H1 d C1 e1 h1 rd1 q => hr F1 C1 H1 v d P Q h1 rd1 q (k.mono e1)⟩
/-- e1 op e2 -/
theorem d_op {op : Operator} {r : R2} {rd : DR2} (ho : OpR X (binaryOp op) r) (hr : SimR X.K r rd) (ha : PE X a (tE X.K W wa)) (hb : PE X b (tE X.K W wb)) : PE X (.BinOp a op b pos) (tE X.K W (wOp rd wa wb)) :=
  PE.imp (pe_op ho ha hb) fun _ _ _ => i_op hr
theorem d_un {op : UnaryOp} {r : V → Hp → VK → Prop} {rd : DR1} (ho : UnR X (unaryOp op) r) (hr : Sim1 X.K r rd) (ha : PE X a (tE X.K W wa)) : PE X (.UnaryOp op a pos) (tE X.K W (wUn rd wa)) :=
  PE.imp (pe_un ho ha) fun _ _ _ => i_un hr
/-- e1 < e2 and the like, as a value -/
theorem d_cmp {op : CmpOp} {r : R2} {rd : DR2} (ho : OpR X (compareOp op) r) (hr : SimR X.K r rd) (ha : PE X a (tE X.K W wa)) (hb : PE X b (tE X.K W wb)) (hm : behindInMarks op b = false := by first | exact nobehind _ (by decide) (by decide) | rfl) :
    PE X (.Compare a [op] [b] pos) (tE X.K W (wOp rd wa wb)) := PE.imp (pe_cmpR ho ha hb hm) fun _ _ _ => i_op hr
/-- a subscript -/
theorem d_ix {r : R2} {rd : DR2} (ho : IxR X r) (hr : SimR X.K r rd) (ha : PE X a (tE X.K W wa)) (hb : PE X b (tE X.K W wb)) (hs : PlainIx b := by exact fun _ _ => rfl) : PE X (.Subscript a b pos) (tE X.K W (wOp rd wa wb)) :=
  PE.imp (pe_ix ho ha hb hs) fun _ _ _ => i_op hr
/-- a built-in function by its name -/
theorem d_callB {r : List V → Hp → VK → Prop} {rd : DRA} {id : String} {x : Str} {p : Pos} {e : Expr} {es : List Expr} {wr : DA} (hc : CallR X (.builtin id) r) (hr : SimA X.K r rd) (hg : Gl X x) (hm : X.mg x = none) (hv : bootBuiltins x = some (.builtin id)) (ha : PA X (e :: es) (tA X.K W wr)) (hn : x ≠ "__name__" := by decide) (hdb : (x == ("__debug__" : Str)) = false := by decide)
    (he : starEach (e :: es) X.env = (false, eval e X.env) :: starEach es X.env := by rfl) (hpl : (backTo pos (starEach es X.env)).any (·.1) = false := by rfl) : PE X (.Call (.Name x p) (e :: es) [] pos) (tE X.K W (wCB rd wr)) :=
  PE.imp (pe_callB hc hg hm hv ha hn hdb he hpl) fun _ _ _ => i_cb hr
theorem d_callTy {r : List V → Hp → VK → Prop} {rd : DRA} {T : String} {x : Str} {p : Pos} {e : Expr} {es : List Expr} {wr : DA} (hc : CallR X (.type T) r) (hr : SimA X.K r rd) (hg : Gl X x) (hm : X.mg x = none) (hv : bootBuiltins x = some (.type T)) (ha : PA X (e :: es) (tA X.K W wr)) (hn : x ≠ "__name__" := by decide) (hdb : (x == ("__debug__" : Str)) = false := by decide)
    (he : starEach (e :: es) X.env = (false, eval e X.env) :: starEach es X.env := by rfl) (hpl : (backTo pos (starEach es X.env)).any (·.1) = false := by rfl) : PE X (.Call (.Name x p) (e :: es) [] pos) (tE X.K W (wCB rd wr)) :=
  PE.imp (pe_callTy hc hg hm hv ha hn hdb he hpl) fun _ _ _ => i_cb hr
end

/-! ### whole numbers -/
def dI (c : Int → Int → Prop) (g : Int → Int → D) (x : D) (y : D) (C : Cells) (P : DK) : Prop := match x, y with | .int i, .int j => c i j ∧ P (g i j) C | _, _ => False
def dI0 (g : Int → Int → D) (x : D) (y : D) (C : Cells) (P : DK) : Prop := match x, y with | .int i, .int j => P (g i j) C | _, _ => False
def dU (g : Int → D) (x : D) (C : Cells) (P : DK) : Prop := match x with | .int i => P (g i) C | _ => False
section
variable {K : PySem.W.Frag}
theorem simI {c : Int → Int → Prop} {g : Int → Int → V} {gd : Int → Int → D} (h : ∀ i j F, Rep K F (g i j) (gd i j)) : SimR K (rI c g) (dI c gd) := fun F C H x y dx dy P Q hs rx ry w k => by
  cases rx <;> cases ry <;> first | exact w.elim | exact ⟨_, _, rfl, rfl, w.1, k _ F H _ C (Ex.refl F) hs (h _ _ F) w.2⟩
theorem simI0 {g : Int → Int → V} {gd : Int → Int → D} (h : ∀ i j F, Rep K F (g i j) (gd i j)) : SimR K (rI0 g) (dI0 gd) := fun F C H x y dx dy P Q hs rx ry w k => by
  cases rx <;> cases ry <;> first | exact w.elim | exact ⟨_, _, rfl, rfl, k _ F H _ C (Ex.refl F) hs (h _ _ F) w⟩
theorem simU {g : Int → V} {gd : Int → D} (h : ∀ i F, Rep K F (g i) (gd i)) : Sim1 K (rU g) (dU gd) := fun F C H x dx P Q hs rx w k => by
  cases rx <;> first | exact w.elim | exact ⟨_, rfl, k _ F H _ C (Ex.refl F) hs (h _ F) w⟩
abbrev dAdd : DR2 := dI0 fun i j => .int (i + j)
abbrev dSub : DR2 := dI0 fun i j => .int (i - j)
abbrev dMul : DR2 := dI CMul fun i j => .int (i * j)
abbrev dDiv : DR2 := dI CDiv fun i j => .int (i / j)
abbrev dMod : DR2 := dI (fun _ j => 0 < j) fun i j => .int (i % j)
abbrev dLt : DR2 := dI0 fun i j => .bl (decide (i < j))
abbrev dLe : DR2 := dI0 fun i j => .bl (decide (i ≤ j))
abbrev dGt : DR2 := dI0 fun i j => .bl (decide (j < i))
abbrev dGe : DR2 := dI0 fun i j => .bl (decide (j ≤ i))
theorem s_add : SimR K (rI0 fun i j => .int (i + j)) dAdd := simI0 fun _ _ _ => .int _
theorem s_sub : SimR K (rI0 fun i j => .int (i - j)) dSub := simI0 fun _ _ _ => .int _
theorem s_mul : SimR K (rI CMul fun i j => .int (i * j)) dMul := simI fun _ _ _ => .int _
theorem s_div : SimR K (rI CDiv fun i j => .int (i / j)) dDiv := simI fun _ _ _ => .int _
theorem s_mod : SimR K (rI (fun _ j => 0 < j) fun i j => .int (i % j)) dMod := simI fun _ _ _ => .int _
theorem s_lt : SimR K (rI0 fun i j => .bl (decide (i < j))) dLt := simI0 fun _ _ _ => .bl _
theorem s_le : SimR K (rI0 fun i j => .bl (decide (i ≤ j))) dLe := simI0 fun _ _ _ => .bl _
theorem s_gt : SimR K (rI0 fun i j => .bl (decide (j < i))) dGt := simI0 fun _ _ _ => .bl _
theorem s_ge : SimR K (rI0 fun i j => .bl (decide (j ≤ i))) dGe := simI0 fun _ _ _ => .bl _
abbrev dNeg : DR1 := dU fun i => .int (-i)
theorem s_neg : Sim1 K (rU fun i => .int (-i)) dNeg := simU fun _ _ => .int _
end

/-! ### == of scalars, is None -/
def dEqv (neg : Bool) (x : D) (y : D) (C : Cells) (P : DK) : Prop := match x, y with
  | .int i, .int j => P (.bl (neg ^^ decide (i = j))) C
  | .str i, .str j => P (.bl (neg ^^ decide (i = j))) C
  | .bl i, .bl j => P (.bl (neg ^^ decide (i = j))) C
  | .non, .non => P (.bl (neg ^^ true)) C
  | .non, .int _ => P (.bl (neg ^^ false)) C
  | .int _, .non => P (.bl (neg ^^ false)) C
  | .non, .str _ => P (.bl (neg ^^ false)) C
  | .str _, .non => P (.bl (neg ^^ false)) C
  | .non, .bl _ => P (.bl (neg ^^ false)) C
  | .bl _, .non => P (.bl (neg ^^ false)) C
  | .int _, .str _ => P (.bl (neg ^^ false)) C
  | .str _, .int _ => P (.bl (neg ^^ false)) C
  | _, _ => False
abbrev dEq := dEqv false
abbrev dNe := dEqv true
def dIsN (neg : Bool) (x : D) (y : D) (C : Cells) (P : DK) : Prop := match y with
  | .non => match x with
    | .non => P (.bl (neg ^^ true)) C
    | _ => P (.bl (neg ^^ false)) C
  | _ => False
section
variable {K : PySem.W.Frag}
theorem s_eq : SimR K rEq dEq := fun F C H x y dx dy P Q hs rx ry w k => by
  cases rx <;> cases ry <;> first
    | exact w.elim
    | (refine ⟨rfl, ?_⟩
       have z := k _ F H _ C (Ex.refl F) hs (.bl _) w
       simp only [reduceCtorEq, V.int.injEq, V.str.injEq, V.bl.injEq, decide_true, decide_false, Bool.false_xor] at z ⊢
       exact z)
theorem s_ne : SimR K rNe dNe := fun F C H x y dx dy P Q hs rx ry w k => by
  cases rx <;> cases ry <;> first
    | exact w.elim
    | (refine ⟨rfl, ?_⟩
       have z := k _ F H _ C (Ex.refl F) hs (.bl _) w
       simp only [reduceCtorEq, V.int.injEq, V.str.injEq, V.bl.injEq, decide_true, decide_false, Bool.true_xor] at z ⊢
       exact z)
theorem s_isN : SimR K (fun x y H Q => y = .non ∧ Q (.bl (decide (x = .non))) H) (dIsN false) := fun F C H x y dx dy P Q hs rx ry w k => by
  cases ry <;> first
    | exact w.elim
    | (refine ⟨rfl, ?_⟩
       cases rx <;>
       (have z := k _ F H _ C (Ex.refl F) hs (.bl _) w
        simp only [reduceCtorEq, decide_true, decide_false, Bool.false_xor] at z ⊢
        exact z))
theorem s_notN : SimR K (fun x y H Q => y = .non ∧ Q (.bl (!decide (x = .non))) H) (dIsN true) := fun F C H x y dx dy P Q hs rx ry w k => by
  cases ry <;> first
    | exact w.elim
    | (refine ⟨rfl, ?_⟩
       cases rx <;>
       (have z := k _ F H _ C (Ex.refl F) hs (.bl _) w
        simp only [reduceCtorEq, decide_true, decide_false, Bool.true_xor] at z ⊢
        exact z))
end

/-! ### tests -/
def wTest (e : DE) (ρ : DEnv) (C : Cells) (P : Bool → Cells → Prop) (PX : DX) : Prop := e ρ C (fun x C1 => match x with | .bl k => P k C1 | _ => False) PX
def wAnd (t u : DT) (ρ : DEnv) (C : Cells) (P : Bool → Cells → Prop) (PX : DX) : Prop := t ρ C (fun b C1 => if b = true then u ρ C1 P PX else P false C1) PX
def wOr (t u : DT) (ρ : DEnv) (C : Cells) (P : Bool → Cells → Prop) (PX : DX) : Prop := t ρ C (fun b C1 => if b = true then P true C1 else u ρ C1 P PX) PX
def wNot (t : DT) (ρ : DEnv) (C : Cells) (P : Bool → Cells → Prop) (PX : DX) : Prop := t ρ C (fun b C1 => P (!b) C1) PX
def wIf (t : DT) (a b : DE) (ρ : DEnv) (C : Cells) (P : DK) (PX : DX) : Prop := t ρ C (fun k C1 => if k = true then a ρ C1 P PX else b ρ C1 P PX) PX
section
variable {X : Cx} {W : WX} {K : PySem.W.Frag} {a b : Expr} {wa wb : DE} {pos : Pos} {t u : DT} {rest : List Expr}
theorem i_test {σ : L2.St} {H : Hp} {Q : Bool → Hp → Prop} (h : tT K W (wTest wa) σ H Q) : tE K W wa σ H fun x H' => ∃ k, x = .bl k ∧ Q k H' := by
  obtain ⟨F, C, ρ, P, PX, hs, en, xr, w, k⟩ := h
  refine ⟨F, C, ρ, _, PX, hs, en, xr, w, fun v F1 H1 d C1 e1 h1 r q => ?_⟩
  cases r <;> first | exact q.elim | exact ⟨_, rfl, k _ F1 H1 C1 e1 h1 q⟩
/-- a comparison as a test -/
theorem d_tcmp {op : CmpOp} {r : R2} {rd : DR2} (ho : OpR X (compareOp op) r) (hr : SimR X.K r rd) (ha : PE X a (tE X.K W wa)) (hb : PE X b (tE X.K W wb)) (hm : behindInMarks op b = false := by first | exact nobehind _ (by decide) (by decide) | rfl) :
    PT X (.Compare a [op] [b] pos) (tT X.K W (wTest (wOp rd wa wb))) := PT.imp (pt_cmpR ho ha hb hm) fun σ H Q h => by
  have z := i_test h
  obtain ⟨F, C, ρ, P, PX, hs, en, xr, w, k⟩ := z
  exact i_op hr ⟨F, C, ρ, P, PX, hs, en, xr, w, k⟩
/-- an expression that gives True or False, as a test -/
theorem d_tval {e : Expr} (h : PE X e (tE X.K W wa)) (he : ∀ whole, isTrue e X.env whole = (do let v ← whole; standAt e.pos; holding [v] (truthy v)) := by intro _; rfl) : PT X e (tT X.K W (wTest wa)) :=
  PT.imp (pt_val h he) fun _ _ _ => i_test
theorem i_and {σ : L2.St} {H : Hp} {Q : Bool → Hp → Prop} (h : tT K W (wAnd t u) σ H Q) : tAnd (tT K W t) (tT K W u) σ H Q := by
  obtain ⟨F, C, ρ, P, PX, hs, en, xr, w, k⟩ := h
  refine ⟨F, C, ρ, _, PX, hs, en, xr, w, fun b F1 H1 C1 e1 h1 q => ?_⟩
  cases b with
  | true =>
    rw [if_pos rfl] at q
    rw [if_pos rfl]
    exact ⟨F1, C1, ρ, P, PX, h1, en.mono e1, xr.mono e1, q, k.mono e1⟩
  | false =>
    rw [if_neg Bool.false_ne_true] at q
    rw [if_neg Bool.false_ne_true]
    exact k _ F1 H1 C1 e1 h1 q
theorem i_or {σ : L2.St} {H : Hp} {Q : Bool → Hp → Prop} (h : tT K W (wOr t u) σ H Q) : tOr (tT K W t) (tT K W u) σ H Q := by
  obtain ⟨F, C, ρ, P, PX, hs, en, xr, w, k⟩ := h
  refine ⟨F, C, ρ, _, PX, hs, en, xr, w, fun b F1 H1 C1 e1 h1 q => ?_⟩
  cases b with
  | false =>
    rw [if_neg Bool.false_ne_true] at q
    rw [if_neg Bool.false_ne_true]
    exact ⟨F1, C1, ρ, P, PX, h1, en.mono e1, xr.mono e1, q, k.mono e1⟩
  | true =>
    rw [if_pos rfl] at q
    rw [if_pos rfl]
    exact k _ F1 H1 C1 e1 h1 q
theorem d_and1 (ha : PT X a (tT X.K W t)) : PW X (.BoolOp .And [a] pos) (tT X.K W t) := pw_and1 ha
theorem d_or1 (ha : PT X a (tT X.K W t)) : PW X (.BoolOp .Or [a] pos) (tT X.K W t) := pw_or1 ha
theorem d_and (ha : PT X a (tT X.K W t)) (hb : PW X (.BoolOp .And (b :: rest) pos) (tT X.K W u)) : PW X (.BoolOp .And (a :: b :: rest) pos) (tT X.K W (wAnd t u)) := PW.imp (pw_and ha hb) fun _ _ _ => i_and
theorem d_or (ha : PT X a (tT X.K W t)) (hb : PW X (.BoolOp .Or (b :: rest) pos) (tT X.K W u)) : PW X (.BoolOp .Or (a :: b :: rest) pos) (tT X.K W (wOr t u)) := PW.imp (pw_or ha hb) fun _ _ _ => i_or
theorem d_not (ha : PT X a (tT X.K W t)) : PT X (.UnaryOp .Not a pos) (tT X.K W (wNot t)) := PT.imp (pt_not ha) fun σ H Q ⟨F, C, ρ, P, PX, hs, en, xr, w, k⟩ =>
  ⟨F, C, ρ, _, PX, hs, en, xr, w, fun b F1 H1 C1 e1 h1 q => k _ F1 H1 C1 e1 h1 q⟩
theorem d_ifE {c : Expr} (hc : PT X c (tT X.K W t)) (ha : PE X a (tE X.K W wa)) (hb : PE X b (tE X.K W wb)) : PE X (.IfExp c a b pos) (tE X.K W (wIf t wa wb)) := PE.imp (pe_ifExp hc ha hb) fun σ H Q ⟨F, C, ρ, P, PX, hs, en, xr, w, k⟩ =>
  ⟨F, C, ρ, _, PX, hs, en, xr, w, fun b F1 H1 C1 e1 h1 q => by
    cases b with
    | true =>
      rw [if_pos rfl] at q
      rw [if_pos rfl]
      exact ⟨F1, C1, ρ, P, PX, h1, en.mono e1, xr.mono e1, q, k.mono e1⟩
    | false =>
      rw [if_neg Bool.false_ne_true] at q
      rw [if_neg Bool.false_ne_true]
      exact ⟨F1, C1, ρ, P, PX, h1, en.mono e1, xr.mono e1, q, k.mono e1⟩⟩
/-- and, or, not as values of True and False -/
def wAndV (a b : DE) (ρ : DEnv) (C : Cells) (P : DK) (PX : DX) : Prop := a ρ C (fun x C1 => match x with | .bl k => if k = true then b ρ C1 P PX else P (.bl false) C1 | _ => False) PX
def wOrV (a b : DE) (ρ : DEnv) (C : Cells) (P : DK) (PX : DX) : Prop := a ρ C (fun x C1 => match x with | .bl k => if k = true then P (.bl true) C1 else b ρ C1 P PX | _ => False) PX
def wNotV (a : DE) (ρ : DEnv) (C : Cells) (P : DK) (PX : DX) : Prop := a ρ C (fun x C1 => match x with | .bl k => P (.bl (!k)) C1 | _ => False) PX
theorem d_one {op} (h : PE X a (tE X.K W wa)) : PE X (.BoolOp op [a] pos) (tE X.K W wa) := pe_one h
theorem d_andV (ha : PE X a (tE X.K W wa)) (hb : PE X (.BoolOp .And (b :: rest) pos) (tE X.K W wb)) : PE X (.BoolOp .And (a :: b :: rest) pos) (tE X.K W (wAndV wa wb)) := PE.imp (pe_and ha hb) fun σ H Q ⟨F, C, ρ, P, PX, hs, en, xr, w, k⟩ =>
  ⟨F, C, ρ, _, PX, hs, en, xr, w, fun v F1 H1 d C1 e1 h1 r q => by
    cases r <;> first | exact q.elim | skip
    rename_i b
    refine ⟨b, rfl, ?_⟩
    cases b with
    | true => exact ⟨F1, C1, ρ, P, PX, h1, en.mono e1, xr.mono e1, q, k.mono e1⟩
    | false => exact k _ F1 H1 _ C1 e1 h1 (.bl _) q⟩
theorem d_orV (ha : PE X a (tE X.K W wa)) (hb : PE X (.BoolOp .Or (b :: rest) pos) (tE X.K W wb)) : PE X (.BoolOp .Or (a :: b :: rest) pos) (tE X.K W (wOrV wa wb)) := PE.imp (pe_or ha hb) fun σ H Q ⟨F, C, ρ, P, PX, hs, en, xr, w, k⟩ =>
  ⟨F, C, ρ, _, PX, hs, en, xr, w, fun v F1 H1 d C1 e1 h1 r q => by
    cases r <;> first | exact q.elim | skip
    rename_i b
    refine ⟨b, rfl, ?_⟩
    cases b with
    | false => exact ⟨F1, C1, ρ, P, PX, h1, en.mono e1, xr.mono e1, q, k.mono e1⟩
    | true => exact k _ F1 H1 _ C1 e1 h1 (.bl _) q⟩
theorem d_notV (ha : PE X a (tE X.K W wa)) : PE X (.UnaryOp .Not a pos) (tE X.K W (wNotV wa)) := PE.imp (pe_not ha) fun σ H Q ⟨F, C, ρ, P, PX, hs, en, xr, w, k⟩ =>
  ⟨F, C, ρ, _, PX, hs, en, xr, w, fun v F1 H1 d C1 e1 h1 r q => by
    cases r <;> first | exact q.elim | skip
    exact ⟨_, rfl, k _ F1 H1 _ C1 e1 h1 (.bl _) q⟩⟩
end
/-- a < b < c -/
def wChain (r r' : DR2) (a b c : DE) (ρ : DEnv) (C : Cells) (P : DK) (PX : DX) : Prop := a ρ C (fun x C1 => b ρ C1 (fun y C2 => r x y C2 fun z C3 => match z with
  | .bl k => if k = true then c ρ C3 (fun u C4 => r' y u C4 P) PX else P (.bl false) C3
  | _ => False) PX) PX

/-! ### displays -/
def wTup (a : DA) (ρ : DEnv) (C : Cells) (P : DK) (PX : DX) : Prop := a ρ C (fun ds C1 => ds.length ≤ 100000 ∧ P (.tup ds) C1) PX
def wLst (a : DA) (ρ : DEnv) (C : Cells) (P : DK) (PX : DX) : Prop := a ρ C (fun ds C1 => ds.length ≤ 100000 ∧ P (.lst ds) C1) PX
/-- a list that is still to change -/
def wLstC (a : DA) (ρ : DEnv) (C : Cells) (P : DK) (PX : DX) : Prop := a ρ C (fun ds C1 => ds.length ≤ 100000 ∧ ∀ p, C1 p = none → P (.ptr p) (cput C1 p (.lst ds))) PX
theorem sz_of {n : Nat} (h : n ≤ 100000) : n ≤ sizeLine := Nat.le_trans h (by decide)
theorem sz_lt {n : Nat} (h : n < 100000) : n < sizeLine := Nat.lt_of_lt_of_le h (by decide)
section
variable {X : Cx} {W : WX} {K : PySem.W.Frag} {es : List Expr} {wr : DA} {pos : Pos}
theorem Hs.newL {F : Hp} {C : Cells} {H : Hp} {xs : List V} {ds : List D} (h : Hs K F C H) (r : RepL K F xs ds) {p : Addr} (hp : H p = none) : Ex F (upd F p (.lst xs)) ∧ Hs K (upd F p (.lst xs)) C (upd H p (.lst xs)) ∧ Rep K (upd F p (.lst xs)) (.ref p) (.lst ds) := by
  obtain ⟨e, h2⟩ := h.lay (o := .lst xs) hp
  exact ⟨e, h2, .lst (.of upd_same) (r.mono e)⟩
theorem Hs.newT {F : Hp} {C : Cells} {H : Hp} {xs : List V} {ds : List D} (h : Hs K F C H) (r : RepL K F xs ds) {p : Addr} (hp : H p = none) : Ex F (upd F p (.tup xs)) ∧ Hs K (upd F p (.tup xs)) C (upd H p (.tup xs)) ∧ Rep K (upd F p (.tup xs)) (.ref p) (.tup ds) := by
  obtain ⟨e, h2⟩ := h.lay (o := .tup xs) hp
  exact ⟨e, h2, .tup upd_same (r.mono e)⟩
theorem Hs.newC {F : Hp} {C : Cells} {H : Hp} {xs : List V} {ds : List D} (h : Hs K F C H) (r : RepL K F xs ds) {p : Addr} (hp : H p = none) : C p = none ∧ Hs K F (cput C p (.lst ds)) (upd H p (.lst xs)) :=
  ⟨(h.fresh hp).2, h.put (h.fresh hp).1 ⟨xs, upd_same, r⟩⟩
theorem d_tup {x1} (h : PA X es (tA X.K W wr)) : PE X (.Tuple es x1 pos) (tE X.K W (wTup wr)) := PE.imp (pe_tup h) fun σ H Q ⟨F, C, ρ, P, PX, hs, en, xr, w, k⟩ =>
  ⟨F, C, ρ, _, PX, hs, en, xr, w, fun vs F1 H1 ds C1 e1 h1 r q => ⟨by rw [r.length]; exact sz_of q.1, fun p hp => by
    obtain ⟨e2, h2, r2⟩ := h1.newT r hp
    exact k _ _ _ _ C1 (e1.trans e2) h2 r2 q.2⟩⟩
theorem d_lst (h : PA X es (tA X.K W wr)) : PE X (.List es pos) (tE X.K W (wLst wr)) := PE.imp (pe_lst h) fun σ H Q ⟨F, C, ρ, P, PX, hs, en, xr, w, k⟩ =>
  ⟨F, C, ρ, _, PX, hs, en, xr, w, fun vs F1 H1 ds C1 e1 h1 r q => ⟨by rw [r.length]; exact sz_of q.1, fun p hp => by
    obtain ⟨e2, h2, r2⟩ := h1.newL r hp
    exact k _ _ _ _ C1 (e1.trans e2) h2 r2 q.2⟩⟩
theorem d_lstC (h : PA X es (tA X.K W wr)) : PE X (.List es pos) (tE X.K W (wLstC wr)) := PE.imp (pe_lst h) fun σ H Q ⟨F, C, ρ, P, PX, hs, en, xr, w, k⟩ =>
  ⟨F, C, ρ, _, PX, hs, en, xr, w, fun vs F1 H1 ds C1 e1 h1 r q => ⟨by rw [r.length]; exact sz_of q.1, fun p hp => by
    obtain ⟨c0, h2⟩ := h1.newC r hp
    exact k _ _ _ _ _ e1 h2 (.ptr p) (q.2 p c0)⟩⟩
theorem d_chain {op op' : CmpOp} {r r' : R2} {rd rd' : DR2} {a b c : Expr} {wa wb wc : DE} (ho : OpR X (compareOp op) r) (hr : SimR X.K r rd) (ho' : OpR X (compareOp op') r') (hr' : SimR X.K r' rd')
    (h : PE X (.Compare a [op, op'] [b, c] pos) (tChain r r' (tE X.K W wa) (tE X.K W wb) (tE X.K W wc))) : PE X (.Compare a [op, op'] [b, c] pos) (tE X.K W (wChain rd rd' wa wb wc)) := PE.imp h fun σ H Q ⟨F, C, ρ, P, PX, hs, en, xr, w, k⟩ =>
  ⟨F, C, ρ, _, PX, hs, en, xr, w, fun v F1 H1 d C1 e1 h1 rd1 q => ⟨F1, C1, ρ, _, PX, h1, en.mono e1, xr.mono e1, q, fun u F2 H2 du C2 e2 h2 ru q2 => hr F2 C2 H2 v u d du _ _ h2 (rd1.mono e2) ru q2 fun z F3 H3 dz C3 e3 h3 rz q3 => by
    cases rz <;> first | exact q3.elim | skip
    rename_i b
    refine ⟨b, rfl, ?_⟩
    cases b with
    | true => exact ⟨F3, C3, ρ, _, PX, h3, en.mono ((e1.trans e2).trans e3), xr.mono ((e1.trans e2).trans e3), q3, fun u4 F4 H4 d4 C4 e4 h4 r4 q4 => hr' F4 C4 H4 u u4 du d4 P Q h4 (ru.mono (e3.trans e4)) r4 q4 (k.mono (((e1.trans e2).trans e3).trans e4))⟩
    | false => exact k _ F3 H3 _ C3 ((e1.trans e2).trans e3) h3 (.bl _) q3⟩⟩
end
end DD

set_option Elab.async false
set_option linter.all false
set_option maxRecDepth 100000
set_option maxHeartbeats 4000000
/-! Readings over data: statements, targets, loops. -/
namespace DD
open PySem L2 PyProof.Rows

section
variable {X : Cx} {W : WX} {K : PySem.W.Frag}
theorem i_chain {r r' : R2} {rd rd' : DR2} {wa wb wc : DE} (hr : SimR K r rd) (hr' : SimR K r' rd') {σ : L2.St} {H : Hp} {Q : VK} (h : tE K W (wChain rd rd' wa wb wc) σ H Q) : tChain r r' (tE K W wa) (tE K W wb) (tE K W wc) σ H Q := by
  obtain ⟨F, C, ρ, P, PX, hs, en, xr, w, k⟩ := h
  exact ⟨F, C, ρ, _, PX, hs, en, xr, w, fun v F1 H1 d C1 e1 h1 rd1 q => ⟨F1, C1, ρ, _, PX, h1, en.mono e1, xr.mono e1, q, fun u F2 H2 du C2 e2 h2 ru q2 => hr F2 C2 H2 v u d du _ _ h2 (rd1.mono e2) ru q2 fun z F3 H3 dz C3 e3 h3 rz q3 => by
    cases rz <;> first | exact q3.elim | skip
    rename_i b
    refine ⟨b, rfl, ?_⟩
    cases b with
    | true => exact ⟨F3, C3, ρ, _, PX, h3, en.mono ((e1.trans e2).trans e3), xr.mono ((e1.trans e2).trans e3), q3, fun u4 F4 H4 d4 C4 e4 h4 r4 q4 => hr' F4 C4 H4 u u4 du d4 P Q h4 (ru.mono (e3.trans e4)) r4 q4 (k.mono (((e1.trans e2).trans e3).trans e4))⟩
    | false => exact k _ F3 H3 _ C3 ((e1.trans e2).trans e3) h3 (.bl _) q3⟩⟩
theorem d_chainE {op op' : CmpOp} {r r' : R2} {rd rd' : DR2} {a b c : Expr} {wa wb wc : DE} {pos : Pos} (ho : OpR X (compareOp op) r) (hr : SimR X.K r rd) (ho' : OpR X (compareOp op') r') (hr' : SimR X.K r' rd') (ha : PE X a (tE X.K W wa)) (hb : PE X b (tE X.K W wb)) (hc : PE X c (tE X.K W wc))
    (hm : lastMarks [op, op'] [b, c] = false := by with_unfolding_all rfl) : PE X (.Compare a [op, op'] [b, c] pos) (tE X.K W (wChain rd rd' wa wb wc)) := PE.imp (pe_chain ho ho' ha hb hc hm) fun _ _ _ => i_chain hr hr'
theorem d_chainT {op op' : CmpOp} {r r' : R2} {rd rd' : DR2} {a b c : Expr} {wa wb wc : DE} {pos : Pos} (ho : OpR X (compareOp op) r) (hr : SimR X.K r rd) (ho' : OpR X (compareOp op') r') (hr' : SimR X.K r' rd') (ha : PE X a (tE X.K W wa)) (hb : PE X b (tE X.K W wb)) (hc : PE X c (tE X.K W wc))
    (hm : lastMarks [op, op'] [b, c] = false := by with_unfolding_all rfl) : PT X (.Compare a [op, op'] [b, c] pos) (tT X.K W (wTest (wChain rd rd' wa wb wc))) := PT.imp (pt_chain ho ho' ha hb hc hm) fun σ H Q h => by
  obtain ⟨F, C, ρ, P, PX, hs, en, xr, w, k⟩ := i_test h
  exact i_chain hr hr' ⟨F, C, ρ, P, PX, hs, en, xr, w, k⟩
end

/-! ### statements -/
def KontS (K : PySem.W.Frag) (F : Hp) (P : DEnv → Cells → Prop) (Q : L2.St → Hp → Prop) : Prop := ∀ σ F' H ρ C, Ex F F' → Hs K F' C H → EnvR K F' σ ρ → P ρ C → Q σ H
theorem KontS.mono {K : PySem.W.Frag} {F F' : Hp} {P : DEnv → Cells → Prop} {Q : L2.St → Hp → Prop} (e : Ex F F') (h : KontS K F P Q) : KontS K F' P Q := fun σ F1 H ρ C e1 => h σ F1 H ρ C (e.trans e1)
structure EndsR (K : PySem.W.Frag) (F : Hp) (DE : DEnds) (D : Ends) : Prop where
  nx : KontS K F DE.nx D.nx
  rt : Kont K F DE.rt D.rt
  bk : KontS K F DE.bk D.bk
  ct : KontS K F DE.ct D.ct
theorem EndsR.mono {K : PySem.W.Frag} {F F' : Hp} {DE : DEnds} {D : Ends} (e : Ex F F') (h : EndsR K F DE D) : EndsR K F' DE D := ⟨h.nx.mono e, h.rt.mono e, h.bk.mono e, h.ct.mono e⟩
def tS (K : PySem.W.Frag) (W : WX) (w : DS) : TS := fun D σ H => ∃ F C ρ DE, Hs K F C H ∧ EnvR K F σ ρ ∧ ExR K F W DE.ex ∧ w DE ρ C ∧ EndsR K F DE D

def wNext (E : DEnds) (ρ : DEnv) (C : Cells) : Prop := E.nx ρ C
def wSeq (a b : DS) (E : DEnds) (ρ : DEnv) (C : Cells) : Prop := a { E with nx := fun ρ' C' => b E ρ' C' } ρ C
/-- the same, a place to stop at -/
def wSeqL (a b : DS) (E : DEnds) (ρ : DEnv) (C : Cells) : Prop := a { E with nx := fun ρ' C' => b E ρ' C' } ρ C
def wBreak (E : DEnds) (ρ : DEnv) (C : Cells) : Prop := E.bk ρ C
def wCont (E : DEnds) (ρ : DEnv) (C : Cells) : Prop := E.ct ρ C
def wDrop (e : DE) (E : DEnds) (ρ : DEnv) (C : Cells) : Prop := e ρ C (fun _ C1 => E.nx ρ C1) E.ex
def wRet (e : DE) (E : DEnds) (ρ : DEnv) (C : Cells) : Prop := e ρ C E.rt E.ex
def wRetN (E : DEnds) (_ : DEnv) (C : Cells) : Prop := E.rt .non C
def wIfS (t : DT) (a b : DS) (E : DEnds) (ρ : DEnv) (C : Cells) : Prop := t ρ C (fun k C1 => if k = true then a E ρ C1 else b E ρ C1) E.ex
/-- a list that was built, handed back: it does not change any more -/
def wRetF (e : DE) (E : DEnds) (ρ : DEnv) (C : Cells) : Prop := e ρ C (fun d C1 => match d with
  | .ptr p => match C1 p with
    | some (.lst ds) => ∃ C2, Sub C2 C1 ∧ C2 p = none ∧ E.rt (.lst ds) C2
    | some (.dK kvs) => ∃ C2, Sub C2 C1 ∧ C2 p = none ∧ E.rt (.dK kvs) C2
    | some (.dT kvs) => ∃ C2, Sub C2 C1 ∧ C2 p = none ∧ E.rt (.dT kvs) C2
    | some (.ins Cl fs) => ∃ C2, Sub C2 C1 ∧ C2 p = none ∧ E.rt (.ins Cl fs) C2
    | _ => False
  | d => E.rt d C1) E.ex
/-- a cell that does not change any more: what the name at i holds is data from here on -/
def wFrz (i : Nat) (E : DEnds) (ρ : DEnv) (C : Cells) : Prop := match (ρ[i]? : Option (Option D)) with
  | some (some (.ptr p)) => match C p with
    | some (.lst ds) => ∃ C2, Sub C2 C ∧ C2 p = none ∧ E.nx (ρ.set i (some (.lst ds))) C2
    | some (.dK kvs) => ∃ C2, Sub C2 C ∧ C2 p = none ∧ E.nx (ρ.set i (some (.dK kvs))) C2
    | some (.dT kvs) => ∃ C2, Sub C2 C ∧ C2 p = none ∧ E.nx (ρ.set i (some (.dT kvs))) C2
    | some (.ins Cl fs) => ∃ C2, Sub C2 C ∧ C2 p = none ∧ E.nx (ρ.set i (some (.ins Cl fs))) C2
    | _ => False
  | _ => False
/-- a cell's content as data -/
def Cell.toD : Cell → D
  | .lst ds => .lst ds
  | .ins C fs => .ins C fs
  | .dK kvs => .dK kvs
  | .dT kvs => .dT kvs
  | .lK kvs _ _ => .dK kvs
  | .lT kvs _ _ => .dT kvs
section
variable {X : Cx} {W : WX} {K : PySem.W.Frag} {st : Stmt} {rest : List Stmt} {a b : DS} {e : Expr} {we : DE} {t : DT} {pos : Pos}
theorem ds_nil : PSs X [] (tS X.K W wNext) := PSs.imp pss_nil fun D σ H ⟨F, C, ρ, DE, hs, en, xr, w, er⟩ => er.nx σ F H ρ C (Ex.refl F) hs en w
theorem ds_cons (h1 : PS X st (tS X.K W a)) (h2 : PSs X rest (tS X.K W b)) : PSs X (st :: rest) (tS X.K W (wSeq a b)) := PSs.imp (pss_cons h1 h2) fun D σ H ⟨F, C, ρ, DE, hs, en, xr, w, er⟩ =>
  ⟨F, C, ρ, { DE with nx := fun ρ' C' => b DE ρ' C' }, hs, en, xr, w, ⟨fun σ1 F1 H1 ρ1 C1 e1 h1 n1 q => ⟨F1, C1, ρ1, DE, h1, n1, xr.mono e1, q, er.mono e1⟩, er.rt, er.bk, er.ct⟩⟩
theorem ds_consL (h1 : PS X st (tS X.K W a)) (h2 : PSs X rest (tS X.K W b)) : PSs X (st :: rest) (tS X.K W (wSeqL a b)) := ds_cons h1 h2
theorem ds_one (h1 : PS X st (tS X.K W a)) : PSs X [st] (tS X.K W a) := pss_one h1
theorem ds_pass : PS X (.Pass pos) (tS X.K W wNext) := PS.imp ps_pass fun D σ H ⟨F, C, ρ, DE, hs, en, xr, w, er⟩ => er.nx σ F H ρ C (Ex.refl F) hs en w
theorem ds_break : PS X (.Break pos) (tS X.K W wBreak) := PS.imp ps_break fun D σ H ⟨F, C, ρ, DE, hs, en, xr, w, er⟩ => er.bk σ F H ρ C (Ex.refl F) hs en w
theorem ds_continue : PS X (.Continue pos) (tS X.K W wCont) := PS.imp ps_continue fun D σ H ⟨F, C, ρ, DE, hs, en, xr, w, er⟩ => er.ct σ F H ρ C (Ex.refl F) hs en w
theorem ds_doc {x j pos'} : PS X (.Expr (.Constant (.str x) j pos) pos') (tS X.K W wNext) := PS.imp ps_doc fun D σ H ⟨F, C, ρ, DE, hs, en, xr, w, er⟩ => er.nx σ F H ρ C (Ex.refl F) hs en w
theorem ds_expr (he : PE X e (tE X.K W we)) (hs : swapsWith e none pos.line X.env = pure false := by rfl) : PS X (.Expr e pos) (tS X.K W (wDrop we)) := PS.imp (ps_expr he hs) fun D σ H ⟨F, C, ρ, DE, hs, en, xr, w, er⟩ =>
  ⟨F, C, ρ, _, _, hs, en, xr, w, fun v F1 H1 d C1 e1 h1 r q => er.nx σ F1 H1 ρ C1 e1 h1 (en.mono e1) q⟩
theorem ds_ret (he : PE X e (tE X.K W we)) : PS X (.Return (some e) pos) (tS X.K W (wRet we)) := PS.imp (ps_ret he) fun D σ H ⟨F, C, ρ, DE, hs, en, xr, w, er⟩ => ⟨F, C, ρ, _, _, hs, en, xr, w, er.rt⟩
theorem ds_retN : PS X (.Return none pos) (tS X.K W wRetN) := PS.imp ps_retN fun D σ H ⟨F, C, ρ, DE, hs, en, xr, w, er⟩ => er.rt _ F H _ C (Ex.refl F) hs .non w
/-- a dict that is not to change any more is locked for good -/
def Fz (Q : Hp → Prop) (H : Hp) : Prop := Q H ∨ ∃ d u, H d = some u ∧ Mut (some u) ∧ ∀ od, Q (upd H d (.frz od u))
theorem ps_fz {t : TS} (h : PS X st t) : PS X st (fun D σ H => t { D with rt := fun v H' => Fz (D.rt v) H' } σ H) := ⟨fun pins s σ H D I w => by
  refine thn (h.run pins s σ H _ I w) fun f s1 q => ?_
  cases f with
  | next => exact q
  | brk => exact q
  | cont => exact q
  | ret v =>
    obtain ⟨x, σ', H', I2, r, q⟩ := q
    rcases q with q | ⟨d, u, hd, mu, q⟩
    · exact ⟨x, σ', H', I2, r, q⟩
    · obtain ⟨od, I3⟩ := I2.lock hd mu
      exact ⟨x, σ', _, I3, r, q od⟩⟩
theorem pe_fz {t : TE} (h : PE X e t) : PE X e (fun σ H Q => t σ H fun v H' => Fz (Q v) H') := ⟨fun pins s σ H Q I w => by
  refine thn (h.run pins s σ H _ I w) fun u s1 ⟨x, H1, I1, rx, q⟩ => ?_
  rcases q with q | ⟨d, o, hd, mu, q⟩
  · exact ⟨x, H1, I1, rx, q⟩
  · obtain ⟨od, I3⟩ := I1.lock hd mu
    exact ⟨x, _, I3, rx, q od⟩⟩
theorem pss_fz {t : TS} (h : PSs X rest t) : PSs X rest (fun D σ H => Fz (t D σ) H) := ⟨fun pins s σ H D I w => by
  rcases w with w | ⟨d, u, hd, mu, w⟩
  · exact h.run pins s σ H D I w
  · obtain ⟨od, I3⟩ := I.lock hd mu
    exact h.run pins s σ _ D I3 (w od)⟩
theorem frz_go {F H : Hp} {C C2 : Cells} {p : Addr} {c : Cell} (h : Hs K F C H) (e : C p = some c) (s : Sub C2 C) (n : C2 p = none) (hc : match c with | .dK _ => False | .dT _ => False | _ => True) :
    ∃ F2, Ex F F2 ∧ Hs K F2 C2 H ∧ Rep K F2 (.ref p) c.toD := by
  obtain ⟨o, ho, ex, h2, f, r⟩ := h.freeze e s n
  refine ⟨_, ex, h2, ?_⟩
  have r := r.ex ex
  cases c with
  | lst ds => obtain ⟨xs, q, r⟩ := r; rw [ho] at q; cases q; exact .lst (.of f) r
  | ins _ ds => obtain ⟨dx, xs, q, r⟩ := r; rw [ho] at q; cases q; exact .ins f r
  | lK ds od vs => obtain ⟨q, r⟩ := r; rw [ho] at q; cases q; exact .dK f r
  | lT ds od vs => obtain ⟨q, r⟩ := r; rw [ho] at q; cases q; exact .dT f r
  | dK ds => exact hc.elim
  | dT ds => exact hc.elim
theorem frz_dic {F H : Hp} {C C2 : Cells} {p : Addr} {o : HO} (h : Hs K F C H) (f0 : F p = none) (s : Sub C2 C) (n : C2 p = none) (od : Obj) : Ex F (upd F p (.frz od o)) ∧ Hs K (upd F p (.frz od o)) C2 (upd H p (.frz od o)) := by
  refine ⟨Ex.new f0, fun a u q => ?_, fun a d q => ?_⟩
  · by_cases z : a = p
    · subst z; rw [upd_same] at q ⊢; exact .inl q
    · rw [upd_ne z] at q ⊢; exact h.ex a u q
  · have z : a ≠ p := cell_ne q n
    obtain ⟨f1, r1⟩ := h.cell a d (s a d q)
    exact ⟨by rw [upd_ne z]; exact f1, (r1.ex (Ex.new f0)).at (upd_ne z)⟩
/-- a cell handed on as data: as it is, or locked -/
theorem frz_any {F H : Hp} {C C2 : Cells} {p : Addr} {c : Cell} (h : Hs K F C H) (e : C p = some c) (s : Sub C2 C) (n : C2 p = none) {Q : Hp → Prop} (k : ∀ F2 H2, Ex F F2 → Hs K F2 C2 H2 → Rep K F2 (.ref p) c.toD → Q H2) : Fz Q H := by
  cases c with
  | dK t =>
    obtain ⟨f0, vs, h1, h2⟩ := h.cell p _ e
    refine .inr ⟨p, _, h1, trivial, fun od => ?_⟩
    obtain ⟨e2, h3⟩ := frz_dic (o := .dK vs) h f0 s n od
    exact k _ _ e2 h3 (.dK upd_same (h2.mono e2))
  | dT t =>
    obtain ⟨f0, vs, h1, h2⟩ := h.cell p _ e
    refine .inr ⟨p, _, h1, trivial, fun od => ?_⟩
    obtain ⟨e2, h3⟩ := frz_dic (o := .dT vs) h f0 s n od
    exact k _ _ e2 h3 (.dT upd_same (h2.mono e2))
  | _ =>
    obtain ⟨F2, e2, h2, r2⟩ := frz_go h e s n trivial
    exact .inl (k F2 H e2 h2 r2)
theorem ds_retF (he : PE X e (tE X.K W we)) : PS X (.Return (some e) pos) (tS X.K W (wRetF we)) := PS.imp (ps_fz (ps_ret he)) fun D σ H ⟨F, C, ρ, DE, hs, en, xr, w, er⟩ => ⟨F, C, ρ, _, _, hs, en, xr, w, fun v F1 H1 d C1 e1 h1 r q => by
    cases r <;> first
      | (exact .inl (er.rt _ F1 H1 _ C1 e1 h1 (by constructor <;> assumption) q))
      | (rename_i p
         revert q
         show (match C1 p with | some (.lst ds) => _ | some (.dK ds) => _ | some (.dT ds) => _ | some (.ins Cl ds) => _ | _ => False) → _
         cases ec : C1 p with
         | none => exact fun z => z.elim
         | some c =>
           cases c <;> first | exact fun z => z.elim |
           (rintro ⟨C2, s2, n2, q⟩
            exact frz_any h1 ec s2 n2 fun F2 H2 e2 h2 r2 => er.rt _ F2 H2 _ C2 (e1.trans e2) h2 r2 q))⟩
theorem ds_frz {w : DS} (h : PSs X rest (tS X.K W w)) (i : Nat) : PSs X rest (tS X.K W (wSeq (wFrz i) w)) := PSs.imp (pss_fz h) fun Dn σ H ⟨F, C, ρ, DE, hs, en, xr, q, er⟩ => by
  revert q
  show (match (ρ[i]? : Option (Option D)) with | some (some (.ptr p)) => _ | _ => False) → _
  split
  · rename_i p hp
    obtain ⟨v, hv, rv⟩ := en.2 i _ hp
    cases rv
    show (match C p with | some (.lst ds) => _ | some (.dK ds) => _ | some (.dT ds) => _ | some (.ins Cl ds) => _ | _ => False) → _
    cases ec : C p with
    | none => exact fun z => z.elim
    | some c =>
      cases c <;> first | exact fun z => z.elim |
      (rintro ⟨C2, s2, n2, q⟩
       refine frz_any hs ec s2 n2 fun F2 H2 e2 h2 r2 => ?_
       have en2 := (en.mono e2).set (i := i) r2
       have es : σ.set i (some (.ref p)) = σ := by
         refine List.ext_getElem? fun j => ?_
         by_cases ij : i = j
         · subst ij
           have hl : i < σ.length := by
             rcases Nat.lt_or_ge i σ.length with z | z
             · exact z
             · rw [List.getElem?_eq_none z] at hv; cases hv
           rw [List.getElem?_set_self hl, hv]
         · rw [List.getElem?_set_ne ij]
       rw [es] at en2
       exact ⟨F2, C2, _, DE, h2, en2, xr.mono e2, q, er.mono e2⟩)
  · exact fun z => z.elim
theorem ds_if {c : Expr} {p q : List Stmt} (hc : PT X c (tT X.K W t)) (ha : PSs X p (tS X.K W a)) (hb : PSs X q (tS X.K W b)) : PS X (.If c p q pos) (tS X.K W (wIfS t a b)) := PS.imp (ps_if hc ha hb) fun D σ H ⟨F, C, ρ, DE, hs, en, xr, w, er⟩ =>
  ⟨F, C, ρ, _, _, hs, en, xr, w, fun k F1 H1 C1 e1 h1 q => by
    cases k with
    | true =>
      rw [if_pos rfl] at q
      rw [if_pos rfl]
      exact ⟨F1, C1, ρ, DE, h1, en.mono e1, xr.mono e1, q, er.mono e1⟩
    | false =>
      rw [if_neg Bool.false_ne_true] at q
      rw [if_neg Bool.false_ne_true]
      exact ⟨F1, C1, ρ, DE, h1, en.mono e1, xr.mono e1, q, er.mono e1⟩⟩
end

/-! ### targets -/
inductive Tgt where
  | name (i : Nat)
  | tup (ts : List Tgt)
mutual
def Tgt.tg (K : PySem.W.Frag) : Tgt → TG
  | .name i => gName i
  | .tup ts => gTup K ts.length (tgs K ts)
def tgs (K : PySem.W.Frag) : List Tgt → TGs
  | [] => gNil
  | t :: r => gCons (t.tg K) (tgs K r)
end
mutual
def Tgt.dg : Tgt → D → DEnv → Option DEnv
  | .name i, d, ρ => some (ρ.set i (some d))
  | .tup ts, d, ρ => match d with
    | .tup ds => dgs ts ds ρ
    | .ktup ds => dgs ts ds ρ
    | _ => none
def dgs : List Tgt → List D → DEnv → Option DEnv
  | [], ds, ρ => match ds with
    | [] => some ρ
    | _ => none
  | t :: r, ds, ρ => match ds with
    | d :: ds => match t.dg d ρ with
      | some ρ' => dgs r ds ρ'
      | none => none
    | [] => none
end
mutual
def Tgt.slots : Tgt → List Nat
  | .name i => [i]
  | .tup ts => slotsAll ts
def slotsAll : List Tgt → List Nat
  | [] => []
  | t :: r => t.slots ++ slotsAll r
end
theorem wipe_at (σ : L2.St) : ∀ (vs : List Nat) (j : Nat), (wipe σ vs)[j]? = if j ∈ vs then (σ[j]?).map (fun _ => none) else σ[j]?
  | [], j => by simp [wipe]
  | v :: vs, j => by
    show ((wipe σ vs).set v none)[j]? = _
    rw [List.getElem?_set, wipe_at σ vs j, wipe_length]
    by_cases h : v = j
    · subst h
      rw [if_pos rfl, if_pos (List.mem_cons_self)]
      by_cases hl : v < σ.length
      · rw [if_pos hl, List.getElem?_eq_getElem hl]; rfl
      · rw [if_neg hl, List.getElem?_eq_none (by omega)]; rfl
    · rw [if_neg h]
      by_cases hm : j ∈ vs
      · rw [if_pos hm, if_pos (List.mem_cons_of_mem _ hm)]
      · rw [if_neg hm, if_neg (by simp only [List.mem_cons, not_or]; exact ⟨fun e => h e.symm, hm⟩)]
theorem wipe_set {σ : L2.St} {vs : List Nat} {i : Nat} {x : Option V} (h : i ∈ vs) : wipe (σ.set i x) vs = wipe σ vs := by
  refine List.ext_getElem? fun j => ?_
  rw [wipe_at, wipe_at]
  by_cases hj : j ∈ vs
  · rw [if_pos hj, if_pos hj, List.getElem?_set]
    by_cases e : i = j
    · subst e
      rw [if_pos rfl]
      by_cases hl : i < σ.length
      · rw [if_pos hl, List.getElem?_eq_getElem hl]; rfl
      · rw [if_neg hl, List.getElem?_eq_none (by omega)]
    · rw [if_neg e]
  · rw [if_neg hj, if_neg hj, List.getElem?_set_ne (fun e => hj (by rw [← e]; exact h))]
theorem wipe_wipe (σ : L2.St) (vs : List Nat) : wipe (wipe σ vs) vs = wipe σ vs := by
  refine List.ext_getElem? fun j => ?_
  rw [wipe_at, wipe_at]
  by_cases hj : j ∈ vs
  · rw [if_pos hj, if_pos hj]
    cases σ[j]? <;> rfl
  · rw [if_neg hj, if_neg hj]
section
variable {K : PySem.W.Frag} {F H : Hp}
mutual
theorem tg_ok {Q : L2.St → Hp → Prop} : ∀ (t : Tgt) {v : V} {d : D} {σ : L2.St} {ρ ρ' : DEnv}, Ex F H → Rep K F v d → EnvR K F σ ρ → t.dg d ρ = some ρ' → (∀ σ', EnvR K F σ' ρ' → (∀ vs, (∀ i ∈ t.slots, i ∈ vs) → wipe σ' vs = wipe σ vs) → Q σ' H) → (t.tg K) v σ H Q
  | .name i, v, d, σ, ρ, ρ', ex, r, en, h, k => by
    simp only [Tgt.dg, Option.some.injEq] at h
    subst h
    show Q (σ.set i (some v)) H
    exact k _ (en.set r) fun vs hv => wipe_set (hv i (by simp [Tgt.slots]))
  | .tup ts, v, d, σ, ρ, ρ', ex, r, en, h, k => by
    simp only [Tgt.dg] at h
    cases r <;> first | (simp at h; done) | skip
    · rename_i a xs ds hq hr
      simp only at h
      simp only [Tgt.tg]
      refine ⟨a, xs, rfl, .of (ex.nd hq rfl), ?_, tgs_ok ts ex hr en h (fun σ' e' hw => k σ' e' (by simpa only [Tgt.slots] using hw))⟩
      rw [hr.length]
      exact dgs_len ts h
    · rename_i a xs ds hq hr
      simp only at h
      simp only [Tgt.tg]
      refine ⟨a, xs, rfl, ex_t ex hq, ?_, tgs_ok ts ex hr en h (fun σ' e' hw => k σ' e' (by simpa only [Tgt.slots] using hw))⟩
      rw [hr.length]
      exact dgs_len ts h
theorem tgs_ok {Q : L2.St → Hp → Prop} : ∀ (ts : List Tgt) {vs : List V} {ds : List D} {σ : L2.St} {ρ ρ' : DEnv}, Ex F H → RepL K F vs ds → EnvR K F σ ρ → dgs ts ds ρ = some ρ' → (∀ σ', EnvR K F σ' ρ' → (∀ ws, (∀ i ∈ slotsAll ts, i ∈ ws) → wipe σ' ws = wipe σ ws) → Q σ' H) → (tgs K ts) vs σ H Q
  | [], vs, ds, σ, ρ, ρ', ex, r, en, h, k => by
    cases r with
    | nil =>
      simp only [dgs, Option.some.injEq] at h
      subst h
      simp only [tgs]
      exact ⟨rfl, k σ en fun _ _ => rfl⟩
    | cons _ _ => simp [dgs] at h
  | t :: rest, vs, ds, σ, ρ, ρ', ex, r, en, h, k => by
    cases r with
    | nil => simp [dgs] at h
    | cons r1 r2 =>
      simp only [dgs] at h
      split at h
      · rename_i ρ1 h1
        simp only [tgs]
        refine ⟨_, _, rfl, tg_ok t ex r1 en h1 fun σ1 en1 hw1 => tgs_ok rest ex r2 en1 h fun σ2 en2 hw2 => k σ2 en2 fun ws hin => ?_⟩
        simp only [slotsAll, List.mem_append] at hin
        rw [hw2 ws (fun i hi => hin i (.inr hi)), hw1 ws (fun i hi => hin i (.inl hi))]
      · cases h
theorem dgs_len : ∀ (ts : List Tgt) {ds : List D} {ρ ρ' : DEnv}, dgs ts ds ρ = some ρ' → ds.length = ts.length
  | [], ds, ρ, ρ', h => by
    cases ds with
    | nil => rfl
    | cons _ _ => simp [dgs] at h
  | t :: rest, ds, ρ, ρ', h => by
    cases ds with
    | nil => simp [dgs] at h
    | cons d ds =>
      simp only [dgs] at h
      split at h
      · exact congrArg (· + 1) (dgs_len rest h)
      · cases h
end
end
section
variable {X : Cx} {pos : Pos}
theorem dg_name {x : Str} (i : Nat) (hN : X.N.Nodup) (hi : X.N[i]? = some x := by rfl) (hx : Loc X.env.scope x := by first | exact Or.inl rfl | exact Or.inr rfl) (hf : X.fn x = true ∨ X.env.scope.names.lookup x = some .local := by first | exact .inl rfl | exact .inr rfl | assumption) : PG X (.Name x pos) (Tgt.tg X.K (.name i)) := by
  simp only [Tgt.tg]
  exact pg_name hN hi hx hf
theorem dgs_nil : PGs X [] (tgs X.K []) := by
  simp only [tgs]
  exact pgs_nil
theorem dgs_cons {e : Expr} {es : List Expr} {t : Tgt} {r : List Tgt} (h1 : PG X e (t.tg X.K)) (h2 : PGs X es (tgs X.K r))
    (hs : (assignEach (e :: es) X.env).map (·.2) = assign e X.env :: (assignEach es X.env).map (·.2) := by rfl) : PGs X (e :: es) (tgs X.K (t :: r)) := by
  simp only [tgs]
  exact pgs_cons h1 h2 hs
theorem dg_tup {es : List Expr} {k : Nat} {ts : List Tgt} (hc : X.calm = true) (h : PGs X es (tgs X.K ts))
    (hn : (assignEach es X.env).length = ts.length := by rfl) (hst : (assignEach es X.env).findIdx? (·.1) = none := by rfl) : PG X (.Tuple es k pos) (Tgt.tg X.K (.tup ts)) := by
  simp only [Tgt.tg]
  exact pg_tup hc h hn hst
end
/-- target = e -/
def wAsg (e : DE) (t : Tgt) (E : DEnds) (ρ : DEnv) (C : Cells) : Prop := e ρ C (fun d C1 => match t.dg d ρ with | some ρ' => E.nx ρ' C1 | none => False) E.ex
def wSet (i : Nat) (e : DE) (E : DEnds) (ρ : DEnv) (C : Cells) : Prop := e ρ C (fun d C1 => E.nx (ρ.set i (some d)) C1) E.ex
/-- name op= e -/
def wAug (i : Nat) (e : DE) (r : DR2) (E : DEnds) (ρ : DEnv) (C : Cells) : Prop := match (ρ[i]? : Option (Option D)) with
  | some (some x) => e ρ C (fun y C1 => r x y C1 (fun z C2 => E.nx (ρ.set i (some z)) C2)) E.ex
  | _ => False
section
variable {X : Cx} {W : WX} {K : PySem.W.Frag} {e : Expr} {we : DE} {pos : Pos}
theorem ds_asg {tg : Expr} {t : Tgt} (he : PE X e (tE X.K W we)) (hg : PG X tg (t.tg X.K)) (hs : swapsWithSole [tg] e pos.line X.env = pure false := by rfl) (hw : swappedStores [tg] e X.env = pure none := by rfl)
    (h1 : (assignEach [tg] X.env).map (·.2) = [assign tg X.env] := by rfl) : PS X (.Assign [tg] e pos) (tS X.K W (wAsg we t)) := PS.imp (ps_asg he hg hs hw h1) fun D σ H ⟨F, C, ρ, DE, hs, en, xr, w, er⟩ =>
  ⟨F, C, ρ, _, _, hs, en, xr, w, fun v F1 H1 d C1 e1 h1 r q => by
    revert q
    dsimp only
    split
    · rename_i ρ' hd
      exact fun q => tg_ok t h1.ex r (en.mono e1) hd fun σ' en' _ => er.nx σ' F1 H1 ρ' C1 e1 h1 en' q
    · exact fun z => z.elim⟩
/-- name = e -/
theorem ds_set (i : Nat) {x : Str} {pos' : Pos} (hN : X.N.Nodup) (he : PE X e (tE X.K W we)) (hi : X.N[i]? = some x := by rfl) (hx : Loc X.env.scope x := by first | exact Or.inl rfl | exact Or.inr rfl) (hs : swapsWith e (some (.Name x pos')) pos.line X.env = pure false := by rfl) (hf : X.fn x = true ∨ X.env.scope.names.lookup x = some .local := by first | exact .inl rfl | exact .inr rfl | assumption) :
    PS X (.Assign [.Name x pos'] e pos) (tS X.K W (wSet i we)) := PS.imp (ps_set hN hi hx he hs hf) fun D σ H ⟨F, C, ρ, DE, hs, en, xr, w, er⟩ =>
  ⟨F, C, ρ, _, _, hs, en, xr, w, fun v F1 H1 d C1 e1 h1 r q => er.nx _ F1 H1 _ C1 e1 h1 ((en.mono e1).set r) q⟩
theorem ds_aug (i : Nat) {x : Str} {op : Operator} {ti : TIp} {rd : DR2} {pos' : Pos} (hN : X.N.Nodup) (ho : PIp X op ti) (hr : SimR X.K ti rd) (he : PE X e (tE X.K W we)) (hi : X.N[i]? = some x := by rfl) (hx : Loc X.env.scope x := by first | exact Or.inl rfl | exact Or.inr rfl) (hf : X.fn x = true ∨ X.env.scope.names.lookup x = some .local := by first | exact .inl rfl | exact .inr rfl | assumption) :
    PS X (.AugAssign (.Name x pos') op e pos) (tS X.K W (wAug i we rd)) := PS.imp (ps_aug hN hi hx he ho hf) fun Dn σ H ⟨F, C, ρ, DE, hs, en, xr, w, er⟩ => by
  revert w
  show (match (ρ[i]? : Option (Option D)) with | some (some x) => _ | _ => False) → _
  split
  · rename_i x hx
    intro w
    obtain ⟨v, hv, rv⟩ := en.2 i _ hx
    exact ⟨v, hv, F, C, ρ, _, _, hs, en, xr, w, fun u F1 H1 d C1 e1 h1 r q => hr F1 C1 H1 v u x d _ _ h1 (rv.mono e1) r q fun z F2 H2 dz C2 e2 h2 rz q2 => er.nx _ F2 H2 _ C2 (e1.trans e2) h2 ((en.mono (e1.trans e2)).set rz) q2⟩
  · exact fun z => z.elim
theorem s_ipAdd : SimR K (ipI fun i j => i + j) dAdd := fun F C H x y dx dy P Q hs rx ry w k => by
  cases rx <;> cases ry <;> first | exact w.elim | exact ⟨_, _, rfl, rfl, k _ F H _ C (Ex.refl F) hs (.int _) w⟩
theorem s_ipSub : SimR K (ipI fun i j => i - j) dSub := fun F C H x y dx dy P Q hs rx ry w k => by
  cases rx <;> cases ry <;> first | exact w.elim | exact ⟨_, _, rfl, rfl, k _ F H _ C (Ex.refl F) hs (.int _) w⟩
end

/-! ### what is walked -/
structure DIt where
  items : List D
  still : Cells → Prop
abbrev DI := DEnv → Cells → (DIt → Cells → Prop) → DX → Prop
def ItR (K : PySem.W.Frag) (F : Hp) (J : It) (Jd : DIt) : Prop := ∀ F' H C, Ex F F' → Hs K F' C H → Jd.still C →
  (∀ (i : Nat) (d : D), Jd.items[i]? = some d → J.go i H ∧ ∀ x H', J.yld i H x H' → ∃ F'', Ex F' F'' ∧ Hs K F'' C H' ∧ Rep K F'' x d) ∧ J.stop Jd.items.length H
theorem ItR.mono {K : PySem.W.Frag} {F F' : Hp} {J : It} {Jd : DIt} (e : Ex F F') (h : ItR K F J Jd) : ItR K F' J Jd := fun F1 H C e1 => h F1 H C (e.trans e1)
def tI (K : PySem.W.Frag) (W : WX) (w : DI) : TI := fun σ H R => ∃ F C ρ P PX, Hs K F C H ∧ EnvR K F σ ρ ∧ ExR K F W PX ∧ w ρ C P PX ∧ ∀ J F' H' Jd C', Ex F F' → Hs K F' C' H' → ItR K F' J Jd → P Jd C' → R J H'
theorem PI.imp {X : Cx} {tg it : Expr} {t t' : TI} (h : PI X tg it t) (i : ∀ σ H R, t' σ H R → t σ H R) : PI X tg it t' := ⟨fun pins s σ H R I w => h.run pins s σ H R I (i σ H R w)⟩
def frozen : Cells → Prop := fun _ => True
/-- a list, frozen or a cell -/
def wItL (e : DE) (ρ : DEnv) (C : Cells) (P : DIt → Cells → Prop) (PX : DX) : Prop := e ρ C (fun d C1 => match d with
  | .lst ds => P ⟨ds, frozen⟩ C1
  | .ptr a => match C1 a with
    | some (.lst ds) => P ⟨ds, fun C' => C' a = some (.lst ds)⟩ C1
    | _ => False
  | _ => False) PX
def wItT (e : DE) (ρ : DEnv) (C : Cells) (P : DIt → Cells → Prop) (PX : DX) : Prop := e ρ C (fun d C1 => match d with
  | .tup ds => P ⟨ds, frozen⟩ C1
  | .ktup ds => P ⟨ds, frozen⟩ C1
  | _ => False) PX
def rngD (lo : Int) (n : Nat) : List D := (List.range n).map fun (k : Nat) => D.int (lo + (k : Int))
def wRng1 (a : DA) (ρ : DEnv) (C : Cells) (P : DIt → Cells → Prop) (PX : DX) : Prop := a ρ C (fun ds C1 => match ds with
  | [.int j] => (-(2 ^ 62) ≤ j ∧ j < 2 ^ 62) ∧ P ⟨rngD 0 j.toNat, frozen⟩ C1
  | _ => False) PX
def wRng2 (a : DA) (ρ : DEnv) (C : Cells) (P : DIt → Cells → Prop) (PX : DX) : Prop := a ρ C (fun ds C1 => match ds with
  | [.int i, .int j] => (-(2 ^ 62) ≤ i ∧ i < 2 ^ 62 ∧ -(2 ^ 62) ≤ j ∧ j < 2 ^ 62) ∧ P ⟨rngD i (j - i).toNat, frozen⟩ C1
  | _ => False) PX
theorem rngD_len (lo : Int) (n : Nat) : (rngD lo n).length = n := by simp [rngD]
theorem rngD_get {lo : Int} {n i : Nat} {d : D} (h : (rngD lo n)[i]? = some d) : i < n ∧ d = .int (lo + (i : Int)) := by
  unfold rngD at h
  rw [List.getElem?_map] at h
  rcases Nat.lt_or_ge i n with z | z
  · rw [List.getElem?_range z] at h
    exact ⟨z, (Option.some.inj h).symm⟩
  · rw [List.getElem?_eq_none (by simpa using z)] at h; cases h
section
variable {X : Cx} {W : WX} {K : PySem.W.Frag} {e tg : Expr} {we : DE} {wr : DA} {pos : Pos}
theorem itr_lst {F : Hp} {a : Addr} {xs : List V} {ds : List D} (h : SqL K F a xs) (r : RepL K F xs ds) : ItR K F (Itl K a) ⟨ds, frozen⟩ := fun F' H C e hs _ => by
  have hH : SqL K H a xs := ex_l hs.ex (ex_l e h)
  refine ⟨fun i d hd => ?_, ⟨xs, hH, by rw [r.length]; exact Nat.le_refl _⟩⟩
  obtain ⟨v, hv, rv⟩ := r.get hd
  refine ⟨⟨xs, v, hH, hv⟩, fun x H' y => ?_⟩
  obtain ⟨rfl, y⟩ := y
  have := y xs hH
  rw [hv] at this
  cases this
  exact ⟨F', Ex.refl _, hs, rv.mono e⟩
theorem itr_cell {F : Hp} {a : Addr} {ds : List D} : ItR K F (Itl K a) ⟨ds, fun C' => C' a = some (.lst ds)⟩ := fun F' H C e hs hc => by
  obtain ⟨_, xs, hx, r⟩ := hs.cell a _ hc
  have hH : SqL K H a xs := .of hx
  refine ⟨fun i d hd => ?_, ⟨xs, hH, by rw [r.length]; exact Nat.le_refl _⟩⟩
  obtain ⟨v, hv, rv⟩ := r.get hd
  refine ⟨⟨xs, v, hH, hv⟩, fun x H' y => ?_⟩
  obtain ⟨rfl, y⟩ := y
  have := y xs hH
  rw [hv] at this
  cases this
  exact ⟨F', Ex.refl _, hs, rv⟩
theorem itr_tup {F : Hp} {a : Addr} {xs : List V} {ds : List D} (h : SqT K F a xs) (r : RepL K F xs ds) : ItR K F (Itt K a) ⟨ds, frozen⟩ := fun F' H C e hs _ => by
  have hH : SqT K H a xs := ex_t hs.ex (ex_t e h)
  refine ⟨fun i d hd => ?_, ⟨xs, hH, by rw [r.length]; exact Nat.le_refl _⟩⟩
  obtain ⟨v, hv, rv⟩ := r.get hd
  refine ⟨⟨xs, v, hH, hv⟩, fun x H' y => ?_⟩
  obtain ⟨rfl, y⟩ := y
  have := y xs hH
  rw [hv] at this
  cases this
  exact ⟨F', Ex.refl _, hs, rv.mono e⟩
theorem itr_rng {F : Hp} {lo : Int} {n : Nat} : ItR K F (Itr lo n) ⟨rngD lo n, frozen⟩ := fun F' H C e hs _ => by
  refine ⟨fun i d hd => ?_, by show n ≤ (rngD lo n).length; rw [rngD_len]; exact Nat.le_refl _⟩
  obtain ⟨hi, rfl⟩ := rngD_get hd
  refine ⟨hi, fun x H' y => ?_⟩
  obtain ⟨rfl, rfl⟩ := y
  exact ⟨F', Ex.refl _, hs, .int _⟩
theorem di_list (he : PE X e (tE X.K W we)) : PI X tg e (tI X.K W (wItL we)) := PI.imp (pi_list he) fun σ H R ⟨F, C, ρ, P, PX, hs, en, xr, w, k⟩ =>
  ⟨F, C, ρ, _, PX, hs, en, xr, w, fun v F1 H1 d C1 e1 h1 r q => by
    cases r <;> first | exact q.elim | skip
    · rename_i a xs ds hq hr
      exact ⟨a, rfl, ⟨xs, ex_l h1.ex hq⟩, k _ F1 H1 _ C1 e1 h1 (itr_lst hq hr) q⟩
    · rename_i a
      revert q
      dsimp only
      split
      · rename_i ds hc
        intro q
        obtain ⟨_, xs, hx, r⟩ := h1.cell a _ hc
        exact ⟨a, rfl, ⟨xs, .of hx⟩, k _ F1 H1 _ C1 e1 h1 itr_cell q⟩
      · exact fun z => z.elim⟩
theorem di_tup (he : PE X e (tE X.K W we)) : PI X tg e (tI X.K W (wItT we)) := PI.imp (pi_tup he) fun σ H R ⟨F, C, ρ, P, PX, hs, en, xr, w, k⟩ =>
  ⟨F, C, ρ, _, PX, hs, en, xr, w, fun v F1 H1 d C1 e1 h1 r q => by
    cases r <;> first | exact q.elim | skip
    · rename_i a xs ds hq hr
      exact ⟨a, rfl, ⟨xs, .of (h1.ex.nd hq rfl)⟩, k _ F1 H1 _ C1 e1 h1 (itr_tup (.of hq) hr) q⟩
    · rename_i a xs ds hq hr
      exact ⟨a, rfl, ⟨xs, ex_t h1.ex hq⟩, k _ F1 H1 _ C1 e1 h1 (itr_tup hq hr) q⟩⟩
theorem di_rng1 {a : Expr} {p : Pos} (hg : Gl X "range") (hm : X.mg "range" = none) (ha : PA X [a] (tA X.K W wr)) (hs : starEach [a] X.env = [(false, eval a X.env)] := by rfl) : PI X tg (.Call (.Name "range" p) [a] [] pos) (tI X.K W (wRng1 wr)) :=
  PI.imp (pi_range1 hg hm ha hs) fun σ H R ⟨F, C, ρ, P, PX, hs, en, xr, w, k⟩ => ⟨F, C, ρ, _, PX, hs, en, xr, w, fun v F1 H1 d C1 e1 h1 r q => by
    revert q
    dsimp only
    split
    · intro q
      rename_i j
      cases r with
      | cons r1 r2 =>
        cases r1; cases r2
        exact ⟨j, rfl, q.1.1, q.1.2, k _ F1 H1 _ C1 e1 h1 itr_rng q.2⟩
    · exact fun z => z.elim⟩
theorem di_rng2 {a b : Expr} {p : Pos} (hg : Gl X "range") (hm : X.mg "range" = none) (ha : PA X [a, b] (tA X.K W wr)) (hs : starEach [a, b] X.env = [(false, eval a X.env), (false, eval b X.env)] := by rfl) (hs2 : starEach [b] X.env = [(false, eval b X.env)] := by rfl) : PI X tg (.Call (.Name "range" p) [a, b] [] pos) (tI X.K W (wRng2 wr)) :=
  PI.imp (pi_range2 hg hm ha hs hs2) fun σ H R ⟨F, C, ρ, P, PX, hs, en, xr, w, k⟩ => ⟨F, C, ρ, _, PX, hs, en, xr, w, fun v F1 H1 d C1 e1 h1 r q => by
    revert q
    dsimp only
    split
    · intro q
      rename_i i j
      cases r with
      | cons r1 r2 =>
        cases r1
        cases r2 with
        | cons r2 r3 =>
          cases r2; cases r3
          exact ⟨i, j, rfl, q.1, k _ F1 H1 _ C1 e1 h1 itr_rng q.2⟩
    · exact fun z => z.elim⟩
end

/-! ### loops -/
def ForG (J : DIt) (t : Tgt) (b : DS) (E : DEnds) (ρ : DEnv) (C1 : Cells) : Prop := ∃ Inv : Nat → DEnv → Cells → Prop, Inv 0 ρ C1 ∧ (∀ i ρ' C', Inv i ρ' C' → J.still C') ∧
  (∀ i d ρ' C', J.items[i]? = some d → Inv i ρ' C' → match t.dg d ρ' with
    | some ρ2 => b { nx := Inv (i + 1), ct := Inv (i + 1), bk := E.nx, rt := E.rt, ex := E.ex } ρ2 C'
    | none => False) ∧
  (∀ ρ' C', Inv J.items.length ρ' C' → E.nx ρ' C')
def wFor (wi : DI) (t : Tgt) (b : DS) (E : DEnds) (ρ : DEnv) (C : Cells) : Prop := wi ρ C (fun J C1 => ForG J t b E ρ C1) E.ex
def wWhile (t : DT) (b : DS) (E : DEnds) (ρ : DEnv) (C : Cells) : Prop := ∃ Inv : Nat → DEnv → Cells → Prop, (∃ m, Inv m ρ C) ∧ ∀ m ρ' C', Inv m ρ' C' → t ρ' C' (fun k C1 => if k = true then
    b { nx := fun ρ2 C2 => ∃ m', m' < m ∧ Inv m' ρ2 C2, ct := fun ρ2 C2 => ∃ m', m' < m ∧ Inv m' ρ2 C2, bk := E.nx, rt := E.rt, ex := E.ex } ρ' C1 else E.nx ρ' C1) E.ex
section
variable {X : Cx} {W : WX} {wb : DS} {pos : Pos}
theorem ds_for {tg iter : Expr} {body : List Stmt} {wi : DI} {t : Tgt} (hp : PassesOwn (model X.prog X.w) X.A X.env X.xe) (hc : X.calm = true) (hi : PI X tg iter (tI X.K W wi)) (hg : PG X tg (t.tg X.K)) (hb : PSs X body (tS X.K W wb))
    (hs : ∀ x, foldedSetIterable iter X.env x = pure x := by intro _; rfl) : PS X (.For tg iter body [] pos) (tS X.K W (wFor wi t wb)) := PS.imp (ps_for hp hc hi hg hb hs) fun D σ H ⟨F, C, ρ, DE, hs, en, xr, w, er⟩ =>
  ⟨F, C, ρ, _, _, hs, en, xr, w, fun J F1 H1 Jd C1 e1 h1 ir q => by
    obtain ⟨Inv, i0, st, turn, done⟩ := q
    refine ⟨fun i m σ' H' => m = Jd.items.length - i ∧ i ≤ Jd.items.length ∧ ∃ F' ρ' C', Ex F1 F' ∧ Hs X.K F' C' H' ∧ EnvR X.K F' σ' ρ' ∧ Inv i ρ' C', ⟨_, rfl, Nat.zero_le _, F1, ρ, C1, Ex.refl _, h1, en.mono e1, i0⟩, ?_⟩
    rintro i m σ' H' ⟨rfl, hl, F', ρ', C', e', h', n', p⟩
    obtain ⟨go, stop⟩ := ir F' H' C' e' h' (st i ρ' C' p)
    by_cases hi : i = Jd.items.length
    · subst hi
      exact .inl ⟨stop, er.nx σ' F' H' ρ' C' (e1.trans e') h' n' (done ρ' C' p)⟩
    · have hlt : i < Jd.items.length := by omega
      have hd : Jd.items[i]? = some Jd.items[i] := List.getElem?_eq_getElem hlt
      obtain ⟨g1, g2⟩ := go i _ hd
      have q := turn i _ ρ' C' hd p
      refine .inr ⟨g1, fun σ2 H2 => ∃ F2 ρ2 C2, Ex F' F2 ∧ Hs X.K F2 C2 H2 ∧ EnvR X.K F2 σ2 ρ2 ∧ Inv (i + 1) ρ2 C2, ?_, ?_⟩
      · rintro σ2 H2 ⟨F2, ρ2, C2, e2, h2, n2, p2⟩
        exact ⟨_, by omega, rfl, hlt, F2, ρ2, C2, e'.trans e2, h2, n2, p2⟩
      · intro x H2 hy
        obtain ⟨F2, e2, h2, rx⟩ := g2 x H2 hy
        revert q
        split
        · rename_i ρ2 hdg
          intro q
          refine tg_ok t h2.ex rx (n'.mono e2) hdg fun σ2 en2 _ => ?_
          exact ⟨F2, C', ρ2, { nx := Inv (i + 1), ct := Inv (i + 1), bk := DE.nx, rt := DE.rt, ex := DE.ex }, h2, en2, xr.mono ((e1.trans e').trans e2), q, ⟨fun σ3 F3 H3 ρ3 C3 e3 h3 n3 p3 => ⟨F3, ρ3, C3, e2.trans e3, h3, n3, p3⟩, er.rt.mono ((e1.trans e').trans e2), er.nx.mono ((e1.trans e').trans e2), fun σ3 F3 H3 ρ3 C3 e3 h3 n3 p3 => ⟨F3, ρ3, C3, e2.trans e3, h3, n3, p3⟩⟩⟩
        · exact fun z => z.elim⟩
theorem ds_while {c : Expr} {body : List Stmt} {t : DT} (hp : PassesOwn (model X.prog X.w) X.A X.env X.xe) (hc : PT X c (tT X.K W t)) (hb : PSs X body (tS X.K W wb)) : PS X (.While c body [] pos) (tS X.K W (wWhile t wb)) := PS.imp (ps_while hp hc hb) fun D σ H ⟨F, C, ρ, DE, hs, en, xr, w, er⟩ => by
  obtain ⟨Inv, ⟨m0, i0⟩, turn⟩ := w
  refine ⟨fun m σ' H' => ∃ F' ρ' C', Ex F F' ∧ Hs X.K F' C' H' ∧ EnvR X.K F' σ' ρ' ∧ Inv m ρ' C', ⟨m0, F, ρ, C, Ex.refl _, hs, en, i0⟩, ?_⟩
  rintro m σ' H' ⟨F', ρ', C', e', h', n', p⟩
  refine ⟨F', C', ρ', _, _, h', n', xr.mono e', turn m ρ' C' p, fun k F1 H1 C1 e1 h1 q => ?_⟩
  cases k with
  | true =>
    rw [if_pos rfl] at q
    rw [if_pos rfl]
    refine ⟨fun σ2 H2 => ∃ m', m' < m ∧ ∃ F2 ρ2 C2, Ex F F2 ∧ Hs X.K F2 C2 H2 ∧ EnvR X.K F2 σ2 ρ2 ∧ Inv m' ρ2 C2, fun _ _ z => z, ?_⟩
    exact ⟨F1, C1, ρ', { nx := fun ρ2 C2 => ∃ m', m' < m ∧ Inv m' ρ2 C2, ct := fun ρ2 C2 => ∃ m', m' < m ∧ Inv m' ρ2 C2, bk := DE.nx, rt := DE.rt, ex := DE.ex }, h1, n'.mono e1, xr.mono (e'.trans e1), q, ⟨fun σ3 F3 H3 ρ3 C3 e3 h3 n3 ⟨m', hm, p3⟩ => ⟨m', hm, F3, ρ3, C3, (e'.trans e1).trans e3, h3, n3, p3⟩, er.rt.mono (e'.trans e1), er.nx.mono (e'.trans e1), fun σ3 F3 H3 ρ3 C3 e3 h3 n3 ⟨m', hm, p3⟩ => ⟨m', hm, F3, ρ3, C3, (e'.trans e1).trans e3, h3, n3, p3⟩⟩⟩
  | false =>
    rw [if_neg Bool.false_ne_true] at q
    rw [if_neg Bool.false_ne_true]
    exact er.nx σ' F1 H1 ρ' C1 (e'.trans e1) h1 (n'.mono e1) q
end
end DD

set_option Elab.async false
set_option linter.all false
set_option maxRecDepth 100000
set_option maxHeartbeats 4000000
/-! Readings over data: calls of defs, classes, attributes; a def keeps its promise. -/
namespace DD
open PySem L2 PyProof.Rows

abbrev DSp := List D → Cells → DK → Prop
abbrev XC := Value → List (String × D) → Cells → Prop
abbrev DSpX := List D → Cells → DK → XC → Prop
def KontX (K : PySem.W.Frag) (F : Hp) (PX : XC) (E : XK) : Prop := ∀ cls d fs F' H C, Ex F F' → Hs K F' C H → XRep K F' H d fs → PX cls fs C → E cls d H
/-- a promise over data; of a def that may raise -/
def spD (K : PySem.W.Frag) (R : DSp) : Sp := fun vs H Q _ => ∃ F C ds P, Hs K F C H ∧ RepL K F vs ds ∧ R ds C P ∧ Kont K F P Q
def spX (K : PySem.W.Frag) (R : DSpX) : Sp := fun vs H Q E => ∃ F C ds P PX, Hs K F C H ∧ RepL K F vs ds ∧ R ds C P PX ∧ Kont K F P Q ∧ KontX K F PX E

/-! ### calls -/
def wCall (R : DSp) (dd : List D) (a : DA) (ρ : DEnv) (C : Cells) (P : DK) (PX : DX) : Prop := a ρ C (fun ds C1 => R (ds ++ dd) C1 P) PX
def wCallX (R : DSpX) (dd : List D) (a : DA) (ρ : DEnv) (C : Cells) (P : DK) (PX : DX) : Prop := a ρ C (fun ds C1 => R (ds ++ dd) C1 P (fun cls fs C2 => PX cls fs ρ C2)) PX
/-- it is an instance of the class at Cl without an attribute of this name of its own -/
def isIns (Cl : Addr) (m : String) (o : D) (C : Cells) : Prop := match o with
  | .ins c fs => c = Cl ∧ fs.lookup m = none
  | .ptr p => match C p with
    | some (.ins c fs) => c = Cl ∧ fs.lookup m = none
    | _ => False
  | _ => False
def wMeth (Cl : Addr) (m : String) (R : DSp) (dd : List D) (o : DE) (a : DA) (ρ : DEnv) (C : Cells) (P : DK) (PX : DX) : Prop := o ρ C (fun x C1 => isIns Cl m x C1 ∧ a ρ C1 (fun ds C2 => R (x :: (ds ++ dd)) C2 P) PX) PX
def wMethX (Cl : Addr) (m : String) (R : DSpX) (dd : List D) (o : DE) (a : DA) (ρ : DEnv) (C : Cells) (P : DK) (PX : DX) : Prop := o ρ C (fun x C1 => isIns Cl m x C1 ∧ a ρ C1 (fun ds C2 => R (x :: (ds ++ dd)) C2 P (fun cls fs C3 => PX cls fs ρ C3)) PX) PX
/-- a new instance: a cell; one that does not change any more behind __init__ -/
def wMake (Cl : Addr) (R : DSp) (dd : List D) (a : DA) (ρ : DEnv) (C : Cells) (P : DK) (PX : DX) : Prop := a ρ C (fun ds C1 => ∀ p, C1 p = none → R (.ptr p :: (ds ++ dd)) (cput C1 p (.ins Cl [])) (fun r C2 => r = .non ∧ P (.ptr p) C2)) PX
def frzP (P : DK) (p : Addr) (C2 : Cells) : Prop := match C2 p with
  | some (.ins c fs) => ∃ C3, Sub C3 C2 ∧ C3 p = none ∧ P (.ins c fs) C3
  | _ => False
def wMakeF (Cl : Addr) (R : DSp) (dd : List D) (a : DA) (ρ : DEnv) (C : Cells) (P : DK) (PX : DX) : Prop := a ρ C (fun ds C1 => ∀ p, C1 p = none → R (.ptr p :: (ds ++ dd)) (cput C1 p (.ins Cl [])) (fun r C2 => r = .non ∧ frzP P p C2)) PX
def wMakeX (Cl : Addr) (R : DSpX) (dd : List D) (a : DA) (ρ : DEnv) (C : Cells) (P : DK) (PX : DX) : Prop := a ρ C (fun ds C1 => ∀ p, C1 p = none → R (.ptr p :: (ds ++ dd)) (cput C1 p (.ins Cl [])) (fun r C2 => r = .non ∧ P (.ptr p) C2) (fun cls fs C3 => PX cls fs ρ C3)) PX
def wMakeXF (Cl : Addr) (R : DSpX) (dd : List D) (a : DA) (ρ : DEnv) (C : Cells) (P : DK) (PX : DX) : Prop := a ρ C (fun ds C1 => ∀ p, C1 p = none → R (.ptr p :: (ds ++ dd)) (cput C1 p (.ins Cl [])) (fun r C2 => r = .non ∧ frzP P p C2) (fun cls fs C3 => PX cls fs ρ C3)) PX

section
variable {X : Cx} {W : WX} {K : PySem.W.Frag} {k : Nat} {f Cl : Addr} {fd : FuncData} {ps : List Str} {R : DSp} {RX : DSpX} {dvs : List V} {dd : List D} {dsv : List Value} {x m : Str} {p pos apos : Pos} {e o : Expr} {es : List Expr} {wa : DE} {wr : DA}
theorem KontX.of {F : Hp} {W : WX} {PX : DX} {σ : L2.St} {ρ : DEnv} (xr : ExR K F W PX) (en : EnvR K F σ ρ) : KontX K F (fun cls fs C2 => PX cls fs ρ C2) (WE W σ) :=
  fun cls d fs F' H C e hs r q => xr cls d fs σ F' H ρ C e hs (en.mono e) r q
theorem d_call (G : FnOk X.prog X.w X.K X.mg X.base CX0 k f fd ps (spD X.K R)) (hr : Room k X.A) (hm : X.mg x = some (.ref f)) (hk : PySem.W.keepIn X.K (.ref f) = true) (hb : Binds X.K fd ps dsv) (ha : PA X (e :: es) (tA X.K W wr)) (hd : Vals dvs dsv := by exact .nil) (hdd : ∀ F, RepL X.K F dvs dd := by exact fun _ => .nil) (hg : Gl X x := by rfl)
    (hdb : (x == ("__debug__" : Str)) = false := by decide) (he : starEach (e :: es) X.env = (false, eval e X.env) :: starEach es X.env := by rfl) (hpl : (backTo pos (starEach es X.env)).any (·.1) = false := by rfl) :
    PE X (.Call (.Name x p) (e :: es) [] pos) (tE X.K W (wCall R dd wr)) := PE.imp (pe_call (E := E0) G hr hg hm hk hb hd pass0 ha hdb he hpl) fun σ H Q ⟨F, C, ρ, P, PX, hs, en, xr, w, k⟩ =>
  ⟨F, C, ρ, _, PX, hs, en, xr, w, fun vs F1 H1 ds C1 e1 h1 r q => ⟨F1, C1, ds ++ dd, P, h1, r.append (hdd F1), q, k.mono e1⟩⟩
theorem d_call0 (G : FnOk X.prog X.w X.K X.mg X.base CX0 k f fd ps (spD X.K R)) (hr : Room k X.A) (hm : X.mg x = some (.ref f)) (hk : PySem.W.keepIn X.K (.ref f) = true) (hb : Binds X.K fd ps dsv) (hd : Vals dvs dsv := by exact .nil) (hdd : ∀ F, RepL X.K F dvs dd := by exact fun _ => .nil) (hg : Gl X x := by rfl)
    (hdb : (x == ("__debug__" : Str)) = false := by decide) : PE X (.Call (.Name x p) [] [] pos) (tE X.K W (wCall R dd wNil)) := PE.imp (pe_call0 (E := E0) G hr hg hm hk hb hd pass0 hdb) fun σ H Q ⟨F, C, ρ, P, PX, hs, en, xr, w, k⟩ =>
  ⟨F, C, dd, P, hs, by exact (hdd F), by exact w, k⟩
theorem d_callX (tk : Takes X W) (G : FnOk X.prog X.w X.K X.mg X.base (L2.CX X.prog X.w) k f fd ps (spX X.K RX)) (hr : Room k X.A) (hm : X.mg x = some (.ref f)) (hk : PySem.W.keepIn X.K (.ref f) = true) (hb : Binds X.K fd ps dsv) (ha : PA X (e :: es) (tA X.K W wr)) (hd : Vals dvs dsv := by exact .nil) (hdd : ∀ F, RepL X.K F dvs dd := by exact fun _ => .nil) (hg : Gl X x := by rfl)
    (hdb : (x == ("__debug__" : Str)) = false := by decide) (he : starEach (e :: es) X.env = (false, eval e X.env) :: starEach es X.env := by rfl) (hpl : (backTo pos (starEach es X.env)).any (·.1) = false := by rfl) :
    PE X (.Call (.Name x p) (e :: es) [] pos) (tE X.K W (wCallX RX dd wr)) := PE.imp (pe_callSD (E := WE W) G hr hg hm hk hb hd (fun σ => passAt tk σ) ha hdb he hpl) fun σ H Q ⟨F, C, ρ, P, PX, hs, en, xr, w, k⟩ =>
  ⟨F, C, ρ, _, PX, hs, en, xr, w, fun vs F1 H1 ds C1 e1 h1 r q => ⟨F1, C1, ds ++ dd, P, _, h1, r.append (hdd F1), q, k.mono e1, KontX.of (xr.mono e1) (en.mono e1)⟩⟩
theorem ins_of {F H : Hp} {C : Cells} {v : V} {d : D} (hs : Hs K F C H) (r : Rep K F v d) {mm : String} (h : isIns Cl mm d C) : ∃ a dx gs, v = .ref a ∧ H a = some (.ins Cl dx gs) ∧ gs.lookup (Str.ofString mm) = none := by
  cases r <;> first | exact h.elim | skip
  · rename_i a c dx gs fs hf rf
    obtain ⟨rfl, hl⟩ := h
    exact ⟨a, dx, gs, rfl, hs.ex.nd hf rfl, rf.lookup_none hl⟩
  · rename_i a
    revert h
    show (match C a with | some (.ins c fs) => _ | _ => False) → _
    split
    · rename_i c fs hc
      rintro ⟨rfl, hl⟩
      obtain ⟨_, dx, gs, hg, rf⟩ := hs.cell a _ hc
      exact ⟨a, dx, gs, rfl, hg, rf.lookup_none hl⟩
    · exact fun z => z.elim
theorem d_meth {mm : String} {pl : Sem Bool} (c : Cls X.K Cl) (hm : Meth X.K Cl (Str.ofString mm) f) (G : FnOk X.prog X.w X.K X.mg X.base CX0 k f fd ps (spD X.K R)) (hr : Room k X.A) (hb : Binds X.K fd ps dsv) (ho : PE X o (tE X.K W wa)) (ha : PA X (e :: es) (tA X.K W wr)) (hd : Vals dvs dsv := by exact .nil) (hdd : ∀ F, RepL X.K F dvs dd := by exact fun _ => .nil)
    (hst : starEach (e :: es) X.env = (false, eval e X.env) :: starEach es X.env := by rfl) (hpl : (backTo pos (starEach es X.env)).any (·.1) = false := by rfl)
    (ht : eval (.Call (.Attribute o (Str.ofString mm) apos) (e :: es) [] pos) X.env = (do
      let ov ← eval o X.env
      standAt apos.atName
      let (f, first) ← holding [ov] (getMethod ov (Str.ofString mm) pl)
      callWith pos f first (backTo pos (starEach (e :: es) X.env)) (backToKw pos (keywordEach [] X.env))) := by rfl) :
    PE X (.Call (.Attribute o (Str.ofString mm) apos) (e :: es) [] pos) (tE X.K W (wMeth Cl mm R dd wa wr)) := PE.imp (pe_meth (pl := pl) (E := E0) ho c hm G hr hb hd pass0 ha hst hpl ht) fun σ H Q ⟨F, C, ρ, P, PX, hs, en, xr, w, k⟩ =>
  ⟨F, C, ρ, _, PX, hs, en, xr, w, fun v F1 H1 d C1 e1 h1 rv q => by
    obtain ⟨qi, q⟩ := q
    obtain ⟨a, dx, gs, ev, ha, hl⟩ := ins_of h1 rv qi
    exact ⟨a, dx, gs, ev, ha, hl, F1, C1, ρ, _, PX, h1, en.mono e1, xr.mono e1, q, fun vs F2 H2 ds C2 e2 h2 rl q2 => ⟨F2, C2, d :: (ds ++ dd), P, h2, .cons (rv.mono e2) (rl.append (hdd F2)), q2, k.mono (e1.trans e2)⟩⟩⟩
theorem d_meth0 {mm : String} {pl : Sem Bool} (c : Cls X.K Cl) (hm : Meth X.K Cl (Str.ofString mm) f) (G : FnOk X.prog X.w X.K X.mg X.base CX0 k f fd ps (spD X.K R)) (hr : Room k X.A) (hb : Binds X.K fd ps dsv) (ho : PE X o (tE X.K W wa)) (hd : Vals dvs dsv := by exact .nil) (hdd : ∀ F, RepL X.K F dvs dd := by exact fun _ => .nil)
    (ht : eval (.Call (.Attribute o (Str.ofString mm) apos) [] [] pos) X.env = (do
      let ov ← eval o X.env
      standAt apos.atName
      let (f, first) ← holding [ov] (getMethod ov (Str.ofString mm) pl)
      callWith pos f first (backTo pos (starEach [] X.env)) (backToKw pos (keywordEach [] X.env))) := by rfl) :
    PE X (.Call (.Attribute o (Str.ofString mm) apos) [] [] pos) (tE X.K W (wMeth Cl mm R dd wa wNil)) := PE.imp (pe_meth0 (pl := pl) (E := E0) ho c hm G hr hb hd pass0 ht) fun σ H Q ⟨F, C, ρ, P, PX, hs, en, xr, w, k⟩ =>
  ⟨F, C, ρ, _, PX, hs, en, xr, w, fun v F1 H1 d C1 e1 h1 rv q => by
    obtain ⟨qi, q⟩ := q
    obtain ⟨a, dx, gs, ev, ha, hl⟩ := ins_of h1 rv qi
    exact ⟨a, dx, gs, ev, ha, hl, F1, C1, d :: dd, P, h1, .cons rv (hdd F1), q, k.mono e1⟩⟩
/-- a method that may raise -/
theorem pe_methSD {ta : TE} {t : TA} {E : L2.St → XK} {pl : Sem Bool} {sp : Sp} {CX : CXT} (he : PE X o ta) (c : Cls X.K Cl) (hm : Meth X.K Cl m f) (F : FnOk X.prog X.w X.K X.mg X.base CX k f fd ps sp) (hr : Room k X.A) (hb : Binds X.K fd ps dsv) (hd : Vals dvs dsv) (hx : ∀ σ, PassesAt CX X σ (E σ)) (ha : PA X (e :: es) t)
    (hst : starEach (e :: es) X.env = (false, eval e X.env) :: starEach es X.env := by rfl) (hpl : (backTo pos (starEach es X.env)).any (·.1) = false := by rfl)
    (ht : eval (.Call (.Attribute o m apos) (e :: es) [] pos) X.env = (do
      let ov ← eval o X.env
      standAt apos.atName
      let (f, first) ← holding [ov] (getMethod ov m pl)
      callWith pos f first (backTo pos (starEach (e :: es) X.env)) (backToKw pos (keywordEach [] X.env))) := by rfl) :
    PE X (.Call (.Attribute o m apos) (e :: es) [] pos) (fun σ H Q => ta σ H fun x H1 => ∃ a dx fs, x = .ref a ∧ H1 a = some (.ins Cl dx fs) ∧ fs.lookup m = none ∧ t σ H1 fun vs H2 => sp (x :: (vs ++ dvs)) H2 Q (E σ)) := by
  refine ⟨fun pins s σ H Q I h => ?_⟩
  refine PySem.W.methodCall_KW (pl := pl) (thn (he.run pins s σ H _ I h) fun u s1 ⟨x, H1, I1, rx, a, dx, fs, ex, ea, l, q⟩ => ?_) ht
  subst ex
  obtain rfl : u = Value.ref a := rx
  refine getmeth_ok I1 ea c hm l ?_
  refine PySem.W.callWith_K (first := [.ref a]) (h₀ := X.base) I.ok.mod.kin hm.kp (thn (ha.run pos pins s1 σ H1 _ I1 q) fun us s2 ⟨vs, H2, I2, r, q2⟩ => ⟨I2.kIn, ?_⟩) hst hpl
  exact run_fnSD (us := .ref a :: us) (vs := .ref a :: vs) F hr hb hd (hx σ) I2 (.cons rfl r) q2
theorem pe_methSD0 {ta : TE} {E : L2.St → XK} {pl : Sem Bool} {sp : Sp} {CX : CXT} (he : PE X o ta) (c : Cls X.K Cl) (hm : Meth X.K Cl m f) (F : FnOk X.prog X.w X.K X.mg X.base CX k f fd ps sp) (hr : Room k X.A) (hb : Binds X.K fd ps dsv) (hd : Vals dvs dsv) (hx : ∀ σ, PassesAt CX X σ (E σ))
    (ht : eval (.Call (.Attribute o m apos) [] [] pos) X.env = (do
      let ov ← eval o X.env
      standAt apos.atName
      let (f, first) ← holding [ov] (getMethod ov m pl)
      callWith pos f first (backTo pos (starEach [] X.env)) (backToKw pos (keywordEach [] X.env))) := by rfl) :
    PE X (.Call (.Attribute o m apos) [] [] pos) (fun σ H Q => ta σ H fun x H1 => ∃ a dx fs, x = .ref a ∧ H1 a = some (.ins Cl dx fs) ∧ fs.lookup m = none ∧ sp (x :: dvs) H1 Q (E σ)) := by
  refine ⟨fun pins s σ H Q I h => ?_⟩
  refine PySem.W.methodCall_KW (pl := pl) (thn (he.run pins s σ H _ I h) fun u s1 ⟨x, H1, I1, rx, a, dx, fs, ex, ea, l, q⟩ => ?_) ht
  subst ex
  obtain rfl : u = Value.ref a := rx
  refine getmeth_ok I1 ea c hm l ?_
  exact PySem.W.callWith_K0 (first := [.ref a]) I1.kIn hm.kp (run_fnSD (us := [.ref a]) (vs := [.ref a]) F hr hb hd (hx σ) I1 (.cons rfl .nil) q)
theorem d_methX {mm : String} {pl : Sem Bool} (tk : Takes X W) (c : Cls X.K Cl) (hm : Meth X.K Cl (Str.ofString mm) f) (G : FnOk X.prog X.w X.K X.mg X.base (L2.CX X.prog X.w) k f fd ps (spX X.K RX)) (hr : Room k X.A) (hb : Binds X.K fd ps dsv) (ho : PE X o (tE X.K W wa)) (ha : PA X (e :: es) (tA X.K W wr)) (hd : Vals dvs dsv := by exact .nil) (hdd : ∀ F, RepL X.K F dvs dd := by exact fun _ => .nil)
    (hst : starEach (e :: es) X.env = (false, eval e X.env) :: starEach es X.env := by rfl) (hpl : (backTo pos (starEach es X.env)).any (·.1) = false := by rfl)
    (ht : eval (.Call (.Attribute o (Str.ofString mm) apos) (e :: es) [] pos) X.env = (do
      let ov ← eval o X.env
      standAt apos.atName
      let (f, first) ← holding [ov] (getMethod ov (Str.ofString mm) pl)
      callWith pos f first (backTo pos (starEach (e :: es) X.env)) (backToKw pos (keywordEach [] X.env))) := by rfl) :
    PE X (.Call (.Attribute o (Str.ofString mm) apos) (e :: es) [] pos) (tE X.K W (wMethX Cl mm RX dd wa wr)) := PE.imp (pe_methSD (pl := pl) (E := WE W) ho c hm G hr hb hd (fun σ => passAt tk σ) ha hst hpl ht) fun σ H Q ⟨F, C, ρ, P, PX, hs, en, xr, w, k⟩ =>
  ⟨F, C, ρ, _, PX, hs, en, xr, w, fun v F1 H1 d C1 e1 h1 rv q => by
    obtain ⟨qi, q⟩ := q
    obtain ⟨a, dx, gs, ev, ha, hl⟩ := ins_of h1 rv qi
    exact ⟨a, dx, gs, ev, ha, hl, F1, C1, ρ, _, PX, h1, en.mono e1, xr.mono e1, q, fun vs F2 H2 ds C2 e2 h2 rl q2 => ⟨F2, C2, d :: (ds ++ dd), P, _, h2, .cons (rv.mono e2) (rl.append (hdd F2)), q2, k.mono (e1.trans e2), KontX.of (xr.mono (e1.trans e2)) (en.mono (e1.trans e2))⟩⟩⟩
theorem d_methX0 {mm : String} {pl : Sem Bool} (tk : Takes X W) (c : Cls X.K Cl) (hm : Meth X.K Cl (Str.ofString mm) f) (G : FnOk X.prog X.w X.K X.mg X.base (L2.CX X.prog X.w) k f fd ps (spX X.K RX)) (hr : Room k X.A) (hb : Binds X.K fd ps dsv) (ho : PE X o (tE X.K W wa)) (hd : Vals dvs dsv := by exact .nil) (hdd : ∀ F, RepL X.K F dvs dd := by exact fun _ => .nil)
    (ht : eval (.Call (.Attribute o (Str.ofString mm) apos) [] [] pos) X.env = (do
      let ov ← eval o X.env
      standAt apos.atName
      let (f, first) ← holding [ov] (getMethod ov (Str.ofString mm) pl)
      callWith pos f first (backTo pos (starEach [] X.env)) (backToKw pos (keywordEach [] X.env))) := by rfl) :
    PE X (.Call (.Attribute o (Str.ofString mm) apos) [] [] pos) (tE X.K W (wMethX Cl mm RX dd wa wNil)) := PE.imp (pe_methSD0 (pl := pl) (E := WE W) ho c hm G hr hb hd (fun σ => passAt tk σ) ht) fun σ H Q ⟨F, C, ρ, P, PX, hs, en, xr, w, k⟩ =>
  ⟨F, C, ρ, _, PX, hs, en, xr, w, fun v F1 H1 d C1 e1 h1 rv q => by
    obtain ⟨qi, q⟩ := q
    obtain ⟨a, dx, gs, ev, ha, hl⟩ := ins_of h1 rv qi
    exact ⟨a, dx, gs, ev, ha, hl, F1, C1, d :: dd, P, _, h1, .cons rv (hdd F1), q, k.mono e1, KontX.of (xr.mono e1) (en.mono e1)⟩⟩
/-- an object that no data speaks of -/
theorem Hs.skip {F : Hp} {C : Cells} {H : Hp} (h : Hs K F C H) {p : Addr} {o : HO} (hp : H p = none) : Hs K F C (upd H p o) := by
  obtain ⟨f0, c0⟩ := h.fresh hp
  exact ⟨h.ex.mut f0, fun a c e => ⟨(h.cell a c e).1, (h.cell a c e).2.at (upd_ne (cell_ne e c0))⟩⟩
theorem Hs.inst {F : Hp} {C : Cells} {H : Hp} (h : Hs K F C H) {q dx : Addr} (hq : H q = none) (hd : H dx = none) (ne : dx ≠ q) : C q = none ∧ Hs K F (cput C q (.ins Cl [])) (upd (upd H dx (.own q)) q (.ins Cl dx [])) := by
  obtain ⟨f0, c0⟩ := h.fresh hq
  refine ⟨c0, ?_⟩
  exact (h.skip (o := .own q) hd).put (c := .ins Cl []) f0 ⟨dx, [], upd_same, .nil⟩
theorem frz_kont {F : Hp} {P : DK} {Q : VK} {q : Addr} (k : Kont K F P Q) : Kont K F (fun r C2 => r = .non ∧ frzP P q C2) (fun v H2 => v = .non ∧ Q (.ref q) H2) := fun v F2 H2 d C2 e2 h2 rv ⟨ed, z⟩ => by
  subst ed
  cases rv
  refine ⟨rfl, ?_⟩
  revert z
  unfold frzP
  split
  · rename_i c fs hc
    rintro ⟨C3, s3, n3, z⟩
    obtain ⟨F3, e3, h3, r3⟩ := frz_go h2 hc s3 n3 trivial
    exact k _ F3 H2 _ C3 (e2.trans e3) h3 r3 z
  · exact fun z => z.elim
theorem ptr_kont {F : Hp} {P : DK} {Q : VK} {q : Addr} (k : Kont K F P Q) : Kont K F (fun r C2 => r = .non ∧ P (.ptr q) C2) (fun v H2 => v = .non ∧ Q (.ref q) H2) := fun v F2 H2 d C2 e2 h2 rv ⟨ed, z⟩ => by
  subst ed
  cases rv
  exact ⟨rfl, k _ F2 H2 _ C2 e2 h2 (.ptr q) z⟩
theorem d_make (M : Mk X.K Cl f) (G : FnOk X.prog X.w X.K X.mg X.base CX0 k f fd ps (spD X.K R)) (hr : Room (k + 1) X.A) (hm : X.mg x = some (.ref Cl)) (hb : Binds X.K fd ps dsv) (ha : PA X (e :: es) (tA X.K W wr)) (hd : Vals dvs dsv := by exact .nil) (hdd : ∀ F, RepL X.K F dvs dd := by exact fun _ => .nil) (hg : Gl X x := by rfl)
    (hdb : (x == ("__debug__" : Str)) = false := by decide) (he : starEach (e :: es) X.env = (false, eval e X.env) :: starEach es X.env := by rfl) (hpl : (backTo pos (starEach es X.env)).any (·.1) = false := by rfl) :
    PE X (.Call (.Name x p) (e :: es) [] pos) (tE X.K W (wMake Cl R dd wr)) := PE.imp (pe_make (E := E0) M G hr hg hm hb hd pass0 ha hdb he hpl) fun σ H Q ⟨F, C, ρ, P, PX, hs, en, xr, w, k⟩ =>
  ⟨F, C, ρ, _, PX, hs, en, xr, w, fun vs F1 H1 ds C1 e1 h1 r q => fun z dx hz hdx ne => by
    obtain ⟨c0, h2⟩ := h1.inst (Cl := Cl) hz hdx ne
    exact ⟨F1, _, .ptr z :: (ds ++ dd), _, h2, .cons (.ptr z) (r.append (hdd F1)), q z c0, ptr_kont (k.mono e1)⟩⟩
theorem d_make0 (M : Mk X.K Cl f) (G : FnOk X.prog X.w X.K X.mg X.base CX0 k f fd ps (spD X.K R)) (hr : Room (k + 1) X.A) (hm : X.mg x = some (.ref Cl)) (hb : Binds X.K fd ps dsv) (hd : Vals dvs dsv := by exact .nil) (hdd : ∀ F, RepL X.K F dvs dd := by exact fun _ => .nil) (hg : Gl X x := by rfl)
    (hdb : (x == ("__debug__" : Str)) = false := by decide) : PE X (.Call (.Name x p) [] [] pos) (tE X.K W (wMake Cl R dd wNil)) := PE.imp (pe_make0 (E := E0) M G hr hg hm hb hd pass0 hdb) fun σ H Q ⟨F, C, ρ, P, PX, hs, en, xr, w, k⟩ => fun z dx hz hdx ne => by
    obtain ⟨c0, h2⟩ := hs.inst (Cl := Cl) hz hdx ne
    exact ⟨F, _, .ptr z :: dd, _, h2, .cons (.ptr z) (hdd F), w z c0, ptr_kont k⟩
theorem d_makeF (M : Mk X.K Cl f) (G : FnOk X.prog X.w X.K X.mg X.base CX0 k f fd ps (spD X.K R)) (hr : Room (k + 1) X.A) (hm : X.mg x = some (.ref Cl)) (hb : Binds X.K fd ps dsv) (ha : PA X (e :: es) (tA X.K W wr)) (hd : Vals dvs dsv := by exact .nil) (hdd : ∀ F, RepL X.K F dvs dd := by exact fun _ => .nil) (hg : Gl X x := by rfl)
    (hdb : (x == ("__debug__" : Str)) = false := by decide) (he : starEach (e :: es) X.env = (false, eval e X.env) :: starEach es X.env := by rfl) (hpl : (backTo pos (starEach es X.env)).any (·.1) = false := by rfl) :
    PE X (.Call (.Name x p) (e :: es) [] pos) (tE X.K W (wMakeF Cl R dd wr)) := PE.imp (pe_make (E := E0) M G hr hg hm hb hd pass0 ha hdb he hpl) fun σ H Q ⟨F, C, ρ, P, PX, hs, en, xr, w, k⟩ =>
  ⟨F, C, ρ, _, PX, hs, en, xr, w, fun vs F1 H1 ds C1 e1 h1 r q => fun z dx hz hdx ne => by
    obtain ⟨c0, h2⟩ := h1.inst (Cl := Cl) hz hdx ne
    exact ⟨F1, _, .ptr z :: (ds ++ dd), _, h2, .cons (.ptr z) (r.append (hdd F1)), q z c0, frz_kont (k.mono e1)⟩⟩
end

/-! ### attributes -/
/-- the attribute f of an instance of the class at Cl -/
def fldOf (Cl : Addr) (f : String) (o : D) (C : Cells) : Option D := match o with
  | .ins c fs => if c = Cl then fs.lookup f else none
  | .ptr p => match C p with
    | some (.ins c fs) => if c = Cl then fs.lookup f else none
    | _ => none
  | _ => none
def wFld (Cl : Addr) (f : String) (o : DE) (ρ : DEnv) (C : Cells) (P : DK) (PX : DX) : Prop := o ρ C (fun x C1 => match fldOf Cl f x C1 with
  | some d => P d C1
  | none => False) PX
def wFldSet (Cl : Addr) (f : String) (o v : DE) (E : DEnds) (ρ : DEnv) (C : Cells) : Prop := v ρ C (fun d C1 => o ρ C1 (fun x C2 => match x with
  | .ptr p => match C2 p with
    | some (.ins c fs) => c = Cl ∧ fs.length < 1000 ∧ E.nx ρ (cput C2 p (.ins Cl (dput f d fs)))
    | _ => False
  | _ => False) E.ex) E.ex
section
variable {X : Cx} {W : WX} {K : PySem.W.Frag} {Cl : Addr} {f : String} {o value : Expr} {wa wv : DE} {pos pos' : Pos}
theorem fld_of {F H : Hp} {C : Cells} {v : V} {x d : D} (hs : Hs K F C H) (r : Rep K F v x) (h : fldOf Cl f x C = some d) : ∃ a dx gs u, v = .ref a ∧ H a = some (.ins Cl dx gs) ∧ gs.lookup (Str.ofString f) = some u ∧ Rep K F u d := by
  cases r <;> first | (simp [fldOf] at h; done) | skip
  · rename_i a c dx gs fs hf rf
    simp only [fldOf] at h
    split at h
    · rename_i e
      subst e
      obtain ⟨u, hu, ru⟩ := rf.lookup h
      exact ⟨a, dx, gs, u, rfl, hs.ex.nd hf rfl, hu, ru⟩
    · cases h
  · rename_i a
    simp only [fldOf] at h
    split at h
    · rename_i c fs hc
      split at h
      · rename_i e
        subst e
        obtain ⟨_, dx, gs, hg, rf⟩ := hs.cell a _ hc
        obtain ⟨u, hu, ru⟩ := rf.lookup h
        exact ⟨a, dx, gs, u, rfl, hg, hu, ru⟩
      · cases h
    · cases h
theorem d_fld (c : Cls X.K Cl) (n : NoAttr X.K Cl (Str.ofString f)) (he : PE X o (tE X.K W wa)) (hb : attributeBase o (Str.ofString f) X.env (eval o X.env) = eval o X.env := by rfl) : PE X (.Attribute o (Str.ofString f) pos) (tE X.K W (wFld Cl f wa)) :=
  PE.imp (pe_fld he hb) fun σ H Q ⟨F, C, ρ, P, PX, hs, en, xr, w, k⟩ => ⟨F, C, ρ, _, PX, hs, en, xr, w, fun v F1 H1 d C1 e1 h1 r q => by
    revert q
    dsimp only
    split
    · rename_i u hu
      intro q
      obtain ⟨a, dx, gs, u', rfl, ha, hl, ru⟩ := fld_of h1 r hu
      exact ⟨a, Cl, dx, gs, u', rfl, ha, c, n, hl, k u' F1 H1 u C1 e1 h1 ru q⟩
    · exact fun z => z.elim⟩
theorem ds_fld (c : Cls X.K Cl) (n : NoAttr X.K Cl (Str.ofString f)) (ho : PE X o (tE X.K W wa)) (hv : PE X value (tE X.K W wv)) (hs : swapsWith value (some (.Attribute o (Str.ofString f) pos')) pos.line X.env = pure false := by rfl) :
    PS X (.Assign [.Attribute o (Str.ofString f) pos'] value pos) (tS X.K W (wFldSet Cl f wa wv)) := PS.imp (ps_fld ho hv hs) fun Dn σ H ⟨F, C, ρ, DE, hs, en, xr, w, er⟩ =>
  ⟨F, C, ρ, _, _, hs, en, xr, w, fun y F1 H1 d C1 e1 h1 ry q => ⟨F1, C1, ρ, _, _, h1, en.mono e1, xr.mono e1, q, fun v F2 H2 x C2 e2 h2 rx q2 => by
    cases rx <;> first | exact q2.elim | skip
    rename_i p
    revert q2
    show (match C2 p with | some (.ins c fs) => _ | _ => False) → _
    split
    · rename_i cl fs hc
      rintro ⟨rfl, hl, q2⟩
      obtain ⟨f0, dx, gs, hg, rf⟩ := h2.cell p _ hc
      have h3 := h2.put (o := .ins cl dx (putF (Str.ofString f) y gs)) (c := .ins cl (dput f d fs)) f0 ⟨dx, _, upd_same, rf.put (ry.mono e2)⟩
      exact ⟨p, cl, dx, gs, rfl, hg, c, n, by rw [rf.length]; exact hl, er.nx σ F2 _ ρ _ (e1.trans e2) h3 (en.mono (e1.trans e2)) q2⟩
    · exact fun z => z.elim⟩⟩
end

/-! ### a def's body keeps its promise -/
def endsD (P : DK) : DEnds := { nx := fun _ C' => ∃ C2, Sub C2 C' ∧ P .non C2, rt := fun d C' => ∃ C2, Sub C2 C' ∧ P d C2, bk := fun _ _ => False, ct := fun _ _ => False, ex := fun _ _ _ _ => False }
def endsX (P : DK) (PX : XC) : DEnds := { nx := fun _ C' => ∃ C2, Sub C2 C' ∧ P .non C2, rt := fun d C' => ∃ C2, Sub C2 C' ∧ P d C2, bk := fun _ _ => False, ct := fun _ _ => False, ex := fun cls fs _ C' => ∃ C2, Sub C2 C' ∧ PX cls fs C2 }
def startD (N : List Str) (ds : List D) : DEnv := ds.map some ++ List.replicate (N.length - ds.length) none
theorem start_ok {K : PySem.W.Frag} {F : Hp} {N : List Str} {vs : List V} {ds : List D} (r : RepL K F vs ds) : EnvR K F (L2.start N vs) (startD N ds) := by
  have hl := r.length
  refine ⟨by simp [L2.start, startD, hl], fun i d h => ?_⟩
  unfold startD at h
  unfold L2.start
  rcases Nat.lt_or_ge i ds.length with z | z
  · rw [List.getElem?_append_left (by simpa using z), List.getElem?_map] at h
    cases e : ds[i]? with
    | none => rw [e] at h; cases h
    | some d' =>
      rw [e] at h
      simp only [Option.map_some, Option.some.injEq] at h
      subst h
      obtain ⟨v, hv, rv⟩ := r.get e
      exact ⟨v, by rw [List.getElem?_append_left (by simpa [hl] using z), List.getElem?_map, hv]; rfl, rv⟩
  · rw [List.getElem?_append_right (by simpa using z)] at h
    have := List.mem_of_getElem? h
    simp at this
section
variable {P : Program} {w : World} {K : PySem.W.Frag} {mg : Str → Option Value} {base : Heap} {x qual : Str} {st : Stmt} {f : Addr} {fd : FuncData} {N ps : List Str} {k : Nat} {R : DSp} {RX : DSpX} {ws : DS}
abbrev W0 : WX := fun _ _ _ _ => False
theorem ok_D (F : Fun K x qual st f fd) (S : FnScope N ps (defScope st)) (len : ∀ ds C Pk, R ds C Pk → ds.length = ps.length)
    (hbody : ∀ (cdv : Value) (A : Around) (outer : List Env) (s : Shared) (H : Hp) (E : XK), Room k (A.deeper (envOfC qual (defScope st) s.heap.objs.size f cdv)) → PSs (cxOf CX0 P w K mg base N qual (defScope st) f cdv A outer s H E).nox (defBody st) (tS K W0 ws))
    (hw : ∀ ds C Pk, R ds C Pk → ws (endsD Pk) (startD N ds) C) : FnOk P w K mg base CX0 (k + 1) f fd ps (spD K R) := by
  refine F.ok S (fun vs H Q E ⟨F1, C, ds, Pk, hs, r, h, _⟩ => by rw [r.length]; exact len ds C Pk h) fun cdv A outer s H vs Q E hr ⟨F1, C, ds, Pk, hs, r, h, kk⟩ => ?_
  refine ⟨_, hbody cdv A outer s H E hr, F1, C, startD N ds, endsD Pk, hs, start_ok r, fun _ _ _ _ _ _ _ _ _ _ _ _ z => z.elim, hw ds C Pk h, ?_⟩
  exact ⟨fun σ F2 H2 ρ C2 e2 h2 n2 ⟨C3, s3, q⟩ => kk _ F2 H2 _ C3 e2 (h2.sub s3) .non q, fun v F2 H2 d C2 e2 h2 rv ⟨C3, s3, q⟩ => kk v F2 H2 d C3 e2 (h2.sub s3) rv q, fun _ _ _ _ _ _ _ _ z => z.elim, fun _ _ _ _ _ _ _ _ z => z.elim⟩
/-- what leaves this def -/
abbrev WD (E : XK) : WX := fun cls d _ H => E cls d H
theorem ok_DX (F : Fun K x qual st f fd) (S : FnScope N ps (defScope st)) (len : ∀ ds C Pk PX, RX ds C Pk PX → ds.length = ps.length)
    (hbody : ∀ (cdv : Value) (A : Around) (outer : List Env) (s : Shared) (H : Hp) (E : XK), Room k (A.deeper (envOfC qual (defScope st) s.heap.objs.size f cdv)) → Takes (cxOf (L2.CX P w) P w K mg base N qual (defScope st) f cdv A outer s H E) (WD E) →
      PSs (cxOf (L2.CX P w) P w K mg base N qual (defScope st) f cdv A outer s H E) (defBody st) (tS K (WD E) ws))
    (hw : ∀ ds C Pk PX, RX ds C Pk PX → ws (endsX Pk PX) (startD N ds) C) : FnOk P w K mg base (L2.CX P w) (k + 1) f fd ps (spX K RX) := by
  refine F.okX S (fun vs H Q E ⟨F1, C, ds, Pk, PX, hs, r, h, _⟩ => by rw [r.length]; exact len ds C Pk PX h) fun cdv A outer s H vs Q E hr ⟨F1, C, ds, Pk, PX, hs, r, h, kk, kx⟩ => ?_
  refine ⟨_, hbody cdv A outer s H E hr (takes_of rfl rfl rfl rfl), F1, C, startD N ds, endsX Pk PX, hs, start_ok r, fun cls d fs σ F2 H2 ρ C2 e2 h2 n2 rx ⟨C3, s3, q⟩ => kx cls d fs F2 H2 C3 e2 (h2.sub s3) rx q, hw ds C Pk PX h, ?_⟩
  exact ⟨fun σ F2 H2 ρ C2 e2 h2 n2 ⟨C3, s3, q⟩ => kk _ F2 H2 _ C3 e2 (h2.sub s3) .non q, fun v F2 H2 d C2 e2 h2 rv ⟨C3, s3, q⟩ => kk v F2 H2 d C3 e2 (h2.sub s3) rv q, fun _ _ _ _ _ _ _ _ z => z.elim, fun _ _ _ _ _ _ _ _ z => z.elim⟩
end
end DD

set_option Elab.async false
set_option linter.all false
set_option maxRecDepth 100000
set_option maxHeartbeats 4000000
/-! Readings over data: lists, tuples, built-ins, equality, comprehensions. -/
namespace DD
open PySem L2 PyProof.Rows

/-! ### sequences -/
def seqOf (x : D) (C : Cells) : Option (List D) := match x with
  | .lst ds => some ds
  | .ptr a => match C a with
    | some (.lst ds) => some ds
    | _ => none
  | _ => none
/-- a list or a tuple -/
def itsOf (x : D) (C : Cells) : Option (List D) := match x with
  | .tup ds => some ds
  | .ktup ds => some ds
  | x => seqOf x C
section
variable {K : PySem.W.Frag} {F H : Hp} {C : Cells} {v : V} {x : D} {ds : List D}
theorem seq_of (hs : Hs K F C H) (r : Rep K F v x) (h : seqOf x C = some ds) : ∃ a xs, v = .ref a ∧ SqL K H a xs ∧ RepL K F xs ds := by
  cases r <;> first | (simp [seqOf] at h; done) | skip
  · rename_i a xs ds' hq hr
    simp only [seqOf, Option.some.injEq] at h
    subst h
    exact ⟨a, xs, rfl, ex_l hs.ex hq, hr⟩
  · rename_i a
    simp only [seqOf] at h
    split at h
    · rename_i ds' hc
      simp only [Option.some.injEq] at h
      subst h
      obtain ⟨_, xs, hx, r⟩ := hs.cell a _ hc
      exact ⟨a, xs, rfl, .of hx, r⟩
    · cases h
theorem its_of (hs : Hs K F C H) (r : Rep K F v x) (h : itsOf x C = some ds) : ∃ a xs, v = .ref a ∧ (SqL K H a xs ∨ SqT K H a xs) ∧ RepL K F xs ds := by
  have go : seqOf x C = some ds → ∃ a xs, v = .ref a ∧ (SqL K H a xs ∨ SqT K H a xs) ∧ RepL K F xs ds := fun h => by
    obtain ⟨a, xs, h1, h2, h3⟩ := seq_of hs r h
    exact ⟨a, xs, h1, .inl h2, h3⟩
  cases r <;> first
    | exact go h
    | (rename_i a xs ds' hq hr
       simp only [itsOf, Option.some.injEq] at h
       subst h
       exact ⟨a, xs, rfl, .inr (by first | exact .of (hs.ex.nd hq rfl) | exact ex_t hs.ex hq), hr⟩)
theorem atI_rep {xs : List V} {d : D} {i : Int} (r : RepL K F xs ds) (h : atI ds i = some d) : ∃ u, atI xs i = some u ∧ Rep K F u d := by
  unfold atI at h ⊢
  rw [r.length]
  cases e : ixN ds.length i with
  | none => rw [e] at h; cases h
  | some j =>
    rw [e] at h
    exact r.get h
end
/-- len(x) -/
def lenOf (x : D) (C : Cells) : Option Nat := match x with
  | .str z => if z.length ≤ 100000 then some z.length else none
  | x => (itsOf x C).map (·.length)
def dLen (ds : List D) (C : Cells) (P : DK) : Prop := match ds with
  | [x] => match lenOf x C with
    | some n => P (.int n) C
    | none => False
  | _ => False
/-- x[i] -/
def itemOf (x : D) (C : Cells) (i : Int) : Option D := match x with
  | .str z => if z.length ≤ 100000 then (atI z.cps.toList i).map fun c => .str ⟨#[c]⟩ else none
  | x => (itsOf x C).bind fun ds => atI ds i
def dIx (x : D) (y : D) (C : Cells) (P : DK) : Prop := match y with
  | .int i => match itemOf x C i with
    | some d => P d C
    | none => False
  | _ => False
section
variable {K : PySem.W.Frag}
theorem RepL.one {F : Hp} {xs : List V} {x : D} (r : RepL K F xs [x]) : ∃ v, xs = [v] ∧ Rep K F v x := by
  cases r with
  | cons r1 r2 =>
    cases r2
    exact ⟨_, rfl, r1⟩
theorem s_len : SimA K (fun xs H Q => ∃ x n, xs = [x] ∧ LenV K x H n ∧ Q (.int n) H) dLen := fun F C H xs ds P Q hs r w k => by
  revert w
  unfold dLen
  split
  · rename_i x
    split
    · rename_i n hn
      intro w
      obtain ⟨v, rfl, r1⟩ := r.one
      refine ⟨v, n, rfl, ?_, k _ F H _ C (Ex.refl F) hs (.int _) w⟩
      have go : ∀ ds', itsOf x C = some ds' → n = ds'.length → LenV K v H n := fun ds' e en => by
        obtain ⟨a, xs, rfl, h2, h3⟩ := its_of hs r1 e
        show (∃ xs, SqL K H a xs ∧ n = xs.length) ∨ ∃ xs, SqT K H a xs ∧ n = xs.length
        rcases h2 with h2 | h2
        · exact .inl ⟨xs, h2, by rw [en, h3.length]⟩
        · exact .inr ⟨xs, h2, by rw [en, h3.length]⟩
      cases r1 <;> first
        | (simp only [lenOf, Option.map_eq_some_iff] at hn
           obtain ⟨ds', e1, e2⟩ := hn
           exact go ds' e1 e2.symm)
        | (simp only [lenOf] at hn
           split at hn
           · rename_i hz
             cases hn
             exact ⟨sz_of hz, rfl⟩
           · cases hn)
    · exact fun z => z.elim
  · exact fun z => z.elim
theorem s_ix : SimR K (rIx K) dIx := fun F C H x y dx dy P Q hs rx ry w k => by
  revert w
  unfold dIx
  split
  · rename_i i
    cases ry
    split
    · rename_i d hd
      intro w
      have go : ∀ ds', itsOf dx C = some ds' → atI ds' i = some d → rIx K x (.int i) H Q := fun ds' e en => by
        obtain ⟨a, xs, rfl, h2, h3⟩ := its_of hs rx e
        obtain ⟨u, hu, ru⟩ := atI_rep h3 en
        rcases h2 with h2 | h2
        · exact .inl ⟨a, xs, i, u, rfl, rfl, h2, hu, k u F H d C (Ex.refl F) hs ru w⟩
        · exact .inr (.inl ⟨a, xs, i, u, rfl, rfl, h2, hu, k u F H d C (Ex.refl F) hs ru w⟩)
      cases rx <;> first
        | (simp only [itemOf, Option.bind_eq_some_iff] at hd
           obtain ⟨ds', e1, e2⟩ := hd
           exact go ds' e1 e2)
        | (simp only [itemOf] at hd
           split at hd
           · rename_i hz
             rw [Option.map_eq_some_iff] at hd
             obtain ⟨c, hc, rfl⟩ := hd
             exact .inr (.inr ⟨_, i, c, rfl, rfl, sz_of hz, hc, k _ F H _ C (Ex.refl F) hs (.str _) w⟩)
           · cases hd)
    · exact fun z => z.elim
  · exact fun z => z.elim
end

/-! ### a list that changes -/
def wSetL (o i e : DE) (E : DEnds) (ρ : DEnv) (C : Cells) : Prop := e ρ C (fun d C1 => o ρ C1 (fun x C2 => i ρ C2 (fun y C3 => match x, y with
  | .ptr a, .int n => match C3 a with
    | some (.lst ds) => match ixN ds.length n with
      | some j => E.nx ρ (cput C3 a (.lst (ds.set j d)))
      | none => False
    | _ => False
  | _, _ => False) E.ex) E.ex) E.ex
/-- o[i] op= e -/
def wAugL (o i e : DE) (r : DR2) (E : DEnds) (ρ : DEnv) (C : Cells) : Prop := o ρ C (fun x C1 => i ρ C1 (fun y C2 => match x, y with
  | .ptr a, .int n => match C2 a with
    | some (.lst ds) => match atI ds n with
      | some d => e ρ C2 (fun z C3 => r d z C3 (fun u C4 => match C4 a with
        | some (.lst ds') => match ixN ds'.length n with
          | some j => E.nx ρ (cput C4 a (.lst (ds'.set j u)))
          | none => False
        | _ => False)) E.ex
      | none => False
    | _ => False
  | _, _ => False) E.ex) E.ex
abbrev DRM := D → List D → Cells → DK → Prop
def isSeq (x : D) (C : Cells) : Prop := (seqOf x C).isSome = true
/-- a list's method -/
def wBML (r : DRM) (o : DE) (a : DA) (ρ : DEnv) (C : Cells) (P : DK) (PX : DX) : Prop := o ρ C (fun x C1 => isSeq x C1 ∧ a ρ C1 (fun ds C2 => r x ds C2 P) PX) PX
def SimM (K : PySem.W.Frag) (r : V → List V → Hp → VK → Prop) (rd : DRM) : Prop := ∀ F C H x dx xs ds P Q, Hs K F C H → Rep K F x dx → RepL K F xs ds → rd dx ds C P → Kont K F P Q → r x xs H Q
def dAppend (x : D) (ds : List D) (C : Cells) (P : DK) : Prop := match x, ds with
  | .ptr a, [d] => match C a with
    | some (.lst xs) => xs.length < 100000 ∧ P .non (cput C a (.lst (xs ++ [d])))
    | _ => False
  | _, _ => False
def dPop (x : D) (ds : List D) (C : Cells) (P : DK) : Prop := match x, ds with
  | .ptr a, [] => match C a with
    | some (.lst xs) => match xs[xs.length - 1]? with
      | some d => P d (cput C a (.lst xs.dropLast))
      | none => False
    | _ => False
  | _, _ => False
section
variable {X : Cx} {W : WX} {K : PySem.W.Frag} {o i e : Expr} {es : List Expr} {wo wi we : DE} {wr : DA} {pos tpos apos : Pos}
theorem i_setL {F H : Hp} {C : Cells} {a : Addr} {ds : List D} {d : D} {v : V} {j : Nat} (hs : Hs K F C H) (hc : C a = some (.lst ds)) (rv : Rep K F v d) :
    ∃ xs, H a = some (.lst xs) ∧ xs.length = ds.length ∧ RepL K F xs ds ∧ Hs K F (cput C a (.lst (ds.set j d))) (upd H a (.lst (xs.set j v))) := by
  obtain ⟨f0, xs, hx, r⟩ := hs.cell a _ hc
  exact ⟨xs, hx, r.length, r, hs.put (c := .lst (ds.set j d)) f0 ⟨_, upd_same, r.set rv j⟩⟩
theorem ds_setL (ho : PE X o (tE X.K W wo)) (hi : PE X i (tE X.K W wi)) (he : PE X e (tE X.K W we))
    (ha : ∀ v, assign (.Subscript o i pos) X.env v = (do
      let ov ← holding [v] (eval o X.env)
      let iv ← holding [v, ov] (eval i X.env)
      standAt pos
      holding [v, ov, iv] (setItem ov iv v)
      release [v, ov, iv] []) := by intro _; rfl)
    (hs : swapsWithSole [.Subscript o i pos] e tpos.line X.env = pure false := by rfl) (hw : swappedStores [.Subscript o i pos] e X.env = pure none := by rfl)
    (h1 : (assignEach [.Subscript o i pos] X.env).map (·.2) = [assign (.Subscript o i pos) X.env] := by rfl) : PS X (.Assign [.Subscript o i pos] e tpos) (tS X.K W (wSetL wo wi we)) :=
  PS.imp (ps_asg he (pg_sub ho hi set_list ha) hs hw h1) fun Dn σ H ⟨F, C, ρ, DE, hs, en, xr, w, er⟩ =>
  ⟨F, C, ρ, _, _, hs, en, xr, w, fun v F1 H1 d C1 e1 h1 rv q => ⟨F1, C1, ρ, _, _, h1, en.mono e1, xr.mono e1, q, fun x F2 H2 dx C2 e2 h2 rx q2 => ⟨F2, C2, ρ, _, _, h2, en.mono (e1.trans e2), xr.mono (e1.trans e2), q2, fun y F3 H3 dy C3 e3 h3 ry q3 => by
    revert q3
    dsimp only
    split
    · rename_i a n
      cases ry
      cases rx
      split
      · rename_i ds hc
        split
        · rename_i j hj
          intro q3
          obtain ⟨xs, hx, hl, r, h4⟩ := i_setL (j := j) h3 hc (rv.mono (e2.trans e3))
          exact ⟨a, xs, n, j, rfl, rfl, hx, by rw [hl]; exact hj, er.nx σ F3 _ ρ _ ((e1.trans e2).trans e3) h4 (en.mono ((e1.trans e2).trans e3)) q3⟩
        · exact fun z => z.elim
      · exact fun z => z.elim
    · exact fun z => z.elim⟩⟩⟩
theorem get_list : PGet X (rIxL X.K) := by
  intro pins s σ H x y v u Q I rx ry h
  obtain ⟨p, xs, i, z, rfl, rfl, hq, he, q⟩ := h
  cases rx
  obtain ⟨t, rfl⟩ := ry
  obtain ⟨its, r, pl, hz⟩ := I.list hq
  obtain ⟨j, h1, h2, h3, h4, h5⟩ := atI_get he
  obtain ⟨w, ew, rw'⟩ := r.get h2
  have hl := r.length
  have hn := line63
  have fin : EP X pins σ Q w s := ⟨z, H, I, rw', q⟩
  by_cases h0 : 0 ≤ i
  · have hj : i.toNat = j := by
      rw [seqIndex_of h0 h5] at h1
      exact Option.some.inj h1
    exact wpAny_getItem_list (x := w) pl.isList h0 (by omega) (by rw [hj]; simpa using ew) fin
  · have hj : (i + (its.toArray.size : Int)).toNat = j := by
      rw [seqIndex_neg (by omega) h4] at h1
      rw [List.size_toArray, ← hl]
      exact Option.some.inj h1
    exact wpAny_getItem_list_neg (x := w) pl.isList (by omega) (by rw [List.size_toArray] <;> omega) (by omega) (by rw [hj]; simpa using ew) fin
theorem ds_augL {op : Operator} {ti : TIp} {rd : DR2} (ho : PE X o (tE X.K W wo)) (hi : PE X i (tE X.K W wi)) (he : PE X e (tE X.K W we)) (hp : PIp X op ti) (hr : SimR X.K ti rd)
    (ha : ∀ ov iv new, augStore i ov iv new = (do holding [new, ov, iv] (setItem ov iv new); release [new, ov, iv] []; pure .next) := by intros; rfl) : PS X (.AugAssign (.Subscript o i tpos) op e pos) (tS X.K W (wAugL wo wi we rd)) :=
  PS.imp (ps_augS ho hi get_list he hp set_list ha) fun Dn σ H ⟨F, C, ρ, DE, hs, en, xr, w, er⟩ =>
  ⟨F, C, ρ, _, _, hs, en, xr, w, fun x F1 H1 dx C1 e1 h1 rx q => ⟨F1, C1, ρ, _, _, h1, en.mono e1, xr.mono e1, q, fun y F2 H2 dy C2 e2 h2 ry q2 => by
    revert q2
    dsimp only
    split
    · rename_i a n
      cases ry
      cases rx
      split
      · rename_i ds hc
        split
        · rename_i d hd
          intro q2
          obtain ⟨f0, xs, hx, r⟩ := h2.cell a _ hc
          obtain ⟨u, hu, ru⟩ := atI_rep r hd
          refine ⟨a, xs, n, u, rfl, rfl, .of hx, hu, F2, C2, ρ, _, _, h2, en.mono (e1.trans e2), xr.mono (e1.trans e2), q2, fun z F3 H3 dz C3 e3 h3 rz q3 => hr F3 C3 H3 u z d dz _ _ h3 (ru.mono e3) rz q3 fun g F4 H4 dg C4 e4 h4 rg q4 => ?_⟩
          revert q4
          split
          · rename_i ds' hc'
            split
            · rename_i j hj
              intro q4
              obtain ⟨xs', hx', hl', r', h5⟩ := i_setL (j := j) h4 hc' rg
              have ee := ((e1.trans e2).trans e3).trans e4
              exact ⟨a, xs', n, j, rfl, rfl, hx', by rw [hl']; exact hj, er.nx σ F4 _ ρ _ ee h5 (en.mono ee) q4⟩
            · exact fun z => z.elim
          · exact fun z => z.elim
        · exact fun z => z.elim
      · exact fun z => z.elim
    · exact fun z => z.elim⟩⟩
theorem isSeq_ty {F H : Hp} {C : Cells} {v : V} {x : D} (hs : Hs K F C H) (r : Rep K F v x) (h : isSeq x C) : tyV K "list" v H := by
  unfold isSeq at h
  obtain ⟨ds, hd⟩ := Option.isSome_iff_exists.mp h
  obtain ⟨a, xs, rfl, h2, _⟩ := seq_of hs r hd
  exact .inl ⟨rfl, xs, h2⟩
theorem d_bmL {id : String} {name : Str} {r : V → List V → Hp → VK → Prop} {rd : DRM} (pa : PlainAttrs "list") (slot : Slot "list" name id) (hty : typeOf (.builtin id) = pure (.type "method_descriptor")) (hm : MtR X id r) (hr : SimM X.K r rd) (ho : PE X o (tE X.K W wo)) (ha : PA X (e :: es) (tA X.K W wr))
    (hbase : attributeBase o name X.env (eval o X.env) = eval o X.env := by rfl)
    (hfew : ((backTo pos (starEach (e :: es) X.env)).all (fun x => !x.1) && (backToKw pos (keywordEach [] X.env)).all (fun x => x.1.isSome)
      && decide ((e :: es).length + ([] : List Keyword).length + (if ([] : List Keyword).isEmpty then 0 else 1) < 30)) = true := by rfl)
    (hline : (apos.endLine == pos.line) = true := by rfl) (hs : starEach (e :: es) X.env = (false, eval e X.env) :: starEach es X.env := by rfl) (hplain : (backTo pos (starEach es X.env)).any (·.1) = false := by rfl) :
    PE X (.Call (.Attribute o name apos) (e :: es) [] pos) (tE X.K W (wBML rd wo wr)) :=
  PE.imp (pe_bm pa slot hty hm ho ha hbase hfew hline hs hplain) fun σ H Q ⟨F, C, ρ, P, PX, hs, en, xr, w, k⟩ => ⟨F, C, ρ, _, PX, hs, en, xr, w, fun v F1 H1 d C1 e1 h1 rv q => ⟨isSeq_ty h1 rv q.1, F1, C1, ρ, _, PX, h1, en.mono e1, xr.mono e1, q.2, fun vs F2 H2 ds C2 e2 h2 rl q2 => hr F2 C2 H2 v d vs ds P Q h2 (rv.mono e2) rl q2 (k.mono (e1.trans e2))⟩⟩
theorem d_bmL0 {id : String} {name : Str} {r : V → List V → Hp → VK → Prop} {rd : DRM} (pa : PlainAttrs "list") (slot : Slot "list" name id) (hty : typeOf (.builtin id) = pure (.type "method_descriptor")) (hm : MtR X id r) (hr : SimM X.K r rd) (ho : PE X o (tE X.K W wo))
    (hbase : attributeBase o name X.env (eval o X.env) = eval o X.env := by rfl) (hline : (apos.endLine == pos.line) = true := by rfl) : PE X (.Call (.Attribute o name apos) [] [] pos) (tE X.K W (wBML rd wo wNil)) :=
  PE.imp (pe_bm0 pa slot hty hm ho hbase hline) fun σ H Q ⟨F, C, ρ, P, PX, hs, en, xr, w, k⟩ => ⟨F, C, ρ, _, PX, hs, en, xr, w, fun v F1 H1 d C1 e1 h1 rv q => ⟨isSeq_ty h1 rv q.1, hr F1 C1 H1 v d [] [] P Q h1 rv .nil q.2 (k.mono e1)⟩⟩
theorem s_append : SimM K rAppend dAppend := fun F C H x dx xs ds P Q hs rx rl w k => by
  revert w
  unfold dAppend
  split
  · rename_i a d
    cases rx
    split
    · rename_i ys hc
      rintro ⟨hl, w⟩
      cases rl with
      | cons r1 r2 =>
        cases r2
        obtain ⟨f0, zs, hx, r⟩ := hs.cell a _ hc
        exact ⟨a, zs, _, rfl, rfl, hx, by rw [r.length]; exact sz_lt hl, k _ F _ _ _ (Ex.refl F) (hs.put (c := .lst (ys ++ [d])) f0 ⟨_, upd_same, r.append (.cons r1 .nil)⟩) .non w⟩
    · exact fun z => z.elim
  · exact fun z => z.elim
theorem s_pop : SimM K rPop dPop := fun F C H x dx xs ds P Q hs rx rl w k => by
  revert w
  unfold dPop
  split
  · rename_i a
    cases rx
    cases rl
    split
    · rename_i ys hc
      split
      · rename_i d hd
        intro w
        obtain ⟨f0, zs, hx, r⟩ := hs.cell a _ hc
        obtain ⟨u, hu, ru⟩ := r.get hd
        exact ⟨a, zs, u, rfl, rfl, hx, by rw [r.length]; exact hu, k _ F _ _ _ (Ex.refl F) (hs.put (c := .lst ys.dropLast) f0 ⟨_, upd_same, r.dropLast⟩) ru w⟩
      · exact fun z => z.elim
    · exact fun z => z.elim
  · exact fun z => z.elim
end
/-! ### + and * of lists, slices, list(..) -/
def dCat (x : D) (y : D) (C : Cells) (P : DK) : Prop := match seqOf x C, seqOf y C with
  | some xs, some ys => xs.length + ys.length ≤ 100000 ∧ P (.lst (xs ++ ys)) C
  | _, _ => False
def rCatS (K : PySem.W.Frag) : R2 := fun x y H Q => ∃ l b xs zs, x = .ref l ∧ y = .ref b ∧ SqL K H l xs ∧ SqL K H b zs ∧ xs.length + zs.length ≤ sizeLine ∧ ∀ p, H p = none → Q (.ref p) (upd H p (.lst (xs ++ zs)))
theorem op_catS {X : Cx} : OpR X (binaryOp .Add) (rCatS X.K) := by
  intro pins s σ H x y v u Q I rx ry h
  obtain ⟨l, b, xs, zs, rfl, rfl, hH, hB, hz, q⟩ := h
  cases rx
  cases ry
  obtain ⟨its, r, pl, _⟩ := I.list hH
  obtain ⟨its2, r2, pl2, _⟩ := I.list hB
  obtain ⟨⟨cls, dd, data, sl⟩, ho, hc, n, hd⟩ := id pl.isList
  obtain ⟨⟨cls2, dd2, data2, sl2⟩, ho2, hc2, n2, hd2⟩ := id pl2.isList
  simp only at hc hd hc2 hd2
  subst hc hd hc2 hd2
  have hl := r.length
  have hl2 := r2.length
  have e : its.toArray ++ its2.toArray = (its ++ its2).toArray := by simp
  refine concat_meets ⟨_, ho, rfl⟩ ⟨_, ho2, rfl⟩ noFill_list_add seq_list_add PySem.F.slot_list_add PySem.F.entry_list_add (PySem.F.args_list_add_2 _ _) (list_addW l b its.toArray its2.toArray n n2 dd dd2 sl sl2 (by rw [List.size_toArray, List.size_toArray]; omega)) ⟨ho, ho2, ?_⟩
  rw [e]
  exact ⟨.ref _, _, I.lnew (t' := s.toks) (r.append r2) (by rw [List.length_append]; omega), rfl, q _ I.fresh⟩
section
variable {X : Cx} {W : WX} {K : PySem.W.Frag}
theorem s_cat : SimR K (rCatS K) dCat := fun F C H x y dx dy P Q hs rx ry w k => by
  revert w
  unfold dCat
  split
  · rename_i xs ys h1 h2
    rintro ⟨hz, w⟩
    obtain ⟨a, us, rfl, hu, ru⟩ := seq_of hs rx h1
    obtain ⟨b, vs, rfl, hv, rv⟩ := seq_of hs ry h2
    refine ⟨a, b, us, vs, rfl, rfl, hu, hv, by rw [ru.length, rv.length]; exact sz_of hz, fun p hp => ?_⟩
    obtain ⟨e2, h3, r3⟩ := hs.newL (ru.append rv) hp
    exact k _ _ _ _ C e2 h3 r3 w
  · exact fun z => z.elim
/-- [e, ..] * n, the new list frozen, or a cell -/
def wRep (a : DA) (n : DE) (ρ : DEnv) (C : Cells) (P : DK) (PX : DX) : Prop := a ρ C (fun ds C1 => ds.length ≤ 100000 ∧ n ρ C1 (fun y C2 => match y with
  | .int k => (-(2 ^ 63) ≤ k ∧ k < 2 ^ 63 ∧ ds.length * k.toNat ≤ 100000) ∧ P (.lst (List.replicate k.toNat ds).flatten) C2
  | _ => False) PX) PX
def wRepC (a : DA) (n : DE) (ρ : DEnv) (C : Cells) (P : DK) (PX : DX) : Prop := a ρ C (fun ds C1 => ds.length ≤ 100000 ∧ n ρ C1 (fun y C2 => match y with
  | .int k => (-(2 ^ 63) ≤ k ∧ k < 2 ^ 63 ∧ ds.length * k.toNat ≤ 100000) ∧ ∀ p, C2 p = none → P (.ptr p) (cput C2 p (.lst (List.replicate k.toNat ds).flatten))
  | _ => False) PX) PX
theorem RepL.flat {F : Hp} {xs : List V} {ds : List D} (r : RepL K F xs ds) : ∀ n, RepL K F (List.replicate n xs).flatten (List.replicate n ds).flatten
  | 0 => .nil
  | n + 1 => by
    rw [List.replicate_succ, List.flatten_cons, List.replicate_succ, List.flatten_cons]
    exact r.append (RepL.flat r n)
theorem d_rep {es : List Expr} {b : Expr} {wr : DA} {wb : DE} {pos p2 : Pos} (ha : PA X es (tA X.K W wr)) (hb : PE X b (tE X.K W wb)) : PE X (.BinOp (.List es p2) .Mult b pos) (tE X.K W (wRep wr wb)) :=
  PE.imp (pe_op op_rep (pe_lst ha) hb) fun σ H Q ⟨F, C, ρ, P, PX, hs, en, xr, w, k⟩ => by
  refine ⟨F, C, ρ, _, PX, hs, en, xr, w, fun vs F1 H1 ds C1 e1 h1 r q => ?_⟩
  obtain ⟨hz, q⟩ := q
  refine ⟨by rw [r.length]; exact sz_of hz, fun p hp => ?_⟩
  obtain ⟨e2, h2, r2⟩ := h1.newL r hp
  refine ⟨_, C1, ρ, _, PX, h2, en.mono (e1.trans e2), xr.mono (e1.trans e2), q, fun u F3 H3 dy C3 e3 h3 ry q3 => ?_⟩
  revert q3
  dsimp only
  split
  · rename_i n
    rintro ⟨⟨b1, b2, b3⟩, q3⟩
    cases ry
    refine ⟨p, n, vs, rfl, rfl, h3.ex.nd (e3.nd upd_same rfl) rfl, b1, b2, by rw [r.length]; exact sz_of b3, fun l hl => ?_⟩
    obtain ⟨e4, h4, r4⟩ := h3.newL ((r.mono (e2.trans e3)).flat n.toNat) hl
    exact k _ _ _ _ C3 (((e1.trans e2).trans e3).trans e4) h4 r4 q3
  · exact fun z => z.elim
theorem d_repC {es : List Expr} {b : Expr} {wr : DA} {wb : DE} {pos p2 : Pos} (ha : PA X es (tA X.K W wr)) (hb : PE X b (tE X.K W wb)) : PE X (.BinOp (.List es p2) .Mult b pos) (tE X.K W (wRepC wr wb)) :=
  PE.imp (pe_op op_rep (pe_lst ha) hb) fun σ H Q ⟨F, C, ρ, P, PX, hs, en, xr, w, k⟩ => by
  refine ⟨F, C, ρ, _, PX, hs, en, xr, w, fun vs F1 H1 ds C1 e1 h1 r q => ?_⟩
  obtain ⟨hz, q⟩ := q
  refine ⟨by rw [r.length]; exact sz_of hz, fun p hp => ?_⟩
  obtain ⟨e2, h2, r2⟩ := h1.newL r hp
  refine ⟨_, C1, ρ, _, PX, h2, en.mono (e1.trans e2), xr.mono (e1.trans e2), q, fun u F3 H3 dy C3 e3 h3 ry q3 => ?_⟩
  revert q3
  dsimp only
  split
  · rename_i n
    rintro ⟨⟨b1, b2, b3⟩, q3⟩
    cases ry
    refine ⟨p, n, vs, rfl, rfl, h3.ex.nd (e3.nd upd_same rfl) rfl, b1, b2, by rw [r.length]; exact sz_of b3, fun l hl => ?_⟩
    obtain ⟨c0, h4⟩ := h3.newC ((r.mono (e2.trans e3)).flat n.toNat) hl
    exact k _ _ _ _ _ ((e1.trans e2).trans e3) h4 (.ptr l) (q3 l c0)
  · exact fun z => z.elim
end
/-! ### slices -/
abbrev DO := DEnv → Cells → (Option Int → Cells → Prop) → DX → Prop
def wNoPart (_ : DEnv) (C : Cells) (P : Option Int → Cells → Prop) (_ : DX) : Prop := P none C
def wPart (e : DE) (ρ : DEnv) (C : Cells) (P : Option Int → Cells → Prop) (PX : DX) : Prop := e ρ C (fun d C1 => match d with | .int i => P (some i) C1 | _ => False) PX
def tO (K : PySem.W.Frag) (W : WX) (w : DO) : TO := fun σ H Q => ∃ F C ρ P PX, Hs K F C H ∧ EnvR K F σ ρ ∧ ExR K F W PX ∧ w ρ C P PX ∧ ∀ o F' H' C', Ex F F' → Hs K F' C' H' → P o C' → Q o H'
theorem PO.imp {X : Cx} {e : Option Expr} {t t' : TO} (h : PO X e t) (i : ∀ σ H Q, t' σ H Q → t σ H Q) : PO X e t' := ⟨fun pins s σ H Q I w => h.run pins s σ H Q I (i σ H Q w)⟩
def cutD (xs : List D) (lo hi : Option Int) : List D := (xs.drop (HT.sIx xs.length 0 lo)).take (HT.sIx xs.length xs.length hi - HT.sIx xs.length 0 lo)
def wSl (e : DE) (lo hi : DO) (ρ : DEnv) (C : Cells) (P : DK) (PX : DX) : Prop := e ρ C (fun x C1 => lo ρ C1 (fun l C2 => hi ρ C2 (fun h C3 => match seqOf x C3 with
  | some ds => P (.lst (cutD ds l h)) C3
  | none => False) PX) PX) PX
section
variable {X : Cx} {W : WX} {K : PySem.W.Frag}
theorem do_none : PO X none (tO X.K W wNoPart) := PO.imp po_none fun σ H Q ⟨F, C, ρ, P, PX, hs, en, xr, w, k⟩ => k _ F H C (Ex.refl F) hs w
theorem do_some {e : Expr} {we : DE} (he : PE X e (tE X.K W we)) : PO X (some e) (tO X.K W (wPart we)) := PO.imp (po_some he) fun σ H Q ⟨F, C, ρ, P, PX, hs, en, xr, w, k⟩ =>
  ⟨F, C, ρ, _, PX, hs, en, xr, w, fun v F1 H1 d C1 e1 h1 r q => by
    cases r <;> first | exact q.elim | exact ⟨_, rfl, k _ F1 H1 C1 e1 h1 q⟩⟩
theorem RepL.cut {F : Hp} {xs : List V} {ds : List D} (r : RepL K F xs ds) (lo hi : Option Int) : RepL K F (cutV xs lo hi) (cutD ds lo hi) := by
  unfold cutV cutD
  rw [r.length]
  exact (r.drop _).take _
theorem d_sl {e : Expr} {lo hi : Option Expr} {we : DE} {wl wh : DO} {p2 pos : Pos} (he : PE X e (tE X.K W we)) (hl : PO X lo (tO X.K W wl)) (hh : PO X hi (tO X.K W wh)) : PE X (.Subscript e (.Slice lo hi none p2) pos) (tE X.K W (wSl we wl wh)) :=
  PE.imp (pe_slice sl_list he hl hh) fun σ H Q ⟨F, C, ρ, P, PX, hs, en, xr, w, k⟩ =>
  ⟨F, C, ρ, _, PX, hs, en, xr, w, fun v F1 H1 x C1 e1 h1 rv q => ⟨F1, C1, ρ, _, PX, h1, en.mono e1, xr.mono e1, q, fun l F2 H2 C2 e2 h2 q2 => ⟨F2, C2, ρ, _, PX, h2, en.mono (e1.trans e2), xr.mono (e1.trans e2), q2, fun h F3 H3 C3 e3 h3 q3 => by
    revert q3
    dsimp only
    split
    · rename_i ds hd
      intro q3
      obtain ⟨a, us, rfl, hu, ru⟩ := seq_of h3 (rv.mono (e2.trans e3)) hd
      refine ⟨a, us, rfl, hu, fun p hp => ?_⟩
      obtain ⟨e4, h4, r4⟩ := h3.newL (ru.cut l h) hp
      exact k _ _ _ _ C3 (((e1.trans e2).trans e3).trans e4) h4 r4 q3
    · exact fun z => z.elim⟩⟩⟩
end

/-! ### built-ins -/
/-- list(x): frozen, a cell -/
def dList (ds : List D) (C : Cells) (P : DK) : Prop := match ds with
  | [x] => match itsOf x C with
    | some xs => P (.lst xs) C
    | none => False
  | _ => False
def dListC (ds : List D) (C : Cells) (P : DK) : Prop := match ds with
  | [x] => match itsOf x C with
    | some xs => ∀ p, C p = none → P (.ptr p) (cput C p (.lst xs))
    | none => False
  | _ => False
def dTupleOf (ds : List D) (C : Cells) (P : DK) : Prop := match ds with
  | [x] => match itsOf x C with
    | some xs => P (match x with | .ktup ys => .ktup ys | _ => .tup xs) C
    | none => False
  | _ => False
def dMax2 (ds : List D) (C : Cells) (P : DK) : Prop := match ds with
  | [.int i, .int j] => P (.int (max i j)) C
  | _ => False
def dMin2 (ds : List D) (C : Cells) (P : DK) : Prop := match ds with
  | [.int i, .int j] => P (.int (min i j)) C
  | _ => False
def dAbs (ds : List D) (C : Cells) (P : DK) : Prop := match ds with
  | [.int i] => P (.int i.natAbs) C
  | _ => False
def dInt (ds : List D) (C : Cells) (P : DK) : Prop := match ds with
  | [.int i] => P (.int i) C
  | [.bl b] => P (.int (if b then 1 else 0)) C
  | _ => False
/-- the whole numbers of a list -/
def IntsOf (x : D) (C : Cells) (ns : List Int) : Prop := seqOf x C = some (ns.map D.int)
def dSum (ds : List D) (C : Cells) (P : DK) : Prop := match ds with
  | [x] => ∃ ns, IntsOf x C ns ∧ P (.int ns.sum) C
  | _ => False
def maxI : List Int → Int
  | [] => 0
  | x :: r => r.foldl max x
def minI : List Int → Int
  | [] => 0
  | x :: r => r.foldl min x
def dMaxL (ds : List D) (C : Cells) (P : DK) : Prop := match ds with
  | [x] => ∃ ns, IntsOf x C ns ∧ ns ≠ [] ∧ P (.int (maxI ns)) C
  | _ => False
def dMinL (ds : List D) (C : Cells) (P : DK) : Prop := match ds with
  | [x] => ∃ ns, IntsOf x C ns ∧ ns ≠ [] ∧ P (.int (minI ns)) C
  | _ => False
def sortI (ns : List Int) : List Int := ns.mergeSort (fun a b => decide (a ≤ b))
def dSortI (ds : List D) (C : Cells) (P : DK) : Prop := match ds with
  | [x] => ∃ ns, IntsOf x C ns ∧ P (.lst ((sortI ns).map D.int)) C
  | _ => False
theorem foldl_max_spec : ∀ (r : List Int) (x : Int), (r.foldl max x = x ∨ r.foldl max x ∈ r) ∧ x ≤ r.foldl max x ∧ ∀ y ∈ r, y ≤ r.foldl max x
  | [], x => ⟨.inl rfl, Int.le_refl _, by simp⟩
  | z :: r, x => by
    obtain ⟨h1, h2, h3⟩ := foldl_max_spec r (max x z)
    simp only [List.foldl_cons]
    refine ⟨?_, by omega, fun y hy => ?_⟩
    · rcases h1 with h1 | h1
      · rcases Int.le_total x z with h | h
        · rw [h1, Int.max_eq_right h]; exact .inr List.mem_cons_self
        · rw [h1, Int.max_eq_left h]; exact .inl rfl
      · exact .inr (List.mem_cons_of_mem _ h1)
    · rcases List.mem_cons.mp hy with rfl | hy
      · omega
      · exact h3 y hy
theorem foldl_min_spec : ∀ (r : List Int) (x : Int), (r.foldl min x = x ∨ r.foldl min x ∈ r) ∧ r.foldl min x ≤ x ∧ ∀ y ∈ r, r.foldl min x ≤ y
  | [], x => ⟨.inl rfl, Int.le_refl _, by simp⟩
  | z :: r, x => by
    obtain ⟨h1, h2, h3⟩ := foldl_min_spec r (min x z)
    simp only [List.foldl_cons]
    refine ⟨?_, by omega, fun y hy => ?_⟩
    · rcases h1 with h1 | h1
      · rcases Int.le_total x z with h | h
        · rw [h1, Int.min_eq_left h]; exact .inl rfl
        · rw [h1, Int.min_eq_right h]; exact .inr List.mem_cons_self
      · exact .inr (List.mem_cons_of_mem _ h1)
    · rcases List.mem_cons.mp hy with rfl | hy
      · omega
      · exact h3 y hy
theorem maxI_spec : ∀ {ns : List Int}, ns ≠ [] → maxI ns ∈ ns ∧ ∀ y ∈ ns, y ≤ maxI ns
  | [], h => absurd rfl h
  | x :: r, _ => by
    obtain ⟨h1, h2, h3⟩ := foldl_max_spec r x
    refine ⟨?_, fun y hy => ?_⟩
    · show r.foldl max x ∈ x :: r
      rcases h1 with h1 | h1
      · rw [h1]; exact List.mem_cons_self
      · exact List.mem_cons_of_mem _ h1
    · show y ≤ r.foldl max x
      rcases List.mem_cons.mp hy with rfl | hy
      · exact h2
      · exact h3 y hy
theorem minI_spec : ∀ {ns : List Int}, ns ≠ [] → minI ns ∈ ns ∧ ∀ y ∈ ns, minI ns ≤ y
  | [], h => absurd rfl h
  | x :: r, _ => by
    obtain ⟨h1, h2, h3⟩ := foldl_min_spec r x
    refine ⟨?_, fun y hy => ?_⟩
    · show r.foldl min x ∈ x :: r
      rcases h1 with h1 | h1
      · rw [h1]; exact List.mem_cons_self
      · exact List.mem_cons_of_mem _ h1
    · show r.foldl min x ≤ y
      rcases List.mem_cons.mp hy with rfl | hy
      · exact h2
      · exact h3 y hy
theorem sortI_perm (ns : List Int) : (sortI ns).Perm ns := List.mergeSort_perm ns _
theorem sortI_pair (ns : List Int) : (sortI ns).Pairwise (· ≤ ·) := by
  have h := List.pairwise_mergeSort (le := fun a b : Int => decide (a ≤ b)) (by intro a b c; simp; omega) (by intro a b; simp; omega) ns
  exact h.imp (by intro a b; simp)
theorem sorted_unique : ∀ {xs ys : List Int}, xs.Perm ys → xs.Pairwise (· ≤ ·) → ys.Pairwise (· ≤ ·) → xs = ys := fun {xs ys} p h1 h2 =>
  p.eq_of_pairwise (fun a b _ _ h h' => by omega) h1 h2
section
variable {K : PySem.W.Frag}
theorem ints_of {F H : Hp} {C : Cells} {v : V} {x : D} {ns : List Int} (hs : Hs K F C H) (r : Rep K F v x) (h : IntsOf x C ns) : ∃ a, v = .ref a ∧ SqL K H a (ns.map V.int) := by
  obtain ⟨a, xs, rfl, h2, h3⟩ := seq_of hs r h
  rw [h3.of_ints] at h2
  exact ⟨a, rfl, h2⟩
theorem s_list : SimA K (fun xs H Q => ∃ p ys, xs = [.ref p] ∧ (SqL K H p ys ∨ SqT K H p ys) ∧ ∀ l, H l = none → Q (.ref l) (upd H l (.lst ys))) dList := fun F C H xs ds P Q hs r w k => by
  revert w
  unfold dList
  split
  · split
    · rename_i ys hy
      intro w
      cases r with
      | cons r1 r2 =>
        cases r2
        obtain ⟨a, us, rfl, h2, h3⟩ := its_of hs r1 hy
        refine ⟨a, us, rfl, h2, fun p hp => ?_⟩
        obtain ⟨e4, h4, r4⟩ := hs.newL h3 hp
        exact k _ _ _ _ C e4 h4 r4 w
    · exact fun z => z.elim
  · exact fun z => z.elim
theorem s_listC : SimA K (fun xs H Q => ∃ p ys, xs = [.ref p] ∧ (SqL K H p ys ∨ SqT K H p ys) ∧ ∀ l, H l = none → Q (.ref l) (upd H l (.lst ys))) dListC := fun F C H xs ds P Q hs r w k => by
  revert w
  unfold dListC
  split
  · split
    · rename_i ys hy
      intro w
      cases r with
      | cons r1 r2 =>
        cases r2
        obtain ⟨a, us, rfl, h2, h3⟩ := its_of hs r1 hy
        refine ⟨a, us, rfl, h2, fun p hp => ?_⟩
        obtain ⟨c0, h4⟩ := hs.newC h3 hp
        exact k _ _ _ _ _ (Ex.refl F) h4 (.ptr p) (w p c0)
    · exact fun z => z.elim
  · exact fun z => z.elim
theorem s_max2 : SimA K (fun xs H Q => ∃ i j, xs = [.int i, .int j] ∧ Q (.int (if j > i then j else i)) H) dMax2 := fun F C H xs ds P Q hs r w k => by
  revert w
  unfold dMax2
  split
  · rename_i i j
    intro w
    cases r with
    | cons r1 r2 =>
      cases r1
      cases r2 with
      | cons r3 r4 =>
        cases r3; cases r4
        refine ⟨i, j, rfl, k _ F H _ C (Ex.refl F) hs (.int _) ?_⟩
        rw [show (if j > i then j else i) = max i j by split <;> omega]
        exact w
  · exact fun z => z.elim
theorem s_min2 : SimA K (fun xs H Q => ∃ i j, xs = [.int i, .int j] ∧ Q (.int (if j < i then j else i)) H) dMin2 := fun F C H xs ds P Q hs r w k => by
  revert w
  unfold dMin2
  split
  · rename_i i j
    intro w
    cases r with
    | cons r1 r2 =>
      cases r1
      cases r2 with
      | cons r3 r4 =>
        cases r3; cases r4
        refine ⟨i, j, rfl, k _ F H _ C (Ex.refl F) hs (.int _) ?_⟩
        rw [show (if j < i then j else i) = min i j by split <;> omega]
        exact w
  · exact fun z => z.elim
theorem s_abs : SimA K (fun xs H Q => ∃ i, xs = [.int i] ∧ Q (.int (if i < 0 then -i else i)) H) dAbs := fun F C H xs ds P Q hs r w k => by
  revert w
  unfold dAbs
  split
  · rename_i i
    intro w
    cases r with
    | cons r1 r2 =>
      cases r1; cases r2
      refine ⟨i, rfl, k _ F H _ C (Ex.refl F) hs (.int _) ?_⟩
      rw [show (if i < 0 then -i else i) = (i.natAbs : Int) by split <;> omega]
      exact w
  · exact fun z => z.elim
theorem s_int : SimA K (fun xs H Q => (∃ i, xs = [.int i] ∧ Q (.int i) H) ∨ ∃ k, xs = [.bl k] ∧ Q (.int (if k then 1 else 0)) H) dInt := fun F C H xs ds P Q hs r w k => by
  revert w
  unfold dInt
  split
  · rename_i i
    intro w
    cases r with
    | cons r1 r2 =>
      cases r1; cases r2
      exact .inl ⟨i, rfl, k _ F H _ C (Ex.refl F) hs (.int _) w⟩
  · rename_i b
    intro w
    cases r with
    | cons r1 r2 =>
      cases r1; cases r2
      exact .inr ⟨b, rfl, k _ F H _ C (Ex.refl F) hs (.int _) w⟩
  · exact fun z => z.elim
theorem s_sum : SimA K (rSum K) dSum := fun F C H xs ds P Q hs r w k => by
  revert w
  unfold dSum
  split
  · rintro ⟨ns, hn, w⟩
    cases r with
    | cons r1 r2 =>
      cases r2
      obtain ⟨a, rfl, h2⟩ := ints_of hs r1 hn
      exact ⟨a, ns, rfl, h2, k _ F H _ C (Ex.refl F) hs (.int _) w⟩
  · exact fun z => z.elim
theorem s_maxL : SimA K (rMax K) dMaxL := fun F C H xs ds P Q hs r w k => by
  revert w
  unfold dMaxL
  split
  · rintro ⟨ns, hn, hne, w⟩
    cases r with
    | cons r1 r2 =>
      cases r2
      obtain ⟨a, rfl, h2⟩ := ints_of hs r1 hn
      refine ⟨a, ns, rfl, h2, List.length_pos_iff.mpr hne, fun m hm hle => ?_⟩
      obtain ⟨g1, g2⟩ := maxI_spec hne
      rw [show m = maxI ns from Int.le_antisymm (g2 m hm) (hle _ g1)]
      exact k _ F H _ C (Ex.refl F) hs (.int _) w
  · exact fun z => z.elim
theorem s_minL : SimA K (rMin K) dMinL := fun F C H xs ds P Q hs r w k => by
  revert w
  unfold dMinL
  split
  · rintro ⟨ns, hn, hne, w⟩
    cases r with
    | cons r1 r2 =>
      cases r2
      obtain ⟨a, rfl, h2⟩ := ints_of hs r1 hn
      refine ⟨a, ns, rfl, h2, List.length_pos_iff.mpr hne, fun m hm hle => ?_⟩
      obtain ⟨g1, g2⟩ := minI_spec hne
      rw [show m = minI ns from Int.le_antisymm (hle _ g1) (g2 m hm)]
      exact k _ F H _ C (Ex.refl F) hs (.int _) w
  · exact fun z => z.elim
theorem s_sortI : SimA K (rSortedI K) dSortI := fun F C H xs ds P Q hs r w k => by
  revert w
  unfold dSortI
  split
  · rintro ⟨ns, hn, w⟩
    cases r with
    | cons r1 r2 =>
      cases r2
      obtain ⟨a, rfl, h2⟩ := ints_of hs r1 hn
      refine ⟨a, ns, rfl, h2, fun ns' p hp hr hf => ?_⟩
      have e : ns' = sortI ns := sorted_unique (hp.trans (sortI_perm ns).symm) hr (sortI_pair ns)
      subst e
      obtain ⟨e4, h4, r4⟩ := hs.newL (RepL.ints _) hf
      exact k _ _ _ _ C e4 h4 r4 w
  · exact fun z => z.elim
end
end DD

set_option Elab.async false
set_option linter.all false
set_option maxRecDepth 100000
set_option maxHeartbeats 4000000
/-! Readings over data: == of nested data, in, comprehensions. -/
namespace DD
open PySem L2 PyProof.Rows

mutual
def D.py : D → PyData
  | .non => .none
  | .bl b => .bool b
  | .int i => .int i
  | .str x => .str x
  | .tup xs => .tuple (pys xs)
  | .lst xs => .list (pys xs)
  | .ins _ _ => .dict []
  | .ptr _ => .dict []
  | .dK _ => .dict []
  | .dT _ => .dict []
  | .ktup xs => .tuple (pys xs)
def pys : List D → List PyData
  | [] => []
  | d :: r => d.py :: pys r
end
/-- data of a depth, of nothing but None, bools, ints, texts, lists, tuples -/
inductive Dat : Nat → D → Prop where
  | non {n} : Dat n .non
  | bl {n} (b : Bool) : Dat n (.bl b)
  | int {n} (i : Int) : Dat n (.int i)
  | str {n} {x : Str} (h : PyData.canLay0 (.str x) = true) : Dat n (.str x)
  | tup {n} {ds : List D} (h : ∀ d, d ∈ ds → Dat n d) : Dat (n + 1) (.tup ds)
  | lst {n} {ds : List D} (h : ∀ d, d ∈ ds → Dat n d) : Dat (n + 1) (.lst ds)
  | ktup {n} {ds : List D} (h : ∀ d, d ∈ ds → Dat n d) : Dat (n + 1) (.ktup ds)
theorem dat_mono : ∀ {n m : Nat} {d : D}, Dat n d → n ≤ m → Dat m d
  | _, _, _, .non, _ => .non
  | _, _, _, .bl b, _ => .bl b
  | _, _, _, .int i, _ => .int i
  | _, _, _, .str h, _ => .str h
  | n + 1, m, _, .tup h, l => by
    obtain ⟨k, rfl⟩ : ∃ k, m = k + 1 := ⟨m - 1, by omega⟩
    exact .tup fun d hd => dat_mono (h d hd) (by omega)
  | n + 1, m, _, .lst h, l => by
    obtain ⟨k, rfl⟩ : ∃ k, m = k + 1 := ⟨m - 1, by omega⟩
    exact .lst fun d hd => dat_mono (h d hd) (by omega)
  | n + 1, m, _, .ktup h, l => by
    obtain ⟨k, rfl⟩ : ∃ k, m = k + 1 := ⟨m - 1, by omega⟩
    exact .ktup fun d hd => dat_mono (h d hd) (by omega)
theorem pys_lay {n : Nat} : ∀ ds : List D, (∀ d, d ∈ ds → PyData.canLay0 d.py = true ∧ d.py.depth ≤ n) → PyData.canLayAll0 (pys ds) = true ∧ PyData.depthAll (pys ds) ≤ n
  | [], _ => by simp [pys, PyData.canLayAll0, PyData.depthAll]
  | d :: r, h => by
    obtain ⟨h1, h2⟩ := h d List.mem_cons_self
    obtain ⟨h3, h4⟩ := pys_lay r fun e he => h e (List.mem_cons_of_mem _ he)
    refine ⟨by simp [pys, PyData.canLayAll0, h1, h3], ?_⟩
    simp only [pys, PyData.depthAll]
    omega
theorem dat_lay : ∀ {n : Nat} {d : D}, Dat n d → PyData.canLay0 d.py = true ∧ d.py.depth ≤ n
  | _, _, .non => by simp [D.py, PyData.canLay0, PyData.depth]
  | _, _, .bl b => by simp [D.py, PyData.canLay0, PyData.depth]
  | _, _, .int i => by simp [D.py, PyData.canLay0, PyData.depth]
  | _, _, .str h => ⟨h, by simp [D.py, PyData.depth]⟩
  | n + 1, _, .tup (ds := ds) h => by
    obtain ⟨h1, h2⟩ := pys_lay (n := n) ds fun d hd => dat_lay (h d hd)
    exact ⟨by simp only [D.py, PyData.canLay0, h1], by simp only [D.py, PyData.depth]; omega⟩
  | n + 1, _, .lst (ds := ds) h => by
    obtain ⟨h1, h2⟩ := pys_lay (n := n) ds fun d hd => dat_lay (h d hd)
    exact ⟨by simp only [D.py, PyData.canLay0, h1], by simp only [D.py, PyData.depth]; omega⟩
  | n + 1, _, .ktup (ds := ds) h => by
    obtain ⟨h1, h2⟩ := pys_lay (n := n) ds fun d hd => dat_lay (h d hd)
    exact ⟨by simp only [D.py, PyData.canLay0, h1], by simp only [D.py, PyData.depth]; omega⟩
theorem dat_shaped {n : Nat} {d : D} (h : Dat n d) (hn : n ≤ 60) : SeqAt.shaped d.py = true := by
  obtain ⟨h1, h2⟩ := dat_lay h
  unfold SeqAt.shaped
  rw [h1, decide_eq_true (by omega)]
  rfl
/-- == of data -/
def D.eqb (x y : D) : Bool := PyData.eqv x.py y.py
theorem eqb_self {n : Nat} {d : D} (h : Dat n d) : d.eqb d = true := SeqAt.eqv_refl _ (dat_lay h).1
/-- a list that is a cell, as data -/
def D.res (C : Cells) : D → D
  | .ptr a => match C a with
    | some (.lst ds) => .lst ds
    | _ => .ptr a
  | d => d
def dEqD (neg : Bool) (x : D) (y : D) (C : Cells) (P : DK) : Prop := ∃ n, n ≤ 60 ∧ Dat n (x.res C) ∧ Dat n (y.res C) ∧ P (.bl (neg ^^ (x.res C).eqb (y.res C))) C
section
variable {K : PySem.W.Frag} {F H : Hp} {C : Cells}
theorem dpAll_of {n : Nat} : ∀ {ds : List D} {xs : List V}, (∀ d, d ∈ ds → ∀ v, Rep K F v d → Dp K H v d.py) → RepL K F xs ds → DpAll K H xs (pys ds)
  | [], _, _, .nil => by simp only [pys]; exact .nil
  | d :: r, _, h, .cons h1 h2 => by
    simp only [pys]
    exact .cons (h d List.mem_cons_self _ h1) (dpAll_of (n := n) (fun e he => h e (List.mem_cons_of_mem _ he)) h2)
theorem rep_dp (ex : Ex F H) : ∀ {n : Nat} {d : D}, Dat n d → ∀ v, Rep K F v d → Dp K H v d.py
  | _, _, .non, v, r => by cases r; exact .non
  | _, _, .bl b, v, r => by cases r; exact .bl b
  | _, _, .int i, v, r => by cases r; exact .int i
  | _, _, .str h, v, r => by cases r; exact .str _
  | n + 1, _, .tup h, v, r => by
    cases r with
    | tup hq hr => exact .tup (.of (ex.nd hq rfl)) (dpAll_of (n := n) (fun d hd v r => rep_dp ex (h d hd) v r) hr)
  | n + 1, _, .ktup h, v, r => by
    cases r with
    | ktup hq hr => exact .tup (ex_t ex hq) (dpAll_of (n := n) (fun d hd v r => rep_dp ex (h d hd) v r) hr)
  | n + 1, _, .lst h, v, r => by
    cases r with
    | lst hq hr => exact .lst (ex_l ex hq) (dpAll_of (n := n) (fun d hd v r => rep_dp ex (h d hd) v r) hr)
theorem res_dp (hs : Hs K F C H) {n : Nat} {v : V} {x : D} (r : Rep K F v x) (h : Dat n (x.res C)) : Dp K H v (x.res C).py := by
  cases x with
  | ptr a =>
    cases r
    revert h
    show Dat n (match C a with | some (.lst ds) => .lst ds | _ => .ptr a) → Dp K H (.ref a) (D.py (match C a with | some (.lst ds) => .lst ds | _ => .ptr a))
    split
    · rename_i ds hc
      intro h
      obtain ⟨_, xs, hx, r⟩ := hs.cell a _ hc
      cases h with
      | lst h =>
        rename_i m
        exact .lst (.of hx) (dpAll_of (n := m) (fun d hd v r => rep_dp hs.ex (h d hd) v r) r)
    · intro h; cases h
  | _ => exact rep_dp hs.ex h v r
theorem s_eqD : SimR K (rEqD K) (dEqD false) := fun F C H x y dx dy P Q hs rx ry w k => by
  obtain ⟨n, hn, h1, h2, w⟩ := w
  refine ⟨_, _, res_dp hs rx h1, res_dp hs ry h2, dat_shaped h1 hn, dat_shaped h2 hn, ?_⟩
  rw [Bool.false_xor] at w
  exact k _ F H _ C (Ex.refl F) hs (.bl _) w
theorem s_neD : SimR K (rNeD K) (dEqD true) := fun F C H x y dx dy P Q hs rx ry w k => by
  obtain ⟨n, hn, h1, h2, w⟩ := w
  refine ⟨_, _, res_dp hs rx h1, res_dp hs ry h2, dat_shaped h1 hn, dat_shaped h2 hn, ?_⟩
  rw [Bool.true_xor] at w
  exact k _ F H _ C (Ex.refl F) hs (.bl _) w
end

/-! ### x in xs, of flat things -/
def toV : D → V
  | .non => .non
  | .bl b => .bl b
  | .int i => .int i
  | .str x => .str x
  | _ => .non
def flatD : D → Bool
  | .non => true
  | .bl _ => true
  | .int _ => true
  | .str _ => true
  | _ => false
/-- x is one of the items -/
def inD (x : D) (ds : List D) : Bool := ds.any fun y => eqV (toV y) (toV x)
def dIn (neg : Bool) (x : D) (y : D) (C : Cells) (P : DK) : Prop := match itsOf y C with
  | some ds => flatD x = true ∧ ds.all flatD = true ∧ P (.bl (neg ^^ inD x ds)) C
  | none => False
section
variable {K : PySem.W.Frag} {F H : Hp} {C : Cells}
theorem flat_rep {v : V} {x : D} (r : Rep K F v x) (h : flatD x = true) : v = toV x ∧ flatV v = true := by
  cases r <;> first | exact ⟨rfl, rfl⟩ | cases h
theorem flat_reps : ∀ {xs : List V} {ds : List D}, RepL K F xs ds → ds.all flatD = true → xs = ds.map toV ∧ xs.all flatV = true
  | _, _, .nil, _ => ⟨rfl, rfl⟩
  | _, _, .cons h r, a => by
    simp only [List.all_cons, Bool.and_eq_true] at a
    obtain ⟨e1, f1⟩ := flat_rep h a.1
    obtain ⟨e2, f2⟩ := flat_reps r a.2
    exact ⟨by rw [e1, e2]; rfl, by rw [List.all_cons, f1, f2]; rfl⟩
theorem s_inS {neg : Bool} : SimR K (rIn K neg) (dIn neg) := fun F C H x y dx dy P Q hs rx ry w k => by
  revert w
  unfold dIn
  split
  · rename_i ds hd
    rintro ⟨h1, h2, w⟩
    obtain ⟨a, xs, rfl, hq, hr⟩ := its_of hs ry hd
    obtain ⟨e1, f1⟩ := flat_rep rx h1
    obtain ⟨e2, f2⟩ := flat_reps hr h2
    refine ⟨a, xs, rfl, hq, f1, f2, ?_⟩
    have e : (if neg then !inV x xs else inV x xs) = (neg ^^ inD dx ds) := by
      rw [e1, e2]
      unfold inV inD
      rw [List.any_map]
      cases neg <;> simp [Function.comp_def]
    rw [e]
    exact k _ F H _ C (Ex.refl F) hs (.bl _) w
  · exact fun z => z.elim
end

/-! ### list comprehensions -/
def dwipe (ρ : DEnv) : List Nat → DEnv
  | [] => ρ
  | v :: vs => (dwipe ρ vs).set v none
abbrev noX : DX := fun _ _ _ _ => False
def wYes (_ : DEnv) (C : Cells) (P : Bool → Cells → Prop) (_ : DX) : Prop := P true C
def LcG (J : DIt) (t : Tgt) (wt : DT) (we : DE) (vs : List Nat) (ρ : DEnv) (C1 : Cells) (P : DK) : Prop := ∀ Dl, C1 Dl = none → ∃ Inv : Nat → Cells → Prop, Inv 0 (cput C1 Dl (.lst [])) ∧
  (∀ i C', Inv i C' → J.still C') ∧
  (∀ i d C', J.items[i]? = some d → Inv i C' → match t.dg d (dwipe ρ vs) with
    | some ρ2 => wt ρ2 C' (fun b C2 => if b = true then we ρ2 C2 (fun y C3 => match C3 Dl with
        | some (.lst acc) => acc.length < 100000 ∧ Inv (i + 1) (cput C3 Dl (.lst (acc ++ [y])))
        | _ => False) noX else Inv (i + 1) C2) noX
    | none => False) ∧
  (∀ C', Inv J.items.length C' → match C' Dl with
    | some (.lst acc) => ∃ C4, Sub C4 C' ∧ C4 Dl = none ∧ P (.lst acc) C4
    | _ => False)
def wLc (wi : DI) (t : Tgt) (wt : DT) (we : DE) (vs : List Nat) (ρ : DEnv) (C : Cells) (P : DK) (PX : DX) : Prop := wi ρ C (fun J C1 => LcG J t wt we vs ρ C1 P) PX
theorem EnvR.wipe {K : PySem.W.Frag} {F : Hp} {σ : L2.St} {ρ : DEnv} (h : EnvR K F σ ρ) : ∀ vs, EnvR K F (L2.wipe σ vs) (dwipe ρ vs)
  | [] => h
  | v :: vs => by
    obtain ⟨h1, h2⟩ := EnvR.wipe h vs
    refine ⟨by show ((L2.wipe σ vs).set v none).length = ((dwipe ρ vs).set v none).length; rw [List.length_set, List.length_set]; exact h1, fun i d q => ?_⟩
    have q' : ((dwipe ρ vs).set v none)[i]? = some (some d) := q
    by_cases e : v = i
    · subst e
      rw [List.getElem?_set] at q'
      simp only [if_true] at q'
      split at q' <;> cases q'
    · rw [List.getElem?_set_ne e] at q'
      obtain ⟨w, hw, rw'⟩ := h2 i d q'
      refine ⟨w, ?_, rw'⟩
      show ((L2.wipe σ vs).set v none)[i]? = some (some w)
      rw [List.getElem?_set_ne e]
      exact hw
section
variable {X : Cx} {W : WX} {K : PySem.W.Frag}
theorem i_lc {wi : DI} {t : Tgt} {wt : DT} {we : DE} {vs : List Nat} (ht : ∀ i ∈ t.slots, i ∈ vs) {σ : L2.St} {H : Hp} {Q : VK} (h : tE K W (wLc wi t wt we vs) σ H Q) : tLc (tI K W wi) (t.tg K) (tT K W0 wt) (tE K W0 we) vs σ H Q := by
  obtain ⟨F, C, ρ, P, PX, hs, en, xr, w, k⟩ := h
  refine ⟨F, C, ρ, _, PX, hs, en, xr, w, fun J F1 H1 Jd C1 e1 h1 ir q => fun Dl hD => ?_⟩
  obtain ⟨c0, h2⟩ := h1.newC (xs := []) (ds := []) .nil hD
  obtain ⟨Inv, i0, st, turn, done⟩ := q Dl c0
  refine ⟨fun i m H' => m = Jd.items.length - i ∧ i ≤ Jd.items.length ∧ ∃ F' C', Ex F1 F' ∧ Hs K F' C' H' ∧ Inv i C', ⟨_, rfl, Nat.zero_le _, F1, _, Ex.refl _, h2, i0⟩, ?_⟩
  rintro i m H' ⟨rfl, hl, F', C', e', h', p⟩
  obtain ⟨go, stop⟩ := ir F' H' C' e' h' (st i C' p)
  by_cases hi : i = Jd.items.length
  · subst hi
    have z := done C' p
    revert z
    split
    · rename_i acc hc
      rintro ⟨C4, s4, n4, z⟩
      obtain ⟨F5, e5, h5, r5⟩ := frz_go h' hc s4 n4 trivial
      exact .inl ⟨stop, k _ F5 H' _ C4 ((e1.trans e').trans e5) h5 r5 z⟩
    · exact fun z => z.elim
  · have hlt : i < Jd.items.length := by omega
    have hd : Jd.items[i]? = some Jd.items[i] := List.getElem?_eq_getElem hlt
    obtain ⟨g1, g2⟩ := go i _ hd
    have q := turn i _ C' hd p
    refine .inr ⟨g1, fun H2 => ∃ F2 C2, Ex F' F2 ∧ Hs K F2 C2 H2 ∧ Inv (i + 1) C2, ?_, ?_⟩
    · rintro H2 ⟨F2, C2, e2, h2, p2⟩
      exact ⟨_, by omega, rfl, hlt, F2, C2, e'.trans e2, h2, p2⟩
    · intro x H2 hy
      obtain ⟨F2, e2, h2, rx⟩ := g2 x H2 hy
      revert q
      split
      · rename_i ρ2 hdg
        intro q
        refine tg_ok t h2.ex rx (((en.mono (e1.trans e')).wipe vs).mono e2) hdg fun σ2 en2 hw => ?_
        refine ⟨by rw [hw vs ht, wipe_wipe], ?_⟩
        refine ⟨F2, C', ρ2, _, noX, h2, en2, fun _ _ _ _ _ _ _ _ _ _ _ _ z => z.elim, q, fun b F3 H3 C3 e3 h3 q3 => ?_⟩
        cases b with
        | false =>
          rw [if_neg Bool.false_ne_true] at q3
          rw [if_neg Bool.false_ne_true]
          exact ⟨F3, C3, e2.trans e3, h3, q3⟩
        | true =>
          rw [if_pos rfl] at q3
          rw [if_pos rfl]
          refine ⟨F3, C3, ρ2, _, noX, h3, en2.mono e3, fun _ _ _ _ _ _ _ _ _ _ _ _ z => z.elim, q3, fun y F4 H4 dy C4 e4 h4 ry q4 => ?_⟩
          revert q4
          dsimp only
          split
          · rename_i acc hc
            rintro ⟨hz, q4⟩
            obtain ⟨f0, us, hu, ru⟩ := h4.cell Dl _ hc
            exact ⟨us, hu, by rw [ru.length]; exact sz_lt hz, F4, _, (e2.trans e3).trans e4, h4.put (c := .lst (acc ++ [dy])) f0 ⟨_, upd_same, ru.append (.cons ry .nil)⟩, q4⟩
          · exact fun z => z.elim
      · exact fun z => z.elim
theorem dts_nil : PTs X [] (tT X.K W wYes) := ⟨fun pins s σ H Q I ⟨F, C, ρ, P, PX, hs, en, xr, w, k⟩ => pts_nil.run pins s σ H Q I (k _ F H C (Ex.refl F) hs w)⟩
theorem dts_one {c : Expr} {t : DT} (h : PT X c (tT X.K W t)) : PTs X [c] (tT X.K W t) := pts_one h
theorem d_lc {elt tg iter : Expr} {ifs : List Expr} {scope : Scope} {own : List (Str × Nat)} {pos : Pos} {wi : DI} {t : Tgt} {wt : DT} {we : DE} (hc : X.calm = true) (hN : X.N.Nodup) (hi : PI X tg iter (tI X.K W wi)) (ok : BlkOk X.N X.env.scope scope own) (hsl : ∀ i ∈ t.slots, i ∈ own.map (·.2))
    (hg : ∀ (s : Shared) (H : Hp) (C : Addr) (cl : List (Str × Addr)) (fp : List Addr), PG (X.blk s H scope (compEnvC scope cl C X.env) fp) tg (t.tg X.K)) (ht : ∀ (s : Shared) (H : Hp) (C : Addr) (cl : List (Str × Addr)) (fp : List Addr), PTs (X.blk s H scope (compEnvC scope cl C X.env) fp) ifs (tT X.K W0 wt))
    (he : ∀ (s : Shared) (H : Hp) (C : Addr) (cl : List (Str × Addr)) (fp : List Addr), PE (X.blk s H scope (compEnvC scope cl C X.env) fp) elt (tE X.K W0 we)) (hs : ∀ x, foldedSetIterable iter X.env x = pure x := by intro _; rfl) :
    PE X (.ListComp elt [⟨tg, iter, ifs, 0⟩] scope pos) (tE X.K W (wLc wi t wt we (own.map (·.2)))) := PE.imp (pe_lc hc hN hi ok hg ht he hs) fun _ _ _ => i_lc hsl
theorem ds_setLc (i : Nat) {y : Str} {py : Pos} {elt tg iter : Expr} {ifs : List Expr} {scope : Scope} {own : List (Str × Nat)} {pos spos : Pos} {wi : DI} {t : Tgt} {wt : DT} {we : DE} (hc : X.calm = true) (hN : X.N.Nodup) (hy : X.N[i]? = some y) (hyl : X.env.scope.names.lookup y = some .local)
    (hsw : swapsWith (.ListComp elt [⟨tg, iter, ifs, 0⟩] scope pos) (some (.Name y py)) spos.line X.env = pure true) (hi : PI X tg iter (tI X.K W wi)) (ok : BlkOk X.N X.env.scope scope own) (hsl : ∀ i ∈ t.slots, i ∈ own.map (·.2))
    (hg : ∀ (s : Shared) (H : Hp) (C : Addr) (cl : List (Str × Addr)) (fp : List Addr), PG (X.blk s H scope (compEnvC scope cl C X.env) fp) tg (t.tg X.K)) (ht : ∀ (s : Shared) (H : Hp) (C : Addr) (cl : List (Str × Addr)) (fp : List Addr), PTs (X.blk s H scope (compEnvC scope cl C X.env) fp) ifs (tT X.K W0 wt))
    (he : ∀ (s : Shared) (H : Hp) (C : Addr) (cl : List (Str × Addr)) (fp : List Addr), PE (X.blk s H scope (compEnvC scope cl C X.env) fp) elt (tE X.K W0 we)) (hs : ∀ x, foldedSetIterable iter X.env x = pure x := by intro _; rfl) :
    PS X (.Assign [.Name y py] (.ListComp elt [⟨tg, iter, ifs, 0⟩] scope pos) spos) (tS X.K W (wSet i (wLc wi t wt we (own.map (·.2))))) := PS.imp (ps_setLc hc hN hy hyl hsw hi ok hg ht he hs) fun Dn σ H ⟨F, C, ρ, DE, hs, en, xr, w, er⟩ => by
  have z : tE X.K W (wLc wi t wt we (own.map (·.2))) σ H (fun x H1 => Dn.nx (σ.set i (some x)) H1) := ⟨F, C, ρ, _, _, hs, en, xr, w, fun v F1 H1 d C1 e1 h1 r q => er.nx _ F1 H1 _ C1 e1 h1 ((en.mono e1).set r) q⟩
  exact i_lc hsl z
end
/-- a comprehension that changes nothing -/
theorem lc_pure {t : Tgt} {wt : DT} {we : DE} {vs : List Nat} {J : DIt} {C1 : Cells} {ρ : DEnv} {P : DK} (f : D → Option D) (hf : ∀ C', Sub C1 C' → J.still C') (hn : J.items.length ≤ 100000)
    (h : ∀ (i : Nat) d C' (Q : Option D → Cells → Prop), J.items[i]? = some d → Sub C1 C' → Q (f d) C' → match t.dg d (dwipe ρ vs) with
      | some ρ2 => wt ρ2 C' (fun b C2 => if b = true then we ρ2 C2 (fun y C3 => Q (some y) C3) noX else Q none C2) noX
      | none => False)
    (hP : P (.lst (J.items.filterMap f)) C1) : LcG J t wt we vs ρ C1 P := by
  intro Dl hD
  refine ⟨fun i C' => C' = cput C1 Dl (.lst ((J.items.take i).filterMap f)), by simp, fun i C' e => hf C' (by rw [e]; exact Sub.new hD), fun i d C' hd e => ?_, fun C' e => ?_⟩
  · have ht : J.items.take (i + 1) = J.items.take i ++ [d] := by rw [List.take_succ, hd]; rfl
    refine h i d C' (fun o C3 => match o with
      | some y => match C3 Dl with
        | some (.lst acc) => acc.length < 100000 ∧ cput C3 Dl (.lst (acc ++ [y])) = cput C1 Dl (.lst ((J.items.take (i + 1)).filterMap f))
        | _ => False
      | none => C3 = cput C1 Dl (.lst ((J.items.take (i + 1)).filterMap f))) hd (by rw [e]; exact Sub.new hD) ?_
    split
    · rename_i y hy
      rw [e, cput_same]
      refine ⟨?_, ?_⟩
      · have := List.length_filterMap_le f (J.items.take i)
        have hlt : i < J.items.length := (List.getElem?_eq_some_iff.mp hd).1
        rw [List.length_take] at this
        omega
      · rw [cput_cput, ht, List.filterMap_append]
        simp [hy]
    · rename_i hy
      rw [e, ht, List.filterMap_append]
      simp [hy]
  · rw [e, cput_same, List.take_length]
    exact ⟨C1, Sub.new hD, hD, hP⟩
end DD

set_option Elab.async false
set_option linter.all false
set_option maxRecDepth 100000
set_option maxHeartbeats 4000000
/-! Readings over data: constants of the module, further operators, the law's end, what loops ask. -/
namespace DD
open PySem L2 PyProof.Rows
section
variable {X : Cx} {W : WX} {K : PySem.W.Frag}
/-- a module's whole number -/
theorem d_kint {x : Str} {i : Int} {pos : Pos} (h : ∃ t, X.mg x = some (.int i t)) (hg : Gl X x := by rfl) (hd : (x == ("__debug__" : Str)) = false := by decide) : PE X (.Name x pos) (tE X.K W (wC (.int i))) := by
  obtain ⟨t, h⟩ := h
  exact d_glob (v := .int i) hg h ⟨t, rfl⟩ (fun _ => .int i) hd
/-- // by a divisor below 2 ^ 64 -/
abbrev dDivW : DR2 := dI (fun _ j => 0 < j ∧ j < 18446744073709551616) fun i j => .int (i / j)
theorem s_divW : SimR K (rI CDivW fun i j => .int (i / j)) dDivW := fun F C H x y dx dy P Q hs rx ry w k => by
  cases rx <;> cases ry <;> first
    | exact w.elim
    | exact ⟨_, _, rfl, rfl, wide_div (b := 64) w.1.1 (by have := w.1; omega) (by decide) (by decide), k _ F H _ C (Ex.refl F) hs (.int _) w.2⟩
def dPow : DR2 := dI CPow fun i j => .int (i ^ j.toNat)
theorem s_pow : SimR K (rI CPow fun i j => .int (i ^ j.toNat)) dPow := simI fun _ _ _ => .int _
theorem s_tupleOf : SimA K (fun xs H Q => ∃ p ys, xs = [.ref p] ∧ ((SqL K H p ys ∧ ∀ l, H l = none → Q (.ref l) (upd H l (.tup ys))) ∨ (SqT K H p ys ∧ Q (.ref p) H))) dTupleOf := fun F C H xs ds P Q hs r w k => by
  revert w
  unfold dTupleOf
  split
  · rename_i x
    obtain ⟨v, rfl, r1⟩ := r.one
    have go : ∀ ys, seqOf x C = some ys → P (.tup ys) C → ∃ p zs, [v] = [V.ref p] ∧ ((SqL K H p zs ∧ ∀ l, H l = none → Q (.ref l) (upd H l (.tup zs))) ∨ (SqT K H p zs ∧ Q (.ref p) H)) := fun ys hy w => by
      obtain ⟨a, us, rfl, h2, h3⟩ := seq_of hs r1 hy
      refine ⟨a, us, rfl, .inl ⟨h2, fun p hp => ?_⟩⟩
      obtain ⟨e4, h4, r4⟩ := hs.newT h3 hp
      exact k _ _ _ _ C e4 h4 r4 w
    cases r1 <;> first
      | (split
         · rename_i ys hy
           exact go ys hy
         · exact fun z => z.elim)
      | (rename_i a us ds hq hr
         exact fun w => ⟨a, us, rfl, .inr ⟨.of (hs.ex.nd hq rfl), k _ F H _ C (Ex.refl F) hs (.tup hq hr) w⟩⟩)
      | (rename_i a us ds hq hr
         exact fun w => ⟨a, us, rfl, .inr ⟨ex_t hs.ex hq, k _ F H _ C (Ex.refl F) hs (.ktup hq hr) w⟩⟩)
  · exact fun z => z.elim
/-- a, b = e1, e2 -/
def wPar (i j : Nat) (a : DA) (E : DEnds) (ρ : DEnv) (C : Cells) : Prop := a ρ C (fun ds C1 => match ds with
  | [x, y] => E.nx ((ρ.set i (some x)).set j (some y)) C1
  | _ => False) E.ex
theorem ds_par {i j : Nat} {x y : Str} {a b : Expr} {wr : DA} {px py pt pos : Pos} {kt k2 pt2} (hc : X.calm = true) (hN : X.N.Nodup) (hi : X.N[i]? = some x) (hj : X.N[j]? = some y) (hij : i ≠ j)
    (hx : X.env.scope.names.lookup x = some .local) (hy : X.env.scope.names.lookup y = some .local) (ha : PA X [a, b] (tA X.K W wr))
    (hw : swappedStores [.Tuple [.Name x px, .Name y py] kt pt] (.Tuple [a, b] k2 pt2) X.env = pure (some [x, y]))
    (hs : swapsWithSole [.Tuple [.Name x px, .Name y py] kt pt] (.Tuple [a, b] k2 pt2) pos.line X.env = pure false := by rfl) :
    PS X (.Assign [.Tuple [.Name x px, .Name y py] kt pt] (.Tuple [a, b] k2 pt2) pos) (tS X.K W (wPar i j wr)) := PS.imp (ps_par hc hN hi hj hij hx hy ha hw hs) fun Dn σ H ⟨F, C, ρ, DE, hs, en, xr, w, er⟩ =>
  ⟨F, C, ρ, _, _, hs, en, xr, w, fun vs F1 H1 ds C1 e1 h1 r q => by
    revert q
    dsimp only
    split
    · intro q
      cases r with
      | cons r1 r2 =>
        cases r2 with
        | cons r2 r3 =>
          cases r3
          exact ⟨_, _, rfl, er.nx _ F1 H1 _ C1 e1 h1 (((en.mono e1).set r1).set r2) q⟩
    · exact fun z => z.elim⟩
end

/-! ### the law's own promise -/
def spLawD (K : PySem.W.Frag) : Sp := fun vs H Q _ => ∃ (a : Addr) (ns : List Int), vs = [.ref a] ∧ SqL K H a (ns.map V.int) ∧ ns.length ≤ 63 ∧ ∀ H', Q (.bl true) H'
theorem spLaw_imp {K : PySem.W.Frag} (R : DSp) (go : ∀ (ns : List Int) (P : DK), ns.length ≤ 63 → (∀ C', P (.bl true) C') → R [.lst (ns.map D.int)] (fun _ => none) P) : ∀ vs H Q E, spLawD K vs H Q E → spD K R vs H Q E :=
  fun vs H Q E ⟨a, ns, hv, hs, hl, k⟩ => by
    subst hv
    refine ⟨H, fun _ => none, [.lst (ns.map D.int)], fun d _ => d = .bl true, ⟨Ex.refl H, fun _ _ e => by cases e⟩, .cons (.lst hs (RepL.ints ns)) .nil, go ns _ hl fun _ => rfl, fun v F' H' d C' _ _ r q => ?_⟩
    subst q
    cases r
    exact k H'
end DD

set_option Elab.async false
set_option linter.all false
set_option maxRecDepth 100000
set_option maxHeartbeats 4000000
/-! Readings over data: sorted(..) of data of any kind. -/
namespace DD
open PySem L2 PyProof.Rows PySem.W
def rSortedD (K : PySem.W.Frag) : List V → Hp → VK → Prop := fun vs H Q => ∃ (a : Addr) (xs : List V) (ps : List PyData), vs = [V.ref a] ∧ SqL K H a xs ∧ DpAll K H xs ps ∧ AllAlike ps ∧ Sortable ps ∧ (∀ d ∈ ps, d.depth ≤ 60) ∧
  ∀ p, H p = none → Q (.ref p) (upd H p (.lst (((xs.zip ps).mergeSort (dataLe false Prod.snd)).map Prod.fst)))
theorem dpAll_len {K : PySem.W.Frag} {H : Hp} : ∀ {xs : List V} {ps : List PyData}, DpAll K H xs ps → xs.length = ps.length
  | _, _, .nil => rfl
  | _, _, .cons _ r => congrArg (· + 1) (dpAll_len r)
theorem each_zip {xs : List V} {ps : List PyData} {vs : List Value} : ∀ {xs : List V} {ps : List PyData} {vs : List Value}, Vals xs vs → xs.length = ps.length → EachIs (fun v (b : V × PyData) => RelV b.1 v) vs (xs.zip ps)
  | _, [], _, .nil, _ => .nil
  | _, p :: ps, _, .cons r t, h => .cons r (each_zip (xs := xs) (ps := ps) (vs := vs) t (by simpa using h))
theorem each_reads {X : Cx} {pins : List (Addr × Obj)} {σ : L2.St} {H : Hp} {s : Shared} (I : Inv X pins σ H s) : ∀ {xs : List V} {ps : List PyData} {vs : List Value}, Vals xs vs → DpAll X.K H xs ps → EachIs (fun v (b : V × PyData) => ∃ as, Reads s.heap v b.2 as) vs (xs.zip ps)
  | _, _, _, .nil, .nil => .nil
  | _, _, _, .cons r t, .cons d e => .cons (Dp.reads I _ _ _ d r) (each_reads I t e)
theorem each_vals {bs : List (V × PyData)} {vs : List Value} : ∀ {bs : List (V × PyData)} {vs : List Value}, EachIs (fun v (b : V × PyData) => RelV b.1 v) vs bs → Vals (bs.map Prod.fst) vs
  | _, _, .nil => .nil
  | _, _, .cons r t => .cons r (each_vals (bs := bs) (vs := vs) t)
theorem zip_snd {xs : List V} {ps : List PyData} (h : xs.length = ps.length) : (xs.zip ps).map Prod.snd = ps := List.map_snd_zip (by omega)
theorem cr_sortedD {X : Cx} (hu : X.A.units + 64 < cLine) : CallR X (.builtin "sorted") (rSortedD X.K) := by
  intro pins s σ H vs us Q I r h
  obtain ⟨a, xs, ps, rfl, hs, hd, hal, hk, hdep, q⟩ := h
  obtain ⟨its, rv, hl, hz⟩ := I.list hs
  rw [Vals.ref1 r]
  have hlen := dpAll_len hd
  have hb : (xs.zip ps).length = xs.length := by rw [List.length_zip]; omega
  refine sorted_data (bs := xs.zip ps) (enc := Prod.snd) (R := fun v b => RelV b.1 v) hl.isList (each_zip (xs := xs) (ps := ps) (vs := its) rv hlen) (each_reads I rv hd) (by rw [zip_snd hlen]; exact hal) (by rw [zip_snd hlen]; exact hk) (by rw [hb]; exact hz) (fun b hb => ?_) fun out h1 h2 => ?_
  · have := hdep b.2 (by rw [← zip_snd hlen]; exact List.mem_map_of_mem hb)
    omega
  · obtain ⟨ep, he'⟩ := PyProof.Rows.sortedAll_at s.heap its out.toArray
    have k1 := each_vals (bs := []) (vs := []) h2
    have hlen2 : (((xs.zip ps).mergeSort (dataLe false Prod.snd)).map Prod.fst).length ≤ sizeLine := by
      rw [List.length_map, List.length_mergeSort, hb]; exact hz
    exact ⟨.ref _, upd H (s.heap.objs.size + 1) (.lst (((xs.zip ps).mergeSort (dataLe false Prod.snd)).map Prod.fst)), I.laid (t' := s.toks) (fun _ _ => PyProof.Rows.sortedAll_old) (Nat.le_succ _) ⟨hlen2, out, ep, k1, he'⟩, rfl, q _ (I.hok.fresh (Nat.le_succ _))⟩
/-- sorted(x), data of one kind -/
def leD : D → D → Bool := dataLe false D.py
structure SortsD (ds : List D) : Prop where
  dat : ∃ n, n ≤ 60 ∧ ∀ d ∈ ds, Dat n d
  alike : AllAlike (ds.map D.py)
  ok : Sortable (ds.map D.py)
def dSortD (ds : List D) (C : Cells) (P : DK) : Prop := match ds with
  | [x] => match itsOf x C with
    | some xs => SortsD xs ∧ seqOf x C = some xs ∧ P (.lst (xs.mergeSort leD)) C
    | none => False
  | _ => False
section
variable {K : PySem.W.Frag}
theorem pys_map : ∀ ds : List D, pys ds = ds.map D.py
  | [] => by simp [pys]
  | d :: r => by simp [pys, pys_map r]
theorem RepL.of_zip {F : Hp} : ∀ {L : List (V × D)}, (∀ p ∈ L, Rep K F p.1 p.2) → RepL K F (L.map Prod.fst) (L.map Prod.snd)
  | [], _ => .nil
  | p :: r, h => .cons (h p List.mem_cons_self) (RepL.of_zip fun q hq => h q (List.mem_cons_of_mem _ hq))
theorem RepL.zip_mem {F : Hp} : ∀ {xs : List V} {ds : List D}, RepL K F xs ds → ∀ p ∈ xs.zip ds, Rep K F p.1 p.2
  | _, _, .nil, p, hp => by simp at hp
  | _, _, .cons h r, p, hp => by
    simp only [List.zip_cons_cons, List.mem_cons] at hp
    rcases hp with rfl | hp
    · exact h
    · exact RepL.zip_mem r p hp
theorem RepL.sort {F : Hp} {xs : List V} {ds : List D} (r : RepL K F xs ds) : RepL K F (((xs.zip (pys ds)).mergeSort (dataLe false Prod.snd)).map Prod.fst) (ds.mergeSort leD) := by
  have hl := r.length
  have e1 : xs.zip (pys ds) = (xs.zip ds).map (fun p => (p.1, p.2.py)) := by rw [pys_map, List.zip_map_right]; congr
  have e2 : (((xs.zip ds).map (fun p => (p.1, p.2.py))).mergeSort (dataLe false Prod.snd)) = ((xs.zip ds).mergeSort (fun p q => leD p.2 q.2)).map (fun p => (p.1, p.2.py)) :=
    (List.map_mergeSort (r := fun p q : V × D => leD p.2 q.2) (s := dataLe false Prod.snd) (f := fun p : V × D => (p.1, p.2.py)) (fun a _ b _ => rfl)).symm
  have e3 : ds.mergeSort leD = ((xs.zip ds).mergeSort (fun p q => leD p.2 q.2)).map Prod.snd := by
    have e4 : ds = (xs.zip ds).map Prod.snd := (List.map_snd_zip (by omega)).symm
    conv => lhs; rw [e4]
    exact (List.map_mergeSort (r := fun p q : V × D => leD p.2 q.2) (s := leD) (f := Prod.snd) (fun a _ b _ => rfl)).symm
  rw [e1, e2, e3, List.map_map]
  exact RepL.of_zip (L := (xs.zip ds).mergeSort (fun p q => leD p.2 q.2)) fun p hp => r.zip_mem p (List.mem_mergeSort.mp hp)
theorem s_sortD : SimA K (rSortedD K) dSortD := fun F C H xs ds P Q hs r w k => by
  revert w
  unfold dSortD
  split
  · rename_i x
    split
    · rename_i ys hy
      rintro ⟨⟨⟨n, hn, hd⟩, hal, hok⟩, hsq, w⟩
      obtain ⟨v, rfl, r1⟩ := r.one
      obtain ⟨a, us, rfl, h2, h3⟩ := seq_of hs r1 hsq
      refine ⟨a, us, pys ys, rfl, h2, dpAll_of (n := n) (fun d hd' v r => rep_dp hs.ex (hd d hd') v r) h3, by rw [pys_map]; exact hal, by rw [pys_map]; exact hok, fun d hd' => ?_, fun p hp => ?_⟩
      · rw [pys_map, List.mem_map] at hd'
        obtain ⟨e, he, rfl⟩ := hd'
        have := (dat_lay (hd e he)).2
        omega
      · obtain ⟨e4, h4, r4⟩ := hs.newL h3.sort hp
        exact k _ _ _ _ C e4 h4 r4 w
    · exact fun z => z.elim
  · exact fun z => z.elim
end

/-! ### pairs of whole numbers -/
def pairD (p : Int × Int) : D := .tup [.int p.1, .int p.2]
def lePair (p q : Int × Int) : Bool := decide (p.1 < q.1 ∨ (p.1 = q.1 ∧ p.2 ≤ q.2))
theorem leD_pair (p q : Int × Int) : leD (pairD p) (pairD q) = lePair p q := by
  have := congrFun (congrFun (dataLe_ii (fun p : Int × Int => p.1) (fun p => p.2)) p) q
  exact this
theorem sorts_pairs (ps : List (Int × Int)) : SortsD (ps.map pairD) := by
  refine ⟨⟨1, by decide, fun d hd => ?_⟩, ?_, ?_⟩
  · obtain ⟨p, _, rfl⟩ := List.mem_map.mp hd
    exact .tup fun e he => by
      simp only [List.mem_cons, List.not_mem_nil, or_false] at he
      rcases he with rfl | rfl <;> exact .int _
  · rw [List.map_map]
    exact AllAlike.of fun b b' => by simp [pairD, D.py, pys, alike, alikeAll]
  · rw [List.map_map]
    exact Sortable.tuples fun b => ⟨.int b.1, [.int b.2], by simp [pairD, D.py, pys]⟩
theorem sort_pairs (ps : List (Int × Int)) : (ps.map pairD).mergeSort leD = (ps.mergeSort lePair).map pairD :=
  (List.map_mergeSort (fun a _ b _ => (leD_pair a b).symm)).symm
theorem lePair_sorted (ps : List (Int × Int)) : (ps.mergeSort lePair).Pairwise fun p q => p.1 < q.1 ∨ (p.1 = q.1 ∧ p.2 ≤ q.2) := by
  have h := List.pairwise_mergeSort (le := lePair) (by intro a b c; simp [lePair]; omega) (by intro a b; simp [lePair]; omega) ps
  exact h.imp (by intro a b; simp [lePair])
end DD

set_option Elab.async false
set_option linter.all false
set_option maxRecDepth 100000
set_option maxHeartbeats 4000000
/-! Tools for readings over data: loops, places. -/
namespace DD
open PySem L2

theorem for_rng {lo : Int} {n i : Nat} {b : DS} {E : DEnds} {ρ : DEnv} {C : Cells} (Inv : Nat → DEnv → Cells → Prop) (h0 : Inv 0 ρ C)
    (hs : ∀ (k : Nat) ρ' C', k < n → Inv k ρ' C' → b { nx := Inv (k + 1), ct := Inv (k + 1), bk := E.nx, rt := E.rt, ex := E.ex } (ρ'.set i (some (.int (lo + (k : Int))))) C')
    (hd : ∀ ρ' C', Inv n ρ' C' → E.nx ρ' C') : ForG ⟨rngD lo n, frozen⟩ (.name i) b E ρ C := by
  refine ⟨Inv, h0, fun _ _ _ _ => trivial, fun k d ρ' C' hk hI => ?_, fun ρ' C' hI => hd ρ' C' (by have e := rngD_len lo n; simp only [e] at hI; exact hI)⟩
  obtain ⟨hk2, rfl⟩ := rngD_get hk
  simp only [Tgt.dg]
  exact hs k ρ' C' hk2 hI
theorem for_items {ds : List D} {t : Tgt} {b : DS} {E : DEnds} {ρ : DEnv} {C : Cells} (Inv : Nat → DEnv → Cells → Prop) (h0 : Inv 0 ρ C)
    (hs : ∀ (k : Nat) d ρ' C', ds[k]? = some d → Inv k ρ' C' → match t.dg d ρ' with
      | some ρ2 => b { nx := Inv (k + 1), ct := Inv (k + 1), bk := E.nx, rt := E.rt, ex := E.ex } ρ2 C'
      | none => False)
    (hd : ∀ ρ' C', Inv ds.length ρ' C' → E.nx ρ' C') : ForG ⟨ds, frozen⟩ t b E ρ C := ⟨Inv, h0, fun _ _ _ _ => trivial, hs, hd⟩
theorem for_map {α : Type} {L : List α} {enc : α → D} {t : Tgt} {b : DS} {E : DEnds} {ρ : DEnv} {C : Cells} (Inv : Nat → DEnv → Cells → Prop) (h0 : Inv 0 ρ C)
    (hs : ∀ (k : Nat) a ρ' C', L[k]? = some a → Inv k ρ' C' → match t.dg (enc a) ρ' with
      | some ρ2 => b { nx := Inv (k + 1), ct := Inv (k + 1), bk := E.nx, rt := E.rt, ex := E.ex } ρ2 C'
      | none => False)
    (hd : ∀ ρ' C', Inv L.length ρ' C' → E.nx ρ' C') : ForG ⟨L.map enc, frozen⟩ t b E ρ C := by
  refine for_items Inv h0 (fun k d ρ' C' hk hI => ?_) (fun ρ' C' hI => hd ρ' C' (by rw [List.length_map] at hI; exact hI))
  rw [List.getElem?_map] at hk
  cases hL : L[k]? with
  | none => rw [hL] at hk; cases hk
  | some a =>
    rw [hL] at hk
    simp only [Option.map_some, Option.some.injEq] at hk
    subst hk
    exact hs k a ρ' C' hL hI
/-- a loop over a list that is a cell and stays as it is -/
theorem for_cell {α : Type} {L : List α} {enc : α → D} {a : Addr} {t : Tgt} {b : DS} {E : DEnds} {ρ : DEnv} {C : Cells} (Inv : Nat → DEnv → Cells → Prop) (h0 : Inv 0 ρ C) (hst : ∀ k ρ' C', Inv k ρ' C' → C' a = some (.lst (L.map enc)))
    (hs : ∀ (k : Nat) x ρ' C', L[k]? = some x → Inv k ρ' C' → match t.dg (enc x) ρ' with
      | some ρ2 => b { nx := Inv (k + 1), ct := Inv (k + 1), bk := E.nx, rt := E.rt, ex := E.ex } ρ2 C'
      | none => False)
    (hd : ∀ ρ' C', Inv L.length ρ' C' → E.nx ρ' C') : ForG ⟨L.map enc, fun C' => C' a = some (.lst (L.map enc))⟩ t b E ρ C := by
  refine ⟨Inv, h0, hst, (fun k d ρ' C' hk hI => ?_), (fun ρ' C' hI => hd ρ' C' (by simp only [List.length_map] at hI; exact hI))⟩
  simp only [List.getElem?_map] at hk
  cases hL : L[k]? with
  | none => rw [hL] at hk; cases hk
  | some a =>
    rw [hL] at hk
    simp only [Option.map_some, Option.some.injEq] at hk
    subst hk
    exact hs k a ρ' C' hL hI
/-- a comprehension over a range that changes nothing -/
theorem lc_rng {lo : Int} {n i : Nat} {wt : DT} {we : DE} {vs : List Nat} {C1 : Cells} {ρ : DEnv} {P : DK} (f : Int → Option D) (hn : n ≤ 100000)
    (h : ∀ (k : Nat) C' (Q : Option D → Cells → Prop), k < n → Sub C1 C' → Q (f (lo + (k : Int))) C' →
      wt ((dwipe ρ vs).set i (some (.int (lo + (k : Int))))) C' (fun b C2 => if b = true then we ((dwipe ρ vs).set i (some (.int (lo + (k : Int))))) C2 (fun y C3 => Q (some y) C3) noX else Q none C2) noX)
    (hP : P (.lst ((List.range n).filterMap fun (k : Nat) => f (lo + (k : Int)))) C1) : LcG ⟨rngD lo n, frozen⟩ (.name i) wt we vs ρ C1 P := by
  refine lc_pure (fun d => match d with | .int z => f z | _ => none) (fun _ _ => trivial) (by simpa [rngD_len] using hn) (fun k d C' Q hk hs hq => ?_) ?_
  · obtain ⟨hk2, rfl⟩ := rngD_get hk
    simp only [Tgt.dg]
    exact h k C' Q hk2 hs hq
  · have e : (rngD lo n).filterMap (fun d => match d with | .int z => f z | _ => none) = (List.range n).filterMap fun (k : Nat) => f (lo + (k : Int)) := by
      unfold rngD
      rw [List.filterMap_map]
      rfl
    show P (.lst ((rngD lo n).filterMap (fun d => match d with | .int z => f z | _ => none))) C1
    rw [e]
    exact hP
theorem lc_map {α : Type} {L : List α} {enc : α → D} {st : Cells → Prop} {t : Tgt} {wt : DT} {we : DE} {vs : List Nat} {C1 : Cells} {ρ : DEnv} {P : DK} (f : α → Option D) (hf : ∀ C', Sub C1 C' → st C') (hn : L.length ≤ 100000)
    (h : ∀ (k : Nat) a C' (Q : Option D → Cells → Prop), L[k]? = some a → Sub C1 C' → Q (f a) C' → match t.dg (enc a) (dwipe ρ vs) with
      | some ρ2 => wt ρ2 C' (fun b C2 => if b = true then we ρ2 C2 (fun y C3 => Q (some y) C3) noX else Q none C2) noX
      | none => False)
    (hP : P (.lst (L.filterMap f)) C1) : LcG ⟨L.map enc, st⟩ t wt we vs ρ C1 P := by
  intro Dl hD
  refine ⟨fun i C' => C' = cput C1 Dl (.lst ((L.take i).filterMap f)), by simp, fun i C' e => hf C' (by rw [e]; exact Sub.new hD), fun i d C' hd e => ?_, fun C' e => ?_⟩
  · simp only [List.getElem?_map] at hd
    cases hL : L[i]? with
    | none => rw [hL] at hd; cases hd
    | some a =>
      rw [hL] at hd
      simp only [Option.map_some, Option.some.injEq] at hd
      subst hd
      have ht : L.take (i + 1) = L.take i ++ [a] := by rw [List.take_succ, hL]; rfl
      refine h i a C' (fun o C3 => match o with
        | some y => match C3 Dl with
          | some (.lst acc) => acc.length < 100000 ∧ cput C3 Dl (.lst (acc ++ [y])) = cput C1 Dl (.lst ((L.take (i + 1)).filterMap f))
          | _ => False
        | none => C3 = cput C1 Dl (.lst ((L.take (i + 1)).filterMap f))) hL (by rw [e]; exact Sub.new hD) ?_
      split
      · rename_i y hy
        rw [e, cput_same]
        refine ⟨?_, ?_⟩
        · have := List.length_filterMap_le f (L.take i)
          have hlt : i < L.length := (List.getElem?_eq_some_iff.mp hL).1
          rw [List.length_take] at this
          omega
        · rw [cput_cput, ht, List.filterMap_append]
          simp [hy]
      · rename_i hy
        rw [e, ht, List.filterMap_append]
        simp [hy]
  · simp only [List.length_map, List.take_length] at e
    rw [e, cput_same]
    exact ⟨C1, Sub.new hD, hD, hP⟩
theorem atI_nat' {α : Type} (xs : List α) (j : Nat) : atI xs (j : Int) = xs[j]? := by
  unfold atI ixN
  rw [if_pos (by omega)]
  by_cases h : (j : Int) < xs.length
  · rw [if_pos h]
    simp
  · rw [if_neg h]
    rw [List.getElem?_eq_none (by omega)]
    rfl
theorem atI_at {α : Type} {xs : List α} {i : Int} (h0 : 0 ≤ i) : atI xs i = xs[i.toNat]? := by
  obtain ⟨j, rfl⟩ := Int.eq_ofNat_of_zero_le h0
  rw [atI_nat']
  simp
theorem atI_zero {α : Type} (x : α) (xs : List α) : atI (x :: xs) 0 = some x := by
  rw [atI_at (by omega)]; rfl
theorem ixN_at {n : Nat} {i : Int} (h0 : 0 ≤ i) (h1 : i < n) : ixN n i = some i.toNat := by
  unfold ixN
  rw [if_pos h0, if_pos h1]
theorem ixN_nat {n j : Nat} (h1 : j < n) : ixN n (j : Int) = some j := by
  rw [ixN_at (by omega) (by omega)]; simp
theorem sub_put {C : Cells} {p : Addr} {c : Cell} (h : C p = none) : Sub C (cput C p c) := Sub.new h
theorem seq_hide {a b : DS} {E : DEnds} {ρ : DEnv} {C : Cells} (h : ∀ E', { E with nx := fun ρ' C' => b E ρ' C' } = E' → a E' ρ C) : wSeqL a b E ρ C := h _ rfl
theorem while_hide {t : DT} {b : DS} {E : DEnds} {ρ : DEnv} {C : Cells} (h : ∀ b', b = b' → wWhile t b' E ρ C) : wWhile t b E ρ C := h _ rfl
section
variable {C : Cells} {a Cl : Addr} {ds : List D} {fs : List (String × D)} {f : String} {i : Int}
theorem seqOf_lst : seqOf (.lst ds) C = some ds := rfl
theorem seqOf_ptr : seqOf (.ptr a) C = match C a with | some (.lst ds) => some ds | _ => none := rfl
theorem itsOf_lst : itsOf (.lst ds) C = some ds := rfl
theorem itsOf_tup : itsOf (.tup ds) C = some ds := rfl
theorem itsOf_ptr : itsOf (.ptr a) C = match C a with | some (.lst ds) => some ds | _ => none := rfl
theorem lenOf_lst : lenOf (.lst ds) C = some ds.length := rfl
theorem lenOf_tup : lenOf (.tup ds) C = some ds.length := rfl
theorem lenOf_ptr : lenOf (.ptr a) C = match C a with | some (.lst ds) => some ds.length | _ => none := by
  show Option.map List.length (itsOf (.ptr a) C) = _
  rw [itsOf_ptr]
  split <;> simp_all
theorem lenOf_str {z : Str} (h : z.length ≤ 100000) : lenOf (.str z) C = some z.length := by simp only [lenOf, if_pos h]
theorem itemOf_lst : itemOf (.lst ds) C i = atI ds i := rfl
theorem itemOf_tup : itemOf (.tup ds) C i = atI ds i := rfl
theorem itemOf_ptr : itemOf (.ptr a) C i = match C a with | some (.lst ds) => atI ds i | _ => none := by
  show (itsOf (.ptr a) C).bind (fun ds => atI ds i) = _
  rw [itsOf_ptr]
  split <;> simp_all
theorem itemOf_str {z : Str} (h : z.length ≤ 100000) : itemOf (.str z) C i = (atI z.cps.toList i).map fun c => .str ⟨#[c]⟩ := by simp only [itemOf, if_pos h]
theorem isSeq_ptr : isSeq (.ptr a) C = match C a with | some (.lst _) => True | _ => False := by
  show ((seqOf (.ptr a) C).isSome = true) = _
  rw [seqOf_ptr]
  split <;> simp_all
theorem isSeq_lst : isSeq (.lst ds) C := rfl
theorem fldOf_ins : fldOf Cl f (.ins Cl fs) C = fs.lookup f := by simp only [fldOf, if_true]
theorem fldOf_ptr : fldOf Cl f (.ptr a) C = match C a with | some (.ins c fs) => if c = Cl then fs.lookup f else none | _ => none := rfl
theorem isIns_ins : isIns Cl f (.ins Cl fs) C = (fs.lookup f = none) := by simp only [isIns, true_and]
theorem isIns_ptr : isIns Cl f (.ptr a) C = match C a with | some (.ins c fs) => c = Cl ∧ fs.lookup f = none | _ => False := rfl
theorem res_lst : D.res C (.lst ds) = .lst ds := rfl
theorem res_tup : D.res C (.tup ds) = .tup ds := rfl
theorem res_ptr : D.res C (.ptr a) = match C a with | some (.lst ds) => .lst ds | _ => .ptr a := rfl
end
/-- a product that is no wide one -/
theorem cmul_l {i j : Int} (h : -(2 ^ 64) < i) (h' : i < 2 ^ 64) : CMul i j := .inl ⟨h, h'⟩
theorem cmul_r {i j : Int} (h : -(2 ^ 64) < j) (h' : j < 2 ^ 64) : CMul i j := .inr ⟨h, h'⟩
theorem mod_lo (a : Int) {m : Int} (h : 0 < m) : 0 ≤ a % m := Int.emod_nonneg _ (by omega)
theorem mod_hi (a : Int) {m : Int} (h : 0 < m) : a % m < m := Int.emod_lt_of_pos _ h
end DD

set_option Elab.async false
set_option linter.all false
set_option maxRecDepth 100000
set_option maxHeartbeats 4000000
/-! Tools for readings over data: cells taken away, == of lists, comprehensions over places. -/
namespace DD
open PySem L2
/-- without the cell at p -/
def crem (C : Cells) (p : Addr) : Cells := fun a => if a = p then none else C a
theorem crem_sub (C : Cells) (p : Addr) : Sub (crem C p) C := fun a c h => by
  unfold crem at h
  split at h
  · cases h
  · exact h
theorem crem_same {C : Cells} {p : Addr} : crem C p p = none := by unfold crem; rw [if_pos rfl]
theorem crem_ne {C : Cells} {p a : Addr} (h : a ≠ p) : crem C p a = C a := by unfold crem; rw [if_neg h]
theorem eqv_lists {α : Type} {enc : α → D} [DecidableEq α] (h : ∀ a b, (enc a).eqb (enc b) = decide (a = b)) : ∀ xs ys : List α, PyData.eqvAll (pys (xs.map enc)) (pys (ys.map enc)) = decide (xs = ys)
  | [], [] => by simp [pys, PyData.eqvAll]
  | [], y :: ys => by simp [pys, PyData.eqvAll]
  | x :: xs, [] => by simp [pys, PyData.eqvAll]
  | x :: xs, y :: ys => by
    have e := h x y
    unfold D.eqb at e
    simp only [List.map_cons, pys, PyData.eqvAll, e, eqv_lists h xs ys, List.cons.injEq]
    by_cases h1 : x = y <;> by_cases h2 : xs = ys <;> simp [h1, h2]
theorem eqb_lst {α : Type} {enc : α → D} [DecidableEq α] (h : ∀ a b, (enc a).eqb (enc b) = decide (a = b)) (xs ys : List α) : (D.lst (xs.map enc)).eqb (.lst (ys.map enc)) = decide (xs = ys) := by
  show PyData.eqv (D.lst (xs.map enc)).py (D.lst (ys.map enc)).py = _
  simp only [D.py, PyData.eqv]
  exact eqv_lists h xs ys
theorem eqb_tup {α : Type} {enc : α → D} [DecidableEq α] (h : ∀ a b, (enc a).eqb (enc b) = decide (a = b)) (xs ys : List α) : (D.tup (xs.map enc)).eqb (.tup (ys.map enc)) = decide (xs = ys) := by
  show PyData.eqv (D.tup (xs.map enc)).py (D.tup (ys.map enc)).py = _
  simp only [D.py, PyData.eqv]
  exact eqv_lists h xs ys
theorem eqb_int (a b : Int) : (D.int a).eqb (.int b) = decide (a = b) := by simp [D.eqb, D.py, PyData.eqv]; rfl
theorem eqb_str (a b : Str) : (D.str a).eqb (.str b) = decide (a = b) := by simp [D.eqb, D.py, PyData.eqv]; rfl
theorem eqb_ints (xs ys : List Int) : (D.lst (xs.map D.int)).eqb (.lst (ys.map D.int)) = decide (xs = ys) := eqb_lst eqb_int xs ys
theorem eqb_pair (p q : Int × Int) : (pairD p).eqb (pairD q) = decide (p = q) := by
  have e : (pairD p).eqb (pairD q) = decide ([p.1, p.2] = [q.1, q.2]) := eqb_tup eqb_int [p.1, p.2] [q.1, q.2]
  rw [e]
  cases p; cases q
  simp
theorem eqb_lst_nil {α : Type} (enc : α → D) : ∀ xs : List α, (D.lst (xs.map enc)).eqb (.lst []) = xs.isEmpty
  | [] => by simp [D.eqb, D.py, pys, PyData.eqv, PyData.eqvAll]
  | x :: xs => by simp [D.eqb, D.py, pys, PyData.eqv, PyData.eqvAll]
theorem dat_lst {α : Type} {enc : α → D} {n : Nat} (h : ∀ a, Dat n (enc a)) (xs : List α) : Dat (n + 1) (.lst (xs.map enc)) := .lst fun d hd => by
  obtain ⟨a, _, rfl⟩ := List.mem_map.mp hd
  exact h a
theorem dat_tup {α : Type} {enc : α → D} {n : Nat} (h : ∀ a, Dat n (enc a)) (xs : List α) : Dat (n + 1) (.tup (xs.map enc)) := .tup fun d hd => by
  obtain ⟨a, _, rfl⟩ := List.mem_map.mp hd
  exact h a
theorem dat_ints {n : Nat} (xs : List Int) : Dat (n + 1) (.lst (xs.map D.int)) := dat_lst (fun _ => .int _) xs
theorem dat_nil {n : Nat} : Dat (n + 1) (.lst []) := .lst fun d hd => by cases hd
theorem dat_pair {n : Nat} (p : Int × Int) : Dat (n + 1) (pairD p) := dat_tup (enc := D.int) (fun _ => .int _) [p.1, p.2]
/-- == of two lists of ints -/
theorem range_filterMap {α β : Type} (L : List α) (g : α → Option β) : (List.range L.length).filterMap (fun k => (L[k]?).bind g) = L.filterMap g := by
  suffices h : ∀ n, n ≤ L.length → (List.range n).filterMap (fun k => (L[k]?).bind g) = (L.take n).filterMap g by
    rw [h L.length (Nat.le_refl _), List.take_length]
  intro n
  induction n with
  | zero => intro _; rfl
  | succ n ih =>
    intro hn
    rw [List.range_succ, List.filterMap_append, ih (by omega), List.take_succ, List.filterMap_append]
    have e : L[n]? = some L[n] := List.getElem?_eq_getElem (by omega)
    simp only [e, List.filterMap_cons, List.filterMap_nil, Option.bind_some, Option.toList_some]
theorem take_snoc {α : Type} {L : List α} {k : Nat} {e : α} (h : L[k]? = some e) : L.take (k + 1) = L.take k ++ [e] := by
  rw [List.take_succ, h]; rfl
theorem filterMap_map {α β γ : Type} (L : List α) (g : α → Option β) (f : β → γ) : L.filterMap (fun a => (g a).map f) = (L.filterMap g).map f := by
  rw [List.map_filterMap]
theorem ints_ptr {C : Cells} {a : Addr} {ns : List Int} (h : C a = some (.lst (ns.map D.int))) : IntsOf (.ptr a) C ns := by simp only [IntsOf, seqOf, h]
theorem ints_lst {C : Cells} {ns : List Int} : IntsOf (.lst (ns.map D.int)) C ns := rfl
/-- the first of a sorted list -/
theorem sortI_head {l : List Int} (h : l ≠ []) : ∃ r, sortI l = minI l :: r := by
  obtain ⟨h1, h2⟩ := minI_spec h
  have hp := sortI_perm l
  have hs := sortI_pair l
  cases e : sortI l with
  | nil =>
    rw [e] at hp
    exact absurd hp.symm.eq_nil h
  | cons x r =>
    refine ⟨r, ?_⟩
    rw [e] at hp hs
    have hx : x ∈ l := hp.mem_iff.mp List.mem_cons_self
    have hm : minI l ∈ x :: r := hp.mem_iff.mpr h1
    have hle := h2 x hx
    rcases List.mem_cons.mp hm with q | q
    · rw [q]
    · have := (List.pairwise_cons.mp hs).1 _ q
      rw [show x = minI l by omega]
end DD

set_option Elab.async false
set_option linter.all false
set_option maxRecDepth 100000
set_option maxHeartbeats 4000000
/-! More: range with a step, the last of a list, cuts. -/
namespace DD
open PySem L2

def rngC (lo c : Int) (n : Nat) : List D := (List.range n).map fun (k : Nat) => D.int (lo + (k : Int) * c)
theorem rngC_len (lo c : Int) (n : Nat) : (rngC lo c n).length = n := by simp [rngC]
theorem rngC_get {lo c : Int} {n i : Nat} {d : D} (h : (rngC lo c n)[i]? = some d) : i < n ∧ d = .int (lo + (i : Int) * c) := by
  unfold rngC at h
  rw [List.getElem?_map] at h
  rcases Nat.lt_or_ge i n with z | z
  · rw [List.getElem?_range z] at h
    exact ⟨z, (Option.some.inj h).symm⟩
  · rw [List.getElem?_eq_none (by simpa using z)] at h; cases h
def wRng3 (a : DA) (ρ : DEnv) (C : Cells) (P : DIt → Cells → Prop) (PX : DX) : Prop := a ρ C (fun ds C1 => match ds with
  | [.int i, .int j, .int c] => ∃ n, RgC i j c n ∧ P ⟨rngC i c n, frozen⟩ C1
  | _ => False) PX
theorem itr_rngC {K : PySem.W.Frag} {F : Hp} {lo c : Int} {n : Nat} : ItR K F (Itc lo c n) ⟨rngC lo c n, frozen⟩ := fun F' H C e hs _ => by
  refine ⟨fun i d hd => ?_, by show n ≤ (rngC lo c n).length; rw [rngC_len]; exact Nat.le_refl _⟩
  obtain ⟨hi, rfl⟩ := rngC_get hd
  refine ⟨hi, fun x H' y => ?_⟩
  obtain ⟨rfl, rfl⟩ := y
  exact ⟨F', Ex.refl _, hs, .int _⟩
theorem di_rng3 {X : Cx} {W : WX} {tg : Expr} {wr : DA} {pos : Pos} {a b c : Expr} {p : Pos} (hg : Gl X "range") (hm : X.mg "range" = none) (ha : PA X [a, b, c] (tA X.K W wr))
    (hs : starEach [a, b, c] X.env = (false, eval a X.env) :: starEach [b, c] X.env := by rfl) (hpl : (backTo pos (starEach [b, c] X.env)).any (·.1) = false := by rfl) :
    PI X tg (.Call (.Name "range" p) [a, b, c] [] pos) (tI X.K W (wRng3 wr)) :=
  PI.imp (pi_range3 hg hm ha hs hpl) fun σ H R ⟨F, C, ρ, P, PX, hs, en, xr, w, k⟩ => ⟨F, C, ρ, _, PX, hs, en, xr, w, fun v F1 H1 d C1 e1 h1 r q => by
    revert q
    dsimp only
    split
    · rintro ⟨n, hn, q⟩
      rename_i i j c
      cases r with
      | cons r1 r2 =>
        cases r1
        cases r2 with
        | cons r2 r3 =>
          cases r2
          cases r3 with
          | cons r3 r4 =>
            cases r3; cases r4
            exact ⟨i, j, c, n, rfl, hn, k _ F1 H1 _ C1 e1 h1 itr_rngC q⟩
    · exact fun z => z.elim⟩
theorem for_rngC {lo c : Int} {n i : Nat} {b : DS} {E : DEnds} {ρ : DEnv} {C : Cells} (Inv : Nat → DEnv → Cells → Prop) (h0 : Inv 0 ρ C)
    (hs : ∀ (k : Nat) ρ' C', k < n → Inv k ρ' C' → b { nx := Inv (k + 1), ct := Inv (k + 1), bk := E.nx, rt := E.rt, ex := E.ex } (ρ'.set i (some (.int (lo + (k : Int) * c)))) C')
    (hd : ∀ ρ' C', Inv n ρ' C' → E.nx ρ' C') : ForG ⟨rngC lo c n, frozen⟩ (.name i) b E ρ C := by
  refine ⟨Inv, h0, fun _ _ _ _ => trivial, fun k d ρ' C' hk hI => ?_, fun ρ' C' hI => hd ρ' C' (by have e := rngC_len lo c n; simp only [e] at hI; exact hI)⟩
  obtain ⟨hk2, rfl⟩ := rngC_get hk
  simp only [Tgt.dg]
  exact hs k ρ' C' hk2 hI
theorem rgC_two {n : Nat} (h : n ≤ 1000000) : RgC 0 (n : Int) 2 ((n + 1) / 2) := by
  have e : Builtin.Range.rangeSize 0 (n : Int) 2 = (((n + 1) / 2 : Nat) : Int) := by
    unfold Builtin.Range.rangeSize
    split <;> omega
  refine ⟨by decide, by decide, ?_, e⟩
  unfold Builtin.Range.small
  rw [e]
  have e1 : ((2 : Int) > 0) = True := by simp
  have e2 : Builtin.Range.rangeFitsLong 2 = true := by decide
  have e3 : Builtin.Range.rangeFitsLong 0 = true := by decide
  have e4 : ∀ i : Int, 0 ≤ i → i ≤ 3000000 → Builtin.Range.rangeFitsLong i = true := fun i h1 h2 => by
    simp only [Builtin.Range.rangeFitsLong, Bool.and_eq_true, decide_eq_true_eq]; omega
  rw [e2, e3, e4 _ (by omega) (by omega)]
  simp only [Bool.and_eq_true, Bool.or_eq_true, decide_eq_true_eq, beq_iff_eq, e1, if_true, true_and]
  exact ⟨e4 _ (by omega) (by omega), .inr (e4 _ (by omega) (by omega))⟩

theorem atI_getLast {α : Type} (xs : List α) : atI xs (-1) = xs.getLast? := by
  unfold atI ixN
  rcases List.eq_nil_or_concat xs with h | ⟨r, x, h⟩
  · subst h; rfl
  · subst h
    simp only [List.concat_eq_append, List.length_append, List.length_singleton]
    rw [if_neg (by decide), if_pos (by omega)]
    have : (-1 + ((r.length + 1 : Nat) : Int)).toNat = r.length := by omega
    simp only [Option.bind_some, this]
    simp
theorem atI_snoc {α : Type} (xs : List α) (x : α) : atI (xs ++ [x]) (-1) = some x := by rw [atI_getLast, List.getLast?_concat]
theorem atI_succ {α : Type} (xs : List α) (j : Nat) : atI xs ((j : Int) + 1) = xs[j + 1]? := atI_nat' xs (j + 1)
theorem cut_init (xs : List D) : cutD xs none (some (-1)) = xs.dropLast := by
  unfold cutD
  simp only [HT.sIx, List.drop_zero, Nat.sub_zero]
  rw [if_pos (by decide), List.dropLast_eq_take]
  congr 1
  omega
theorem cut_from (xs : List D) (k : Nat) : cutD xs (some (k : Int)) none = xs.drop k := by
  unfold cutD
  simp only [HT.sIx_nat, HT.sIx_none]
  rw [List.take_of_length_le (by rw [List.length_drop]; omega)]
  rcases Nat.le_total k xs.length with h | h
  · rw [Nat.min_eq_left h]
  · rw [Nat.min_eq_right h, List.drop_eq_nil_of_le (Nat.le_refl _), List.drop_eq_nil_of_le h]
theorem cut_to (xs : List D) (k : Nat) : cutD xs none (some (k : Int)) = xs.take k := by
  unfold cutD
  simp only [HT.sIx_nat, HT.sIx_none, List.drop_zero, Nat.sub_zero]
  rcases Nat.le_total k xs.length with h | h
  · rw [Nat.min_eq_left h]
  · rw [Nat.min_eq_right h, List.take_of_length_le (Nat.le_refl _), List.take_of_length_le h]
end DD

set_option Elab.async false
set_option linter.all false
set_option maxRecDepth 100000
set_option maxHeartbeats 4000000
/-! More: a module's tuple, x in xs of data, tuples put together. -/
namespace DD
open PySem L2 PySem.Spec PyProof.Rows

/-! ### a tuple of the module -/
theorem rep_tupK {K : PySem.W.Frag} {a : Addr} {od : Option Addr} {its : Array Value} {n : Nat} {sl : Array (Option Value)} {vs : List V} {ds : List D} (h : K.lookup a = some ⟨.type "tuple", od, .seq its n, sl⟩) (hs : its.size ≤ sizeLine) (r : Vals vs its.toList)
    (q : ∀ F, RepL K F vs ds) : ∀ F, Rep K F (.ref a) (.ktup ds) := fun F => .ktup (.inr ⟨_, its, n, h, rfl, rfl, hs, r⟩) (q F)
theorem d_kdat {X : Cx} {W : WX} {x : Str} {d : D} {pos : Pos} (h : ∃ a, X.mg x = some (.ref a) ∧ ∀ F, Rep X.K F (.ref a) d) (hg : Gl X x := by rfl) (hd : (x == ("__debug__" : Str)) = false := by decide) : PE X (.Name x pos) (tE X.K W (wC d)) := by
  obtain ⟨a, hm, hr⟩ := h
  exact d_glob hg hm (v := .ref a) rfl hr hd

/-! ### x in xs, data of any depth -/
def rInQ (K : PySem.W.Frag) (neg : Bool) : R2 := fun x y H Q => ∃ d e ds, (e = .list ds ∨ e = .tuple ds) ∧ Dp K H x d ∧ Dp K H y e ∧ SeqAt.shaped d = true ∧ SeqAt.shaped e = true ∧ Q (.bl (neg ^^ ds.any fun z => PyData.eqv z d)) H
theorem room_in_tuple {A : Around} {xs : List PyData} {d : PyData} (hd : SeqAt.shaped d = true) (hu : A.units + 65 < cLine) : A.units + 1 + min (PyData.depthAll xs) d.depth < cLine := by
  unfold SeqAt.shaped at hd
  simp only [Bool.and_eq_true, decide_eq_true_eq] at hd
  have : min (PyData.depthAll xs) d.depth ≤ d.depth := Nat.min_le_right _ _
  omega
theorem op_inQ {X : Cx} (hu : X.A.units + 65 < cLine) : OpR X (compareOp .In) (rInQ X.K false) := by
  intro pins s σ H x y v u Q I rx ry h
  obtain ⟨d, e, ds, he, hd, hq, sd, se, q⟩ := h
  obtain ⟨as, r1⟩ := Dp.reads I d x v hd rx
  obtain ⟨bs, r2⟩ := Dp.reads I e y u hq ry
  rw [Bool.false_xor] at q
  rcases he with rfl | rfl
  · exact SeqAt.in_list_reads r2 r1 (SeqAt.canLay_of_shaped se) (SeqAt.canLay_of_shaped sd) (room_in_tuple sd hu) ⟨.bl _, H, I, rfl, q⟩
  · exact SeqAt.in_tuple_reads r2 r1 (SeqAt.canLay_of_shaped se) (SeqAt.canLay_of_shaped sd) (room_in_tuple sd hu) ⟨.bl _, H, I, rfl, q⟩
theorem op_notInQ {X : Cx} (hu : X.A.units + 65 < cLine) : OpR X (compareOp .NotIn) (rInQ X.K true) := by
  intro pins s σ H x y v u Q I rx ry h
  obtain ⟨d, e, ds, he, hd, hq, sd, se, q⟩ := h
  obtain ⟨as, r1⟩ := Dp.reads I d x v hd rx
  obtain ⟨bs, r2⟩ := Dp.reads I e y u hq ry
  rw [Bool.true_xor] at q
  rcases he with rfl | rfl
  · exact SeqAt.notIn_list_reads r2 r1 (SeqAt.canLay_of_shaped se) (SeqAt.canLay_of_shaped sd) (room_in_tuple sd hu) ⟨.bl _, H, I, rfl, q⟩
  · exact SeqAt.notIn_tuple_reads r2 r1 (SeqAt.canLay_of_shaped se) (SeqAt.canLay_of_shaped sd) (room_in_tuple sd hu) ⟨.bl _, H, I, rfl, q⟩
/-- the items of a list or a tuple that is data -/
def inItems : D → Option (List D)
  | .lst ds => some ds
  | .tup ds => some ds
  | .ktup ds => some ds
  | _ => none
def dInD (neg : Bool) (x : D) (y : D) (C : Cells) (P : DK) : Prop := match inItems (y.res C) with
  | some ds => ∃ n, n ≤ 60 ∧ Dat n (x.res C) ∧ Dat n (y.res C) ∧ P (.bl (neg ^^ ds.any fun z => z.eqb (x.res C))) C
  | none => False
theorem any_pys (d : PyData) : ∀ ds : List D, ((pys ds).any fun z => PyData.eqv z d) = ds.any fun z => PyData.eqv z.py d
  | [] => rfl
  | x :: r => by simp only [pys, List.any_cons, any_pys d r]
theorem s_inD {K : PySem.W.Frag} {neg : Bool} : SimR K (rInQ K neg) (dInD neg) := fun F C H x y dx dy P Q hs rx ry w k => by
  revert w
  unfold dInD
  split
  · rename_i ds hd
    rintro ⟨n, hn, h1, h2, w⟩
    have kk := k _ F H _ C (Ex.refl F) hs (.bl _) w
    have e : (fun z : D => z.eqb (dx.res C)) = fun z : D => PyData.eqv z.py (dx.res C).py := rfl
    rw [e, ← any_pys] at kk
    refine ⟨_, _, pys ds, ?_, res_dp hs rx h1, res_dp hs ry h2, dat_shaped h1 hn, dat_shaped h2 hn, kk⟩
    cases hy : dy.res C <;> rw [hy] at hd <;> cases hd
    · exact .inr (by rw [D.py])
    · exact .inl (by rw [D.py])
    · exact .inr (by rw [D.py])
  · exact fun z => z.elim

/-! ### tuples put together -/
def dCatT (x : D) (y : D) (C : Cells) (P : DK) : Prop := match x, y with
  | .tup xs, .tup ys => xs.length + ys.length ≤ 100000 ∧ P (.tup (xs ++ ys)) C
  | _, _ => False
theorem s_catT {K : PySem.W.Frag} : SimR K (rCatA K) dCatT := fun F C H x y dx dy P Q hs rx ry w k => by
  unfold dCatT at w
  split at w
  · rename_i xs ys
    cases rx with
    | tup h1 r1 =>
      cases ry with
      | tup h2 r2 =>
        rename_i a us b vs
        have e1 := r1.length
        have e2 := r2.length
        refine ⟨a, b, us, vs, rfl, rfl, .of (hs.ex.nd h1 rfl), .of (hs.ex.nd h2 rfl), by rw [e1, e2]; exact Nat.le_trans w.1 (by decide), fun e => ?_, fun _ e => ?_, fun _ _ p hp => ?_⟩
        · subst e
          cases r1
          exact k _ F H _ C (Ex.refl F) hs (.tup h2 r2) w.2
        · subst e
          cases r2
          have w2 := w.2
          rw [List.append_nil] at w2
          exact k _ F H _ C (Ex.refl F) hs (.tup h1 r1) w2
        · obtain ⟨ex, hs'⟩ := hs.lay (o := .tup (us ++ vs)) hp
          exact k _ _ _ _ C ex hs' (.tup (by unfold upd; rw [if_pos rfl]) ((r1.mono ex).append (r2.mono ex))) w.2
  · exact w.elim
theorem atI_lit {α : Type} (xs : List α) (n : Nat) : atI xs (no_index (@OfNat.ofNat Int n _)) = xs[n]? := atI_nat' xs n
theorem _root_.L2.Room.units2 {k : Nat} {A : Around} (r : L2.Room k A) : A.units + 65 < cLine := by have := r.un; omega
end DD

set_option Elab.async false
set_option linter.all false
set_option maxRecDepth 100000
set_option maxHeartbeats 4000000
/-! Exceptions: raise of an own class, try and except. -/
namespace DD
open PySem L2 PySem.Spec PyProof.Rows

/-- what is known of an own class of errors without an __init__ -/
structure XcT (K : PySem.W.Frag) (C : Addr) : Prop where
  xi : PySem.W.excIn K C [.type "ValueError", .type "Exception", .type "BaseException", .type "object"] "ValueError.__new__" = true
  xb : PySem.W.subIn K (.ref C) (.type "BaseException") = some true
  xt : PySem.W.typeIn K (.ref C) = some (.type "type")
  xk : PySem.W.keepIn K (.ref C) = true
theorem exm_is {K : PySem.W.Frag} {C1 C2 : Addr} {b : Bool} (h1 : PySem.W.subIn K (.ref C2) (.type "BaseException") = some true) (h2 : PySem.W.isClsIn K C2 = true) (h3 : PySem.W.typeIn K (.ref C2) = some (.type "type")) (h4 : PySem.W.subIn K (.ref C1) (.ref C2) = some b) :
    PySem.W.exmOne K (.ref C1) (.ref C2) = some b := by
  unfold PySem.W.exmOne PySem.W.kitCls
  have h5 : (PySem.W.clsIn K C2).isSome = true := h2
  rw [h1, if_pos (by decide)]
  dsimp only
  rw [h5, h3, if_pos (by decide), h4]

def wRaise (cls : Value) (E : DEnds) (ρ : DEnv) (C : Cells) : Prop := E.ex cls [] ρ C
section
variable {X : Cx} {W : WX} {K : PySem.W.Frag} {pos : Pos}
theorem ds_raise0 {x m : Str} {j : Nat} {p p2 pos' : Pos} {C : Addr} (hc : X.calm = true) (tk : Takes X W) (T : XcT X.K C) (gC : X.mg x = some (.ref C)) (hg : Gl X x) (hdb : (x == ("__debug__" : Str)) = false := by decide) :
    PS X (.Raise (some (.Call (.Name x p) [.Constant (.str m) j p2] [] pos)) none pos') (tS X.K W (wRaise (.ref C))) :=
  PS.imp (ps_raise hc tk (pmk_own PySem.F.excBase_ValueError T.xi gC T.xk (raises_own T.xb T.xt) hg hdb)) fun D σ H ⟨F, C', ρ, E, hs, en, xr, w, k⟩ =>
    xr _ none [] σ F H ρ C' (Ex.refl F) hs en (.inl rfl) w

/-! try: .. except X: .. (the suite raises nothing) -/
def wTry (K : PySem.W.Frag) (c : Value) (wb ws : DS) (E : DEnds) (ρ : DEnv) (C : Cells) : Prop := wb { E with ex := fun cls fs ρ' C' => ∃ b, PySem.W.exmOne K cls c = some b ∧ (b = true → ws { E with ex := fun _ _ _ _ => False } ρ' C') ∧ (b = false → E.ex cls fs ρ' C') } ρ C
theorem EndsR.exx {F : Hp} {E : DEnds} {D : Ends} {px : DX} (h : EndsR K F E D) : EndsR K F { E with ex := px } D := ⟨h.nx, h.rt, h.bk, h.ct⟩
theorem ds_try {x : Str} {C : Addr} {K' : PySem.W.Frag} {body suite : List Stmt} {b₀ : Stmt} {np pos' : Pos} {wb ws : DS} (hs : X.stack = X.env :: X.outer) (hf : X.env.frame = some X.env.locals) (T : XcT K' C) (gC : X.mg x = some (.ref C)) (tk : Takes X W)
    (hb : ∀ (W' : WX) (pn : List (Addr × Obj)) (xe : Value → Shared → Prop), Takes (X.tr pn xe) W' → PassesOwn (model X.prog X.w) X.A X.env xe → PSs (X.tr pn xe) body (tS X.K W' wb))
    (hsu : ∀ (a : Addr) (oe : Obj) (cls : Value) (d : Option Addr) (pn : List (Addr × Obj)), Zc cls d oe → (∃ vs, oe.data = .fields vs) → PSs (X.suite a ((a, oe) :: pn)) (b₀ :: suite) (tS X.K (fun _ _ _ _ => False) ws))
    (hK : X.K = K' := by rfl) (hg : Gl X x := by rfl) (hdb : (x == ("__debug__" : Str)) = false := by decide) :
    PS X (.Try body [.ExceptHandler (some (.Name x np)) none (b₀ :: suite) pos'] [] [] pos) (tS X.K W (wTry K' (.ref C) wb ws)) := by
  subst hK
  exact PS.imp (ps_try_only (tb := fun W' => tS X.K W' wb) (ts := fun _ _ _ => tS X.K (fun _ _ _ _ => False) ws) hs hf ⟨hg, hdb, .inl gC⟩ tk hb hsu) fun D σ H ⟨F, C', ρ, E, hs', en, xr, w, k⟩ =>
    ⟨F, C', ρ, { E with ex := fun cls fs ρ' C' => ∃ b, PySem.W.exmOne X.K cls (.ref C) = some b ∧ (b = true → ws { E with ex := fun _ _ _ _ => False } ρ' C') ∧ (b = false → E.ex cls fs ρ' C') }, hs', en, fun cls d fs σ1 F1 H1 ρ1 C1 e1 h1 n1 rx ⟨b, hb1, hy, hn⟩ =>
      ⟨b, hb1, fun hbt a ha => ⟨F1, C1, ρ1, { E with ex := fun _ _ _ _ => False }, h1, n1, fun _ _ _ _ _ _ _ _ _ _ _ _ z => z.elim, hy hbt, (k.mono e1).exx⟩, fun hbf => xr cls d fs σ1 F1 H1 ρ1 C1 e1 h1 n1 rx (hn hbf)⟩, w, k.exx⟩
end

/-! an object made, its __init__ may raise -/
section
variable {X : Cx} {W : WX} {k : Nat} {f Cl : Addr} {fd : FuncData} {ps : List Str} {x : Str} {p pos : Pos} {e : Expr} {es : List Expr} {dvs : List V} {dsv : List Value}
theorem make_at {CX : CXT} {sp : Sp} {E : XK} {pins : List (Addr × Obj)} {σ : L2.St} {H : Hp} {s : Shared} {Q : VK} {us : List Value} {vs : List V} (M : Mk X.K Cl f) (F : FnOk X.prog X.w X.K X.mg X.base CX k f fd ps sp) (hr : Room (k + 1) X.A) (hb : Binds X.K fd ps dsv) (hd : Vals dvs dsv)
    (hx : PassesAt CX X σ E) (I : Inv X pins σ H s) (r : Vals vs us)
    (h : ∀ z dx, H z = none → H dx = none → dx ≠ z → sp (.ref z :: (vs ++ dvs)) (upd (upd H dx (.own z)) z (.ins Cl dx [])) (fun v H2 => v = .non ∧ Q (.ref z) H2) E) :
    wpAny (model X.prog X.w) X.A (call (.ref Cl) us) (EP X pins σ Q) X.xe s := by
  have q := h _ _ (I.hok.fresh (Nat.le_succ s.heap.objs.size)) (I.hok.fresh (Nat.le_refl s.heap.objs.size)) (Nat.ne_of_lt (Nat.lt_succ_self s.heap.objs.size))
  have J := Inv.made (C := Cl) I
  have rv : Vals (V.ref (s.heap.objs.size + 1) :: (vs ++ dvs)) (Value.ref (s.heap.objs.size + 1) :: (us ++ dsv)) := .cons rfl (r.append hd)
  have len : (Value.ref (s.heap.objs.size + 1) :: us ++ dsv).length = ps.length := rv.length.symm.trans (F.len _ _ _ _ q)
  refine wpAny_call (make_map (f := f) I.kIn M.makes M.init (beq_iff_eq.mp M.fn) (codeAny_mono (F.run _ X.stack _ _ ⟨Value.ref (s.heap.objs.size + 1) :: us, []⟩ (Value.ref (s.heap.objs.size + 1) :: (us ++ dsv)) _ _ E (hr.make Cl us []) (J.env0.make Cl us []) (hb _ (Value.ref (s.heap.objs.size + 1) :: us) J.kIn len) rv q) fun o s' z => ?_))
  match o, z with
  | .error e, z => exact hx pins _ _ e s' J z
  | .ok (.ret u), z =>
    obtain ⟨v, H', J2, _, ev, q3⟩ := J.after z
    subst ev
    exact ⟨by assumption, ⟨V.ref _, H', J2, rfl, q3⟩⟩
  | .ok .next, z => exact z.elim
  | .ok .brk, z => exact z.elim
  | .ok .cont, z => exact z.elim
theorem d_makeX {RX : DSpX} {dd : List D} {wr : DA} (tk : Takes X W) (M : Mk X.K Cl f) (G : FnOk X.prog X.w X.K X.mg X.base (L2.CX X.prog X.w) k f fd ps (spX X.K RX)) (hr : Room (k + 1) X.A) (hm : X.mg x = some (.ref Cl)) (hb : Binds X.K fd ps dsv) (ha : PA X (e :: es) (tA X.K W wr)) (hd : Vals dvs dsv := by exact .nil) (hdd : ∀ F, RepL X.K F dvs dd := by exact fun _ => .nil) (hg : Gl X x := by rfl)
    (hdb : (x == ("__debug__" : Str)) = false := by decide) (he : starEach (e :: es) X.env = (false, eval e X.env) :: starEach es X.env := by rfl) (hpl : (backTo pos (starEach es X.env)).any (·.1) = false := by rfl) :
    PE X (.Call (.Name x p) (e :: es) [] pos) (tE X.K W (wMakeX Cl RX dd wr)) := by
  refine ⟨fun pins s σ H Q I ⟨F, C, ρ, P, PX, hs, en, xr, w, kk⟩ => ?_⟩
  refine wpAny_Call_Name_kw (ld_glob I hg hm ?_ hdb)
  refine PySem.W.callWith_K (h₀ := X.base) I.ok.mod.kin M.kp (thn (ha.run pos pins s σ H (fun vs H1 => ∃ F1 C1 ds, Ex F F1 ∧ Hs X.K F1 C1 H1 ∧ RepL X.K F1 vs ds ∧ ∀ q, C1 q = none → RX (.ptr q :: (ds ++ dd)) (cput C1 q (.ins Cl [])) (fun r C2 => r = .non ∧ P (.ptr q) C2) (fun cls fs C3 => PX cls fs ρ C3)) I
    ⟨F, C, ρ, _, PX, hs, en, xr, w, fun vs F1 H1 ds C1 e1 h1 r q => ⟨F1, C1, ds, e1, h1, r, q⟩⟩) fun us s1 ⟨vs, H1, I1, r, F1, C1, ds, e1, h1, rr, q⟩ => ⟨I1.kIn, ?_⟩) he hpl
  refine make_at (E := WE W σ) M G hr hb hd (passAt tk σ) I1 r fun z dx hz hdx ne => ?_
  obtain ⟨c0, h2⟩ := h1.inst (Cl := Cl) hz hdx ne
  exact ⟨F1, _, .ptr z :: (ds ++ dd), _, _, h2, .cons (.ptr z) (rr.append (hdd F1)), q z c0, ptr_kont (kk.mono e1), KontX.of (xr.mono e1) (en.mono e1)⟩
end

/-! xs.index(y), flat items -/
def dIndex (x : D) (ds : List D) (C : Cells) (P : DK) : Prop := match ds with
  | [y] => ∃ xs, seqOf x C = some xs ∧ flatD y = true ∧ xs.all flatD = true ∧ ∃ (j : Nat) (z : D), xs[j]? = some z ∧ eqV (toV z) (toV y) = true ∧ (∀ (m : Nat) (z' : D), m < j → xs[m]? = some z' → eqV (toV z') (toV y) = false) ∧ P (.int (j : Int)) C
  | _ => False
theorem s_index {K : PySem.W.Frag} : SimM K (rIndex K) dIndex := fun F C H x dx xs ds P Q hs rx rl w k => by
  revert w
  unfold dIndex
  split
  · rename_i y
    rintro ⟨zs, hz, fy, fz, j, z, hj, hzy, hno, w⟩
    obtain ⟨a, us, rfl, hq, hr⟩ := seq_of hs rx hz
    cases rl with
    | cons r1 r2 =>
      cases r2
      obtain ⟨e1, f1⟩ := flat_rep r1 fy
      obtain ⟨e2, f2⟩ := flat_reps hr fz
      refine ⟨a, us, _, j, toV z, rfl, rfl, hq, f1, f2, ?_, by rw [e1]; exact hzy, fun m z' hm hz' => ?_, k _ F H _ C (Ex.refl F) hs (.int _) w⟩
      · rw [e2, List.getElem?_map, hj]; rfl
      · rw [e2, List.getElem?_map] at hz'
        cases hm' : zs[m]? with
        | none => rw [hm'] at hz'; cases hz'
        | some z2 =>
          rw [hm'] at hz'
          cases hz'
          rw [e1]
          exact hno m z2 hm hm'
  · exact fun z => z.elim
theorem eqV_int (a b : Int) : eqV (toV (.int a)) (toV (.int b)) = decide (a = b) := by
  simp only [toV, eqV]
  exact Bool.beq_eq_decide_eq a b
end DD

set_option Elab.async false
set_option linter.all false
set_option maxRecDepth 100000
set_option maxHeartbeats 4000000
/-! xs.extend(ys) of a cell by any list. -/
namespace DD
open PySem L2 HT PySem.Spec PyProof.Rows
open PySem.AutoSeq1 (wpAny_loadPart')

theorem list_extendW (l : Addr) (items : Array Value) (n : Nat) (b : Addr) (items2 : Array Value) (n2 : Nat) (sl2 : Array (Option Value)) (hc0 : ¬(!items.isEmpty && Builtin.List.listTooLong (items.size + items2.size)) = true) (hc1 : items.size ≤ sizeLine) (hs2 : items.size + items2.size ≤ sizeLine + 1) :
    Meets (Builtin.«list.extend» ⟨[.ref l, .ref b], []⟩) (fun _ R s => s.heap.get? l = some { cls := .type "list", dict := none, data := .seq items n, slots := #[] } ∧ s.heap.get? b = some { cls := .type "list", dict := none, data := .seq items2 n2, slots := sl2 } ∧ R (.ok (.ret Value.none)) { s with heap := s.heap.update l (Obj.mapSeq fun x => x ++ items2), toks := s.toks }) :=
  .of_wp fun prog w A R s h => by
    obtain ⟨hp, g, d, tk, os⟩ := s
    obtain ⟨hl, hb, h⟩ := h
    have f1 := AutoSeq1.idx_int
    have f2 := AutoSeq1.sub_tuple_tuple
    have f3 := AutoSeq1.sub_list_list
    have f4 := AutoSeq1.sub_tuple_list
    have f5 := AutoSeq1.sub_list_tuple
    have hz' : (items ++ items2).size ≤ sizeLine + 1 := by rw [Array.size_append]; exact hs2
    wp_walk using (wpAny_updateSeq hl rfl (hz := hc1) (_hz' := hz')), wpAny_loadPart' hl, wpAny_loadPart' hb
    exact ⟨_, rfl, h⟩
def rExtendS (K : PySem.W.Frag) : V → List V → Hp → VK → Prop := fun x vs H Q => ∃ l b xs zs, x = .ref l ∧ vs = [.ref b] ∧ H l = some (.lst xs) ∧ SqL K H b zs ∧ xs.length + zs.length ≤ sizeLine ∧ Q .non (upd H l (.lst (xs ++ zs)))
theorem mt_extendS {X : Cx} : MtR X "list.extend" (rExtendS X.K) := by
  intro pins s σ H x vs v us Q I rx rv h
  obtain ⟨l, b, xs, zs, rfl, rfl, hH, hB, hz, q⟩ := h
  cases rx
  obtain ⟨u, rfl, ru⟩ := rv.one
  cases ru
  obtain ⟨z, its, n, r, hl, e⟩ := I.lstM hH
  obtain ⟨its2, r2, pl2, _⟩ := I.list hB
  obtain ⟨⟨cls2, dd2, data2, sl2⟩, n2, ho2, hc2, hdd, hd2⟩ := pl2
  simp only at hc2 hdd hd2
  subst hc2 hdd hd2
  have hl2 := r2.length
  have hsz : its.toArray.size + its2.toArray.size ≤ sizeLine := by rw [List.size_toArray, List.size_toArray]; omega
  have hlong : ¬ (!its.toArray.isEmpty && Builtin.List.listTooLong (its.toArray.size + its2.toArray.size)) = true := by
    rw [notLongL hsz, Bool.and_false]
    exact Bool.false_ne_true
  refine call_meets F.slot_list_extend ⟨_, e, rfl⟩ F.entry_list_extend (F.args_list_extend_2 _ _)
    (list_extendW l its.toArray n b its2.toArray n2 sl2 hlong (by rw [List.size_toArray]; omega) (by omega)) ⟨e, ho2, ?_⟩
  refine ⟨.non, _, I.lset (its' := its ++ its2) hH e (by simp) (r.append r2) ?_, rfl, q⟩
  rw [List.length_append]
  omega
def dExtend (x : D) (ds : List D) (C : Cells) (P : DK) : Prop := match x, ds with
  | .ptr a, [d] => match C a, seqOf d C with
    | some (.lst xs), some ys => xs.length + ys.length ≤ 100000 ∧ P .non (cput C a (.lst (xs ++ ys)))
    | _, _ => False
  | _, _ => False
theorem s_extend {K : PySem.W.Frag} : SimM K (rExtendS K) dExtend := fun F C H x dx xs ds P Q hs rx rl w k => by
  revert w
  unfold dExtend
  split
  · rename_i a d
    cases rx
    split
    · rename_i ys zs hc hd
      rintro ⟨hl, w⟩
      cases rl with
      | cons r1 r2 =>
        cases r2
        obtain ⟨f0, us, hx, r⟩ := hs.cell a _ hc
        obtain ⟨b, vs, rfl, hv, rv⟩ := seq_of hs r1 hd
        exact ⟨a, b, us, vs, rfl, rfl, hx, hv, by rw [r.length, rv.length]; exact sz_of hl, k _ F _ _ _ (Ex.refl F) (hs.put (c := .lst (ys ++ zs)) f0 ⟨_, upd_same, r.append rv⟩) .non w⟩
    · exact fun z => z.elim
  · exact fun z => z.elim
section
variable {X : Cx} {W : WX} {K : PySem.W.Frag}
theorem d_extend {o e : Expr} {es : List Expr} {wo : DE} {wr : DA} {pos apos : Pos} (ho : PE X o (tE X.K W wo)) (ha : PA X (e :: es) (tA X.K W wr))
    (hbase : attributeBase o (Str.ofString "extend") X.env (eval o X.env) = eval o X.env := by rfl)
    (hfew : ((backTo pos (starEach (e :: es) X.env)).all (fun x => !x.1) && (backToKw pos (keywordEach [] X.env)).all (fun x => x.1.isSome)
      && decide ((e :: es).length + ([] : List Keyword).length + (if ([] : List Keyword).isEmpty then 0 else 1) < 30)) = true := by rfl)
    (hline : (apos.endLine == pos.line) = true := by rfl) (hs : starEach (e :: es) X.env = (false, eval e X.env) :: starEach es X.env := by rfl) (hplain : (backTo pos (starEach es X.env)).any (·.1) = false := by rfl) :
    PE X (.Call (.Attribute o (Str.ofString "extend") apos) (e :: es) [] pos) (tE X.K W (wBML dExtend wo wr)) :=
  d_bmL PySem.F.plainAttrs_list PySem.F.slot_list_extend PySem.F.type_list_extend mt_extendS s_extend ho ha hbase hfew hline hs hplain
end
end DD

set_option Elab.async false
set_option linter.all false
set_option maxRecDepth 100000
set_option maxHeartbeats 4000000
/-! Texts: what is walked, ord, chr, join; any and all of lists; a module's text; statements that are never reached. -/
namespace DD
open PySem L2 HT PySem.Spec PyProof.Rows

/-- a sign as a text -/
def chD (c : Nat) : D := .str ⟨#[c]⟩
def strDs (z : Str) : List D := z.cps.toList.map chD
def wItS (e : DE) (ρ : DEnv) (C : Cells) (P : DIt → Cells → Prop) (PX : DX) : Prop := e ρ C (fun d C1 => match d with
  | .str z => P ⟨strDs z, frozen⟩ C1
  | _ => False) PX
def dOrd (ds : List D) (C : Cells) (P : DK) : Prop := match ds with
  | [.str z] => z.length = 1 ∧ P (.int (z.cps.getD 0 0 : Nat)) C
  | _ => False
def dChr (ds : List D) (C : Cells) (P : DK) : Prop := match ds with
  | [.int i] => (0 ≤ i ∧ i ≤ 1114111) ∧ P (chD i.toNat) C
  | _ => False
def dAny (ds : List D) (C : Cells) (P : DK) : Prop := match ds with
  | [x] => ∃ bs : List Bool, seqOf x C = some (bs.map D.bl) ∧ P (.bl (bs.any id)) C
  | _ => False
def dAll (ds : List D) (C : Cells) (P : DK) : Prop := match ds with
  | [x] => ∃ bs : List Bool, seqOf x C = some (bs.map D.bl) ∧ P (.bl (bs.all id)) C
  | _ => False
/-- a text's method -/
def wBMS (r : DRM) (o : DE) (a : DA) (ρ : DEnv) (C : Cells) (P : DK) (PX : DX) : Prop := o ρ C (fun x C1 => match x with
  | .str z => a ρ C1 (fun ds C2 => r (.str z) ds C2 P) PX
  | _ => False) PX
def dJoin (x : D) (ds : List D) (C : Cells) (P : DK) : Prop := match x, ds with
  | .str a, [y] => ∃ ys : List Str, seqOf y C = some (ys.map D.str) ∧ (ys.map (·.length)).sum + ys.length * a.length ≤ 16777216 ∧ P (.str (Txt.join a ys)) C
  | _, _ => False
def wDead (E : DEnds) (ρ : DEnv) (C : Cells) : Prop := False
section
variable {X : Cx} {W : WX} {K : PySem.W.Frag} {e tg : Expr} {we wo : DE} {wr : DA} {pos : Pos}
theorem ds_dead {s : Stmt} : PS X s (tS X.K W wDead) := ⟨fun pins s σ H D I w => by obtain ⟨F, C, ρ, DE, _, _, _, h, _⟩ := w; exact h.elim⟩
theorem itr_str {F : Hp} {z : Str} : ItR K F (Its z) ⟨strDs z, frozen⟩ := fun F' H C e hs _ => by
  refine ⟨fun i d hd => ?_, by show z.cps.size ≤ (strDs z).length; unfold strDs; rw [List.length_map, Array.length_toList]; exact Nat.le_refl _⟩
  unfold strDs at hd
  rw [List.getElem?_map, Array.getElem?_toList] at hd
  cases hc : z.cps[i]? with
  | none => rw [hc] at hd; cases hd
  | some c =>
    rw [hc] at hd
    injection hd with hd
    subst hd
    refine ⟨(Array.getElem?_eq_some_iff.mp hc).1, fun x H' y => ?_⟩
    obtain ⟨rfl, c', h1, rfl⟩ := y
    rw [hc] at h1
    injection h1 with h1
    subst h1
    exact ⟨F', Ex.refl _, hs, .str _⟩
theorem di_str (he : PE X e (tE X.K W we)) : PI X tg e (tI X.K W (wItS we)) := PI.imp (pi_str he) fun σ H R ⟨F, C, ρ, P, PX, hs, en, xr, w, k⟩ =>
  ⟨F, C, ρ, _, PX, hs, en, xr, w, fun v F1 H1 d C1 e1 h1 r q => by
    cases r <;> first | exact q.elim | skip
    exact ⟨_, rfl, k _ F1 H1 _ C1 e1 h1 itr_str q⟩⟩
theorem s_ord : SimA K (fun xs H Q => ∃ x, xs = [.str x] ∧ x.length = 1 ∧ Q (.int (x.cps.getD 0 0 : Nat)) H) dOrd := fun F C H xs ds P Q hs r w k => by
  revert w
  unfold dOrd
  split
  · rename_i z
    rintro ⟨hl, w⟩
    cases r with
    | cons r1 r2 =>
      cases r2
      cases r1
      exact ⟨z, rfl, hl, k _ F H _ C (Ex.refl F) hs (.int _) w⟩
  · exact fun z => z.elim
theorem s_chr : SimA K (fun xs H Q => ∃ i, xs = [.int i] ∧ 0 ≤ i ∧ i ≤ 1114111 ∧ Q (.str ⟨#[i.toNat]⟩) H) dChr := fun F C H xs ds P Q hs r w k => by
  revert w
  unfold dChr
  split
  · rename_i i
    rintro ⟨hl, w⟩
    cases r with
    | cons r1 r2 =>
      cases r2
      cases r1
      exact ⟨i, rfl, hl.1, hl.2, k _ F H _ C (Ex.refl F) hs (.str _) w⟩
  · exact fun z => z.elim
theorem RepL.bools {F : Hp} : ∀ {xs : List V} {bs : List Bool}, RepL K F xs (bs.map D.bl) → xs = bs.map V.bl
  | _, [], r => by cases r; rfl
  | _, b :: bs, r => by
    cases r with
    | cons r1 r2 =>
      cases r1
      rw [RepL.bools r2]
      rfl
theorem RepL.strs {F : Hp} : ∀ {xs : List V} {ys : List Str}, RepL K F xs (ys.map D.str) → xs = ys.map V.str
  | _, [], r => by cases r; rfl
  | _, b :: bs, r => by
    cases r with
    | cons r1 r2 =>
      cases r1
      rw [RepL.strs r2]
      rfl
theorem s_any : SimA K (rAny K) dAny := fun F C H xs ds P Q hs r w k => by
  revert w
  unfold dAny
  split
  · rintro ⟨bs, hn, w⟩
    cases r with
    | cons r1 r2 =>
      cases r2
      obtain ⟨a, us, rfl, h2, r3⟩ := seq_of hs r1 hn
      rw [r3.bools] at h2
      exact ⟨a, bs, rfl, h2, k _ F H _ C (Ex.refl F) hs (.bl _) w⟩
  · exact fun z => z.elim
theorem s_all : SimA K (rAll K) dAll := fun F C H xs ds P Q hs r w k => by
  revert w
  unfold dAll
  split
  · rintro ⟨bs, hn, w⟩
    cases r with
    | cons r1 r2 =>
      cases r2
      obtain ⟨a, us, rfl, h2, r3⟩ := seq_of hs r1 hn
      rw [r3.bools] at h2
      exact ⟨a, bs, rfl, h2, k _ F H _ C (Ex.refl F) hs (.bl _) w⟩
  · exact fun z => z.elim
theorem d_bmS {es : List Expr} {apos : Pos} {id : String} {name : Str} {r : V → List V → Hp → VK → Prop} {rd : DRM} {o : Expr} (pa : PlainAttrs "str") (slot : Slot "str" name id) (hty : typeOf (.builtin id) = pure (.type "method_descriptor")) (hm : MtR X id r) (hr : SimM X.K r rd) (ho : PE X o (tE X.K W wo)) (ha : PA X (e :: es) (tA X.K W wr))
    (hbase : attributeBase o name X.env (eval o X.env) = eval o X.env := by rfl)
    (hfew : ((backTo pos (starEach (e :: es) X.env)).all (fun x => !x.1) && (backToKw pos (keywordEach [] X.env)).all (fun x => x.1.isSome)
      && decide ((e :: es).length + ([] : List Keyword).length + (if ([] : List Keyword).isEmpty then 0 else 1) < 30)) = true := by rfl)
    (hline : (apos.endLine == pos.line) = true := by rfl) (hs : starEach (e :: es) X.env = (false, eval e X.env) :: starEach es X.env := by rfl) (hplain : (backTo pos (starEach es X.env)).any (·.1) = false := by rfl) :
    PE X (.Call (.Attribute o name apos) (e :: es) [] pos) (tE X.K W (wBMS rd wo wr)) :=
  PE.imp (pe_bm pa slot hty hm ho ha hbase hfew hline hs hplain) fun σ H Q ⟨F, C, ρ, P, PX, hs, en, xr, w, k⟩ => ⟨F, C, ρ, _, PX, hs, en, xr, w, fun v F1 H1 d C1 e1 h1 rv q => by
    cases rv <;> first | exact q.elim | skip
    rename_i z
    exact ⟨rfl, F1, C1, ρ, _, PX, h1, en.mono e1, xr.mono e1, q, fun vs F2 H2 ds C2 e2 h2 rl q2 => hr F2 C2 H2 (.str z) (.str z) vs ds P Q h2 (.str z) rl q2 (k.mono (e1.trans e2))⟩⟩
theorem s_join : SimM K (fun x xs H Q => ∃ a p, ∃ ys : List Str, x = .str a ∧ xs = [.ref p] ∧ (SqL K H p (ys.map V.str) ∨ SqT K H p (ys.map V.str)) ∧ (ys.map (·.length)).sum + ys.length * a.length ≤ 16777216 ∧ Q (.str (Txt.join a ys)) H) dJoin := fun F C H x dx xs ds P Q hs rx rl w k => by
  revert w
  unfold dJoin
  split
  · rename_i a y
    rintro ⟨ys, hn, hl, w⟩
    cases rx
    cases rl with
    | cons r1 r2 =>
      cases r2
      obtain ⟨p, us, rfl, h2, r3⟩ := seq_of hs r1 hn
      rw [r3.strs] at h2
      exact ⟨a, p, ys, rfl, rfl, .inl h2, hl, k _ F H _ C (Ex.refl F) hs (.str _) w⟩
  · exact fun z => z.elim
/-- a module's text -/
theorem d_kstr {x : Str} {z : Str} {pos : Pos} (h : ∃ t, X.mg x = some (.str z t)) (hg : Gl X x := by rfl) (hd : (x == ("__debug__" : Str)) = false := by decide) : PE X (.Name x pos) (tE X.K W (wC (.str z))) := by
  obtain ⟨t, h⟩ := h
  exact d_glob (v := .str z) hg h ⟨t, rfl⟩ (fun _ => .str z) hd
end
end DD

set_option Elab.async false
set_option linter.all false
set_option maxRecDepth 100000
set_option maxHeartbeats 4000000
/-! max of three whole numbers; what is joined. -/
namespace DD
open PySem L2 HT PySem.Spec PyProof.Rows

def dMax3 (ds : List D) (C : Cells) (P : DK) : Prop := match ds with
  | [.int i, .int j, .int l] => P (.int (max (max i j) l)) C
  | _ => False
theorem nu_max2 (i j : Int) : nuMax2 (.int i) (.int j) = some (.int (max i j)) := by
  have e : nuLt (.int i) (.int j) = some (decide (i < j)) := rfl
  unfold nuMax2
  rw [e]
  show some (if decide (i < j) = true then V.int j else V.int i) = _
  by_cases h : i < j
  · rw [if_pos (by simpa using h)]; congr 2; omega
  · rw [if_neg (by simpa using h)]; congr 2; omega
theorem s_max3 {K : PySem.W.Frag} : SimA K (rNuC3 nuMax3) dMax3 := fun F C H xs ds P Q hs r w k => by
  revert w
  unfold dMax3
  split
  · rename_i i j l
    intro w
    cases r with
    | cons r1 r2 =>
      cases r1
      cases r2 with
      | cons r3 r4 =>
        cases r3
        cases r4 with
        | cons r5 r6 =>
          cases r5; cases r6
          refine ⟨.int i, .int j, .int l, .int (max (max i j) l), rfl, ?_, k _ F H _ C (Ex.refl F) hs (.int _) w⟩
          unfold nuMax3
          rw [nu_max2]
          exact nu_max2 _ _
  · exact fun z => z.elim
theorem strjoin_chars : ∀ cs : List Nat, Str.join ⟨#[]⟩ (cs.map fun c => (⟨#[c]⟩ : Str)) = ⟨cs.toArray⟩
  | [] => rfl
  | [c] => rfl
  | c :: d :: r => by
    have ih := strjoin_chars (d :: r)
    show (⟨#[c]⟩ : Str) ++ ⟨#[]⟩ ++ Str.join ⟨#[]⟩ ((d :: r).map fun c => (⟨#[c]⟩ : Str)) = _
    rw [ih]
    show (⟨(#[c] ++ #[]) ++ (d :: r).toArray⟩ : Str) = _
    simp
theorem join_chars (cs : List Nat) : Txt.join ⟨#[]⟩ (cs.map fun c => (⟨#[c]⟩ : Str)) = ⟨cs.toArray⟩ := by rw [TL.join_eq, strjoin_chars]
end DD

set_option Elab.async false
set_option linter.all false
set_option maxRecDepth 100000
set_option maxHeartbeats 4000000
/-! Comprehensions whose items are not known beforehand; slices by both ends. -/
namespace DD
open PySem L2
theorem lc_gen {α : Type} {J : DIt} {t : Tgt} {we : DE} {vs : List Nat} {C1 : Cells} {ρ : DEnv} {P : DK} (enc : α → D) (ok : α → Prop) (hst : ∀ C', Sub C1 C' → J.still C') (hn : J.items.length < 100000)
    (h : ∀ (i : Nat) d C' (Q : DK), J.items[i]? = some d → Sub C1 C' → (∀ a C3, ok a → Sub C' C3 → Q (enc a) C3) → match t.dg d (dwipe ρ vs) with
      | some ρ2 => we ρ2 C' Q noX
      | none => False)
    (hP : ∀ L : List α, L.length = J.items.length → (∀ a ∈ L, ok a) → P (.lst (L.map enc)) C1) : LcG J t wYes we vs ρ C1 P := by
  intro Dl hD
  refine ⟨fun i C' => ∃ L : List α, L.length = i ∧ (∀ a ∈ L, ok a) ∧ Sub C1 C' ∧ C' Dl = some (.lst (L.map enc)), ⟨[], rfl, (fun a ha => by cases ha), Sub.new hD, cput_same⟩, fun i C' ⟨L, _, _, hs, _⟩ => hst C' hs, fun i d C' hd ⟨L, hl, hok, hs, hc⟩ => ?_, fun C' ⟨L, hl, hok, hs, hc⟩ => ?_⟩
  · have hi := (List.getElem?_eq_some_iff.mp hd).1
    have := h i d C' (fun y C3 => match C3 Dl with
        | some (.lst acc) => acc.length < 100000 ∧ ∃ L : List α, L.length = i + 1 ∧ (∀ a ∈ L, ok a) ∧ Sub C1 (cput C3 Dl (.lst (acc ++ [y]))) ∧ cput C3 Dl (.lst (acc ++ [y])) Dl = some (.lst (L.map enc))
        | _ => False) hd hs (fun a C3 ha hs3 => ?_)
    · revert this
      cases t.dg d (dwipe ρ vs) with
      | none => exact fun z => z
      | some ρ2 => exact fun z => z
    · rw [hs3 _ _ hc]
      refine ⟨by rw [List.length_map]; omega, L ++ [a], by rw [List.length_append, List.length_singleton, hl], fun b hb => ?_, fun b c hb => ?_, ?_⟩
      · rcases List.mem_append.mp hb with hb | hb
        · exact hok b hb
        · simp only [List.mem_cons, List.not_mem_nil, or_false] at hb; subst hb; exact ha
      · have hne : b ≠ Dl := fun z => by rw [z, hD] at hb; cases hb
        rw [cput_ne hne]
        exact hs3 _ _ (hs _ _ hb)
      · rw [cput_same, List.map_append]
        rfl
  · rw [hc]
    exact ⟨C1, hs, hD, hP L hl hok⟩
theorem cut_mid (xs : List D) {a b : Nat} (h1 : a ≤ b) (h2 : b ≤ xs.length) : cutD xs (some (a : Int)) (some (b : Int)) = (xs.drop a).take (b - a) := by
  unfold cutD
  rw [HT.sIx_nat, HT.sIx_nat, Nat.min_eq_left h2, Nat.min_eq_left (Nat.le_trans h1 h2)]
end DD

set_option Elab.async false
set_option linter.all false
set_option maxRecDepth 100000
set_option maxHeartbeats 4000000
/-! Dicts: keys that are numbers and texts, or tuples of these. -/
namespace DD
open PySem L2 PyProof.Rows

/-! ### tables of data -/
section
variable {κ : Type} [DecidableEq κ]
def vaD (t : List (κ × D)) (k : κ) : Option D := (t.find? fun p => decide (p.1 = k)).map (·.2)
def puD (t : List (κ × D)) (k : κ) (d : D) : List (κ × D) := if (t.any fun p => decide (p.1 = k)) = true then t.map (fun p => if p.1 = k then (p.1, d) else p) else t ++ [(k, d)]
def drD (t : List (κ × D)) (k : κ) : List (κ × D) := t.filter fun p => decide (p.1 ≠ k)
theorem vaD_nil {k : κ} : vaD [] k = none := rfl
theorem vaD_hit {k : κ} {p : κ × D} {t : List (κ × D)} (e : p.1 = k) : vaD (p :: t) k = some p.2 := by unfold vaD; rw [List.find?_cons, decide_eq_true e]; rfl
theorem vaD_miss {k : κ} {p : κ × D} {t : List (κ × D)} (e : ¬ p.1 = k) : vaD (p :: t) k = vaD t k := by unfold vaD; rw [List.find?_cons, decide_eq_false e]
theorem any_vaD (k : κ) : ∀ t : List (κ × D), (t.any fun p => decide (p.1 = k)) = (vaD t k).isSome
  | [] => rfl
  | p :: t => by
    by_cases e : p.1 = k
    · rw [vaD_hit e, List.any_cons, decide_eq_true e]; rfl
    · rw [vaD_miss e, List.any_cons, decide_eq_false e, ← any_vaD k t]; rfl
theorem vaD_app (k : κ) (u : List (κ × D)) : ∀ t : List (κ × D), vaD (t ++ u) k = match vaD t k with | some d => some d | none => vaD u k
  | [] => rfl
  | p :: t => by
    by_cases e : p.1 = k
    · rw [List.cons_append, vaD_hit e, vaD_hit e]
    · rw [List.cons_append, vaD_miss e, vaD_miss e, vaD_app k u t]
theorem vaD_set (k j : κ) (d : D) : ∀ t : List (κ × D), vaD (t.map fun p => if p.1 = k then (p.1, d) else p) j = (vaD t j).map fun x => if j = k then d else x
  | [] => rfl
  | p :: t => by
    rw [List.map_cons]
    by_cases h : p.1 = k
    · rw [if_pos h]
      by_cases e : p.1 = j
      · rw [vaD_hit (p := (p.1, d)) e, vaD_hit e, Option.map_some, if_pos (by rw [← e, h])]
      · rw [vaD_miss (p := (p.1, d)) e, vaD_miss e, vaD_set k j d t]
    · rw [if_neg h]
      by_cases e : p.1 = j
      · rw [vaD_hit e, vaD_hit e, Option.map_some, if_neg (by rw [← e]; exact h)]
      · rw [vaD_miss e, vaD_miss e, vaD_set k j d t]
/-- what is read behind a store -/
theorem vaD_put (t : List (κ × D)) (k j : κ) (d : D) : vaD (puD t k d) j = if j = k then some d else vaD t j := by
  unfold puD
  rw [any_vaD]
  cases e : vaD t k with
  | some x =>
    rw [if_pos (show (some x).isSome = true from rfl), vaD_set]
    by_cases h : j = k
    · rw [if_pos h, h, e, Option.map_some, if_pos rfl]
    · rw [if_neg h]
      cases vaD t j with
      | none => rfl
      | some y => rw [Option.map_some, if_neg h]
  | none =>
    rw [if_neg (by decide), vaD_app]
    by_cases h : j = k
    · rw [if_pos h, h, e]
      exact vaD_hit rfl
    · rw [if_neg h]
      have : vaD [(k, d)] j = none := vaD_miss (p := (k, d)) (fun z => h z.symm)
      rw [this]
      cases vaD t j <;> rfl
theorem puD_new {t : List (κ × D)} {k : κ} (h : vaD t k = none) (d : D) : puD t k d = t ++ [(k, d)] := by
  unfold puD
  rw [any_vaD, h]
  rfl
theorem puD_len (t : List (κ × D)) (k : κ) (d : D) : (puD t k d).length ≤ t.length + 1 := by
  unfold puD
  split
  · rw [List.length_map]; omega
  · rw [List.length_append]; exact Nat.le_refl _
theorem vaD_drop (k j : κ) : ∀ t : List (κ × D), vaD (drD t k) j = if j = k then none else vaD t j
  | [] => by rw [show drD ([] : List (κ × D)) k = [] from rfl, vaD_nil]; split <;> rfl
  | p :: t => by
    have ih := vaD_drop k j t
    unfold drD at ih ⊢
    rw [List.filter_cons]
    by_cases h : p.1 = k
    · rw [if_neg (by simpa using h), ih]
      by_cases e : j = k
      · rw [if_pos e, if_pos e]
      · rw [if_neg e, if_neg e, vaD_miss (by rw [h]; exact fun z => e z.symm)]
    · rw [if_pos (by simpa using h)]
      by_cases e : p.1 = j
      · rw [vaD_hit e, vaD_hit e, if_neg (by rw [← e]; exact h)]
      · rw [vaD_miss e, vaD_miss e, ih]
end
/-- keys -/
def keyOf : D → Option L2.Key
  | .int i => some (.inl i)
  | .str z => some (.inr z)
  | _ => none
def keysAll : List D → Option (List L2.Key)
  | [] => some []
  | d :: r => match keyOf d, keysAll r with
    | some k, some ks => some (k :: ks)
    | _, _ => none
def keysOf : D → Option (List L2.Key)
  | .tup ds => keysAll ds
  | _ => none
def keyD : L2.Key → D
  | .inl i => .int i
  | .inr z => .str z
/-- a dict's entries: keys that are numbers and texts; tuples of these -/
def kvsK (x : D) (C : Cells) : Option (List (L2.Key × D)) := match x with
  | .dK t => some t
  | .ptr a => match C a with
    | some (.dK t) => some t
    | some (.lK t _ _) => some t
    | _ => none
  | _ => none
def kvsT (x : D) (C : Cells) : Option (List (List L2.Key × D)) := match x with
  | .dT t => some t
  | .ptr a => match C a with
    | some (.dT t) => some t
    | some (.lT t _ _) => some t
    | _ => none
  | _ => none
def dicGet (x : D) (C : Cells) (y : D) : Option (Option D) := match kvsK x C with
  | some t => (keyOf y).map (vaD t)
  | none => match kvsT x C with
    | some t => (keysOf y).map (vaD t)
    | none => none
def isDic (x : D) (C : Cells) : Prop := (kvsK x C).isSome = true ∨ (kvsT x C).isSome = true
section
variable {K : PySem.W.Frag} {F H : Hp} {C : Cells}
theorem RepK.pair {vs : List (L2.Key × V)} {t : List (L2.Key × D)} (r : RepK K F vs t) : Paired (fun p q => p.1 = q.1 ∧ Rep K F p.2 q.2) vs t := by
  match r with
  | .nil => exact .nil
  | .cons h r => exact .cons ⟨rfl, h⟩ (RepK.pair r)
theorem RepT.pair {vs : List (List L2.Key × V)} {t : List (List L2.Key × D)} (r : RepT K F vs t) : Paired (fun p q => p.1 = q.1 ∧ Rep K F p.2 q.2) vs t := by
  match r with
  | .nil => exact .nil
  | .cons h r => exact .cons ⟨rfl, h⟩ (RepT.pair r)
theorem RepK.of {vs : List (L2.Key × V)} {t : List (L2.Key × D)} (r : Paired (fun p q => p.1 = q.1 ∧ Rep K F p.2 q.2) vs t) : RepK K F vs t := by
  induction r with
  | nil => exact .nil
  | @cons p q _ _ h _ ih =>
    obtain ⟨k, v⟩ := p
    obtain ⟨k', d⟩ := q
    obtain ⟨rfl, h⟩ := h
    exact .cons h ih
theorem RepT.of {vs : List (List L2.Key × V)} {t : List (List L2.Key × D)} (r : Paired (fun p q => p.1 = q.1 ∧ Rep K F p.2 q.2) vs t) : RepT K F vs t := by
  induction r with
  | nil => exact .nil
  | @cons p q _ _ h _ ih =>
    obtain ⟨k, v⟩ := p
    obtain ⟨k', d⟩ := q
    obtain ⟨rfl, h⟩ := h
    exact .cons h ih
section
variable {κ : Type} [DecidableEq κ]
abbrev TP (K : PySem.W.Frag) (F : Hp) : List (κ × V) → List (κ × D) → Prop := Paired fun p q => p.1 = q.1 ∧ Rep K F p.2 q.2
theorem tp_val {vs : List (κ × V)} {t : List (κ × D)} (r : TP K F vs t) (k : κ) : (vaD t k = none ∧ valV vs k = none) ∨ ∃ v d, vaD t k = some d ∧ valV vs k = some v ∧ Rep K F v d := by
  induction r with
  | nil => exact .inl ⟨rfl, rfl⟩
  | @cons p q _ _ h _ ih =>
    by_cases e : q.1 = k
    · exact .inr ⟨p.2, q.2, vaD_hit e, valV_pos (h.1.trans e), h.2⟩
    · rw [vaD_miss e, valV_neg (fun z => e (h.1.symm.trans z))]
      exact ih
theorem tp_put {vs : List (κ × V)} {t : List (κ × D)} (r : TP K F vs t) (k : κ) {v : V} {d : D} (h : Rep K F v d) : TP K F (putK vs k v) (puD t k d) := by
  have e : (vs.any fun p => decide (p.1 = k)) = (t.any fun p => decide (p.1 = k)) := by
    rw [valV_any, any_vaD]
    rcases tp_val r k with ⟨e1, e2⟩ | ⟨_, _, e1, e2, _⟩ <;> rw [e1, e2] <;> rfl
  unfold putK puD
  rw [e]
  by_cases c : (t.any fun p => decide (p.1 = k)) = true
  · rw [if_pos c, if_pos c]
    clear e c
    induction r with
    | nil => exact .nil
    | @cons p q _ _ g _ ih =>
      rw [List.map_cons, List.map_cons]
      refine .cons ?_ ih
      by_cases z : q.1 = k
      · rw [if_pos z, if_pos (g.1.trans z)]; exact ⟨g.1, h⟩
      · rw [if_neg z, if_neg (fun y => z (g.1.symm.trans y))]; exact g
  · rw [if_neg c, if_neg c]
    exact Paired.snoc r ⟨rfl, h⟩
theorem tp_drop {vs : List (κ × V)} {t : List (κ × D)} (r : TP K F vs t) (k : κ) : TP K F (dropK vs k) (drD t k) := by
  unfold dropK drD
  induction r with
  | nil => exact .nil
  | @cons p q _ _ g _ ih =>
    rw [List.filter_cons, List.filter_cons]
    by_cases z : q.1 = k
    · rw [if_neg (by simpa using g.1.trans z), if_neg (by simpa using z)]; exact ih
    · rw [if_pos (by simpa using fun y => z (g.1.symm.trans y)), if_pos (by simpa using z)]; exact .cons g ih
theorem tp_keys {vs : List (κ × V)} {t : List (κ × D)} (r : TP K F vs t) : vs.map (·.1) = t.map (·.1) := by
  induction r with
  | nil => rfl
  | cons g _ ih => rw [List.map_cons, List.map_cons, ih, g.1]
theorem tp_len {vs : List (κ × V)} {t : List (κ × D)} (r : TP K F vs t) : vs.length = t.length := Paired.length r
end
theorem key_rep {v : V} {y : D} {k : L2.Key} (r : Rep K F v y) (h : keyOf y = some k) : v = kV k := by
  cases r <;> first | (cases h; rfl) | cases h
theorem keys_all : ∀ {vs : List V} {ds : List D} {ks : List L2.Key}, RepL K F vs ds → keysAll ds = some ks → vs = ks.map kV
  | _, _, ks, .nil, h => by cases h; rfl
  | _, _, ks, .cons (d := d) (ds := ds) h1 h2, h => by
    simp only [keysAll] at h
    split at h
    · rename_i k ks' e1 e2
      cases h
      rw [key_rep h1 e1, keys_all h2 e2, List.map_cons]
    · cases h
theorem keys_rep (hs : Hs K F C H) {v : V} {y : D} {ks : List L2.Key} (r : Rep K F v y) (h : keysOf y = some ks) : ∃ b, v = .ref b ∧ H b = some (.tup (ks.map kV)) := by
  cases r <;> first | cases h | skip
  rename_i a xs ds hq hr
  exact ⟨a, rfl, by rw [← keys_all hr h]; exact hs.ex.nd hq rfl⟩
theorem kvsK_rd (hs : Hs K F C H) {v : V} {x : D} {t : List (L2.Key × D)} (r : Rep K F v x) (h : kvsK x C = some t) : ∃ a vs, v = .ref a ∧ Rd H a (.dK vs) ∧ RepK K F vs t := by
  cases r <;> first | cases h | skip
  · rename_i a
    simp only [kvsK] at h
    split at h
    · rename_i t' hc
      cases h
      obtain ⟨_, vs, h1, h2⟩ := hs.cell a _ hc
      exact ⟨a, vs, rfl, .inl h1, h2⟩
    · rename_i t' hc
      cases h
      obtain ⟨_, h1, h2⟩ := hs.cell a _ hc
      exact ⟨a, _, rfl, .inr ⟨_, h1⟩, h2⟩
    · cases h
  · rename_i a od vs hd hr
    exact ⟨a, vs, rfl, .inr ⟨od, hs.ex.nd hd rfl⟩, hr⟩
theorem kvsT_rd (hs : Hs K F C H) {v : V} {x : D} {t : List (List L2.Key × D)} (r : Rep K F v x) (h : kvsT x C = some t) : ∃ a vs, v = .ref a ∧ Rd H a (.dT vs) ∧ RepT K F vs t := by
  cases r <;> first | cases h | skip
  · rename_i a
    simp only [kvsT] at h
    split at h
    · rename_i t' hc
      cases h
      obtain ⟨_, vs, h1, h2⟩ := hs.cell a _ hc
      exact ⟨a, vs, rfl, .inl h1, h2⟩
    · rename_i t' hc
      cases h
      obtain ⟨_, h1, h2⟩ := hs.cell a _ hc
      exact ⟨a, _, rfl, .inr ⟨_, h1⟩, h2⟩
    · cases h
  · rename_i a od vs hd hr
    exact ⟨a, vs, rfl, .inr ⟨od, hs.ex.nd hd rfl⟩, hr⟩
theorem isDic_rd (hs : Hs K F C H) {v : V} {x : D} (r : Rep K F v x) (h : isDic x C) : ∃ a, v = .ref a ∧ IsD H a := by
  rcases h with h | h
  · obtain ⟨t, e⟩ := Option.isSome_iff_exists.mp h
    obtain ⟨a, vs, h1, h2, _⟩ := kvsK_rd hs r e
    exact ⟨a, h1, .inl ⟨vs, h2⟩⟩
  · obtain ⟨t, e⟩ := Option.isSome_iff_exists.mp h
    obtain ⟨a, vs, h1, h2, _⟩ := kvsT_rd hs r e
    exact ⟨a, h1, .inr ⟨vs, h2⟩⟩
/-- what is found -/
theorem dicGet_rd (hs : Hs K F C H) {v u : V} {x y : D} {o : Option D} (rx : Rep K F v x) (ry : Rep K F u y) (h : dicGet x C y = some o) :
    ∃ a w, v = .ref a ∧ DGet H a u w ∧ ((o = none ∧ w = none) ∨ ∃ z d, o = some d ∧ w = some z ∧ Rep K F z d) := by
  unfold dicGet at h
  split at h
  · rename_i t ht
    obtain ⟨a, vs, h1, h2, h3⟩ := kvsK_rd hs rx ht
    rw [Option.map_eq_some_iff] at h
    obtain ⟨k, hk, ho⟩ := h
    refine ⟨a, _, h1, .inl ⟨vs, k, h2, key_rep ry hk, rfl⟩, ?_⟩
    rcases tp_val h3.pair k with ⟨e1, e2⟩ | ⟨z, d, e1, e2, e3⟩
    · exact .inl ⟨ho.symm.trans e1, e2⟩
    · exact .inr ⟨z, d, ho.symm.trans e1, e2, e3⟩
  · split at h
    · rename_i t ht
      obtain ⟨a, vs, h1, h2, h3⟩ := kvsT_rd hs rx ht
      rw [Option.map_eq_some_iff] at h
      obtain ⟨k, hk, ho⟩ := h
      obtain ⟨b, hb, hb2⟩ := keys_rep hs ry hk
      refine ⟨a, _, h1, .inr ⟨vs, k, b, h2, hb, hb2, rfl⟩, ?_⟩
      rcases tp_val h3.pair k with ⟨e1, e2⟩ | ⟨z, d, e1, e2, e3⟩
      · exact .inl ⟨ho.symm.trans e1, e2⟩
      · exact .inr ⟨z, d, ho.symm.trans e1, e2, e3⟩
    · cases h
end

/-! ### x[y], y in x, x.get(y), x.get(y, z) -/
def dDGet (x : D) (y : D) (C : Cells) (P : DK) : Prop := match dicGet x C y with
  | some (some d) => P d C
  | _ => False
def dDIn (neg : Bool) (y : D) (x : D) (C : Cells) (P : DK) : Prop := match dicGet x C y with
  | some o => P (.bl (neg ^^ o.isSome)) C
  | none => False
def wGet1 (o k : DE) (ρ : DEnv) (C : Cells) (P : DK) (PX : DX) : Prop := o ρ C (fun x C1 => isDic x C1 ∧ k ρ C1 (fun y C2 => match dicGet x C2 y with
  | some u => P (u.getD .non) C2
  | none => False) PX) PX
def wGet2 (o k e : DE) (ρ : DEnv) (C : Cells) (P : DK) (PX : DX) : Prop := o ρ C (fun x C1 => isDic x C1 ∧ k ρ C1 (fun y C2 => e ρ C2 (fun z C3 => match dicGet x C3 y with
  | some u => P (u.getD z) C3
  | none => False) PX) PX) PX
section
variable {X : Cx} {W : WX} {K : PySem.W.Frag} {o i e : Expr} {wo wi we : DE} {pos apos tpos : Pos} {n : Nat}
theorem d_dget (hr : Room n X.A) (ho : PE X o (tE X.K W wo)) (hi : PE X i (tE X.K W wi)) (hs : NoSl i := by exact fun _ _ => rfl) : PE X (.Subscript o i pos) (tE X.K W (wOp dDGet wo wi)) :=
  PE.imp (pe_dget (hu_of hr) ho hi hs) fun σ H Q ⟨F, C, ρ, P, PX, hs, en, xr, w, k⟩ =>
  ⟨F, C, ρ, _, PX, hs, en, xr, w, fun v F1 H1 x C1 e1 h1 rx q => ⟨F1, C1, ρ, _, PX, h1, en.mono e1, xr.mono e1, q, fun u F2 H2 y C2 e2 h2 ry q2 => by
    unfold dDGet at q2
    split at q2
    · rename_i d hd
      obtain ⟨a, w', rfl, g, ⟨e3, _⟩ | ⟨z, d', e3, rfl, rz⟩⟩ := dicGet_rd h2 (rx.mono e2) ry hd
      · cases e3
      · cases e3
        exact ⟨a, z, rfl, g, k z F2 H2 d C2 (e1.trans e2) h2 rz q2⟩
    · exact q2.elim⟩⟩
theorem i_din {neg : Bool} {σ : L2.St} {H : Hp} {Q : VK} (h : tE K W (wOp (dDIn neg) wi wo) σ H Q) : tE K W wi σ H fun y H1 => tE K W wo σ H1 fun x H2 => ∃ a w, x = .ref a ∧ DGet H2 a y w ∧ Q (.bl (neg ^^ w.isSome)) H2 := by
  obtain ⟨F, C, ρ, P, PX, hs, en, xr, w, k⟩ := h
  refine ⟨F, C, ρ, _, PX, hs, en, xr, w, fun v F1 H1 y C1 e1 h1 ry q => ⟨F1, C1, ρ, _, PX, h1, en.mono e1, xr.mono e1, q, fun u F2 H2 x C2 e2 h2 rx q2 => ?_⟩⟩
  unfold dDIn at q2
  split at q2
  · rename_i o hd
    obtain ⟨a, w', rfl, g, hw⟩ := dicGet_rd h2 rx (ry.mono e2) hd
    refine ⟨a, w', rfl, g, k _ F2 H2 _ C2 (e1.trans e2) h2 (.bl _) ?_⟩
    rcases hw with ⟨e3, e4⟩ | ⟨z, d', e3, e4, rz⟩ <;> (subst e3 e4; exact q2)
  · exact q2.elim
theorem c_din (hr : Room n X.A) (hi : PE X i (tE X.K W wi)) (ho : PE X o (tE X.K W wo)) : PC X .In i o (tE X.K W (wOp (dDIn false) wi wo)) := ⟨fun pins s σ H Q I h =>
  (pc_din (hu_of hr) hi ho).run pins s σ H Q I (by
    have z := i_din h
    simp only [Bool.false_xor] at z
    exact z)⟩
theorem c_dnotin (hr : Room n X.A) (hi : PE X i (tE X.K W wi)) (ho : PE X o (tE X.K W wo)) : PC X .NotIn i o (tE X.K W (wOp (dDIn true) wi wo)) := ⟨fun pins s σ H Q I h =>
  (pc_dnotin (hu_of hr) hi ho).run pins s σ H Q I (by
    have z := i_din h
    simp only [Bool.true_xor] at z
    exact z)⟩
theorem d_din (hr : Room n X.A) (hi : PE X i (tE X.K W wi)) (ho : PE X o (tE X.K W wo)) (hb : behindInMarks .In o = false := by rfl) : PE X (.Compare i [.In] [o] pos) (tE X.K W (wOp (dDIn false) wi wo)) := pe_cmp (c_din hr hi ho) hb
theorem d_dnotin (hr : Room n X.A) (hi : PE X i (tE X.K W wi)) (ho : PE X o (tE X.K W wo)) (hb : behindInMarks .NotIn o = false := by rfl) : PE X (.Compare i [.NotIn] [o] pos) (tE X.K W (wOp (dDIn true) wi wo)) := pe_cmp (c_dnotin hr hi ho) hb
theorem d_tdin (hr : Room n X.A) (hi : PE X i (tE X.K W wi)) (ho : PE X o (tE X.K W wo)) (hb : behindInMarks .In o = false := by rfl) : PT X (.Compare i [.In] [o] pos) (tT X.K W (wTest (wOp (dDIn false) wi wo))) :=
  PT.imp (pt_cmp (c_din hr hi ho) hb) fun σ H Q h => i_test h
theorem d_tdnotin (hr : Room n X.A) (hi : PE X i (tE X.K W wi)) (ho : PE X o (tE X.K W wo)) (hb : behindInMarks .NotIn o = false := by rfl) : PT X (.Compare i [.NotIn] [o] pos) (tT X.K W (wTest (wOp (dDIn true) wi wo))) :=
  PT.imp (pt_cmp (c_dnotin hr hi ho) hb) fun σ H Q h => i_test h
theorem dd_get1 (hr : Room n X.A) (ho : PE X o (tE X.K W wo)) (hi : PE X i (tE X.K W wi)) (m : M1 X o "get" apos i pos := by exact ⟨rfl, rfl, rfl, rfl⟩) : PE X (.Call (.Attribute o "get" apos) [i] [] pos) (tE X.K W (wGet1 wo wi)) :=
  PE.imp (pe_dget1 (hu_of hr) ho hi m) fun σ H Q ⟨F, C, ρ, P, PX, hs, en, xr, w, k⟩ =>
  ⟨F, C, ρ, _, PX, hs, en, xr, w, fun v F1 H1 x C1 e1 h1 rx q => by
    obtain ⟨qd, q⟩ := q
    obtain ⟨a, rfl, ha⟩ := isDic_rd h1 rx qd
    refine ⟨a, rfl, ha, F1, C1, ρ, _, PX, h1, en.mono e1, xr.mono e1, q, fun u F2 H2 y C2 e2 h2 ry q2 => ?_⟩
    split at q2
    · rename_i o hd
      obtain ⟨a', w', ea, g, hw⟩ := dicGet_rd h2 (rx.mono e2) ry hd
      cases ea
      refine ⟨w', g, ?_⟩
      rcases hw with ⟨rfl, rfl⟩ | ⟨z, d', rfl, rfl, rz⟩
      · exact k _ F2 H2 _ C2 (e1.trans e2) h2 .non q2
      · exact k _ F2 H2 _ C2 (e1.trans e2) h2 rz q2
    · exact q2.elim⟩
theorem dd_get2 (hr : Room n X.A) (ho : PE X o (tE X.K W wo)) (hi : PE X i (tE X.K W wi)) (he : PE X e (tE X.K W we)) (m : M2 X o "get" apos i e pos := by exact ⟨rfl, rfl, rfl, rfl⟩) : PE X (.Call (.Attribute o "get" apos) [i, e] [] pos) (tE X.K W (wGet2 wo wi we)) :=
  PE.imp (pe_dget2 (hu_of hr) ho hi he m) fun σ H Q ⟨F, C, ρ, P, PX, hs, en, xr, w, k⟩ =>
  ⟨F, C, ρ, _, PX, hs, en, xr, w, fun v F1 H1 x C1 e1 h1 rx q => by
    obtain ⟨qd, q⟩ := q
    obtain ⟨a, rfl, ha⟩ := isDic_rd h1 rx qd
    refine ⟨a, rfl, ha, F1, C1, ρ, _, PX, h1, en.mono e1, xr.mono e1, q, fun u F2 H2 y C2 e2 h2 ry q2 => ⟨F2, C2, ρ, _, PX, h2, en.mono (e1.trans e2), xr.mono (e1.trans e2), q2, fun z F3 H3 dz C3 e3 h3 rz q3 => ?_⟩⟩
    split at q3
    · rename_i o hd
      obtain ⟨a', w', ea, g, hw⟩ := dicGet_rd h3 (rx.mono (e2.trans e3)) (ry.mono e3) hd
      cases ea
      refine ⟨w', g, ?_⟩
      have ee := (e1.trans e2).trans e3
      rcases hw with ⟨rfl, rfl⟩ | ⟨z, d', rfl, rfl, rz'⟩
      · exact k _ F3 H3 _ C3 ee h3 rz q3
      · exact k _ F3 H3 _ C3 ee h3 rz' q3
    · exact q3.elim⟩
end

/-! ### stores -/
def dicPut (x y d : D) (C : Cells) (P : Cells → Prop) : Prop := match x with
  | .ptr a => match C a with
    | some (.dK t) => match keyOf y with
      | some k => t.length < 100000 ∧ P (cput C a (.dK (puD t k d)))
      | none => False
    | some (.dT t) => match keysOf y with
      | some k => t.length < 100000 ∧ P (cput C a (.dT (puD t k d)))
      | none => False
    | _ => False
  | _ => False
def wSetD (o i e : DE) (E : DEnds) (ρ : DEnv) (C : Cells) : Prop := e ρ C (fun d C1 => o ρ C1 (fun x C2 => i ρ C2 (fun y C3 => dicPut x y d C3 fun C4 => E.nx ρ C4) E.ex) E.ex) E.ex
def wDelD (o i : DE) (E : DEnds) (ρ : DEnv) (C : Cells) : Prop := o ρ C (fun x C1 => i ρ C1 (fun y C2 => match x with
  | .ptr a => match C2 a with
    | some (.dK t) => match keyOf y with
      | some k => (vaD t k).isSome = true ∧ E.nx ρ (cput C2 a (.dK (drD t k)))
      | none => False
    | _ => False
  | _ => False) E.ex) E.ex
/-- {}: its keys numbers and texts; tuples -/
def wNewK (_ : DEnv) (C : Cells) (P : DK) (_ : DX) : Prop := ∀ p, C p = none → P (.ptr p) (cput C p (.dK []))
def wNewT (_ : DEnv) (C : Cells) (P : DK) (_ : DX) : Prop := ∀ p, C p = none → P (.ptr p) (cput C p (.dT []))
/-- {} that is not written at -/
def wNew0 (_ : DEnv) (C : Cells) (P : DK) (_ : DX) : Prop := P (.dK []) C
section
variable {X : Cx} {W : WX} {K : PySem.W.Frag} {o i e : Expr} {wo wi we : DE} {pos pos' tpos : Pos} {n : Nat}
theorem dicPut_ok {F H : Hp} {C : Cells} {v u z : V} {x y d : D} {P : Cells → Prop} (hs : Hs K F C H) (rx : Rep K F v x) (ry : Rep K F u y) (rz : Rep K F z d) (h : dicPut x y d C P) : ∃ a H' C', v = .ref a ∧ DPut H a u z H' ∧ Hs K F C' H' ∧ P C' := by
  unfold dicPut at h
  split at h
  · rename_i a
    cases rx
    split at h
    · rename_i t hc
      split at h
      · rename_i k hk
        obtain ⟨f0, vs, h1, h2⟩ := hs.cell a _ hc
        refine ⟨a, _, _, rfl, .inl ⟨vs, k, h1, key_rep ry hk, ?_, rfl⟩, hs.put (c := .dK (puD t k d)) f0 ⟨_, upd_same, RepK.of (tp_put h2.pair k rz)⟩, h.2⟩
        rw [tp_len h2.pair]
        exact sz_lt h.1
      · exact h.elim
    · rename_i t hc
      split at h
      · rename_i k hk
        obtain ⟨f0, vs, h1, h2⟩ := hs.cell a _ hc
        obtain ⟨b, hb, hb2⟩ := keys_rep hs ry hk
        refine ⟨a, _, _, rfl, .inr ⟨vs, k, b, h1, hb, hb2, ?_, rfl⟩, hs.put (c := .dT (puD t k d)) f0 ⟨_, upd_same, RepT.of (tp_put h2.pair k rz)⟩, h.2⟩
        rw [tp_len h2.pair]
        exact sz_lt h.1
      · exact h.elim
    · exact h.elim
  · exact h.elim
theorem ds_setD (hr : Room n X.A) (ho : PE X o (tE X.K W wo)) (hi : PE X i (tE X.K W wi)) (he : PE X e (tE X.K W we)) (hs : swapsWith e (some (.Subscript o i pos')) pos.line X.env = pure false := by rfl) :
    PS X (.Assign [.Subscript o i pos'] e pos) (tS X.K W (wSetD wo wi we)) := PS.imp (ps_dput (hu_of hr) ho hi he hs) fun Dn σ H ⟨F, C, ρ, DE, hs, en, xr, w, er⟩ =>
  ⟨F, C, ρ, _, _, hs, en, xr, w, fun z F1 H1 d C1 e1 h1 rz q => ⟨F1, C1, ρ, _, _, h1, en.mono e1, xr.mono e1, q, fun v F2 H2 x C2 e2 h2 rx q2 => ⟨F2, C2, ρ, _, _, h2, en.mono (e1.trans e2), xr.mono (e1.trans e2), q2, fun u F3 H3 y C3 e3 h3 ry q3 => by
    obtain ⟨a, H4, C4, rfl, g, h4, q4⟩ := dicPut_ok h3 (rx.mono e3) ry (rz.mono (e2.trans e3)) q3
    have ee := (e1.trans e2).trans e3
    exact ⟨a, H4, rfl, g, er.nx σ F3 H4 ρ C4 ee h4 (en.mono ee) q4⟩⟩⟩⟩
theorem ds_delD (ho : PE X o (tE X.K W wo)) (hi : PE X i (tE X.K W wi)) : PS X (.Delete [.Subscript o i tpos] pos) (tS X.K W (wDelD wo wi)) := PS.imp (ps_ddel ho hi) fun Dn σ H ⟨F, C, ρ, DE, hs, en, xr, w, er⟩ =>
  ⟨F, C, ρ, _, _, hs, en, xr, w, fun v F1 H1 x C1 e1 h1 rx q => ⟨F1, C1, ρ, _, _, h1, en.mono e1, xr.mono e1, q, fun u F2 H2 y C2 e2 h2 ry q2 => by
    split at q2
    · rename_i a
      cases rx
      split at q2
      · rename_i t hc
        split at q2
        · rename_i k hk
          obtain ⟨f0, vs, g1, g2⟩ := h2.cell a _ hc
          refine ⟨a, vs, k, rfl, g1, key_rep ry hk, ?_, er.nx σ F2 _ ρ _ (e1.trans e2) (h2.put (c := .dK (drD t k)) f0 ⟨_, upd_same, RepK.of (tp_drop g2.pair k)⟩) (en.mono (e1.trans e2)) q2.2⟩
          rcases tp_val g2.pair k with ⟨z1, z2⟩ | ⟨_, _, z1, z2, _⟩
          · have := q2.1
            rw [z1] at this
            cases this
          · rw [z2]; rfl
        · exact q2.elim
      · exact q2.elim
    · exact q2.elim⟩⟩
theorem d_newK : PE X (.Dict [] [] pos) (tE X.K W wNewK) := PE.imp pe_dnewK fun σ H Q ⟨F, C, ρ, P, PX, hs, en, xr, w, k⟩ => fun p hp =>
  k _ F _ _ _ (Ex.refl F) (hs.put (c := .dK []) (hs.fresh hp).1 ⟨[], upd_same, .nil⟩) (.ptr p) (w p (hs.fresh hp).2)
theorem d_newT : PE X (.Dict [] [] pos) (tE X.K W wNewT) := PE.imp pe_dnewT fun σ H Q ⟨F, C, ρ, P, PX, hs, en, xr, w, k⟩ => fun p hp =>
  k _ F _ _ _ (Ex.refl F) (hs.put (c := .dT []) (hs.fresh hp).1 ⟨[], upd_same, .nil⟩) (.ptr p) (w p (hs.fresh hp).2)
theorem d_new0 : PE X (.Dict [] [] pos) (tE X.K W wNew0) := PE.imp (pe_fz pe_dnewK) fun σ H Q ⟨F, C, ρ, P, PX, hs, en, xr, w, k⟩ => fun p hp => .inr ⟨p, _, upd_same, trivial, fun od => by
  obtain ⟨e, h2⟩ := hs.lay (o := .frz od (.dK [])) hp
  rw [upd_upd]
  exact k _ _ _ _ C e h2 (.dK upd_same .nil) w⟩
end
end DD

set_option Elab.async false
set_option linter.all false
set_option maxRecDepth 100000
set_option maxHeartbeats 4000000
/-! Dicts: walks, locks, len, dict(..), sorted(..). -/
namespace DD
open PySem L2 PyProof.Rows

def keyTD (ks : List L2.Key) : D := .tup (ks.map keyD)
section
variable {K : PySem.W.Frag} {F H : Hp} {C : Cells}
theorem rep_key (k : L2.Key) : Rep K F (kV k) (keyD k) := by
  cases k with
  | inl i => exact .int i
  | inr z => exact .str z
theorem rep_keys : ∀ ks : List L2.Key, RepL K F (ks.map kV) (ks.map keyD)
  | [] => .nil
  | k :: r => .cons (rep_key k) (rep_keys r)
/-- a tuple that stands is data -/
theorem Hs.adopt (h : Hs K F C H) {q : Addr} {xs : List V} (hq : H q = some (.tup xs)) : ∃ F2, Ex F F2 ∧ Hs K F2 C H ∧ F2 q = some (.tup xs) := by
  cases e : F q with
  | some u =>
    have : u = .tup xs := by
      rcases h.ex q u e with z | ⟨_, od, z⟩
      · rw [hq] at z; exact (Option.some.inj z).symm
      · rw [hq] at z; cases z
    exact ⟨F, Ex.refl F, h, by rw [e, this]⟩
  | none =>
    have c0 : C q = none := by
      cases c : C q with
      | none => rfl
      | some c1 =>
        obtain ⟨_, r⟩ := h.cell q _ c
        cases c1 <;> first
          | (obtain ⟨_, z, _⟩ := r; rw [hq] at z; cases z)
          | (obtain ⟨_, _, z, _⟩ := r; rw [hq] at z; cases z)
          | (obtain ⟨z, _⟩ := r; rw [hq] at z; cases z)
    refine ⟨upd F q (.tup xs), Ex.new e, ⟨fun a u z => ?_, fun a c z => ?_⟩, upd_same⟩
    · by_cases ne : a = q
      · subst ne; rw [upd_same] at z; cases z; exact .inl hq
      · rw [upd_ne ne] at z; exact h.ex a u z
    · have ne : a ≠ q := cell_ne z c0
      obtain ⟨f1, r⟩ := h.cell a c z
      exact ⟨by rw [upd_ne ne]; exact f1, r.ex (Ex.new e)⟩
theorem Hs.adopts (h : Hs K F C H) : ∀ {vs : List (List L2.Key × V)} {bs : List Addr}, IsKeys H vs bs → ∃ F2, Ex F F2 ∧ Hs K F2 C H ∧ RepL K F2 (bs.map V.ref) (vs.map fun p => keyTD p.1) := by
  intro vs bs r
  unfold IsKeys at r
  induction r with
  | nil => exact ⟨F, Ex.refl F, h, .nil⟩
  | @cons p b _ _ g _ ih =>
    obtain ⟨F2, e2, h2, r2⟩ := ih
    obtain ⟨F3, e3, h3, f3⟩ := h2.adopt g
    exact ⟨F3, e2.trans e3, h3, .cons (.tup f3 (rep_keys p.1)) (r2.mono e3)⟩
end

/-! ### what is walked -/
def wItK (e : DE) (ρ : DEnv) (C : Cells) (P : DIt → Cells → Prop) (PX : DX) : Prop := e ρ C (fun d C1 => match d with
  | .dK t => P ⟨t.map fun p => keyD p.1, frozen⟩ C1
  | .dT t => P ⟨t.map fun p => keyTD p.1, frozen⟩ C1
  | .ptr a => match C1 a with
    | some (.lK t od vs) => P ⟨t.map fun p => keyD p.1, fun C' => C' a = some (.lK t od vs)⟩ C1
    | some (.lT t od vs) => P ⟨t.map fun p => keyTD p.1, fun C' => C' a = some (.lT t od vs)⟩ C1
    | _ => False
  | _ => False) PX
section
variable {K : PySem.W.Frag} {F : Hp} {a : Addr} {od : Obj}
theorem itk_at {vs : List (L2.Key × V)} {t : List (L2.Key × D)} {st : Cells → Prop} (r : RepK K F vs t) (hl : ∀ F' H C, Ex F F' → Hs K F' C H → st C → H a = some (.frz od (.dK vs))) : ItR K F (Itk a od vs) ⟨t.map fun p => keyD p.1, st⟩ := fun F' H C e hs hc => by
  have hH := hl F' H C e hs hc
  have ln := tp_len r.pair
  refine ⟨fun i d hd => ?_, hH, by show vs.length ≤ (t.map _).length; rw [List.length_map, ln]; exact Nat.le_refl _⟩
  have hi : i < t.length := by
    have := (List.getElem?_eq_some_iff.mp hd).1
    simpa using this
  refine ⟨⟨hH, by rw [ln]; exact hi⟩, fun x H' y => ?_⟩
  obtain ⟨rfl, k, v, hk, rfl⟩ := y
  refine ⟨F', Ex.refl _, hs, ?_⟩
  have ek : (vs.map (·.1))[i]? = some k := by rw [List.getElem?_map, hk]; rfl
  rw [tp_keys r.pair, List.getElem?_map] at ek
  have hd' : (t.map fun p => keyD p.1)[i]? = some d := hd
  rw [List.getElem?_map] at hd'
  cases ht : t[i]? with
  | none => rw [ht] at hd'; cases hd'
  | some p =>
    rw [ht] at ek hd'
    cases ek; cases hd'
    exact rep_key p.1
theorem itkt_at {vs : List (List L2.Key × V)} {t : List (List L2.Key × D)} {st : Cells → Prop} (r : RepT K F vs t) (hl : ∀ F' H C, Ex F F' → Hs K F' C H → st C → H a = some (.frz od (.dT vs))) : ItR K F (Itkt a od vs) ⟨t.map fun p => keyTD p.1, st⟩ := fun F' H C e hs hc => by
  have hH := hl F' H C e hs hc
  have ln := tp_len r.pair
  refine ⟨fun i d hd => ?_, hH, by show vs.length ≤ (t.map _).length; rw [List.length_map, ln]; exact Nat.le_refl _⟩
  have hi : i < t.length := by
    have := (List.getElem?_eq_some_iff.mp hd).1
    simpa using this
  refine ⟨⟨hH, by rw [ln]; exact hi⟩, fun x H' y => ?_⟩
  obtain ⟨rfl, k, v, q, hk, rfl, hq⟩ := y
  obtain ⟨F2, e2, h2, f2⟩ := hs.adopt hq
  refine ⟨F2, e2, h2, ?_⟩
  have ek : (vs.map (·.1))[i]? = some k := by rw [List.getElem?_map, hk]; rfl
  rw [tp_keys r.pair, List.getElem?_map] at ek
  have hd' : (t.map fun p => keyTD p.1)[i]? = some d := hd
  rw [List.getElem?_map] at hd'
  cases ht : t[i]? with
  | none => rw [ht] at hd'; cases hd'
  | some p =>
    rw [ht] at ek hd'
    cases ek; cases hd'
    exact .tup f2 (rep_keys p.1)
end
section
variable {X : Cx} {W : WX} {e tg : Expr} {we : DE}
theorem di_keys (he : PE X e (tE X.K W we)) : PI X tg e (tI X.K W (wItK we)) := PI.imp (pi_keys he) fun σ H R ⟨F, C, ρ, P, PX, hs, en, xr, w, k⟩ =>
  ⟨F, C, ρ, _, PX, hs, en, xr, w, fun v F1 H1 d C1 e1 h1 r q => by
    cases r <;> first | exact q.elim | skip
    · rename_i a
      revert q
      dsimp only
      split
      · rename_i t od vs hc
        intro q
        obtain ⟨_, g1, g2⟩ := h1.cell a _ hc
        exact ⟨a, od, rfl, .inl ⟨vs, g1, k _ F1 H1 _ C1 e1 h1 (itk_at g2 fun F' H' C' _ h' hc' => (h'.cell a (.lK t od vs) hc').2.1) q⟩⟩
      · rename_i t od vs hc
        intro q
        obtain ⟨_, g1, g2⟩ := h1.cell a _ hc
        exact ⟨a, od, rfl, .inr ⟨vs, g1, k _ F1 H1 _ C1 e1 h1 (itkt_at g2 fun F' H' C' _ h' hc' => (h'.cell a (.lT t od vs) hc').2.1) q⟩⟩
      · exact fun z => z.elim
    · rename_i a od vs t hf hr
      exact ⟨a, od, rfl, .inl ⟨vs, h1.ex.nd hf rfl, k _ F1 H1 _ C1 e1 h1 (itk_at hr fun F' H' C' e' h' _ => h'.ex.nd (e'.nd hf rfl) rfl) q⟩⟩
    · rename_i a od vs t hf hr
      exact ⟨a, od, rfl, .inr ⟨vs, h1.ex.nd hf rfl, k _ F1 H1 _ C1 e1 h1 (itkt_at hr fun F' H' C' e' h' _ => h'.ex.nd (e'.nd hf rfl) rfl) q⟩⟩⟩
end

/-! ### a dict locked while a statement, an expression runs -/
abbrev Pth := DEnv → Cells → Option D
def pVar (i : Nat) : Pth := fun ρ _ => match (ρ[i]? : Option (Option D)) with
  | some (some d) => some d
  | _ => none
def pFld (Cl : Addr) (f : String) (g : Pth) : Pth := fun ρ C => match g ρ C with
  | some x => fldOf Cl f x C
  | none => none
def unl (E : DEnds) (a : Addr) (c c' : Cell) : DEnds := { nx := fun ρ' C' => C' a = some c ∧ E.nx ρ' (cput C' a c'), rt := fun d C' => C' a = some c ∧ E.rt d (cput C' a c'), bk := fun ρ' C' => C' a = some c ∧ E.bk ρ' (cput C' a c'), ct := fun ρ' C' => C' a = some c ∧ E.ct ρ' (cput C' a c'), ex := E.ex }
def wLockS (g : Pth) (w : DS) (E : DEnds) (ρ : DEnv) (C : Cells) : Prop := match g ρ C with
  | some (.ptr a) => match C a with
    | some (.dK t) => ∀ od vs, w (unl E a (.lK t od vs) (.dK t)) ρ (cput C a (.lK t od vs))
    | some (.dT t) => ∀ od vs, w (unl E a (.lT t od vs) (.dT t)) ρ (cput C a (.lT t od vs))
    | _ => w E ρ C
  | _ => w E ρ C
def wLockE (g : Pth) (w : DE) (ρ : DEnv) (C : Cells) (P : DK) (PX : DX) : Prop := match g ρ C with
  | some (.ptr a) => match C a with
    | some (.dK t) => ∀ od vs, w ρ (cput C a (.lK t od vs)) (fun d C' => C' a = some (.lK t od vs) ∧ P d (cput C' a (.dK t))) PX
    | some (.dT t) => ∀ od vs, w ρ (cput C a (.lT t od vs)) (fun d C' => C' a = some (.lT t od vs) ∧ P d (cput C' a (.dT t))) PX
    | _ => w ρ C P PX
  | _ => w ρ C P PX
section
variable {X : Cx} {W : WX} {K : PySem.W.Frag} {st : Stmt} {e : Expr}
theorem ps_or {t1 t2 : TS} (h1 : PS X st t1) (h2 : PS X st t2) : PS X st (fun D σ H => t1 D σ H ∨ t2 D σ H) := ⟨fun pins s σ H D I w => w.elim (h1.run pins s σ H D I) (h2.run pins s σ H D I)⟩
theorem pe_or {t1 t2 : TE} (h1 : PE X e t1) (h2 : PE X e t2) : PE X e (fun σ H Q => t1 σ H Q ∨ t2 σ H Q) := ⟨fun pins s σ H Q I w => w.elim (h1.run pins s σ H Q I) (h2.run pins s σ H Q I)⟩
theorem unl_ends {F : Hp} {E : DEnds} {D : Ends} {a : Addr} {c c' : Cell} {od : Obj} {u : HO} (er : EndsR K F E D) (hc : ∀ F' H', Ex F F' → RepC K F' H' a c → H' a = some (.frz od u) ∧ RepC K F' (upd H' a u) a c') :
    EndsR K F (unl E a c c') ⟨fun σ' H' => H' a = some (.frz od u) ∧ D.nx σ' (upd H' a u), fun v H' => H' a = some (.frz od u) ∧ D.rt v (upd H' a u), fun σ' H' => H' a = some (.frz od u) ∧ D.bk σ' (upd H' a u), fun σ' H' => H' a = some (.frz od u) ∧ D.ct σ' (upd H' a u)⟩ :=
  ⟨fun σ' F' H' ρ' C' e' h' n' ⟨hq, q⟩ => by
    obtain ⟨f0, r⟩ := h'.cell a _ hq
    obtain ⟨z1, z2⟩ := hc F' H' e' r
    exact ⟨z1, er.nx σ' F' _ ρ' _ e' (h'.put f0 z2) n' q⟩,
  fun v F' H' d C' e' h' rv ⟨hq, q⟩ => by
    obtain ⟨f0, r⟩ := h'.cell a _ hq
    obtain ⟨z1, z2⟩ := hc F' H' e' r
    exact ⟨z1, er.rt v F' _ d _ e' (h'.put f0 z2) rv q⟩,
  fun σ' F' H' ρ' C' e' h' n' ⟨hq, q⟩ => by
    obtain ⟨f0, r⟩ := h'.cell a _ hq
    obtain ⟨z1, z2⟩ := hc F' H' e' r
    exact ⟨z1, er.bk σ' F' _ ρ' _ e' (h'.put f0 z2) n' q⟩,
  fun σ' F' H' ρ' C' e' h' n' ⟨hq, q⟩ => by
    obtain ⟨f0, r⟩ := h'.cell a _ hq
    obtain ⟨z1, z2⟩ := hc F' H' e' r
    exact ⟨z1, er.ct σ' F' _ ρ' _ e' (h'.put f0 z2) n' q⟩⟩
theorem ds_lock (g : Pth) {w : DS} (h : PS X st (tS X.K W w)) : PS X st (tS X.K W (wLockS g w)) := PS.imp (ps_or h (ps_lock h)) fun D σ H ⟨F, C, ρ, DE, hs, en, xr, q, er⟩ => by
  have go : w DE ρ C → tS X.K W w D σ H := fun q => ⟨F, C, ρ, DE, hs, en, xr, q, er⟩
  unfold wLockS at q
  split at q
  · rename_i a _
    split at q
    · rename_i t hc
      obtain ⟨f0, vs, h1, r⟩ := hs.cell a _ hc
      refine .inr ⟨a, .dK vs, h1, trivial, fun od => ⟨F, _, ρ, unl DE a (.lK t od vs) (.dK t), hs.put (c := .lK t od vs) f0 ⟨upd_same, r⟩, en, xr, q od vs, ?_⟩⟩
      exact unl_ends er fun F' H' e' z => ⟨z.1, vs, upd_same, z.2⟩
    · rename_i t hc
      obtain ⟨f0, vs, h1, r⟩ := hs.cell a _ hc
      refine .inr ⟨a, .dT vs, h1, trivial, fun od => ⟨F, _, ρ, unl DE a (.lT t od vs) (.dT t), hs.put (c := .lT t od vs) f0 ⟨upd_same, r⟩, en, xr, q od vs, ?_⟩⟩
      exact unl_ends er fun F' H' e' z => ⟨z.1, vs, upd_same, z.2⟩
    · exact .inl (go q)
  · exact .inl (go q)
theorem d_lock (g : Pth) {w : DE} (h : PE X e (tE X.K W w)) : PE X e (tE X.K W (wLockE g w)) := PE.imp (pe_or h (pe_lock h)) fun σ H Q ⟨F, C, ρ, P, PX, hs, en, xr, q, k⟩ => by
  have go : w ρ C P PX → tE X.K W w σ H Q := fun q => ⟨F, C, ρ, P, PX, hs, en, xr, q, k⟩
  unfold wLockE at q
  split at q
  · rename_i a _
    split at q
    · rename_i t hc
      obtain ⟨f0, vs, h1, r⟩ := hs.cell a _ hc
      refine .inr ⟨a, .dK vs, h1, trivial, fun od => ⟨F, _, ρ, _, PX, hs.put (c := .lK t od vs) f0 ⟨upd_same, r⟩, en, xr, q od vs, fun v F' H' d C' e' h' rv ⟨hq, q'⟩ => ?_⟩⟩
      obtain ⟨g0, g1, g2⟩ := h'.cell a _ hq
      exact ⟨g1, k v F' _ d _ e' (h'.put (c := .dK t) g0 ⟨vs, upd_same, g2⟩) rv q'⟩
    · rename_i t hc
      obtain ⟨f0, vs, h1, r⟩ := hs.cell a _ hc
      refine .inr ⟨a, .dT vs, h1, trivial, fun od => ⟨F, _, ρ, _, PX, hs.put (c := .lT t od vs) f0 ⟨upd_same, r⟩, en, xr, q od vs, fun v F' H' d C' e' h' rv ⟨hq, q'⟩ => ?_⟩⟩
      obtain ⟨g0, g1, g2⟩ := h'.cell a _ hq
      exact ⟨g1, k v F' _ d _ e' (h'.put (c := .dT t) g0 ⟨vs, upd_same, g2⟩) rv q'⟩
    · exact .inl (go q)
  · exact .inl (go q)
end

/-! ### len, dict(..), list(..) -/
def rLenDic : List V → Hp → VK → Prop := fun xs H Q => ∃ (p : Addr) (n : Nat), xs = [.ref p] ∧ ((∃ t : List (L2.Key × V), Rd H p (.dK t) ∧ n = t.length) ∨ ∃ t : List (List L2.Key × V), Rd H p (.dT t) ∧ n = t.length) ∧ Q (.int ((n : Nat) : Int)) H
theorem cr_lenDic {X : Cx} : CallR X (.builtin "len") rLenDic := by
  intro pins s σ H xs us Q I r h
  obtain ⟨p, n, rfl, hp, q⟩ := h
  rw [Vals.ref1 r]
  rcases hp with ⟨t, hp, rfl⟩ | ⟨t, hp, rfl⟩
  · exact d_len I hp fun tk s' I' => ⟨.int _, H, I', ⟨tk, rfl⟩, q⟩
  · obtain ⟨z, hd, ys, rel, dd⟩ := dt_rd I.hok hp
    have e : t.length = ys.length := Paired.length rel
    refine call_len_dictH hd dd (by rw [← e]; rw [sizeLine_eq] at z; omega) ?_
    rw [← e]
    exact ⟨.int _, H, I.tok _, ⟨_, rfl⟩, q⟩
def dLenDic (ds : List D) (C : Cells) (P : DK) : Prop := match ds with
  | [x] => match kvsK x C with
    | some t => P (.int (t.length : Nat)) C
    | none => match kvsT x C with
      | some t => P (.int (t.length : Nat)) C
      | none => False
  | _ => False
def dDictC (ds : List D) (C : Cells) (P : DK) : Prop := match ds with
  | [x] => match kvsK x C with
    | some t => ∀ p, C p = none → P (.ptr p) (cput C p (.dK t))
    | none => False
  | _ => False
def dKeyList (own : Bool) (ds : List D) (C : Cells) (P : DK) : Prop := match ds with
  | [x] => match kvsK x C with
    | some t => if own = true then ∀ p, C p = none → P (.ptr p) (cput C p (.lst (t.map fun p => keyD p.1))) else P (.lst (t.map fun p => keyD p.1)) C
    | none => False
  | _ => False
section
variable {K : PySem.W.Frag}
theorem s_lenDic : SimA K rLenDic dLenDic := fun F C H xs ds P Q hs r w k => by
  unfold dLenDic at w
  split at w
  · obtain ⟨v, rfl, r1⟩ := r.one
    split at w
    · rename_i t ht
      obtain ⟨a, vs, rfl, h2, h3⟩ := kvsK_rd hs r1 ht
      exact ⟨a, _, rfl, .inl ⟨vs, h2, (tp_len h3.pair).symm⟩, k _ F H _ C (Ex.refl F) hs (.int _) w⟩
    · split at w
      · rename_i t ht
        obtain ⟨a, vs, rfl, h2, h3⟩ := kvsT_rd hs r1 ht
        exact ⟨a, _, rfl, .inr ⟨vs, h2, (tp_len h3.pair).symm⟩, k _ F H _ C (Ex.refl F) hs (.int _) w⟩
      · exact w.elim
  · exact w.elim
theorem s_dictC : SimA K (fun xs H Q => ∃ (a : Addr) (t : List (L2.Key × V)), xs = [.ref a] ∧ Rd H a (.dK t) ∧ ∀ p, H p = none → Q (.ref p) (upd H p (.dK t))) dDictC := fun F C H xs ds P Q hs r w k => by
  unfold dDictC at w
  split at w
  · obtain ⟨v, rfl, r1⟩ := r.one
    split at w
    · rename_i t ht
      obtain ⟨a, vs, rfl, h2, h3⟩ := kvsK_rd hs r1 ht
      refine ⟨a, vs, rfl, h2, fun p hp => ?_⟩
      obtain ⟨f0, c0⟩ := hs.fresh hp
      exact k _ F _ _ _ (Ex.refl F) (hs.put (c := .dK t) f0 ⟨vs, upd_same, h3⟩) (.ptr p) (w p c0)
    · exact w.elim
  · exact w.elim
theorem rep_keyl : ∀ {F : Hp} {vs : List (L2.Key × V)} {t : List (L2.Key × D)}, RepK K F vs t → RepL K F (vs.map fun p => kV p.1) (t.map fun p => keyD p.1)
  | _, _, _, .nil => .nil
  | _, _, _, .cons _ r => .cons (rep_key _) (rep_keyl r)
theorem s_keyList (own : Bool) : SimA K (fun xs H Q => ∃ (a : Addr) (t : List (L2.Key × V)), xs = [.ref a] ∧ Rd H a (.dK t) ∧ ∀ p, H p = none → Q (.ref p) (upd H p (.lst (t.map fun kv => kV kv.1)))) (dKeyList own) := fun F C H xs ds P Q hs r w k => by
  unfold dKeyList at w
  split at w
  · obtain ⟨v, rfl, r1⟩ := r.one
    split at w
    · rename_i t ht
      obtain ⟨a, vs, rfl, h2, h3⟩ := kvsK_rd hs r1 ht
      refine ⟨a, vs, rfl, h2, fun p hp => ?_⟩
      cases own with
      | true =>
        rw [if_pos rfl] at w
        obtain ⟨c0, h4⟩ := hs.newC (rep_keyl h3) hp
        exact k _ F _ _ _ (Ex.refl F) h4 (.ptr p) (w p c0)
      | false =>
        rw [if_neg (by decide)] at w
        obtain ⟨e4, h4, r4⟩ := hs.newL (rep_keyl h3) hp
        exact k _ _ _ _ C e4 h4 r4 w
    · exact w.elim
  · exact w.elim
end
end DD

set_option Elab.async false
set_option linter.all false
set_option maxRecDepth 100000
set_option maxHeartbeats 4000000
/-! Dicts: sorted keys; == . -/
namespace DD
open PySem L2 PyProof.Rows PySem.W

def keyP : L2.Key → PyData
  | .inl i => .int i
  | .inr z => .str z
theorem keyP_py (k : L2.Key) : (keyD k).py = keyP k := by cases k <;> simp [keyD, keyP, D.py]
theorem key_reads {h : Heap} {k : L2.Key} {u : Value} (r : RelV (kV k) u) : Reads h u (keyP k) [] := by
  cases k with
  | inl i => obtain ⟨t, rfl⟩ := (show ∃ t, u = Value.int i t from r); exact .int i t
  | inr z => obtain ⟨t, rfl⟩ := (show ∃ t, u = Value.str z t from r); exact .str z t
theorem keys_reads {h : Heap} : ∀ {ks : List L2.Key} {us : List Value}, Vals (ks.map kV) us → ReadsAll h us (ks.map keyP) []
  | [], _, .nil => .nil
  | _ :: _, _, .cons a b => .cons (key_reads a) (keys_reads b)
theorem tupk_reads {P : Program} {w : World} {H : Hp} {h : Heap} {q : Addr} {ks : List L2.Key} (ok : HOk P w H h) (e : H q = some (.tup (ks.map kV))) : Reads h (.ref q) (.tuple (ks.map keyP)) [] := by
  obtain ⟨_, its, r, o, h1, h2, n, h3⟩ := (show ObjOk P w H h q (.tup (ks.map kV)) from ok q _ e)
  exact .tuple h1 h2 h3 (keys_reads (by simpa using r))
/-- what is sorted: values that read as ps, none of them a list -/
inductive Keys (h : Heap) : List V → List PyData → List Value → Prop
  | nil : Keys h [] [] []
  | cons {x : V} {p : PyData} {u : Value} {xs : List V} {ps : List PyData} {us : List Value} : RelV x u → Reads h u p [] → Keys h xs ps us → Keys h (x :: xs) (p :: ps) (u :: us)
theorem Keys.rel {h : Heap} {xs : List V} {ps : List PyData} {us : List Value} (k : Keys h xs ps us) : EachIs (fun v (b : V × PyData) => RelV b.1 v) us (xs.zip ps) := by
  induction k with
  | nil => exact .nil
  | cons a _ _ ih => exact .cons a ih
theorem Keys.rd {h h' : Heap} {a : Addr} (kp : ∀ b o, h.get? b = some o → h'.get? b = some o) {xs : List V} {ps : List PyData} {us : List Value} (k : Keys h xs ps us) : EachIs (fun v (b : V × PyData) => ∃ as, Reads h' v b.2 as ∧ a ∉ as) us (xs.zip ps) := by
  induction k with
  | nil => exact .nil
  | cons _ b _ ih => exact .cons ⟨[], PyProof.Rows.Reads.keeps kp b, by simp⟩ ih
theorem Keys.len {h : Heap} {xs : List V} {ps : List PyData} {us : List Value} (k : Keys h xs ps us) : xs.length = ps.length ∧ us.length = ps.length := by
  induction k with
  | nil => exact ⟨rfl, rfl⟩
  | cons _ _ _ ih => exact ⟨congrArg (· + 1) ih.1, congrArg (· + 1) ih.2⟩
theorem Keys.snd {h : Heap} {xs : List V} {ps : List PyData} {us : List Value} (k : Keys h xs ps us) : (xs.zip ps).map Prod.snd = ps := zip_snd k.len.1
/-- the new list is sorted -/
theorem sort_new {X : Cx} {pins : List (Addr × Obj)} {σ : L2.St} {H : Hp} {s : Shared} {xs : List V} {ps : List PyData} {acc : List Value} {Q : VK} {E : Value → Shared → Prop} (hu : X.A.units + 64 < cLine) (I : Inv X pins σ H s) (k : Keys s.heap xs ps acc) (hal : AllAlike ps) (hk : Sortable ps) (hd : ∀ d ∈ ps, d.depth ≤ 60)
    (hz : ps.length ≤ sizeLine) (q : ∀ p, H p = none → Q (.ref p) (upd H p (.lst (((xs.zip ps).mergeSort (dataLe false Prod.snd)).map Prod.fst)))) :
    wpAny (model X.prog X.w) X.A.in1 (do
      let l ← newList acc
      let _ ← holding [l] (call (.builtin "list.sort") [l])
      ret l) (fun f s' => ∃ v, f = .done (.ret v) ∧ ∃ x H', Inv X pins σ H' s' ∧ RelV x v ∧ Q x H') E s := by
  obtain ⟨l1, l2⟩ := k.len
  refine wpAny_bind (wpAny_newList ?_ (by rw [l2]; exact hz))
  have ho : (s.heap.push (seqObj "list" acc.toArray 0)).get? s.heap.objs.size = some (seqObj "list" acc.toArray 0) := Heap.get?_push_size _ rfl
  refine wpAny_bind (wpAny_holding (list_sort_data (bs := xs.zip ps) (enc := Prod.snd) (R := fun v b => RelV b.1 v) (s := { s with heap := s.heap.push (seqObj "list" acc.toArray 0) }) ho k.rel (k.rd fun _ _ e => Heap.get?_push_of_some _ e) (by rw [k.snd]; exact hal) (by rw [k.snd]; exact hk) (by rw [List.length_zip]; omega) (fun b hb => ?_) fun out h1 h2 => ?_))
  · have := hd b.2 (by rw [← k.snd]; exact List.mem_map_of_mem hb)
    show X.A.units + 1 + 1 + _ < cLine
    omega
  · obtain ⟨ep, he⟩ := PyProof.Rows.sortedHeap_at (vs := acc) (out := out.toArray) ho
    have k1 := each_vals (bs := []) (vs := []) h2
    have hl : (((xs.zip ps).mergeSort (dataLe false Prod.snd)).map Prod.fst).length ≤ sizeLine := by
      rw [List.length_map, List.length_mergeSort, List.length_zip]; omega
    refine wpAny_pure ⟨_, rfl, .ref s.heap.objs.size, upd H s.heap.objs.size (.lst (((xs.zip ps).mergeSort (dataLe false Prod.snd)).map Prod.fst)), I.laid (t' := s.toks) (fun b u e => ?_) (Nat.le_refl _) ⟨hl, out, ep, k1, he⟩, rfl, q _ (I.hok.fresh (Nat.le_refl _))⟩
    have hb : b < s.heap.objs.size := Heap.lt_size e
    exact (PyProof.Rows.sortedHeap_old (Nat.ne_of_lt hb) (by rw [size_push']; exact Nat.lt_succ_of_lt hb)).trans (Heap.get?_push_of_some _ e)
def rSortedDic : List V → Hp → VK → Prop := fun xs H Q => ∃ a ps, xs = [V.ref a] ∧ AllAlike ps ∧ Sortable ps ∧ (∀ d ∈ ps, d.depth ≤ 60) ∧
  ((∃ t : List (L2.Key × V), Rd H a (.dK t) ∧ ps = t.map (fun p => keyP p.1) ∧ ∀ p, H p = none → Q (.ref p) (upd H p (.lst ((((t.map fun p => kV p.1).zip ps).mergeSort (dataLe false Prod.snd)).map Prod.fst)))) ∨
  ∃ t : List (List L2.Key × V), Rd H a (.dT t) ∧ ps = t.map (fun p => PyData.tuple (p.1.map keyP)) ∧ ∀ bs p, IsKeys H t bs → H p = none → Q (.ref p) (upd H p (.lst ((((bs.map V.ref).zip ps).mergeSort (dataLe false Prod.snd)).map Prod.fst))))
theorem keys_K {h : Heap} {prog : Program} {w : World} : ∀ {t : List (L2.Key × V)} {vs : List (L2.Key × Value)} {acc : List Value}, KV t vs → acc.length = vs.length → (∀ (j : Nat) (v : Value), acc[j]? = some v → ∃ (k : L2.Key) (x : Value), vs[j]? = some (k, x) ∧ keyIs k v = true) → Keys h (t.map fun p => kV p.1) (t.map fun p => keyP p.1) acc := by
  intro t vs acc r
  unfold KV at r
  induction r generalizing acc with
  | nil => intro hl _; cases acc with
    | nil => exact .nil
    | cons _ _ => cases hl
  | @cons p q _ _ g _ ih => intro hl ha; cases acc with
    | nil => cases hl
    | cons u us =>
      obtain ⟨k, x, e1, e2⟩ := ha 0 u rfl
      cases e1
      have e3 : p.1 = k := g.1
      refine .cons (show RelV (kV p.1) u by rw [e3]; exact relV_key e2) (show Reads h u (keyP p.1) [] by rw [e3]; exact key_reads (relV_key e2)) (ih (by simpa using hl) fun j v e => ?_)
      obtain ⟨k', x', z1, z2⟩ := ha (j + 1) v (by simpa using e)
      exact ⟨k', x', by simpa using z1, z2⟩
theorem keys_T {P : Program} {w : World} {H : Hp} {h : Heap} (ok : HOk P w H h) : ∀ {t : List (List L2.Key × V)} {bs : List Addr}, IsKeys H t bs → Keys h (bs.map V.ref) (t.map fun p => PyData.tuple (p.1.map keyP)) (bs.map Value.ref) := by
  intro t bs r
  unfold IsKeys at r
  induction r with
  | nil => exact .nil
  | cons g _ ih => exact .cons rfl (tupk_reads ok g) ih
theorem cr_sortedDic {X : Cx} (hc : X.calm = true) (hu : X.A.units + 64 < cLine) : CallR X (.builtin "sorted") rSortedDic := by
  intro pins s σ H xs us Q I r h
  obtain ⟨a, ps, rfl, hal, hk, hd, h⟩ := h
  rw [Vals.ref1 r]
  refine Calls.call_function_entry PyProof.Rows.kind_sorted PyProof.Rows.plain_sorted PyProof.Rows.entry_sorted (PyProof.Rows.args_sorted1 _) ?_
  unfold Builtin.«sorted»
  refine wpAny_bind (m := checkCount "sorted" 1 1 _) (wpAny_pure ?_)
  rcases h with ⟨t, ht, rfl, q⟩ | ⟨t, ht, rfl, q⟩
  · obtain ⟨z, lo, vs, rel, dd⟩ := dk_rd I.hok ht
    obtain ⟨ep, hat⟩ := dd.dictAt
    have hl : t.length = vs.length := rel.length
    refine wpAny_bind (PySem.W.kdu_collect (A := X.A.in1) (PySem.W.kdl_dict (knd := mixKind X.prog X.w) (kvs := vs) (ep := ep) lo) (I.ok.hd hc) hat (by omega) fun h' tk acc hkp hacc => ?_)
    have I1 : Inv X pins σ H { s with heap := h', toks := tk } := I.kept hkp
    have kk : Keys h' (t.map fun p => kV p.1) (t.map fun p => keyP p.1) acc.toList := keys_K (prog := X.prog) (w := X.w) rel (by rw [Array.length_toList]; exact hacc.1) fun j v e => hacc.2 j v (by rw [← Array.getElem?_toList]; exact e)
    have fin := sort_new (E := fun a b => X.xe a b) hu I1 kk hal hk hd (by rw [List.length_map]; exact z) q
    exact fin
  · obtain ⟨z, hs, ks, pr, o, es, ep, ho, hx, hdt, he, hn⟩ := (show ObjOk X.prog X.w H s.heap a (.dT t) from ht.ok I.hok)
    have l1 : es.size = ks.length := size_of_entries he
    have l2 : t.length = ks.length := Paired.length pr
    refine wpAny_bind (PySem.W.kdu_collect (A := X.A.in1) (kdl_raw hs hx hdt) (I.ok.hd hc) ho (by omega) fun h' tk acc hkp hacc => ?_)
    have I1 : Inv X pins σ H { s with heap := h', toks := tk } := I.kept hkp
    have ib : IsKeys H t (ks.map fun x => x.2.1) := isKeys_of pr
    have ea : acc.toList = (ks.map fun x => x.2.1).map Value.ref := by
      have hl : acc.toList.length = ks.length := by rw [Array.length_toList, hacc.1]; exact l1
      refine List.ext_getElem? fun j => ?_
      rw [List.getElem?_map, List.getElem?_map]
      cases hj : acc.toList[j]? with
      | none =>
        have := List.getElem?_eq_none_iff.mp hj
        rw [List.getElem?_eq_none (show ks.length ≤ j by omega)]
        rfl
      | some v =>
        obtain ⟨en, hen, hv⟩ := hacc.2 j v (by rw [← Array.getElem?_toList]; exact hj)
        have qe := entry_at he j
        rw [hen] at qe
        cases hb : ks[j]? with
        | none => rw [hb] at qe; cases qe
        | some b =>
          rw [hb] at qe
          have e2 : en = entryOfKey (tupleKind (mixKind X.prog X.w)) b := Option.some.inj qe
          rw [hv, e2]
          rfl
    have kk := keys_T I1.hok ib
    rw [← ea] at kk
    have fin := sort_new (E := fun a b => X.xe a b) hu I1 kk hal hk hd (by rw [List.length_map]; exact z) fun p hp => q _ p ib hp
    exact fin
/-- sorted(d) -/
def dSortDic (ds : List D) (C : Cells) (P : DK) : Prop := match ds with
  | [x] => match kvsK x C with
    | some t => SortsD (t.map fun p => keyD p.1) ∧ P (.lst ((t.map fun p => keyD p.1).mergeSort leD)) C
    | none => match kvsT x C with
      | some t => SortsD (t.map fun p => keyTD p.1) ∧ P (.lst ((t.map fun p => keyTD p.1).mergeSort leD)) C
      | none => False
  | _ => False
theorem keyTD_py (ks : List L2.Key) : (keyTD ks).py = PyData.tuple (ks.map keyP) := by
  simp only [keyTD, D.py, pys_map, List.map_map]
  congr 1
  exact List.map_congr_left fun k _ => keyP_py k
theorem s_sortDic {K : PySem.W.Frag} : SimA K rSortedDic dSortDic := fun F C H xs ds P Q hs r w k => by
  unfold dSortDic at w
  split at w
  · obtain ⟨v, rfl, r1⟩ := r.one
    split at w
    · rename_i t ht
      obtain ⟨a, vs, rfl, h2, h3⟩ := kvsK_rd hs r1 ht
      obtain ⟨⟨⟨n, hn, hd⟩, hal, hok⟩, w⟩ := w
      have e1 : vs.map (fun p => keyP p.1) = (t.map fun p => keyD p.1).map D.py := by
        rw [List.map_map, show (D.py ∘ fun p : L2.Key × D => keyD p.1) = keyP ∘ (·.1) from funext fun p => keyP_py p.1, ← List.map_map, ← tp_keys h3.pair, List.map_map]
        rfl
      refine ⟨a, _, rfl, by rw [e1]; exact hal, by rw [e1]; exact hok, fun d hd' => ?_, .inl ⟨vs, h2, rfl, fun p hp => ?_⟩⟩
      · rw [e1] at hd'
        obtain ⟨d', hm, rfl⟩ := List.mem_map.mp hd'
        have := (dat_lay (hd d' hm)).2
        omega
      · have rr := rep_keyl h3
        have e2 : vs.map (fun p => keyP p.1) = pys (t.map fun p => keyD p.1) := by rw [pys_map]; exact e1
        rw [e2]
        obtain ⟨e4, h4, r4⟩ := hs.newL rr.sort hp
        exact k _ _ _ _ C e4 h4 r4 w
    · split at w
      · rename_i t ht
        obtain ⟨a, vs, rfl, h2, h3⟩ := kvsT_rd hs r1 ht
        obtain ⟨⟨⟨n, hn, hd⟩, hal, hok⟩, w⟩ := w
        have e1 : vs.map (fun p => PyData.tuple (p.1.map keyP)) = (t.map fun p => keyTD p.1).map D.py := by
          rw [List.map_map, show (D.py ∘ fun p : List L2.Key × D => keyTD p.1) = (fun k => PyData.tuple (k.map keyP)) ∘ (·.1) from funext fun p => keyTD_py p.1, ← List.map_map, ← tp_keys h3.pair, List.map_map]
          rfl
        refine ⟨a, _, rfl, by rw [e1]; exact hal, by rw [e1]; exact hok, fun d hd' => ?_, .inr ⟨vs, h2, rfl, fun bs p ib hp => ?_⟩⟩
        · rw [e1] at hd'
          obtain ⟨d', hm, rfl⟩ := List.mem_map.mp hd'
          have := (dat_lay (hd d' hm)).2
          omega
        · obtain ⟨F2, e2, h2', rr⟩ := hs.adopts ib
          have ek : (vs.map fun p => keyTD p.1) = t.map fun p => keyTD p.1 := by
            have := congrArg (List.map keyTD) (tp_keys h3.pair)
            rw [List.map_map, List.map_map] at this
            exact this
          rw [ek] at rr
          have e3 : vs.map (fun p => PyData.tuple (p.1.map keyP)) = pys (t.map fun p => keyTD p.1) := by rw [pys_map]; exact e1
          rw [e3]
          obtain ⟨e4, h4, r4⟩ := h2'.newL rr.sort hp
          exact k _ _ _ _ C (e2.trans e4) h4 r4 w
      · exact w.elim
  · exact w.elim
end DD

set_option Elab.async false
set_option linter.all false
set_option maxRecDepth 100000
set_option maxHeartbeats 4000000
/-! Dicts: == ; displays. -/
namespace DD
open PySem L2 PyProof.Rows PySem.W

section
variable {κ : Type} [DecidableEq κ]
def vaP (t : List (κ × PyData)) (k : κ) : Option PyData := (t.find? fun p => decide (p.1 = k)).map (·.2)
theorem vaP_hit {k : κ} {p : κ × PyData} {t : List (κ × PyData)} (e : p.1 = k) : vaP (p :: t) k = some p.2 := by unfold vaP; rw [List.find?_cons, decide_eq_true e]; rfl
theorem vaP_miss {k : κ} {p : κ × PyData} {t : List (κ × PyData)} (e : ¬ p.1 = k) : vaP (p :: t) k = vaP t k := by unfold vaP; rw [List.find?_cons, decide_eq_false e]
def hitP (u : List (κ × PyData)) (p : κ × PyData) : Bool := match vaP u p.1 with
  | some d => PyData.eqv p.2 d
  | none => false
def eqP (t u : List (κ × PyData)) : Bool := t.length == u.length && t.all (hitP u)
def hitD (u : List (κ × D)) (p : κ × D) : Bool := match vaD u p.1 with
  | some d => p.2.eqb d
  | none => false
/-- == of two dicts of data -/
def eqT (t u : List (κ × D)) : Bool := t.length == u.length && t.all (hitD u)
abbrev pyT (t : List (κ × D)) : List (κ × PyData) := t.map fun p => (p.1, p.2.py)
theorem vaP_py (k : κ) : ∀ t : List (κ × D), vaP (pyT t) k = (vaD t k).map D.py
  | [] => rfl
  | p :: t => by
    by_cases e : p.1 = k
    · rw [vaD_hit e]; exact vaP_hit (p := (p.1, p.2.py)) e
    · rw [vaD_miss e, ← vaP_py k t]; exact vaP_miss (p := (p.1, p.2.py)) e
theorem eqP_py (t u : List (κ × D)) : eqP (pyT t) (pyT u) = eqT t u := by
  unfold eqP eqT pyT
  rw [List.length_map, List.length_map, List.all_map]
  congr 2
  funext p
  show hitP (pyT u) (p.1, p.2.py) = hitD u p
  unfold hitP hitD
  rw [vaP_py]
  cases vaD u p.1 <;> rfl
/-- what stands at the values reads so -/
abbrev VKr (h : Heap) : List (κ × Value) → List (κ × PyData) → Prop := Paired fun p q => p.1 = q.1 ∧ (∃ as, Reads h p.2 q.2 as) ∧ SeqAt.shaped q.2 = true
theorem vk_at {h : Heap} {vs : List (κ × Value)} {t : List (κ × PyData)} (r : VKr h vs t) (k : κ) : (valueAt vs k = none ∧ vaP t k = none) ∨ ∃ v d, valueAt vs k = some v ∧ vaP t k = some d ∧ (∃ as, Reads h v d as) ∧ SeqAt.shaped d = true := by
  induction r with
  | nil => exact .inl ⟨rfl, rfl⟩
  | @cons p q _ _ g _ ih =>
    by_cases e : q.1 = k
    · refine .inr ⟨p.2, q.2, ?_, vaP_hit e, g.2.1, g.2.2⟩
      unfold valueAt
      rw [List.find?_cons, decide_eq_true (g.1.trans e)]
      rfl
    · rw [vaP_miss e]
      have : ∀ l : List (κ × Value), valueAt (p :: l) k = valueAt l k := fun l => by
        unfold valueAt
        rw [List.find?_cons, decide_eq_false (fun z => e (g.1.symm.trans z))]
      rw [this]
      exact ih
theorem vk_hits {A : Around} {s : Shared} {va vb : List (κ × Value)} {t u : List (κ × PyData)} (hu : A.in1.units + 64 < cLine) (ra : VKr s.heap va t) (rb : VKr s.heap vb u) : KeqHits A.in1 s vb va (t.all (hitP u)) := by
  induction ra with
  | nil => exact .nil
  | @cons p q ps qs g _ ih =>
    obtain ⟨k, v⟩ := p
    obtain ⟨e, ⟨as, r1⟩, s1⟩ := g
    have e : k = q.1 := e
    rw [List.all_cons]
    rcases vk_at rb k with ⟨z1, z2⟩ | ⟨y, d, z1, z2, ⟨bs, r2⟩, s2⟩
    · have : hitP u q = false := by unfold hitP; rw [← e, z2]
      rw [this, Bool.false_and]
      exact .miss z1
    · have : hitP u q = PyData.eqv q.2 d := by unfold hitP; rw [← e, z2]
      rw [this]
      exact .hit z1 (keq_at r1 r2 s1 s2 hu) ih
end
section
variable {prog : Program} {w : World} {κ : Type} [DecidableEq κ] {knd : HeapKind prog w κ} {A : Around} {E : Value → Shared → Prop} {s : Shared}
/-- the same pairs, keys that lie on the heap -/
theorem same_heap {nm : String} {a b : Addr} {xs ys : List (κ × Addr × Value)} {e : Nat → Bool} {Q : Bool → Shared → Prop} (ha : (a == sysModules) = false) (hb : (b == sysModules) = false) (da : s.heap.DictOfH knd a xs) (db : s.heap.DictOfH knd b ys) (hu : knd.room A)
    (hits : ∀ i k p v, xs[i]? = some (k, p, v) → (atKey ys k = none ∧ e i = false) ∨ ∃ q, atKey ys k = some q ∧ SeqAt.EqAt A s v q.2 (e i)) (h : Q (xs.length == ys.length && (List.range xs.length).all e) s) : wpAny (model prog w) A (Builtin.Dict.samePairs nm a b) Q E s := by
  obtain ⟨oa, es, ep, hoa, _, hda, hea, hia, hna⟩ := da
  obtain ⟨ob, fs, fp, hob, _, hdb, heb, hib, hnb⟩ := db
  have la := size_of_entries hea
  have lb := size_of_entries heb
  rw [← la, ← lb] at h
  unfold Builtin.Dict.samePairs Builtin.Dict.showsAll
  rw [if_neg (by rw [ha]; decide), if_neg (by rw [hb]; decide)]
  refine wpAny_bind (wpAny_pure <| wpAny_bind <| wpAny_pure ?_)
  refine wpAny_bind (wpAny_dictEntries hoa hda ?_); dsimp only
  refine wpAny_bind (wpAny_dictEntries hob hdb ?_)
  by_cases hsz : es.size = fs.size
  · have fin : ∀ r : Bool, (List.range es.size).all e = r → Q r s := fun r hr => by
      rw [show (es.size == fs.size) = true by simpa using hsz, Bool.true_and, hr] at h
      exact h
    rw [if_neg (by rw [hsz]; simp)]
    refine wpAny_bind (wpAny_dictEpoch hoa hda <| wpAny_bind ?_)
    rw [Std.Legacy.Range.forIn_eq_forIn_range']
    simp only [Std.Legacy.Range.size, Nat.sub_zero, Nat.add_sub_cancel, Nat.div_one]
    refine wpAny_forIn_list _ (fun rest q t => t = s ∧ q = (none, ()) ∧ ∃ i, i ≤ es.size ∧ rest = List.range' i (es.size - i) ∧ ∀ j, j < i → e j = true) _ ?_ ?_ _ _ ⟨rfl, rfl, 0, Nat.zero_le _, by simp, fun j hj => by cases hj⟩
    · rintro x rest q t ⟨rfl, rfl, i, hi, hr, hall⟩
      have hlt : i < es.size := Nat.lt_of_le_of_ne hi fun z => by rw [z, Nat.sub_self] at hr; cases hr
      rw [show es.size - i = (es.size - (i + 1)) + 1 by omega, List.range'_succ] at hr
      injection hr with hx hrest
      subst hx
      refine wpAny_bind (wpAny_dictEntries hoa hda ?_)
      obtain ⟨⟨k, p, v⟩, hk⟩ : ∃ y, xs[x]? = some y := ⟨_, List.getElem?_eq_getElem (by omega)⟩
      have hent : es[x]? = some (entryOfKey knd (k, p, v)) := by rw [entry_at hea, hk]; rfl
      rw [hent]
      show wpAny _ _ (holding [Value.ref p, v] _ >>= _) _ _ _
      refine wpAny_bind (wpAny_holding <| wpAny_bind (wpAny_dictFind_heap hu (hia _ (List.mem_of_getElem? hk)) hob hdb heb hib hnb (fun hno => ?_) fun j q hj => ?_))
      · rcases hits x k p v hk with ⟨_, e0⟩ | ⟨q, hq, _⟩
        · refine wpAny_pure ?_
          show wpAny _ _ (if (!false) = true then _ else _) _ _ _
          rw [if_pos (by decide)]
          exact wpAny_pure (wpAny_pure (fin false (List.all_eq_false.mpr ⟨x, List.mem_range.mpr hlt, by rw [e0]; decide⟩)))
        · rw [atKey_none_of_get hno] at hq; cases hq
      · have hq := atKey_of_get hnb hj
        have hfe : fs[j]? = some (entryOfKey knd (k, q)) := by rw [entry_at heb, hj]; rfl
        rcases hits x k p v hk with ⟨h0, _⟩ | ⟨q', hq', he⟩
        · rw [hq] at h0; cases h0
        · rw [hq] at hq'
          cases hq'
          refine wpAny_bind (wpAny_dictEntries hob hdb ?_)
          rw [hfe]
          show wpAny _ _ (holding [q.2] (eqBool v q.2)) _ _ _
          refine wpAny_holding (he prog w _ _ ?_)
          cases hx : e x with
          | false =>
            show wpAny _ _ (if (!false) = true then _ else _) _ _ _
            rw [if_pos (by decide)]
            exact wpAny_pure (wpAny_pure (fin false (List.all_eq_false.mpr ⟨x, List.mem_range.mpr hlt, by rw [hx]; decide⟩)))
          | true =>
            show wpAny _ _ (if (!true) = true then _ else _) _ _ _
            rw [if_neg (by decide)]
            refine wpAny_bind (wpAny_dictEpoch hoa hda ?_)
            rw [if_neg (by simp)]
            exact wpAny_pure ⟨rfl, rfl, x + 1, hlt, hrest, fun j hj => (Nat.lt_succ_iff_lt_or_eq.mp hj).elim (hall j) fun z => by rw [z]; exact hx⟩
    · rintro q t ⟨rfl, rfl, i, hi, hr, hall⟩
      have hin : i = es.size := Nat.le_antisymm hi (by
        rcases Nat.lt_or_ge i es.size with z | z
        · rw [show es.size - i = (es.size - (i + 1)) + 1 by omega, List.range'_succ] at hr; cases hr
        · exact z)
      exact wpAny_pure (fin true (List.all_eq_true.mpr fun j hj => hall j (by rw [hin]; exact List.mem_range.mp hj)))
  · rw [if_pos (by simpa using hsz)]
    rw [show (es.size == fs.size) = false by simpa using hsz, Bool.false_and] at h
    exact wpAny_bind (wpAny_rule (wpAny_pure h))
end

theorem heap_slot {prog : Program} {w : World} {A : Around} {E : Value → Shared → Prop} {s : Shared} {κ : Type} [DecidableEq κ] {knd : HeapKind prog w κ} {a b : Addr} {xs ys : List (κ × Addr × Value)} {e : Nat → Bool} {Q : Value → Shared → Prop} (ha : (a == sysModules) = false) (hb : (b == sysModules) = false) (da : s.heap.DictOfH knd a xs) (db : s.heap.DictOfH knd b ys) (hr : knd.room A.in1) (hu : A.units < cLine)
    (hits : ∀ i k p v, xs[i]? = some (k, p, v) → (atKey ys k = none ∧ e i = false) ∨ ∃ q, atKey ys k = some q ∧ SeqAt.EqAt A.in1 s v q.2 (e i)) :
    (Q (.bool (xs.length == ys.length && (List.range xs.length).all e)) s → wpAny (model prog w) A (compareOp .Eq (.ref a) (.ref b)) Q E s) ∧ (Q (.bool (!(xs.length == ys.length && (List.range xs.length).all e))) s → wpAny (model prog w) A (compareOp .NotEq (.ref a) (.ref b)) Q E s) := by
  have ta : s.TypeIs (.ref a) "dict" := da.typeIs
  have tb : s.TypeIs (.ref b) "dict" := db.typeIs
  constructor
  · intro h
    refine wpAny_richCompare_same_room (op := .Eq) ta tb PySem.F.slot_dict_eq (wpAny_call_entry PySem.F.slot_dict_eq ta PySem.F.entry_dict_eq ?_ (PySem.F.args_dict_eq_2 _ _)) hu
    show wpAny _ _ (Builtin.Dict.dictSlotArgs "__eq__" _ >>= _) _ _ s
    unfold Builtin.Dict.dictSlotArgs
    refine wpAny_bind (wpAny_bind (wpAny_notOrdered_dict ta ?_))
    show wpAny _ _ (pure (Value.ref a, Value.ref b)) _ _ s
    refine wpAny_pure (wpAny_bind (wpAny_isInstance (T := "dict") tb PySem.F.sub_dict_dict ?_))
    simp only [Bool.not_true, Bool.false_eq_true, if_false]
    refine wpAny_bind (wpAny_pure <| wpAny_bind <| wpAny_pure <| wpAny_bind (same_heap ha hb da db hr hits <| wpAny_pure ⟨_, rfl, ?_, ?_⟩))
    · exact fun z => by cases z
    · simpa using h
  · intro h
    refine wpAny_richCompare_same_room (op := .NotEq) ta tb PySem.F.slot_dict_ne (wpAny_call_entry PySem.F.slot_dict_ne ta PySem.F.entry_dict_ne ?_ (PySem.F.args_dict_ne_2 _ _)) hu
    show wpAny _ _ (Builtin.Dict.dictSlotArgs "__ne__" _ >>= _) _ _ s
    unfold Builtin.Dict.dictSlotArgs
    refine wpAny_bind (wpAny_bind (wpAny_notOrdered_dict ta ?_))
    show wpAny _ _ (pure (Value.ref a, Value.ref b)) _ _ s
    refine wpAny_pure (wpAny_bind (wpAny_isInstance (T := "dict") tb PySem.F.sub_dict_dict ?_))
    simp only [Bool.not_true, Bool.false_eq_true, if_false]
    refine wpAny_bind (wpAny_pure <| wpAny_bind <| wpAny_pure <| wpAny_bind (same_heap ha hb da db hr hits <| wpAny_pure ⟨_, rfl, ?_, ?_⟩))
    · exact fun z => by cases z
    · simpa using h
abbrev VP {κ : Type} (K : PySem.W.Frag) (H : Hp) : List (κ × V) → List (κ × PyData) → Prop := Paired fun p q => p.1 = q.1 ∧ Dp K H p.2 q.2 ∧ SeqAt.shaped q.2 = true
/-- two dicts of data -/
def rEqDic (K : PySem.W.Frag) (neg : Bool) : R2 := fun x y H Q => ∃ a b, x = .ref a ∧ y = .ref b ∧
  ((∃ (vs us : List (L2.Key × V)) (t u : List (L2.Key × PyData)), Rd H a (.dK vs) ∧ Rd H b (.dK us) ∧ VP K H vs t ∧ VP K H us u ∧ Q (.bl (neg ^^ eqP t u)) H) ∨
  ∃ (vs us : List (List L2.Key × V)) (t u : List (List L2.Key × PyData)), Rd H a (.dT vs) ∧ Rd H b (.dT us) ∧ VP K H vs t ∧ VP K H us u ∧ Q (.bl (neg ^^ eqP t u)) H)
section
variable {X : Cx} {pins : List (Addr × Obj)} {σ : L2.St} {H : Hp} {s : Shared}
theorem vk_of (I : Inv X pins σ H s) {κ : Type} [DecidableEq κ] {vs : List (κ × V)} {ws : List (κ × Value)} {t : List (κ × PyData)} (r : KV vs ws) (q : VP X.K H vs t) : VKr s.heap ws t := by
  unfold KV at r
  induction r generalizing t with
  | nil => cases q; exact .nil
  | @cons p p' _ _ g _ ih =>
    cases q with
    | cons h z => exact .cons ⟨g.1.symm.trans h.1, Dp.reads I _ _ _ h.2.1 g.2, h.2.2⟩ (ih z)
theorem kt_vk (I : Inv X pins σ H s) {vs : List (List L2.Key × V)} {xs : List (List L2.Key × Addr × Value)} {t : List (List L2.Key × PyData)} (r : KT H vs xs) (q : VP X.K H vs t) : VKr s.heap (xs.map fun x => (x.1, x.2.2)) t := by
  induction r generalizing t with
  | nil => cases q; exact .nil
  | @cons p p' _ _ g _ ih =>
    cases q with
    | cons h z => exact .cons ⟨g.1.symm.trans h.1, Dp.reads I _ _ _ h.2.1 g.2.2, h.2.2⟩ (ih z)
theorem atKey_vals {κ : Type} [DecidableEq κ] (k : κ) : ∀ xs : List (κ × Addr × Value), valueAt (xs.map fun x => (x.1, x.2.2)) k = (atKey xs k).map (·.2)
  | [] => rfl
  | x :: r => by
    have ih := atKey_vals k r
    unfold valueAt atKey at ih ⊢
    rw [List.map_cons, List.find?_cons, List.find?_cons]
    by_cases e : x.1 = k
    · rw [decide_eq_true e]; rfl
    · rw [decide_eq_false e]; exact ih
/-- the i-th pair is found alike -/
def eAt {κ : Type} [DecidableEq κ] (t u : List (κ × PyData)) (i : Nat) : Bool := match t[i]? with
  | some p => hitP u p
  | none => false
theorem eAt_all {κ : Type} [DecidableEq κ] (t u : List (κ × PyData)) : (List.range t.length).all (eAt t u) = t.all (hitP u) := by
  rw [Bool.eq_iff_iff, List.all_eq_true, List.all_eq_true]
  constructor
  · intro h p hp
    obtain ⟨i, hi, e⟩ := List.getElem_of_mem hp
    have := h i (List.mem_range.mpr hi)
    unfold eAt at this
    rw [List.getElem?_eq_getElem hi, e] at this
    exact this
  · intro h i hi
    have hi := List.mem_range.mp hi
    unfold eAt
    rw [List.getElem?_eq_getElem hi]
    exact h _ (List.getElem_mem hi)
theorem eq_dics (hu : X.A.units + 66 < cLine) {neg : Bool} (I : Inv X pins σ H s) {x y : V} {v u : Value} {Q : VK} (rx : RelV x v) (ry : RelV y u) (h : rEqDic X.K neg x y H Q) : wpAny (model X.prog X.w) X.A (compareOp (if neg = true then .NotEq else .Eq) v u) (EP X pins σ Q) X.xe s := by
  have h1 : X.A.in1.units + 64 < cLine := by show X.A.units + 1 + 64 < cLine; omega
  obtain ⟨a, b, rfl, rfl, h⟩ := h
  cases rx; cases ry
  rcases h with ⟨vs, us, t, u, ha, hb, ta, tb, q⟩ | ⟨vs, us, t, u, ha, hb, ta, tb, q⟩
  · obtain ⟨_, ya, va, ra, da⟩ := dk_rd I.hok ha
    obtain ⟨_, yb, vb, rb, db⟩ := dk_rd I.hok hb
    have ka := vk_of I ra ta
    have kb := vk_of I rb tb
    have hits := vk_hits (A := X.A) (by show X.A.units + 1 + 64 < cLine; omega) ka kb
    have el : (va.length == vb.length && t.all (hitP u)) = eqP t u := by unfold eqP; rw [Paired.length ka, Paired.length kb]
    cases neg with
    | false =>
      rw [if_neg (by decide)]
      refine keq_eq ya yb da db (by omega) (fun _ => hits) ?_
      rw [el]
      exact ⟨.bl _, H, I, rfl, by rw [Bool.false_xor] at q; exact q⟩
    | true =>
      rw [if_pos rfl]
      refine keq_ne ya yb da db (by omega) (fun _ => hits) ?_
      rw [el]
      exact ⟨.bl _, H, I, rfl, by rw [Bool.true_xor] at q; exact q⟩
  · obtain ⟨_, ya, xa, ra, da⟩ := dt_rd I.hok ha
    obtain ⟨_, yb, xb, rb, db⟩ := dt_rd I.hok hb
    have ka := kt_vk I ra ta
    have kb := kt_vk I rb tb
    have l1 : xa.length = t.length := by have := Paired.length ka; rwa [List.length_map] at this
    have l2 : xb.length = u.length := by have := Paired.length kb; rwa [List.length_map] at this
    have z := heap_slot (A := X.A) (E := X.xe) (e := eAt t u) (Q := EP X pins σ Q) ya yb da db (tupleKind_room_in1 (A := X.A) (by omega)) (by omega) fun i k p v hi => by
      have hi2 : (xa.map fun x => (x.1, x.2.2))[i]? = some (k, v) := by rw [List.getElem?_map, hi]; rfl
      obtain ⟨q', ht, g1, ⟨as, g2⟩, g3⟩ := paired_get ka hi2
      have g1 : k = q'.1 := g1
      have ee : eAt t u i = hitP u q' := by unfold eAt; rw [ht]
      rw [ee]
      rcases vk_at kb k with ⟨z1, z2⟩ | ⟨y, d, z1, z2, ⟨bs, r2⟩, s2⟩
      · refine .inl ⟨?_, by unfold hitP; rw [← g1, z2]⟩
        rw [atKey_vals] at z1
        exact Option.map_eq_none_iff.mp z1
      · rw [atKey_vals, Option.map_eq_some_iff] at z1
        obtain ⟨p2, z3, rfl⟩ := z1
        refine .inr ⟨p2, z3, ?_⟩
        have : hitP u q' = PyData.eqv q'.2 d := by unfold hitP; rw [← g1, z2]
        rw [this]
        exact keq_at g2 r2 g3 s2 h1
    have el : (xa.length == xb.length && (List.range xa.length).all (eAt t u)) = eqP t u := by unfold eqP; rw [← eAt_all, l1, l2]
    rw [el] at z
    cases neg with
    | false =>
      rw [if_neg (by decide)]
      exact z.1 ⟨.bl _, H, I, rfl, by rw [Bool.false_xor] at q; exact q⟩
    | true =>
      rw [if_pos rfl]
      exact z.2 ⟨.bl _, H, I, rfl, by rw [Bool.true_xor] at q; exact q⟩
end
section
variable {X : Cx} {K : PySem.W.Frag}
theorem op_eqDic (hu : X.A.units + 66 < cLine) : OpR X (compareOp .Eq) (rEqDic X.K false) := fun pins s σ H x y v u Q I rx ry h => by
  have := eq_dics hu I rx ry h
  rwa [if_neg (by decide)] at this
theorem op_neDic (hu : X.A.units + 66 < cLine) : OpR X (compareOp .NotEq) (rEqDic X.K true) := fun pins s σ H x y v u Q I rx ry h => by
  have := eq_dics hu I rx ry h
  rwa [if_pos rfl] at this
def datT {κ : Type} (n : Nat) (t : List (κ × D)) : Prop := ∀ p ∈ t, Dat n p.2
def dEqDic (neg : Bool) (x : D) (y : D) (C : Cells) (P : DK) : Prop := match kvsK x C, kvsK y C with
  | some t, some u => ∃ n, n ≤ 60 ∧ datT n t ∧ datT n u ∧ P (.bl (neg ^^ eqT t u)) C
  | _, _ => match kvsT x C, kvsT y C with
    | some t, some u => ∃ n, n ≤ 60 ∧ datT n t ∧ datT n u ∧ P (.bl (neg ^^ eqT t u)) C
    | _, _ => False
theorem vp_of {F H : Hp} (ex : Ex F H) {κ : Type} [DecidableEq κ] {n : Nat} (hn : n ≤ 60) {vs : List (κ × V)} {t : List (κ × D)} (r : TP K F vs t) : datT n t → VP K H vs (pyT t) := by
  induction r with
  | nil => exact fun _ => .nil
  | @cons p q _ _ g _ ih => exact fun h => .cons ⟨g.1, rep_dp ex (h q List.mem_cons_self) _ g.2, dat_shaped (h q List.mem_cons_self) hn⟩ (ih fun z hz => h z (List.mem_cons_of_mem _ hz))
theorem s_eqDic {neg : Bool} : SimR K (rEqDic K neg) (dEqDic neg) := fun F C H x y dx dy P Q hs rx ry w k => by
  unfold dEqDic at w
  split at w
  · rename_i t u h1 h2
    obtain ⟨n, hn, d1, d2, w⟩ := w
    obtain ⟨a, vs, rfl, g1, g2⟩ := kvsK_rd hs rx h1
    obtain ⟨b, us, rfl, g3, g4⟩ := kvsK_rd hs ry h2
    refine ⟨a, b, rfl, rfl, .inl ⟨vs, us, pyT t, pyT u, g1, g3, vp_of hs.ex hn g2.pair d1, vp_of hs.ex hn g4.pair d2, ?_⟩⟩
    rw [eqP_py]
    exact k _ F H _ C (Ex.refl F) hs (.bl _) w
  · split at w
    · rename_i t u h1 h2
      obtain ⟨n, hn, d1, d2, w⟩ := w
      obtain ⟨a, vs, rfl, g1, g2⟩ := kvsT_rd hs rx h1
      obtain ⟨b, us, rfl, g3, g4⟩ := kvsT_rd hs ry h2
      refine ⟨a, b, rfl, rfl, .inr ⟨vs, us, pyT t, pyT u, g1, g3, vp_of hs.ex hn g2.pair d1, vp_of hs.ex hn g4.pair d2, ?_⟩⟩
      rw [eqP_py]
      exact k _ F H _ C (Ex.refl F) hs (.bl _) w
    · exact w.elim
theorem _root_.L2.Room.units3 {k : Nat} {A : Around} (r : L2.Room k A) : A.units + 66 < cLine := by have := r.un; omega
end
end DD

set_option Elab.async false
set_option linter.all false
set_option maxRecDepth 100000
set_option maxHeartbeats 4000000
/-! Dicts: displays. -/
namespace DD
open PySem L2 PyProof.Rows PySem.W

def wPairs : List (DE × DE) → DEnv → Cells → (List (D × D) → Cells → Prop) → DX → Prop
  | [], _, C, P, _ => P [] C
  | (k, v) :: r, ρ, C, P, PX => k ρ C (fun x C1 => v ρ C1 (fun y C2 => wPairs r ρ C2 (fun ps C3 => P ((x, y) :: ps) C3) PX) PX) PX
def pairsK : List (D × D) → Option (List (L2.Key × D))
  | [] => some []
  | (x, y) :: r => match keyOf x, pairsK r with
    | some k, some t => some ((k, y) :: t)
    | _, _ => none
def mergeD (t : List (L2.Key × D)) : List (L2.Key × D) → List (L2.Key × D)
  | [] => t
  | p :: r => mergeD (puD t p.1 p.2) r
def wDisp (ts : List (DE × DE)) (ρ : DEnv) (C : Cells) (P : DK) (PX : DX) : Prop := ∀ p, C p = none → wPairs ts ρ (cput C p (.dK [])) (fun ps C2 => C2 p = some (.dK []) ∧ match pairsK ps with
  | some t => t.length ≤ 15 ∧ P (.ptr p) (cput C2 p (.dK (mergeD [] t)))
  | none => False) PX
/-- a display that does not change any more -/
def wDispF (ts : List (DE × DE)) (ρ : DEnv) (C : Cells) (P : DK) (PX : DX) : Prop := ∀ p, C p = none → wPairs ts ρ (cput C p (.dK [])) (fun ps C2 => C2 p = some (.dK []) ∧ match pairsK ps with
  | some t => t.length ≤ 15 ∧ ∃ C3, Sub C3 C2 ∧ C3 p = none ∧ P (.dK (mergeD [] t)) C3
  | none => False) PX
section
variable {X : Cx} {W : WX} {K : PySem.W.Frag}
abbrev tPs (K : PySem.W.Frag) (W : WX) (ts : List (DE × DE)) : List (TE × TE) := ts.map fun p => (tE K W p.1, tE K W p.2)
theorem pairs_ok {F : Hp} {t : List (L2.Key × D)} : ∀ {vs : List (V × V)} {ps : List (D × D)} {t : List (L2.Key × D)}, Paired (fun p q => Rep K F p.1 q.1 ∧ Rep K F p.2 q.2) vs ps → pairsK ps = some t → ∃ ks : List (L2.Key × V), vs = ks.map (fun kv => (kV kv.1, kv.2)) ∧ TP K F ks t
  | [], [], t, .nil, h => by cases h; exact ⟨[], rfl, .nil⟩
  | p :: _, (x, y) :: ps, t, .cons g r, h => by
    simp only [pairsK] at h
    split at h
    · rename_i k t' hk ht
      cases h
      obtain ⟨ks, e, z⟩ := pairs_ok (t := t') r ht
      refine ⟨(k, p.2) :: ks, ?_, .cons ⟨rfl, g.2⟩ z⟩
      rw [List.map_cons, ← e, ← key_rep g.1 hk]
    · cases h
theorem tp_merge {F : Hp} : ∀ {more : List (L2.Key × V)} {t : List (L2.Key × D)} {vs : List (L2.Key × V)} {u : List (L2.Key × D)}, TP K F more t → TP K F vs u → TP K F (mergeK vs more) (mergeD u t)
  | [], [], vs, u, .nil, q => q
  | p :: more, d :: t, vs, u, .cons g r, q => by
    show TP K F (mergeK (putK vs p.1 p.2) more) (mergeD (puD u d.1 d.2) t)
    exact tp_merge r (by rw [g.1]; exact tp_put q _ g.2)
theorem i_pairs {F0 : Hp} : ∀ {ts : List (DE × DE)} {σ : L2.St} {H : Hp} {F : Hp} {C : Cells} {ρ : DEnv} {P : List (D × D) → Cells → Prop} {PX : DX} {Q : List (V × V) → Hp → Prop}, Hs K F C H → EnvR K F σ ρ → ExR K F W PX → wPairs ts ρ C P PX →
    (∀ vs F' H' ps C', Ex F F' → Hs K F' C' H' → Paired (fun p q => Rep K F' p.1 q.1 ∧ Rep K F' p.2 q.2) vs ps → P ps C' → Q vs H') → tPairs (tPs K W ts) σ H Q
  | [], σ, H, F, C, ρ, P, PX, Q, hs, en, xr, w, k => k [] F H [] C (Ex.refl F) hs .nil w
  | (a, b) :: ts, σ, H, F, C, ρ, P, PX, Q, hs, en, xr, w, k =>
    ⟨F, C, ρ, _, PX, hs, en, xr, w, fun x F1 H1 dx C1 e1 h1 rx q => ⟨F1, C1, ρ, _, PX, h1, en.mono e1, xr.mono e1, q, fun y F2 H2 dy C2 e2 h2 ry q2 =>
      i_pairs (F0 := F0) h2 (en.mono (e1.trans e2)) (xr.mono (e1.trans e2)) q2 fun vs F3 H3 ps C3 e3 h3 r3 q3 =>
        k ((x, y) :: vs) F3 H3 ((dx, dy) :: ps) C3 ((e1.trans e2).trans e3) h3 (.cons ⟨rx.mono (e2.trans e3), ry.mono e3⟩ r3) q3⟩⟩
variable {pos : Pos} {keys : List (Option Expr)} {values : List Expr} {ts : List (DE × DE)}
theorem dps_nil : PPs X pos [] [] (tPs X.K W []) := pps_nil
theorem dps_cons {k v : Expr} {ks : List (Option Expr)} {vs : List Expr} {wk wv : DE} (hk : PE X k (tE X.K W wk)) (hv : PE X v (tE X.K W wv)) (hr : PPs X pos ks vs (tPs X.K W ts)) : PPs X pos (some k :: ks) (v :: vs) (tPs X.K W ((wk, wv) :: ts)) := pps_cons hk hv hr
theorem d_disp (h : PPs X pos keys values (tPs X.K W ts)) (hall : keys.all (·.isSome) = true := by rfl) (hl : keys.length = values.length := by rfl) (h0 : keys ≠ [] := by exact fun z => by cases z) (h15 : keys.length ≤ 15 := by decide) : PE X (.Dict keys values pos) (tE X.K W (wDisp ts)) :=
  PE.imp (pe_disp h hall hl h0 h15) fun σ H Q ⟨F, C, ρ, P, PX, hs, en, xr, w, k⟩ => fun p hp => by
  obtain ⟨f0, c0⟩ := hs.fresh hp
  refine i_pairs (F0 := F) (hs.put (c := .dK []) f0 ⟨[], upd_same, .nil⟩) en xr (w p c0) fun vs F1 H1 ps C1 e1 h1 r q => ?_
  obtain ⟨hc, q⟩ := q
  obtain ⟨g0, us, g1, g2⟩ := h1.cell p _ hc
  cases g2
  refine ⟨g1, ?_⟩
  split at q
  · rename_i t ht
    obtain ⟨ks, e, z⟩ := pairs_ok (t := t) r ht
    refine ⟨ks, e, by rw [tp_len z]; exact q.1, k _ F1 _ _ _ e1 (h1.put (c := .dK (mergeD [] t)) g0 ⟨_, upd_same, RepK.of (tp_merge z .nil)⟩) (.ptr p) q.2⟩
  · exact q.elim
theorem d_dispF (h : PPs X pos keys values (tPs X.K W ts)) (hall : keys.all (·.isSome) = true := by rfl) (hl : keys.length = values.length := by rfl) (h0 : keys ≠ [] := by exact fun z => by cases z) (h15 : keys.length ≤ 15 := by decide) : PE X (.Dict keys values pos) (tE X.K W (wDispF ts)) :=
  PE.imp (pe_fz (pe_disp h hall hl h0 h15)) fun σ H Q ⟨F, C, ρ, P, PX, hs, en, xr, w, k⟩ => fun p hp => by
  obtain ⟨f0, c0⟩ := hs.fresh hp
  refine i_pairs (F0 := F) (hs.put (c := .dK []) f0 ⟨[], upd_same, .nil⟩) en xr (w p c0) fun vs F1 H1 ps C1 e1 h1 r q => ?_
  obtain ⟨hc, q⟩ := q
  obtain ⟨g0, us, g1, g2⟩ := h1.cell p _ hc
  cases g2
  refine ⟨g1, ?_⟩
  split at q
  · rename_i t ht
    obtain ⟨ks, e, z⟩ := pairs_ok (t := t) r ht
    obtain ⟨hz, C3, s3, n3, q⟩ := q
    refine ⟨ks, e, by rw [tp_len z]; exact hz, .inr ⟨p, _, upd_same, trivial, fun od => ?_⟩⟩
    have h2 : Hs X.K F1 C3 H1 := h1.sub s3
    obtain ⟨e4, h4⟩ := frz_dic (o := .dK (mergeK [] ks)) (C2 := C3) h2 g0 (Sub.refl _) n3 od
    rw [upd_upd]
    exact k _ _ _ _ _ (e1.trans e4) h4 (.dK upd_same ((RepK.of (tp_merge z .nil)).mono e4)) q
  · exact q.elim
end
end DD

set_option Elab.async false
set_option linter.all false
set_option maxRecDepth 100000
set_option maxHeartbeats 4000000
/-! xs == [], xs != [] of lists of anything. -/
namespace DD
open PySem L2 PyProof.Rows PySem.W

def rEmp (K : PySem.W.Frag) (neg : Bool) : R2 := fun x y H Q => ∃ a b xs, x = .ref a ∧ y = .ref b ∧ SqL K H a xs ∧ SqL K H b [] ∧ Q (.bl (neg ^^ xs.isEmpty)) H
section
variable {X : Cx}
theorem op_eqEmp (hu : X.A.units + 64 < cLine) : OpR X (compareOp .Eq) (rEmp X.K false) := by
  intro pins s σ H x y v u Q I rx ry h
  obtain ⟨a, b, xs, rfl, rfl, ha, hb, q⟩ := h
  cases xs with
  | nil => exact op_eqD hu pins s σ H _ _ _ _ Q I rx ry ⟨.list [], .list [], .lst ha .nil, .lst hb .nil, rfl, rfl, q⟩
  | cons z zs =>
    cases rx; cases ry
    obtain ⟨i1, r1, p1, _⟩ := I.list ha
    obtain ⟨i2, r2, p2, _⟩ := I.list hb
    cases r2
    have hl := r1.length
    exact SeqAt.RcAt.lists_lengths p1.isList p2.isList (by rw [List.size_toArray, ← hl]; simp) (by omega) _ _ _ _ ⟨.bl _, H, I, rfl, q⟩
theorem op_neEmp (hu : X.A.units + 64 < cLine) : OpR X (compareOp .NotEq) (rEmp X.K true) := by
  intro pins s σ H x y v u Q I rx ry h
  obtain ⟨a, b, xs, rfl, rfl, ha, hb, q⟩ := h
  cases xs with
  | nil => exact op_neD hu pins s σ H _ _ _ _ Q I rx ry ⟨.list [], .list [], .lst ha .nil, .lst hb .nil, rfl, rfl, q⟩
  | cons z zs =>
    cases rx; cases ry
    obtain ⟨i1, r1, p1, _⟩ := I.list ha
    obtain ⟨i2, r2, p2, _⟩ := I.list hb
    cases r2
    have hl := r1.length
    exact SeqAt.RcNeAt.lists_lengths p1.isList p2.isList (by rw [List.size_toArray, ← hl]; simp) (by omega) _ _ _ _ ⟨.bl _, H, I, rfl, q⟩
end
def dEmp (neg : Bool) (x : D) (y : D) (C : Cells) (P : DK) : Prop := match seqOf x C, seqOf y C with
  | some ds, some [] => P (.bl (neg ^^ ds.isEmpty)) C
  | _, _ => False
theorem s_emp {K : PySem.W.Frag} {neg : Bool} : SimR K (rEmp K neg) (dEmp neg) := fun F C H x y dx dy P Q hs rx ry w k => by
  unfold dEmp at w
  split at w
  · rename_i ds h1 h2
    obtain ⟨a, xs, rfl, g1, g2⟩ := seq_of hs rx h1
    obtain ⟨b, ys, rfl, g3, g4⟩ := seq_of hs ry h2
    cases g4
    refine ⟨a, b, xs, rfl, rfl, g1, g3, ?_⟩
    have : xs.isEmpty = ds.isEmpty := by cases g2 <;> rfl
    rw [this]
    exact k _ F H _ C (Ex.refl F) hs (.bl _) w
  · exact w.elim
end DD

set_option Elab.async false
set_option linter.all false
set_option maxRecDepth 100000
set_option maxHeartbeats 4000000
/-! Tools for tables: keys, equal tables. -/
namespace DD
open PySem L2
section
variable {κ : Type} [DecidableEq κ]
theorem mem_keys (k : κ) : ∀ t : List (κ × D), k ∈ t.map (·.1) ↔ (vaD t k).isSome = true
  | [] => by simp [vaD]
  | p :: t => by
    by_cases e : p.1 = k
    · rw [vaD_hit e, List.map_cons]; simp [e]
    · rw [vaD_miss e, List.map_cons, List.mem_cons, ← mem_keys k t]
      constructor
      · rintro (h | h)
        · exact absurd h.symm e
        · exact h
      · exact .inr
theorem vaD_mem {k : κ} {d : D} : ∀ {t : List (κ × D)}, vaD t k = some d → (k, d) ∈ t
  | p :: t, h => by
    by_cases e : p.1 = k
    · rw [vaD_hit e] at h
      cases h
      rw [← e]
      exact List.mem_cons_self
    · rw [vaD_miss e] at h
      exact List.mem_cons_of_mem _ (vaD_mem h)
theorem vaD_of_mem {k : κ} {d : D} : ∀ {t : List (κ × D)}, (t.map (·.1)).Nodup → (k, d) ∈ t → vaD t k = some d
  | p :: t, hn, h => by
    rw [List.map_cons, List.nodup_cons] at hn
    rcases List.mem_cons.mp h with h | h
    · subst h; exact vaD_hit rfl
    · have : ¬ p.1 = k := fun e => hn.1 (by rw [e]; exact List.mem_map.mpr ⟨_, h, rfl⟩)
      rw [vaD_miss this]
      exact vaD_of_mem hn.2 h
theorem puD_nodup {t : List (κ × D)} (k : κ) (d : D) (h : (t.map (·.1)).Nodup) : ((puD t k d).map (·.1)).Nodup := by
  unfold puD
  split
  · have : ((t.map fun p => if p.1 = k then (p.1, d) else p).map (·.1)) = t.map (·.1) := by
      rw [List.map_map]
      refine List.map_congr_left fun p _ => ?_
      show (if p.1 = k then (p.1, d) else p).1 = p.1
      split <;> rfl
    rw [this]; exact h
  · rename_i hno
    rw [List.map_append, List.nodup_append]
    refine ⟨h, by simp, fun a ha b hb => ?_⟩
    simp only [List.map_cons, List.map_nil, List.mem_cons, List.not_mem_nil, or_false] at hb
    subst hb
    intro e
    subst e
    rw [mem_keys, ← any_vaD] at ha
    exact hno ha
theorem drD_nodup {t : List (κ × D)} (k : κ) (h : (t.map (·.1)).Nodup) : ((drD t k).map (·.1)).Nodup := by
  unfold drD
  exact (List.Sublist.map (fun p : κ × D => p.1) (List.filter_sublist (p := fun p => decide (p.1 ≠ k)) (l := t))).nodup h
theorem nd_map {α β : Type} {f : α → β} : ∀ {L : List α}, L.Nodup → (∀ x ∈ L, ∀ y ∈ L, f x = f y → x = y) → (L.map f).Nodup
  | [], _, _ => List.nodup_nil
  | x :: L, hn, h => by
    rw [List.nodup_cons] at hn
    rw [List.map_cons, List.nodup_cons]
    refine ⟨fun hm => ?_, nd_map hn.2 fun a ha b hb => h a (List.mem_cons_of_mem _ ha) b (List.mem_cons_of_mem _ hb)⟩
    obtain ⟨y, hy, e⟩ := List.mem_map.mp hm
    have := h y (List.mem_cons_of_mem _ hy) x List.mem_cons_self e
    subst this
    exact hn.1 hy
/-- two tables that answer alike are equal -/
theorem keys_perm {t u : List (κ × D)} (ht : (t.map (·.1)).Nodup) (hu : (u.map (·.1)).Nodup) (h : ∀ k, (vaD t k).isSome = (vaD u k).isSome) : (t.map (·.1)).Perm (u.map (·.1)) :=
  (List.perm_ext_iff_of_nodup ht hu).mpr fun k => by rw [mem_keys, mem_keys, h k]
theorem eqT_of {t u : List (κ × D)} {n : Nat} (ht : (t.map (·.1)).Nodup) (hu : (u.map (·.1)).Nodup) (hd : datT n t) (h : ∀ k, vaD t k = vaD u k) : eqT t u = true := by
  unfold eqT
  have hl : t.length = u.length := by
    have := (keys_perm ht hu fun k => by rw [h k]).length_eq
    rwa [List.length_map, List.length_map] at this
  rw [hl, beq_self_eq_true, Bool.true_and, List.all_eq_true]
  intro p hp
  unfold hitD
  rw [← h p.1, vaD_of_mem (d := p.2) ht hp]
  exact eqb_self (hd p hp)
/-- a table written by a list -/
theorem vaD_map {α : Type} {key : α → κ} {val : α → D} {a : α} : ∀ {Z : List α}, (∀ x ∈ Z, key x = key a → x = a) → a ∈ Z → vaD (Z.map fun x => (key x, val x)) (key a) = some (val a)
  | z :: Z, hi, h => by
    rw [List.map_cons]
    by_cases e : key z = key a
    · have := hi z List.mem_cons_self e
      subst this
      exact vaD_hit (p := (key z, val z)) rfl
    · rw [vaD_miss (p := (key z, val z)) e]
      refine vaD_map (fun x hx => hi x (List.mem_cons_of_mem _ hx)) ?_
      rcases List.mem_cons.mp h with h | h
      · subst h; exact absurd rfl e
      · exact h
theorem vaD_map_none {α : Type} {key : α → κ} {val : α → D} {k : κ} : ∀ {Z : List α}, (∀ x ∈ Z, key x ≠ k) → vaD (Z.map fun x => (key x, val x)) k = none
  | [], _ => rfl
  | z :: Z, h => by
    rw [List.map_cons, vaD_miss (p := (key z, val z)) (h z List.mem_cons_self)]
    exact vaD_map_none fun x hx => h x (List.mem_cons_of_mem _ hx)
end
end DD

set_option Elab.async false
set_option linter.all false
set_option maxRecDepth 100000
set_option maxHeartbeats 4000000
/-! min of a list of texts. -/
namespace DD
open PySem L2 PyProof.Rows PySem.W
def ltS (x y : Str) : Bool := dataLt (.str x) (.str y)
def minS : List Str → Str
  | [] => ⟨#[]⟩
  | z :: r => r.foldl (fun a y => if ltS y a then y else a) z
theorem minD_strs (z : Str) : ∀ zs : List Str, minD (.str z) (zs.map .str) = .str (zs.foldl (fun a y => if ltS y a then y else a) z)
  | [] => rfl
  | y :: r => by
    have h1 := minD_strs y r
    have h2 := minD_strs z r
    unfold minD at h1 h2 ⊢
    rw [List.map_cons, List.foldl_cons, List.foldl_cons]
    by_cases g : ltS y z = true
    · rw [if_pos g, if_pos (show dataLt (.str y) (.str z) = true from g)]; exact h1
    · rw [if_neg g, if_neg (show ¬ dataLt (.str y) (.str z) = true from g)]; exact h2
theorem strs_readsAll {h : Heap} : ∀ {zs : List Str} {us : List Value}, Vals (zs.map V.str) us → ReadsAll h us (zs.map PyData.str) []
  | [], _, .nil => .nil
  | z :: zs, _, .cons a b => by
    obtain ⟨t, rfl⟩ := (show ∃ t, _ = Value.str z t from a)
    exact .cons (.str z t) (strs_readsAll b)
theorem depth_strs : ∀ zs : List Str, PyData.depthAll (zs.map PyData.str) = 0
  | [] => rfl
  | z :: zs => by rw [List.map_cons]; simp [PyData.depthAll, PyData.depth, depth_strs zs]
def rMinS (K : PySem.W.Frag) : List V → Hp → VK → Prop := fun xs H Q => ∃ a zs, xs = [.ref a] ∧ SqL K H a (zs.map V.str) ∧ zs ≠ [] ∧ Q (.str (minS zs)) H
theorem cr_minS {X : Cx} (hc : X.calm = true) (hu : X.A.units + 64 < cLine) : CallR X (.builtin "min") (rMinS X.K) := by
  intro pins s σ H xs us Q I r h
  obtain ⟨a, zs, rfl, hs, hne, q⟩ := h
  rw [Vals.ref1 r]
  obtain ⟨its, rv, hl, _⟩ := I.list hs
  cases zs with
  | nil => exact absurd rfl hne
  | cons z zs =>
    refine min_list_data (I.ok.hd hc) hl.isList (xs := zs.map .str) (x := .str z) (as := []) (by simpa using strs_readsAll (zs := z :: zs) rv) ⟨?_, ?_⟩ ?_ fun i v h' tk bs hv hr hk => ?_
    · intro x hx y hy
      rw [← List.map_cons (f := PyData.str)] at hx hy
      obtain ⟨x', _, rfl⟩ := List.mem_map.mp hx
      obtain ⟨y', _, rfl⟩ := List.mem_map.mp hy
      simp [alike]
    · intro x hx
      rw [← List.map_cons (f := PyData.str)] at hx
      obtain ⟨x', _, rfl⟩ := List.mem_map.mp hx
      exact fun e => by cases e
    · rw [← List.map_cons (f := PyData.str), depth_strs]; omega
    · rw [minD_strs] at hr
      have hx : ∃ t, v = Value.str (minS (z :: zs)) t := by
        cases hr
        exact ⟨_, rfl⟩
      exact ⟨.str _, H, I.kept hk, hx, q⟩
def dMinS (ds : List D) (C : Cells) (P : DK) : Prop := match ds with
  | [x] => ∃ zs, seqOf x C = some (zs.map D.str) ∧ zs ≠ [] ∧ P (.str (minS zs)) C
  | _ => False
theorem s_minS {K : PySem.W.Frag} : SimA K (rMinS K) dMinS := fun F C H xs ds P Q hs r w k => by
  unfold dMinS at w
  split at w
  · obtain ⟨v, rfl, r1⟩ := r.one
    obtain ⟨zs, hz, hne, w⟩ := w
    obtain ⟨a, us, rfl, h2, h3⟩ := seq_of hs r1 hz
    rw [h3.of_strs] at h2
    exact ⟨a, zs, rfl, h2, hne, k _ F H _ C (Ex.refl F) hs (.str _) w⟩
  · exact w.elim
theorem leD_str (x y : Str) : leD (.str x) (.str y) = !ltS y x := by
  unfold leD ltS
  rw [dataLe_eq]
  simp [D.py]
end DD

set_option Elab.async false
set_option linter.all false
set_option maxRecDepth 100000
set_option maxHeartbeats 4000000
/-! Comprehensions over a dict's keys. -/
namespace DD
open PySem L2
theorem cput_self {C : Cells} {a : Addr} {c : Cell} (h : C a = some c) : cput C a c = C := by
  funext b
  unfold cput
  split
  · rename_i e; rw [e, h]
  · rfl
/-- a dict with these entries, data or a cell -/
def DicAt (x : D) (C : Cells) (t : List (L2.Key × D)) : Prop := x = .dK t ∨ ∃ a, x = .ptr a ∧ C a = some (.dK t)
theorem DicAt.sub {x : D} {C C' : Cells} {t : List (L2.Key × D)} (h : DicAt x C t) (s : Sub C C') : DicAt x C' t := by
  rcases h with h | ⟨a, h, g⟩
  · exact .inl h
  · exact .inr ⟨a, h, s _ _ g⟩
theorem DicAt.kvs {x : D} {C : Cells} {t : List (L2.Key × D)} (h : DicAt x C t) : kvsK x C = some t := by
  rcases h with rfl | ⟨a, rfl, g⟩
  · rfl
  · simp only [kvsK, g]
theorem pVar_of {ρ : DEnv} {C : Cells} {i : Nat} {x : D} (h : ρ[i]? = some (some x)) : pVar i ρ C = some x := by unfold pVar; rw [h]
theorem wVar_of {ρ : DEnv} {C : Cells} {P : DK} {PX : DX} {i : Nat} {x : D} (h : ρ[i]? = some (some x)) : wVar i ρ C P PX = P x C := by unfold wVar; rw [h]
theorem lc_keys {t : List (L2.Key × D)} {st : Cells → Prop} {j : Nat} {wt : DT} {we : DE} {vs : List Nat} {C1 : Cells} {ρ : DEnv} {P : DK} (p : L2.Key × D → Bool) (val : L2.Key × D → D) (hf : ∀ C', Sub C1 C' → st C') (hn : t.length ≤ 100000)
    (hwt : ∀ e ∈ t, ∀ C' (Q : Bool → Cells → Prop), Sub C1 C' → Q (p e) C' → wt ((dwipe ρ vs).set j (some (keyD e.1))) C' Q noX)
    (hwe : ∀ e ∈ t, ∀ C' (Q : DK), Sub C1 C' → Q (val e) C' → we ((dwipe ρ vs).set j (some (keyD e.1))) C' Q noX)
    (hP : P (.lst ((t.filter p).map val)) C1) : LcG ⟨t.map fun e => keyD e.1, st⟩ (.name j) wt we vs ρ C1 P := by
  refine lc_map (enc := fun e : L2.Key × D => keyD e.1) (fun e => if p e = true then some (val e) else none) hf hn (fun k e C' Q hk hs hQ => ?_) ?_
  · have he := List.mem_of_getElem? hk
    simp only [Tgt.dg]
    refine hwt e he C' _ hs ?_
    cases hp : p e with
    | true =>
      rw [if_pos rfl]
      refine hwe e he C' _ hs ?_
      rw [hp, if_pos rfl] at hQ
      exact hQ
    | false =>
      rw [if_neg (by decide)]
      rw [hp, if_neg (by decide)] at hQ
      exact hQ
  · have : (t.filterMap fun e => if p e = true then some (val e) else none) = (t.filter p).map val := by
      clear hwt hwe hP hn
      induction t with
      | nil => rfl
      | cons e t ih =>
        rw [List.filterMap_cons, List.filter_cons, ih]
        cases hp : p e <;> simp
    rw [this]
    exact hP
theorem lck_gen {t : List (L2.Key × D)} {x : D} {C : Cells} {ρ : DEnv} {P : DK} {PX : DX} {i j : Nat} {wt : DT} {we : DE} {vs : List Nat} (hx : DicAt x C t) (hi : ρ[i]? = some (some x)) (p : L2.Key × D → Bool) (val : L2.Key × D → D) (hn : t.length ≤ 100000)
    (hwt : ∀ e ∈ t, ∀ C' (Q : Bool → Cells → Prop), kvsK x C' = some t → Q (p e) C' → wt ((dwipe ρ vs).set j (some (keyD e.1))) C' Q noX)
    (hwe : ∀ e ∈ t, ∀ C' (Q : DK), kvsK x C' = some t → Q (val e) C' → we ((dwipe ρ vs).set j (some (keyD e.1))) C' Q noX)
    (hP : P (.lst ((t.filter p).map val)) C) : wLockE (pVar i) (wLc (wItK (wVar i)) (.name j) wt we vs) ρ C P PX := by
  rcases hx with rfl | ⟨a, rfl, ha⟩
  · unfold wLockE
    rw [pVar_of hi]
    show wLc _ _ _ _ _ ρ C P PX
    unfold wLc wItK
    rw [wVar_of hi]
    exact lc_keys p val (fun _ _ => trivial) hn (fun e he C' Q _ h => hwt e he C' Q rfl h) (fun e he C' Q _ h => hwe e he C' Q rfl h) hP
  · unfold wLockE
    rw [pVar_of hi]
    dsimp only
    rw [ha]
    intro od ws
    unfold wLc wItK
    rw [wVar_of hi]
    dsimp only
    rw [cput_same]
    have hk : ∀ C', Sub (cput C a (.lK t od ws)) C' → kvsK (.ptr a) C' = some t := fun C' s => by
      have := s a _ cput_same
      simp only [kvsK, this]
    refine lc_keys p val (fun C' s => s a _ cput_same) hn (fun e he C' Q s h => hwt e he C' Q (hk C' s) h) (fun e he C' Q s h => hwe e he C' Q (hk C' s) h) ⟨cput_same, ?_⟩
    rw [cput_cput, cput_self ha]
    exact hP
theorem lockS_set {g : Pth} {m : Nat} {w : DE} {E : DEnds} {ρ : DEnv} {C : Cells} (h : wLockE g w ρ C (fun d C1 => E.nx (ρ.set m (some d)) C1) E.ex) : wLockS g (wSet m w) E ρ C := by
  unfold wLockE at h
  unfold wLockS
  split at h
  · rename_i a e
    split at h
    · rename_i t hc
      exact h
    · rename_i t hc
      exact h
    · rename_i h1 h2
      exact h
  · exact h
/-- a loop over items while something stays as it is -/
theorem for_mapS {α : Type} {L : List α} {enc : α → D} {st : Cells → Prop} {t : Tgt} {b : DS} {E : DEnds} {ρ : DEnv} {C : Cells} (Inv : Nat → DEnv → Cells → Prop) (h0 : Inv 0 ρ C) (hst : ∀ k ρ' C', Inv k ρ' C' → st C')
    (hs : ∀ (k : Nat) x ρ' C', L[k]? = some x → Inv k ρ' C' → match t.dg (enc x) ρ' with
      | some ρ2 => b { nx := Inv (k + 1), ct := Inv (k + 1), bk := E.nx, rt := E.rt, ex := E.ex } ρ2 C'
      | none => False)
    (hd : ∀ ρ' C', Inv L.length ρ' C' → E.nx ρ' C') : ForG ⟨L.map enc, st⟩ t b E ρ C := by
  refine ⟨Inv, h0, hst, fun k d ρ' C' hk hI => ?_, fun ρ' C' hI => hd ρ' C' (by simp only [List.length_map] at hI; exact hI)⟩
  simp only [List.getElem?_map] at hk
  cases hL : L[k]? with
  | none => rw [hL] at hk; cases hk
  | some x =>
    rw [hL] at hk
    cases hk
    exact hs k x ρ' C' hL hI
end DD

set_option Elab.async false
set_option linter.all false
set_option maxRecDepth 100000
set_option maxHeartbeats 4000000
/-! Texts: +, <, >, <=, >=, x * n, cuts; a def as a value, called by a local name. -/
namespace DD
open PySem L2
section
variable {K : PySem.W.Frag}
def dCatX (x y : D) (C : Cells) (P : DK) : Prop := match x, y with
  | .str i, .str j => i.length + j.length ≤ 100000 ∧ P (.str (i ++ j)) C
  | _, _ => False
theorem line_ge : 100000 ≤ sizeLine := by rw [sizeLine_eq]; omega
theorem s_catX : SimR K (fun x y H Q => ∃ i j, x = .str i ∧ y = .str j ∧ i.length + j.length ≤ sizeLine ∧ Q (.str (i ++ j)) H) dCatX := fun F C H x y dx dy P Q hs rx ry w k => by
  revert w
  unfold dCatX
  split
  · rintro ⟨hl, w⟩
    cases rx; cases ry
    exact ⟨_, _, rfl, rfl, Nat.le_trans hl line_ge, k _ F H _ C (Ex.refl F) hs (.str _) w⟩
  · exact fun z => z.elim
/-- the order of texts, by their signs -/
def ltX (i j : Str) : Bool := decide (i.cps.toList < j.cps.toList)
def dCmpX (f : Str → Str → Bool) (x y : D) (C : Cells) (P : DK) : Prop := match x, y with
  | .str i, .str j => P (.bl (f i j)) C
  | _, _ => False
abbrev dLtX := dCmpX ltX
abbrev dGtX := dCmpX fun i j => ltX j i
abbrev dLeX := dCmpX fun i j => !ltX j i
abbrev dGeX := dCmpX fun i j => !ltX i j
theorem s_cmpX {f : Str → Str → Bool} : SimR K (fun x y H Q => ∃ i j, x = .str i ∧ y = .str j ∧ Q (.bl (f i j)) H) (dCmpX f) := fun F C H x y dx dy P Q hs rx ry w k => by
  revert w
  unfold dCmpX
  split
  · intro w
    cases rx; cases ry
    exact ⟨_, _, rfl, rfl, k _ F H _ C (Ex.refl F) hs (.bl _) w⟩
  · exact fun z => z.elim
theorem s_ltX : SimR K (fun x y H Q => ∃ i j, x = .str i ∧ y = .str j ∧ Q (.bl (decide (i.cps.toList < j.cps.toList))) H) dLtX := s_cmpX
theorem s_gtX : SimR K (fun x y H Q => ∃ i j, x = .str i ∧ y = .str j ∧ Q (.bl (decide (j.cps.toList < i.cps.toList))) H) dGtX := s_cmpX
theorem s_leX : SimR K (fun x y H Q => ∃ i j, x = .str i ∧ y = .str j ∧ Q (.bl (!decide (j.cps.toList < i.cps.toList))) H) dLeX := s_cmpX
theorem s_geX : SimR K (fun x y H Q => ∃ i j, x = .str i ∧ y = .str j ∧ Q (.bl (!decide (i.cps.toList < j.cps.toList))) H) dGeX := s_cmpX
/-- x * n -/
def repX (z : Str) (n : Nat) : Str := ⟨(List.replicate n z.cps).foldl (· ++ ·) #[]⟩
theorem repX_flat (z : Str) (n : Nat) : (repX z n).cps.toList = (List.replicate n z.cps.toList).flatten := by
  have h : ∀ (l : List (Array Nat)) (a : Array Nat), (l.foldl (· ++ ·) a).toList = a.toList ++ (l.map Array.toList).flatten := by
    intro l
    induction l with
    | nil => intro a; simp
    | cons x l ih => intro a; rw [List.foldl_cons, ih]; simp
  unfold repX
  rw [h]
  simp
def rRepX : V → V → Hp → VK → Prop := fun x y H Q => ∃ z k, x = .str z ∧ y = .int k ∧ 0 ≤ k ∧ k ≤ 1000 ∧ z.length ≤ 100 ∧ Q (.str (repX z k.toNat)) H
theorem op_repX {X : Cx} : OpR X (binaryOp .Mult) rRepX := by
  intro pins s σ H x y v u Q I rx ry h
  obtain ⟨z, k, rfl, rfl, h0, h1, hz, q⟩ := h
  obtain ⟨t, rfl⟩ := rx
  obtain ⟨t', rfl⟩ := ry
  refine P.mul_str ?_ (fun hk hg => ?_) (fun hk hg => ?_) ?_
  · have a1 : ¬ k < -(2 ^ 63 : Int) := by omega
    have a2 : ¬ k ≥ 2 ^ 63 := by omega
    rw [decide_eq_false a1, decide_eq_false a2]; rfl
  · have h3 : (1000 : Int) ≤ (2 ^ 63 - 1 : Int) / k := by
      rw [Int.le_ediv_iff_mul_le (by omega)]
      omega
    omega
  · have hm : z.length * k.toNat ≤ 100 * 1000 := Nat.mul_le_mul hz (by omega)
    have := line_ge
    unfold Builtin.Str.tooLong
    simp only [decide_eq_false_iff_not]
    omega
  · have hm : (repX z k.toNat).length ≤ 100000 := by
      have h4 : (repX z k.toNat).length = (repX z k.toNat).cps.toList.length := by rw [Array.length_toList]; rfl
      rw [h4, repX_flat]
      have h5 : ((List.replicate k.toNat z.cps.toList).flatten).length = k.toNat * z.length := by
        rw [List.length_flatten, List.map_replicate, List.sum_replicate_nat, Array.length_toList]; rfl
      rw [h5]
      exact Nat.le_trans (Nat.mul_le_mul (by omega : k.toNat ≤ 1000) hz) (by decide)
    by_cases hk : k < 1
    · rw [if_pos hk]
      have e : k.toNat = 0 := by omega
      rw [e] at q
      exact ⟨by decide, ⟨.str Str.empty, H, I.tok _, ⟨_, rfl⟩, q⟩⟩
    · rw [if_neg hk]
      by_cases hg : (k == 1 || z.length == 0) = true
      · rw [if_pos hg]
        have e : repX z k.toNat = z := by
          have h6 : (repX z k.toNat).cps.toList = z.cps.toList := by
            rw [repX_flat]
            simp only [Bool.or_eq_true, beq_iff_eq] at hg
            rcases hg with hg | hg
            · subst hg; simp
            · have : z.cps.toList = [] := List.length_eq_zero_iff.mp (by rw [Array.length_toList]; exact hg)
              rw [this]; simp
          have h7 : (repX z k.toNat).cps = z.cps := Array.toList_inj.mp h6
          cases z; cases hr : repX _ k.toNat; rw [hr] at h7; exact congrArg Str.mk h7
        rw [e] at q
        exact ⟨.str z, H, I, ⟨_, rfl⟩, q⟩
      · rw [if_neg hg]
        exact ⟨Nat.le_trans hm line_ge, ⟨.str (repX z k.toNat), H, I.tok _, ⟨_, rfl⟩, q⟩⟩
def dRepX (x y : D) (C : Cells) (P : DK) : Prop := match x, y with
  | .str z, .int k => (0 ≤ k ∧ k ≤ 1000 ∧ z.length ≤ 100) ∧ P (.str (repX z k.toNat)) C
  | _, _ => False
theorem s_repX : SimR K rRepX dRepX := fun F C H x y dx dy P Q hs rx ry w k => by
  revert w
  unfold dRepX
  split
  · rintro ⟨⟨h0, h1, h2⟩, w⟩
    cases rx; cases ry
    exact ⟨_, _, rfl, rfl, h0, h1, h2, k _ F H _ C (Ex.refl F) hs (.str _) w⟩
  · exact fun z => z.elim
/-- x[a:b] of a text -/
def wSlX (e : DE) (lo hi : DO) (ρ : DEnv) (C : Cells) (P : DK) (PX : DX) : Prop := e ρ C (fun x C1 => lo ρ C1 (fun l C2 => hi ρ C2 (fun h C3 => match x with
  | .str z => z.length ≤ 100000 ∧ P (.str (cutS z l h)) C3
  | _ => False) PX) PX) PX
theorem d_slX {X : Cx} {W : WX} {e : Expr} {lo hi : Option Expr} {we : DE} {wl wh : DO} {p2 pos : Pos} (he : PE X e (tE X.K W we)) (hl : PO X lo (tO X.K W wl)) (hh : PO X hi (tO X.K W wh)) : PE X (.Subscript e (.Slice lo hi none p2) pos) (tE X.K W (wSlX we wl wh)) :=
  PE.imp (pe_slice sl_str he hl hh) fun σ H Q ⟨F, C, ρ, P, PX, hs, en, xr, w, k⟩ =>
  ⟨F, C, ρ, _, PX, hs, en, xr, w, fun v F1 H1 x C1 e1 h1 rv q => ⟨F1, C1, ρ, _, PX, h1, en.mono e1, xr.mono e1, q, fun l F2 H2 C2 e2 h2 q2 => ⟨F2, C2, ρ, _, PX, h2, en.mono (e1.trans e2), xr.mono (e1.trans e2), q2, fun h F3 H3 C3 e3 h3 q3 => by
    cases rv <;> first | exact q3.elim | exact ⟨_, rfl, Nat.le_trans q3.1 line_ge, k _ F3 H3 _ C3 ((e1.trans e2).trans e3) h3 (.str _) q3.2⟩⟩⟩⟩
end
/-! ### a def as a value, called by a local name -/
section
variable {X : Cx} {W : WX} {pos p : Pos} {x : Str} {e : Expr} {es : List Expr} {wr : DA} {i : Nat}
theorem d_fnV {f : Addr} (hm : X.mg x = some (.ref f)) (hg : Gl X x := by rfl) (hd : (x == ("__debug__" : Str)) = false := by decide) : PE X (.Name x pos) (tE X.K W (wC (.ptr f))) :=
  d_glob hg hm (v := .ref f) rfl (fun _ => .ptr f) hd
def wCallV (ok : List Addr) (RV : Addr → DSpX) (i : Nat) (wr : DA) (ρ : DEnv) (C : Cells) (P : DK) (PX : DX) : Prop := match (ρ[i]? : Option (Option D)) with
  | some (some (.ptr a)) => a ∈ ok ∧ wr ρ C (fun ds C1 => RV a ds C1 P (fun cls fs C3 => PX cls fs ρ C3)) PX
  | _ => False
theorem d_callV {ok : List Addr} {RV : Addr → DSpX} (tk : Takes X W) (hk : ∀ a, a ∈ ok → PySem.W.keepIn X.K (.ref a) = true)
    (G : ∀ a ds C P PX, RV a ds C P PX → ∃ (R : DSpX) (k : Nat) (fd : FuncData) (ps : List Str), R ds C P PX ∧ FnOk X.prog X.w X.K X.mg X.base (L2.CX X.prog X.w) k a fd ps (spX X.K R) ∧ Room k X.A ∧ Binds X.K fd ps [])
    (hN : X.N[i]? = some x) (hv : Vis X.env.scope x) (ha : PA X (e :: es) (tA X.K W wr)) (hdb : (x == ("__debug__" : Str)) = false := by decide) (hcd : (x == ("__classdict__" : Str)) = false := by decide)
    (he : starEach (e :: es) X.env = (false, eval e X.env) :: starEach es X.env := by rfl) (hpl : (backTo pos (starEach es X.env)).any (·.1) = false := by rfl) :
    PE X (.Call (.Name x p) (e :: es) [] pos) (tE X.K W (wCallV ok RV i wr)) := by
  refine ⟨fun pins s σ H Q I ⟨F, C, ρ, P, PX, hs, en, xr, w, kk⟩ => ?_⟩
  revert w
  show (match (ρ[i]? : Option (Option D)) with | some (some (.ptr a)) => _ | _ => False) → _
  split
  · rename_i a hp
    rintro ⟨hok, w⟩
    obtain ⟨v, hvσ, rv⟩ := en.2 i _ hp
    cases rv
    refine wpAny_Call_Name_kw (wpAny_mono ((pe_var hN hv hdb hcd).run pins s σ H (fun v H1 => v = V.ref a ∧ H1 = H) I ⟨_, hvσ, rfl, rfl⟩) (fun u s1 ⟨v, H1, I1, r, ev, eH⟩ => ?_) (fun _ _ z => z))
    subst ev
    subst eH
    have eu : u = .ref a := r
    subst eu
    refine PySem.W.callWith_K (h₀ := X.base) I1.ok.mod.kin (hk a hok) (thn (ha.run pos pins s1 σ H1 (fun vs H2 => ∃ F1 C1 ds, Ex F F1 ∧ Hs X.K F1 C1 H2 ∧ RepL X.K F1 vs ds ∧ RV a ds C1 P (fun cls fs C3 => PX cls fs ρ C3)) I1
      ⟨F, C, ρ, _, PX, hs, en, xr, w, fun vs F1 H2 ds C1 e1 h1 r q => ⟨F1, C1, ds, e1, h1, r, q⟩⟩) fun us s2 ⟨vs, H2, I2, r2, F1, C1, ds, e1, h1, rr, q⟩ => ⟨I2.kIn, ?_⟩) he hpl
    obtain ⟨R, k, fd, ps, hq, hF, hr, hb⟩ := G a ds C1 P _ q
    have hz := run_fnSD (E := WE W) hF hr hb (ds := []) (dvs := []) .nil (passAt tk σ) I2 r2 (Q := Q) (by
      rw [List.append_nil]
      exact ⟨F1, C1, ds, P, _, h1, rr, hq, kk.mono e1, KontX.of (xr.mono e1) (en.mono e1)⟩)
    simpa using hz
  · exact fun z => z.elim
end
end DD

set_option Elab.async false
set_option linter.all false
set_option maxRecDepth 100000
set_option maxHeartbeats 4000000
namespace Law
open PySem L2 DD
local macro_rules | `(tactic| walk_at "dd") => `(tactic| simp only [wFor, wLc, wYes, wSeq, wRaise, wTry, wSet, wNext, wBreak, wCont, wDrop, wRet, wRetN, wIfS, wRetF, wFrz, wAsg, wAug, wPar, wVar, wC, wNil, wCons, wOp, wUn, wCB, wTest, wAnd, wOr, wNot, wIf, wAndV, wOrV, wNotV, wChain, wTup, wLst, wLstC, wItL, wItT, wRng1, wRng2, wRng3,
  dI, dI0, dU, dEqv, dIsN, dLen, dIx, dMax2, dMin2, dAbs, dInt, dList, dListC, dTupleOf, wCall, wCallX, wMeth, wMethX, wMake, wMakeF, wMakeX, wMakeXF, frzP, wFld, wFldSet, wSetL, wAugL, wBML, dAppend, dPop, dCat, wRep, wRepC, wNoPart, wPart, wSl, wSlX, dCatX, dCmpX, dRepX, wCallV,
  endsD, endsX, startD, dput, Tgt.dg, dgs, dwipe, List.map_cons, List.map_nil, List.cons_append, List.nil_append, List.append_nil, List.length_cons, List.length_nil, List.replicate_succ, List.replicate_zero, List.getElem?_cons_zero, List.getElem?_cons_succ, List.getElem?_nil, List.set_cons_zero, List.set_cons_succ, List.set_nil, List.lookup,
  Nat.reduceAdd, Nat.reduceSub, Nat.reduceLeDiff, Option.map_some, Option.map_none, Option.bind_some, Option.bind_none, Option.isSome_some, Bool.false_xor, Bool.true_xor, Bool.not_true, Bool.not_false, decide_true, decide_false, decide_eq_true_eq, decide_eq_false_iff_not, Bool.not_eq_true, Bool.false_eq_true, reduceCtorEq, if_true, if_false, ite_true, ite_false, true_and, and_true, String.reduceBEq, String.reduceEq, ofString_eq_iff, cput_same, cput_cput, reduceIte, ↓reduceIte, atI_zero, atI_nat', atI_lit, atI_succ, atI_snoc, seqOf_lst, seqOf_ptr, itsOf_lst, itsOf_tup, itsOf_ptr, lenOf_lst, lenOf_tup, lenOf_ptr, itemOf_lst, itemOf_tup, itemOf_ptr, isSeq_ptr, isSeq_lst, fldOf_ins, fldOf_ptr, isIns_ins, isIns_ptr, dEqD, res_lst, res_tup, res_ptr, dIn, dInD, inItems, dIndex, dCatT, dExtend, wItS, dOrd, dChr, dAny, dAll, wBMS, dJoin, wDead, dMax3, dDGet, dDIn, dEmp,  wGet1, wGet2, dicGet, kvsK, kvsT, keyOf, keysOf, keysAll, isDic, dicPut, wSetD, wDelD, wNewK, wNewT, wNew0, wItK, wLockS, pVar, pFld, unl, dLenDic, dDictC, dKeyList, dSortDic, dEqDic, wPairs, wDisp, wDispF, pairsK, mergeD, Option.getD_some, Option.getD_none, or_true, true_or, Option.isSome_none, List.isEmpty_nil, List.isEmpty_cons,  List.getElem?_map, List.length_map, Int.zero_add, *])
abbrev prg : PySem.Program := PySem.Challenge.pw_copperhouse_k11_texts_and_amounts_as_oct
def topS (i : Nat) : Stmt := prg.main.body.getD i (.Pass ⟨0, 0, 0, 0⟩)
abbrev s_law_state : Stmt := topS 26
abbrev s_is_sign : Stmt := topS 14
abbrev s_read_text : Stmt := topS 17
abbrev s_read_check : Stmt := topS 23
abbrev s_read_number : Stmt := topS 8
abbrev s_unfolded : Stmt := topS 19
abbrev s_read_amount : Stmt := topS 21
abbrev s_law_refused : Stmt := topS 31
abbrev s_law_cell : Stmt := topS 25
abbrev s_law_digit : Stmt := topS 27
abbrev s_law_octets : Stmt := topS 32
abbrev s_is_plain : Stmt := topS 15
abbrev s_text_octets : Stmt := topS 16
abbrev s_law_text : Stmt := topS 28
abbrev s_number_octets : Stmt := topS 7
abbrev s_folded : Stmt := topS 18
abbrev s_amount_octets : Stmt := topS 20
abbrev s_law_amount : Stmt := topS 29
abbrev s_check_octets : Stmt := topS 22
abbrev s_law_check : Stmt := topS 30
abbrev s_law : Stmt := topS 33
theorem sc_law_state : FnScope ["cell", "k", "prime", "first", "second", "third", "fourth"] ["cell", "k"] (defScope s_law_state) := ⟨rfl, rfl, rfl, by decide +kernel, rfl, by decide +kernel, by decide +kernel⟩
theorem sc_is_sign : FnScope ["code"] ["code"] (defScope s_is_sign) := ⟨rfl, rfl, rfl, by decide +kernel, rfl, by decide +kernel, by decide +kernel⟩
theorem sc_read_text : FnScope ["octets", "place", "behind", "signs", "octet"] ["octets", "place"] (defScope s_read_text) := ⟨rfl, rfl, rfl, by decide +kernel, rfl, by decide +kernel, by decide +kernel⟩
theorem sc_read_check : FnScope ["octets", "place", "check", "octet"] ["octets", "place"] (defScope s_read_check) := ⟨rfl, rfl, rfl, by decide +kernel, rfl, by decide +kernel, by decide +kernel⟩
theorem sc_read_number : FnScope ["octets", "place", "number", "weight", "group", "octet"] ["octets", "place"] (defScope s_read_number) := ⟨rfl, rfl, rfl, by decide +kernel, rfl, by decide +kernel, by decide +kernel⟩
theorem sc_unfolded : FnScope ["number"] ["number"] (defScope s_unfolded) := ⟨rfl, rfl, rfl, by decide +kernel, rfl, by decide +kernel, by decide +kernel⟩
theorem sc_read_amount : FnScope ["octets", "place", "number", "behind"] ["octets", "place"] (defScope s_read_amount) := ⟨rfl, rfl, rfl, by decide +kernel, rfl, by decide +kernel, by decide +kernel⟩
theorem sc_law_refused : FnScope ["deed", "octets", "place"] ["deed", "octets", "place"] (defScope s_law_refused) := ⟨rfl, rfl, rfl, by decide +kernel, rfl, by decide +kernel, by decide +kernel⟩
theorem sc_law_cell : FnScope ["script", "k"] ["script", "k"] (defScope s_law_cell) := ⟨rfl, rfl, rfl, by decide +kernel, rfl, by decide +kernel, by decide +kernel⟩
theorem sc_law_digit : FnScope ["state", "many", "digit"] ["state", "many"] (defScope s_law_digit) := ⟨rfl, rfl, rfl, by decide +kernel, rfl, by decide +kernel, by decide +kernel⟩
theorem sc_law_octets : FnScope ["state", "octets", "many", "signs", "right", "spare", "octet"] ["state"] (defScope s_law_octets) := ⟨rfl, rfl, rfl, by decide +kernel, rfl, by decide +kernel, by decide +kernel⟩
theorem sc_is_plain : FnScope ["text", "sign"] ["text"] (defScope s_is_plain) := ⟨rfl, rfl, rfl, by decide +kernel, rfl, by decide +kernel, by decide +kernel⟩
theorem sc_text_octets : FnScope ["text", "sign"] ["text"] (defScope s_text_octets) := ⟨rfl, rfl, rfl, by decide +kernel, rfl, by decide +kernel, by decide +kernel⟩
theorem sc_law_text : FnScope ["text", "right", "octets", "sign"] ["text"] (defScope s_law_text) := ⟨rfl, rfl, rfl, by decide +kernel, rfl, by decide +kernel, by decide +kernel⟩
theorem sc_number_octets : FnScope ["number", "octets", "left"] ["number"] (defScope s_number_octets) := ⟨rfl, rfl, rfl, by decide +kernel, rfl, by decide +kernel, by decide +kernel⟩
theorem sc_folded : FnScope ["amount"] ["amount"] (defScope s_folded) := ⟨rfl, rfl, rfl, by decide +kernel, rfl, by decide +kernel, by decide +kernel⟩
theorem sc_amount_octets : FnScope ["amount"] ["amount"] (defScope s_amount_octets) := ⟨rfl, rfl, rfl, by decide +kernel, rfl, by decide +kernel, by decide +kernel⟩
theorem sc_law_amount : FnScope ["amount", "number", "octets"] ["amount"] (defScope s_law_amount) := ⟨rfl, rfl, rfl, by decide +kernel, rfl, by decide +kernel, by decide +kernel⟩
theorem sc_check_octets : FnScope ["check"] ["check"] (defScope s_check_octets) := ⟨rfl, rfl, rfl, by decide +kernel, rfl, by decide +kernel, by decide +kernel⟩
theorem sc_law_check : FnScope ["check", "octets", "value", "octet"] ["check"] (defScope s_law_check) := ⟨rfl, rfl, rfl, by decide +kernel, rfl, by decide +kernel, by decide +kernel⟩
theorem sc_law : FnScope ["script", "k", "state", "signs", "text", "power", "amount", "check", "code"] ["script"] (defScope s_law) := ⟨rfl, rfl, rfl, by decide +kernel, rfl, by decide +kernel, by decide +kernel⟩
/-- where things stand -/
structure Ad where
  a_law_state : Addr
  d_law_state : FuncData
  a_is_sign : Addr
  d_is_sign : FuncData
  a_read_text : Addr
  d_read_text : FuncData
  a_read_check : Addr
  d_read_check : FuncData
  a_read_number : Addr
  d_read_number : FuncData
  a_unfolded : Addr
  d_unfolded : FuncData
  a_read_amount : Addr
  d_read_amount : FuncData
  a_law_refused : Addr
  d_law_refused : FuncData
  a_law_cell : Addr
  d_law_cell : FuncData
  a_law_digit : Addr
  d_law_digit : FuncData
  a_law_octets : Addr
  d_law_octets : FuncData
  a_is_plain : Addr
  d_is_plain : FuncData
  a_text_octets : Addr
  d_text_octets : FuncData
  a_law_text : Addr
  d_law_text : FuncData
  a_number_octets : Addr
  d_number_octets : FuncData
  a_folded : Addr
  d_folded : FuncData
  a_amount_octets : Addr
  d_amount_octets : FuncData
  a_law_amount : Addr
  d_law_amount : FuncData
  a_check_octets : Addr
  d_check_octets : FuncData
  a_law_check : Addr
  d_law_check : FuncData
  a_law : Addr
  d_law : FuncData
  C_BadNumber : Addr
  C_BadOctets : Addr
structure Txt (K : PySem.W.Frag) (mg : Str → Option Value) (A : Ad) : Prop where
  F_law_state : Fun K "_law_state" "_law_state" s_law_state A.a_law_state A.d_law_state
  b_law_state : Binds K A.d_law_state ["cell", "k"] []
  g_law_state : mg "_law_state" = some (.ref A.a_law_state)
  F_is_sign : Fun K "is_sign" "is_sign" s_is_sign A.a_is_sign A.d_is_sign
  b_is_sign : Binds K A.d_is_sign ["code"] []
  g_is_sign : mg "is_sign" = some (.ref A.a_is_sign)
  F_read_text : Fun K "read_text" "read_text" s_read_text A.a_read_text A.d_read_text
  b_read_text : Binds K A.d_read_text ["octets", "place"] []
  g_read_text : mg "read_text" = some (.ref A.a_read_text)
  F_read_check : Fun K "read_check" "read_check" s_read_check A.a_read_check A.d_read_check
  b_read_check : Binds K A.d_read_check ["octets", "place"] []
  g_read_check : mg "read_check" = some (.ref A.a_read_check)
  F_read_number : Fun K "read_number" "read_number" s_read_number A.a_read_number A.d_read_number
  b_read_number : Binds K A.d_read_number ["octets", "place"] []
  g_read_number : mg "read_number" = some (.ref A.a_read_number)
  F_unfolded : Fun K "unfolded" "unfolded" s_unfolded A.a_unfolded A.d_unfolded
  b_unfolded : Binds K A.d_unfolded ["number"] []
  g_unfolded : mg "unfolded" = some (.ref A.a_unfolded)
  F_read_amount : Fun K "read_amount" "read_amount" s_read_amount A.a_read_amount A.d_read_amount
  b_read_amount : Binds K A.d_read_amount ["octets", "place"] []
  g_read_amount : mg "read_amount" = some (.ref A.a_read_amount)
  F_law_refused : Fun K "_law_refused" "_law_refused" s_law_refused A.a_law_refused A.d_law_refused
  b_law_refused : Binds K A.d_law_refused ["deed", "octets", "place"] []
  g_law_refused : mg "_law_refused" = some (.ref A.a_law_refused)
  F_law_cell : Fun K "_law_cell" "_law_cell" s_law_cell A.a_law_cell A.d_law_cell
  b_law_cell : Binds K A.d_law_cell ["script", "k"] []
  g_law_cell : mg "_law_cell" = some (.ref A.a_law_cell)
  F_law_digit : Fun K "_law_digit" "_law_digit" s_law_digit A.a_law_digit A.d_law_digit
  b_law_digit : Binds K A.d_law_digit ["state", "many"] []
  g_law_digit : mg "_law_digit" = some (.ref A.a_law_digit)
  F_law_octets : Fun K "_law_octets" "_law_octets" s_law_octets A.a_law_octets A.d_law_octets
  b_law_octets : Binds K A.d_law_octets ["state"] []
  g_law_octets : mg "_law_octets" = some (.ref A.a_law_octets)
  F_is_plain : Fun K "is_plain" "is_plain" s_is_plain A.a_is_plain A.d_is_plain
  b_is_plain : Binds K A.d_is_plain ["text"] []
  g_is_plain : mg "is_plain" = some (.ref A.a_is_plain)
  F_text_octets : Fun K "text_octets" "text_octets" s_text_octets A.a_text_octets A.d_text_octets
  b_text_octets : Binds K A.d_text_octets ["text"] []
  g_text_octets : mg "text_octets" = some (.ref A.a_text_octets)
  F_law_text : Fun K "_law_text" "_law_text" s_law_text A.a_law_text A.d_law_text
  b_law_text : Binds K A.d_law_text ["text"] []
  g_law_text : mg "_law_text" = some (.ref A.a_law_text)
  F_number_octets : Fun K "number_octets" "number_octets" s_number_octets A.a_number_octets A.d_number_octets
  b_number_octets : Binds K A.d_number_octets ["number"] []
  g_number_octets : mg "number_octets" = some (.ref A.a_number_octets)
  F_folded : Fun K "folded" "folded" s_folded A.a_folded A.d_folded
  b_folded : Binds K A.d_folded ["amount"] []
  g_folded : mg "folded" = some (.ref A.a_folded)
  F_amount_octets : Fun K "amount_octets" "amount_octets" s_amount_octets A.a_amount_octets A.d_amount_octets
  b_amount_octets : Binds K A.d_amount_octets ["amount"] []
  g_amount_octets : mg "amount_octets" = some (.ref A.a_amount_octets)
  F_law_amount : Fun K "_law_amount" "_law_amount" s_law_amount A.a_law_amount A.d_law_amount
  b_law_amount : Binds K A.d_law_amount ["amount"] []
  g_law_amount : mg "_law_amount" = some (.ref A.a_law_amount)
  F_check_octets : Fun K "check_octets" "check_octets" s_check_octets A.a_check_octets A.d_check_octets
  b_check_octets : Binds K A.d_check_octets ["check"] []
  g_check_octets : mg "check_octets" = some (.ref A.a_check_octets)
  F_law_check : Fun K "_law_check" "_law_check" s_law_check A.a_law_check A.d_law_check
  b_law_check : Binds K A.d_law_check ["check"] []
  g_law_check : mg "_law_check" = some (.ref A.a_law_check)
  F_law : Fun K "law" "law" s_law A.a_law A.d_law
  b_law : Binds K A.d_law ["script"] []
  g_law : mg "law" = some (.ref A.a_law)
  g_BadNumber : mg "BadNumber" = some (.ref A.C_BadNumber)
  x_BadNumber : XcT K A.C_BadNumber
  g_BadOctets : mg "BadOctets" = some (.ref A.C_BadOctets)
  x_BadOctets : XcT K A.C_BadOctets
  e_BadNumber_BadNumber : PySem.W.exmOne K (.ref A.C_BadNumber) (.ref A.C_BadNumber) = some true
  e_BadNumber_BadOctets : PySem.W.exmOne K (.ref A.C_BadNumber) (.ref A.C_BadOctets) = some false
  e_BadOctets_BadNumber : PySem.W.exmOne K (.ref A.C_BadOctets) (.ref A.C_BadNumber) = some false
  e_BadOctets_BadOctets : PySem.W.exmOne K (.ref A.C_BadOctets) (.ref A.C_BadOctets) = some true
  z_all : mg "all" = none
  z_int : mg "int" = none
  z_len : mg "len" = none
  z_min : mg "min" = none
  z_ord : mg "ord" = none
  z_range : mg "range" = none
  k_FIRST_SIGN : ∃ t, mg "FIRST_SIGN" = some (.int 32 t)
  k_GREATEST : ∃ t, mg "GREATEST" = some (.int 1000000000000 t)
  k_LAST_SIGN : ∃ t, mg "LAST_SIGN" = some (.int 126 t)
  k_NO_SIGN : ∃ t, mg "NO_SIGN" = some (.int 37 t)
  k_SIGNS : ∃ t, mg "SIGNS" = some (.str (Str.ofString " !\"#$.&'()*+,-./0123456789:;<=>?@ABCDEFGHIJKLMNOPQRSTUVWXYZ[\\]^_`abcdefghijklmnopqrstuvwxyz{|}~") t)
  k_TEXT_LIMIT : ∃ t, mg "TEXT_LIMIT" = some (.int 200 t)
section
variable {P : Program} {w : World} {K : PySem.W.Frag} {mg : Str → Option Value} {base : Heap} {A : Ad}
/-- a posting -/
structure Pst where
  acc : Str
  e : Nat
  l : Nat
  c : Nat
  f : Nat
  lab : Str
  am : Int
  wr : Nat
def refD (e l c : Nat) : D := .tup [.int (e : Int), .int (l : Int), .int (c : Int)]
def keyD (p : Pst) : D := .tup [refD p.e p.l p.c, .int (p.f : Int), .str p.lab]
def rowD (p : Pst) : D := .tup [.str p.acc, keyD p, .int p.am, .int (p.wr : Int)]
def signB (c : Int) : Bool := decide (32 ≤ c ∧ c ≤ 126) && decide (c ≠ 37)
def goodT (z : Str) : Prop := z.cps.size ≤ 200 ∧ ∀ c ∈ z.cps.toList, signB (c : Nat) = true
def foldN (a : Int) : Nat := if 0 ≤ a then (2 * a).toNat else (-2 * a - 1).toNat
def unfI (n : Int) : Int := if n % 2 = 0 then n / 2 else -(n + 1) / 2
def numO (n : Nat) : List Int := if h : 128 ≤ n then ((n % 128 + 128 : Nat) : Int) :: numO (n / 128) else [(n : Int)]
termination_by n
decreasing_by omega
def refO (e l c : Nat) : List Int := numO e ++ numO l ++ numO c
def txtO (z : Str) : List Int := (z.cps.size : Int) :: z.cps.toList.map fun c : Nat => (c : Int)
def pstO (p : Pst) : List Int := txtO p.acc ++ refO p.e p.l p.c ++ numO p.f ++ txtO p.lab ++ numO (foldN p.am) ++ numO p.wr
def PstOk (p : Pst) : Prop := goodT p.acc ∧ goodT p.lab ∧ p.e ≤ 1000000000 ∧ p.l ≤ 1000000000 ∧ p.c ≤ 1000000000 ∧ p.f ≤ 1000000000000 ∧ foldN p.am ≤ 1000000000000 ∧ p.wr ≤ 1000000000000
def rdGo (O : List Int) (k : Nat) : Nat → Nat → Int → Int → Option (Int × Nat)
  | 0, _, _, _ => none
  | left + 1, g, number, weight => match O[k + g]? with
    | none => none
    | some o => if o < 128 then (if (o = 0 ∧ 0 < g) ∨ 1000000000000 < number + o % 128 * weight then none else some (number + o % 128 * weight, k + g + 1)) else rdGo O k left (g + 1) (number + o % 128 * weight) (weight * 128)
def rdN (O : List Int) (k : Nat) : Option (Int × Nat) := rdGo O k 6 0 0 1
abbrev Rd (α : Type) := List Int → Nat → Option (α × Nat)
def thenR {α β : Type} (r1 : Rd α) (r2 : Rd β) : Rd (α × β) := fun O k => (r1 O k).bind fun a => (r2 O a.2).map fun b => ((a.1, b.1), b.2)
def mapR {α β : Type} (f : α → β) (r : Rd α) : Rd β := fun O k => (r O k).map fun a => (f a.1, a.2)
def chkR {α : Type} (p : α → Bool) (r : Rd α) : Rd α := fun O k => (r O k).bind fun a => if p a.1 = true then some a else none
def rdR : Rd ((Int × Int) × Int) := chkR (fun a => decide (max (max a.1.1 a.1.2) a.2 ≤ 1000000000)) (thenR (thenR rdN rdN) rdN)
def rdT (O : List Int) (k : Nat) : Option (Str × Nat) := match O[k]? with
  | none => none
  | some m => if 200 < m then none else if O.length < k + 1 + m.toNat then none else
      if ((O.drop (k + 1)).take m.toNat).all signB = true then some (⟨(((O.drop (k + 1)).take m.toNat).map Int.toNat).toArray⟩, k + 1 + m.toNat) else none
def rdA : Rd Int := mapR unfI rdN
def mkP (a : ((((Str × ((Int × Int) × Int)) × Int) × Str) × Int) × Int) : Pst := ⟨a.1.1.1.1.1, a.1.1.1.1.2.1.1.toNat, a.1.1.1.1.2.1.2.toNat, a.1.1.1.1.2.2.toNat, a.1.1.1.2.toNat, a.1.1.2, a.1.2, a.2.toNat⟩
def rdP : Rd Pst := mapR mkP (thenR (thenR (thenR (thenR (thenR rdT rdR) rdN) rdT) rdA) rdN)
def OctOk (O : List Int) : Prop := O.length ≤ 100000 ∧ ∀ o ∈ O, 0 ≤ o ∧ o ≤ 255
theorem num_go {n : Nat} (h : 128 ≤ n) : numO n = ((n % 128 + 128 : Nat) : Int) :: numO (n / 128) := by rw [numO, dif_pos h]
theorem num_end {n : Nat} (h : ¬ 128 ≤ n) : numO n = [(n : Int)] := by rw [numO, dif_neg h]
structure Good {α : Type} (r : Rd α) (X : List Int) (v : α) : Prop where
  full : ∀ pre post, r (pre ++ X ++ post) pre.length = some (v, pre.length + X.length)
  cut : ∀ pre j, j < X.length → r (pre ++ X.take j) pre.length = none
theorem good_then {α β : Type} {r1 : Rd α} {r2 : Rd β} {X1 X2 : List Int} {v1 : α} {v2 : β} (h1 : Good r1 X1 v1) (h2 : Good r2 X2 v2) : Good (thenR r1 r2) (X1 ++ X2) (v1, v2) := by
  refine ⟨fun pre post => ?_, fun pre j hj => ?_⟩
  · have e1 := h1.full pre (X2 ++ post)
    have e2 := h2.full (pre ++ X1) post
    rw [List.length_append] at e2
    unfold thenR
    rw [show pre ++ (X1 ++ X2) ++ post = pre ++ X1 ++ (X2 ++ post) by simp only [List.append_assoc], e1]
    show Option.map _ (r2 (pre ++ X1 ++ (X2 ++ post)) (pre.length + X1.length)) = _
    rw [← List.append_assoc, e2]
    simp only [Option.map_some, List.length_append, Nat.add_assoc]
  · unfold thenR
    rw [List.length_append] at hj
    by_cases g : j < X1.length
    · rw [List.take_append_of_le_length (by omega), h1.cut pre j g]
      rfl
    · rw [List.take_append, List.take_of_length_le (by omega), ← List.append_assoc, h1.full pre]
      show Option.map _ (r2 (pre ++ X1 ++ X2.take (j - X1.length)) (pre.length + X1.length)) = _
      have e2 := h2.cut (pre ++ X1) (j - X1.length) (by omega)
      rw [List.length_append] at e2
      rw [e2]
      rfl
theorem good_map {α β : Type} {r : Rd α} {X : List Int} {v : α} (f : α → β) (h : Good r X v) : Good (mapR f r) X (f v) :=
  ⟨fun pre post => by unfold mapR; rw [h.full]; rfl, fun pre j hj => by unfold mapR; rw [h.cut pre j hj]; rfl⟩
theorem good_chk {α : Type} {r : Rd α} {X : List Int} {v : α} {p : α → Bool} (hp : p v = true) (h : Good r X v) : Good (chkR p r) X v :=
  ⟨fun pre post => by unfold chkR; rw [h.full]; show (if p v = true then _ else _) = _; rw [if_pos hp], fun pre j hj => by unfold chkR; rw [h.cut pre j hj]; rfl⟩
theorem go_full : ∀ (left g m : Nat) (number weight : Int) (pre post : List Int) (k : Nat), k + g = pre.length → m < 128 ^ left → (0 < g → 0 < m) → (left = 0 → 0 < g) → number + (m : Int) * weight ≤ 1000000000000 → 0 ≤ weight →
    rdGo (pre ++ numO m ++ post) k left g number weight = some (number + (m : Int) * weight, pre.length + (numO m).length)
  | 0, g, m, number, weight, pre, post, k, hk, hm, hg, hlg, hle, hw => by
    have := hg (hlg rfl)
    omega
  | left + 1, g, m, number, weight, pre, post, k, hk, hm, hg, hlg, hle, hw => by
    by_cases h : 128 ≤ m
    · have e := num_go h
      have hget : (pre ++ numO m ++ post)[k + g]? = some ((m % 128 + 128 : Nat) : Int) := by
        rw [e, hk, List.append_assoc, List.getElem?_append_right (Nat.le_refl _), Nat.sub_self]
        rfl
      unfold rdGo
      rw [hget]
      dsimp only
      rw [if_neg (by omega)]
      have e2 : ((m % 128 + 128 : Nat) : Int) % 128 = ((m % 128 : Nat) : Int) := by omega
      rw [e2]
      have hdm : (m : Int) * weight = ((m % 128 : Nat) : Int) * weight + ((m / 128 : Nat) : Int) * (weight * 128) := by
        have : (m : Int) = ((m % 128 : Nat) : Int) + ((m / 128 : Nat) : Int) * 128 := by omega
        rw [this, Int.add_mul, Int.mul_assoc, Int.mul_comm 128 weight]
      have ih := go_full left (g + 1) (m / 128) (number + ((m % 128 : Nat) : Int) * weight) (weight * 128) (pre ++ [((m % 128 + 128 : Nat) : Int)]) post k (by rw [List.length_append, List.length_singleton]; omega) (by rw [Nat.pow_succ] at hm; omega) (fun _ => by omega) (fun _ => by omega) (by omega) (by omega)
      rw [e, show pre ++ ((m % 128 + 128 : Nat) : Int) :: numO (m / 128) ++ post = pre ++ [((m % 128 + 128 : Nat) : Int)] ++ numO (m / 128) ++ post by simp, ih]
      rw [List.length_append, List.length_singleton, List.length_cons]
      congr 2 <;> omega
    · have e := num_end h
      have hget : (pre ++ numO m ++ post)[k + g]? = some (m : Int) := by
        rw [e, hk, List.append_assoc, List.getElem?_append_right (Nat.le_refl _), Nat.sub_self]
        rfl
      unfold rdGo
      rw [hget]
      dsimp only
      have e2 : (m : Int) % 128 = m := by omega
      rw [if_pos (by omega), e2, if_neg (by
        rintro (⟨z1, z2⟩ | z)
        · have := hg z2; omega
        · omega), e]
      simp only [List.length_singleton]
      congr 2
      omega
theorem go_cut : ∀ (left g m j : Nat) (number weight : Int) (pre : List Int) (k : Nat), k + g = pre.length → j < (numO m).length → rdGo (pre ++ (numO m).take j) k left g number weight = none
  | 0, _, _, _, _, _, _, _, _, _ => rfl
  | left + 1, g, m, j, number, weight, pre, k, hk, hj => by
    cases j with
    | zero =>
      unfold rdGo
      rw [List.take_zero, List.append_nil, hk, List.getElem?_eq_none (Nat.le_refl _)]
    | succ j =>
      by_cases h : 128 ≤ m
      · have e := num_go h
        rw [e] at hj ⊢
        rw [List.length_cons] at hj
        rw [List.take_succ_cons]
        have hget : (pre ++ ((m % 128 + 128 : Nat) : Int) :: (numO (m / 128)).take j)[k + g]? = some ((m % 128 + 128 : Nat) : Int) := by
          rw [hk, List.getElem?_append_right (Nat.le_refl _), Nat.sub_self]
          rfl
        unfold rdGo
        rw [hget]
        dsimp only
        rw [if_neg (by omega)]
        have ih := go_cut left (g + 1) (m / 128) j (number + ((m % 128 + 128 : Nat) : Int) % 128 * weight) (weight * 128) (pre ++ [((m % 128 + 128 : Nat) : Int)]) k (by rw [List.length_append, List.length_singleton]; omega) (by omega)
        rw [List.append_assoc] at ih
        exact ih
      · rw [num_end h] at hj
        simp at hj
theorem good_num {n : Nat} (h : n ≤ 1000000000000) : Good rdN (numO n) (n : Int) := by
  refine ⟨fun pre post => ?_, fun pre j hj => go_cut 6 0 n j 0 1 pre pre.length (by omega) hj⟩
  have := go_full 6 0 n 0 1 pre post pre.length (by omega) (by have : (128 : Nat) ^ 6 = 4398046511104 := by decide
                                                               omega) (fun z => absurd z (by omega)) (fun z => by cases z) (by omega) (by decide)
  unfold rdN
  rw [this]
  congr 2
  omega
theorem good_ref {e l c : Nat} (he : e ≤ 1000000000) (hl : l ≤ 1000000000) (hc : c ≤ 1000000000) : Good rdR (refO e l c) (((e : Int), (l : Int)), (c : Int)) :=
  good_chk (by simp only [decide_eq_true_eq]; omega) (good_then (good_then (good_num (by omega)) (good_num (by omega))) (good_num (by omega)))
theorem unf_fold (a : Int) : unfI (foldN a : Nat) = a := by
  unfold unfI foldN
  split
  · rw [if_pos (by omega)]; omega
  · rw [if_neg (by omega)]; omega
theorem good_am {a : Int} (h : foldN a ≤ 1000000000000) : Good rdA (numO (foldN a)) a := by
  have := good_map unfI (good_num h)
  rwa [unf_fold] at this
theorem good_txt {z : Str} (h : goodT z) : Good rdT (txtO z) z := by
  obtain ⟨h1, h2⟩ := h
  have hl : (txtO z).length = z.cps.size + 1 := by unfold txtO; rw [List.length_cons, List.length_map, Array.length_toList]
  refine ⟨fun pre post => ?_, fun pre j hj => ?_⟩
  · have hget : (pre ++ txtO z ++ post)[pre.length]? = some (z.cps.size : Int) := by
      unfold txtO
      rw [List.append_assoc, List.getElem?_append_right (Nat.le_refl _), Nat.sub_self]
      rfl
    have hdrop : ((pre ++ txtO z ++ post).drop (pre.length + 1)).take z.cps.size = z.cps.toList.map fun c : Nat => (c : Int) := by
      unfold txtO
      rw [List.append_assoc, ← List.drop_drop, List.drop_left]
      simp only [List.cons_append, List.drop_succ_cons, List.drop_zero]
      rw [List.take_left' (by rw [List.length_map, Array.length_toList])]
    unfold rdT
    rw [hget]
    dsimp only
    rw [Int.toNat_natCast, hdrop, if_neg (by omega), if_neg (by rw [List.length_append, List.length_append, hl]; omega), if_pos (by
      rw [List.all_map, List.all_eq_true]
      exact fun c hc => h2 c hc), hl]
    congr 2
    · rw [List.map_map]
      have : (Int.toNat ∘ fun c : Nat => (c : Int)) = id := by funext c; exact Int.toNat_natCast c
      rw [this, List.map_id]
    · omega
  · cases j with
    | zero =>
      unfold rdT
      rw [List.take_zero, List.append_nil, List.getElem?_eq_none (Nat.le_refl _)]
    | succ j =>
      have hget : (pre ++ (txtO z).take (j + 1))[pre.length]? = some (z.cps.size : Int) := by
        unfold txtO
        rw [List.getElem?_append_right (Nat.le_refl _), Nat.sub_self, List.take_succ_cons]
        rfl
      unfold rdT
      rw [hget]
      dsimp only
      rw [Int.toNat_natCast, if_neg (by omega), if_pos]
      rw [List.length_append, List.length_take]
      omega
theorem good_pst {p : Pst} (h : PstOk p) : Good rdP (pstO p) p := by
  obtain ⟨h1, h2, h3, h4, h5, h6, h7, h8⟩ := h
  have := good_map mkP (good_then (good_then (good_then (good_then (good_then (good_txt h1) (good_ref h3 h4 h5)) (good_num h6)) (good_txt h2)) (good_am h7)) (good_num h8))
  have e : mkP ((((((p.acc, (((p.e : Int), (p.l : Int)), (p.c : Int))), (p.f : Int)), p.lab), p.am)), (p.wr : Int)) = p := by
    unfold mkP
    simp only [Int.toNat_natCast]
  rw [e] at this
  exact this
theorem num_len6 : ∀ (k n : Nat), n < 128 ^ (k + 1) → (numO n).length ≤ k + 1
  | 0, n, h => by rw [num_end (by omega)]; exact Nat.le_refl _
  | k + 1, n, h => by
    by_cases g : 128 ≤ n
    · rw [num_go g, List.length_cons]
      have := num_len6 k (n / 128) (by rw [Nat.pow_succ] at h; omega)
      omega
    · rw [num_end g]; simp
theorem num_len {n : Nat} (h : n ≤ 1000000000000) : (numO n).length ≤ 6 := by
  refine num_len6 5 n ?_
  have : (128 : Nat) ^ (5 + 1) = 4398046511104 := by decide
  omega
theorem lay_good {z : Str} (h : goodT z) : (PyData.str z).canLay0 = true := by
  show PyData.strOk z = true
  unfold PyData.strOk
  rw [Array.all_eq_true']
  intro c hc
  have := h.2 c (Array.mem_toList_iff.mpr hc)
  unfold signB at this
  simp only [Bool.and_eq_true, decide_eq_true_eq] at this
  simp only [decide_eq_true_eq]
  omega
theorem dat_row {p : Pst} (ha : goodT p.acc) (hb : goodT p.lab) : Dat 3 (rowD p) := by
  have h1 : Dat 1 (refD p.e p.l p.c) := .tup fun d hd => by
    simp only [List.mem_cons, List.not_mem_nil, or_false] at hd
    rcases hd with rfl | rfl | rfl <;> exact .int _
  have h2 : Dat 2 (keyD p) := .tup fun d hd => by
    simp only [List.mem_cons, List.not_mem_nil, or_false] at hd
    rcases hd with rfl | rfl | rfl
    · exact h1
    · exact .int _
    · exact .str (lay_good hb)
  refine .tup fun d hd => ?_
  simp only [List.mem_cons, List.not_mem_nil, or_false] at hd
  rcases hd with rfl | rfl | rfl | rfl
  · exact .str (lay_good ha)
  · exact h2
  · exact .int _
  · exact .int _
theorem txt_map (z : Str) : (z.cps.toList.filterMap fun c : Nat => some (D.int ((c : Nat) : Int))) = (z.cps.toList.map fun c : Nat => (c : Int)).map D.int := by
  rw [List.map_map]
  exact congrFun (List.filterMap_eq_map (f := fun c : Nat => D.int (c : Int))) _
theorem go_le : ∀ {left g : Nat} {O : List Int} {k : Nat} {nu we : Int} {r : Int × Nat}, rdGo O k left g nu we = some r → r.2 ≤ O.length
  | 0, g, O, k, nu, we, r, h => by cases h
  | left + 1, g, O, k, nu, we, r, h => by
    unfold rdGo at h
    cases ho : O[k + g]? with
    | none => rw [ho] at h; cases h
    | some o =>
      have hlen := (List.getElem?_eq_some_iff.mp ho).1
      rw [ho] at h
      dsimp only at h
      by_cases g1 : o < 128
      · rw [if_pos g1] at h
        split at h
        · cases h
        · injection h with h
          rw [← h]
          show k + g + 1 ≤ O.length
          omega
      · rw [if_neg g1] at h
        exact go_le h
theorem rdn_le {O : List Int} {k : Nat} {r : Int × Nat} (h : rdN O k = some r) (hk : k ≤ 100000) (hO : OctOk O) : r.2 ≤ 100000 := by
  have := go_le h
  have := hO.1
  omega
theorem rdt_le {O : List Int} {k : Nat} {r : Str × Nat} (h : rdT O k = some r) (hk : k ≤ 100000) (hO : OctOk O) : r.2 ≤ 100000 := by
  have := hO.1
  unfold rdT at h
  split at h
  · cases h
  · split at h
    · cases h
    · split at h
      · cases h
      · split at h
        · injection h with h
          rw [← h]
          show _ ≤ 100000
          omega
        · cases h
theorem rdr_some {O : List Int} {k : Nat} {r : ((Int × Int) × Int) × Nat} (h : rdR O k = some r) : ∃ a b c, rdN O k = some a ∧ rdN O a.2 = some b ∧ rdN O b.2 = some c ∧ r = (((a.1, b.1), c.1), c.2) := by
  unfold rdR chkR thenR at h
  cases h1 : rdN O k with
  | none => rw [h1] at h; cases h
  | some a =>
    rw [h1] at h
    simp only [Option.bind_some] at h
    cases h2 : rdN O a.2 with
    | none => rw [h2] at h; cases h
    | some b =>
      rw [h2] at h
      simp only [Option.bind_some, Option.map_some] at h
      cases h3 : rdN O b.2 with
      | none => rw [h3] at h; cases h
      | some c =>
        rw [h3] at h
        simp only [Option.bind_some, Option.map_some] at h
        split at h
        · injection h with h
          exact ⟨a, b, c, rfl, h2, h3, h.symm⟩
        · cases h
theorem rdr_le {O : List Int} {k : Nat} {r : ((Int × Int) × Int) × Nat} (h : rdR O k = some r) (hk : k ≤ 100000) (hO : OctOk O) : r.2 ≤ 100000 := by
  obtain ⟨a, b, c, h1, h2, h3, rfl⟩ := rdr_some h
  exact rdn_le h3 (rdn_le h2 (rdn_le h1 hk hO) hO) hO
theorem rda_le {O : List Int} {k : Nat} {r : Int × Nat} (h : rdA O k = some r) (hk : k ≤ 100000) (hO : OctOk O) : r.2 ≤ 100000 := by
  unfold rdA mapR at h
  cases h1 : rdN O k with
  | none => rw [h1] at h; cases h
  | some a =>
    rw [h1] at h
    injection h with h
    rw [← h]
    show a.2 ≤ 100000
    have := rdn_le (r := a) h1 hk hO
    exact this
theorem go_pos : ∀ {left g : Nat} {O : List Int} {k : Nat} {nu we : Int} {r : Int × Nat}, 0 ≤ nu → 0 ≤ we → rdGo O k left g nu we = some r → 0 ≤ r.1
  | 0, g, O, k, nu, we, r, _, _, h => by cases h
  | left + 1, g, O, k, nu, we, r, hn, hw, h => by
    unfold rdGo at h
    cases ho : O[k + g]? with
    | none => rw [ho] at h; cases h
    | some o =>
      rw [ho] at h
      dsimp only at h
      have hp : 0 ≤ o % 128 * we := Int.mul_nonneg (by omega) hw
      by_cases g1 : o < 128
      · rw [if_pos g1] at h
        split at h
        · cases h
        · injection h with h
          rw [← h]
          show 0 ≤ nu + o % 128 * we
          omega
      · rw [if_neg g1] at h
        exact go_pos (by omega) (by omega) h
theorem rdn_pos {O : List Int} {k : Nat} {r : Int × Nat} (h : rdN O k = some r) : 0 ≤ r.1 := go_pos (by decide) (by decide) h
theorem rdr_pos {O : List Int} {k : Nat} {r : ((Int × Int) × Int) × Nat} (h : rdR O k = some r) : 0 ≤ r.1.1.1 ∧ 0 ≤ r.1.1.2 ∧ 0 ≤ r.1.2 := by
  obtain ⟨a, b, c, h1, h2, h3, rfl⟩ := rdr_some h
  exact ⟨rdn_pos h1, rdn_pos h2, rdn_pos h3⟩
theorem good_lit (z : Str) (h : (decide (z.cps.size ≤ 200) && z.cps.toList.all fun c => signB (c : Nat)) = true) : goodT z := by
  rw [Bool.and_eq_true, decide_eq_true_eq, List.all_eq_true] at h
  exact h
def SIG : Str := Str.ofString " !\"#$.&'()*+,-./0123456789:;<=>?@ABCDEFGHIJKLMNOPQRSTUVWXYZ[\\]^_`abcdefghijklmnopqrstuvwxyz{|}~"
theorem sig_at : ∀ n : Fin 127, 32 ≤ n.val → n.val ≠ 37 → SIG.cps.toList[n.val - 32]? = some n.val := by decide +kernel
theorem sign_item {x : Int} (h : signB x = true) (C0 : Cells) : itemOf (.str SIG) C0 (x - 32) = some (chD x.toNat) := by
  unfold signB at h
  simp only [Bool.and_eq_true, decide_eq_true_eq] at h
  have := sig_at ⟨x.toNat, by omega⟩ (by show 32 ≤ x.toNat; omega) (by show x.toNat ≠ 37; omega)
  rw [itemOf_str (by show SIG.cps.size ≤ _; decide +kernel), show x - 32 = ((x.toNat - 32 : Nat) : Int) by omega, atI_nat', this]
  rfl
theorem num_oct : ∀ (k n : Nat), n < 128 ^ (k + 1) → ∀ o ∈ numO n, 0 ≤ o ∧ o ≤ 255
  | 0, n, h, o, ho => by
    rw [num_end (by omega)] at ho
    simp only [List.mem_cons, List.not_mem_nil, or_false] at ho
    omega
  | k + 1, n, h, o, ho => by
    by_cases g : 128 ≤ n
    · rw [num_go g] at ho
      rcases List.mem_cons.mp ho with rfl | ho
      · omega
      · exact num_oct k (n / 128) (by rw [Nat.pow_succ] at h; omega) o ho
    · rw [num_end g] at ho
      simp only [List.mem_cons, List.not_mem_nil, or_false] at ho
      omega
theorem num_oct' {n : Nat} (h : n ≤ 1000000000000) : ∀ o ∈ numO n, 0 ≤ o ∧ o ≤ 255 := num_oct 5 n (by
  have : (128 : Nat) ^ (5 + 1) = 4398046511104 := by decide
  omega)
theorem txt_oct {z : Str} (h : goodT z) : ∀ o ∈ txtO z, 0 ≤ o ∧ o ≤ 255 := by
  intro o ho
  unfold txtO at ho
  rcases List.mem_cons.mp ho with rfl | ho
  · have := h.1; omega
  · obtain ⟨c, hc, rfl⟩ := List.mem_map.mp ho
    have := h.2 c hc
    unfold signB at this
    simp only [Bool.and_eq_true, decide_eq_true_eq] at this
    omega
theorem pst_len {p : Pst} (h : PstOk p) : (pstO p).length ≤ 500 := by
  obtain ⟨h1, h2, h3, h4, h5, h6, h7, h8⟩ := h
  have t1 : ∀ z : Str, (txtO z).length = z.cps.size + 1 := fun z => by unfold txtO; rw [List.length_cons, List.length_map, Array.length_toList]
  have t2 := h1.1
  have t3 := h2.1
  have l1 := num_len (n := p.e) (by omega)
  have l2 := num_len (n := p.l) (by omega)
  have l3 := num_len (n := p.c) (by omega)
  have l4 := num_len h6
  have l5 := num_len h7
  have l6 := num_len h8
  have t4 := t1 p.acc
  have t5 := t1 p.lab
  unfold pstO refO
  simp only [List.length_append]
  omega
theorem pst_oct {p : Pst} (h : PstOk p) : ∀ o ∈ pstO p, 0 ≤ o ∧ o ≤ 255 := by
  obtain ⟨h1, h2, h3, h4, h5, h6, h7, h8⟩ := h
  intro o ho
  unfold pstO refO at ho
  simp only [List.mem_append] at ho
  rcases ho with ((((ho | (ho | ho) | ho) | ho) | ho) | ho) | ho
  · exact txt_oct h1 o ho
  · exact num_oct' (by omega) o ho
  · exact num_oct' (by omega) o ho
  · exact num_oct' (by omega) o ho
  · exact num_oct' h6 o ho
  · exact txt_oct h2 o ho
  · exact num_oct' h7 o ho
  · exact num_oct' h8 o ho
theorem row_ne {p q : Pst} (h : p.am ≠ q.am) : (rowD p).eqb (rowD q) = false := by
  have : (p.am == q.am) = false := by simpa using h
  simp [D.eqb, rowD, D.py, pys, PyData.eqv, PyData.eqvAll, this]
def stepA (s : Int × Int) (o : Int) : Int × Int := ((s.1 + o) % 65521, (s.2 + (s.1 + o) % 65521) % 65521)
def chkS (s : Int × Int) (O : List Int) : Int × Int := O.foldl stepA s
def chkF (O : List Int) : Int := 65536 * (chkS (1, 0) O).2 + (chkS (1, 0) O).1
def fourF (c : Int) : List Int := [c / 16777216, c / 65536 % 256, c / 256 % 256, c % 256]
def valF (O : List Int) : Int := O.foldl (fun v o => 256 * v + o) 0
def bodyF (L : List Pst) : List Int := (L.length : Int) :: L.flatMap pstO
def pchkF (c : Int) (B : List Int) : Int := chkF (fourF c ++ B)
def pageF (c : Int) (L : List Pst) : List Int := [((bodyF L).length : Int) / 256, ((bodyF L).length : Int) % 256] ++ bodyF L ++ fourF (pchkF c (bodyF L))
def rdMany (B : List Int) : Nat → Nat → Option (List Pst × Nat)
  | 0, k => some ([], k)
  | m + 1, k => (rdP B k).bind fun a => (rdMany B m a.2).map fun b => (a.1 :: b.1, b.2)
def rdB (B : List Int) : Option (List Pst) := match B with
  | [] => none
  | m :: _ => if m < 1 ∨ 16 < m then none else (rdMany B m.toNat 1).bind fun a => if a.2 = B.length then some a.1 else none
def rdG (O : List Int) (k : Nat) (c : Int) : Option (List Pst × Int × Nat) := match O[k]?, O[k + 1]? with
  | some hi, some lo => if O.length < k + 2 + (256 * hi + lo).toNat + 4 then none else
      if valF ((O.drop (k + 2 + (256 * hi + lo).toNat)).take 4) ≠ pchkF c ((O.drop (k + 2)).take (256 * hi + lo).toNat) then none else
      (rdB ((O.drop (k + 2)).take (256 * hi + lo).toNat)).map fun L => (L, valF ((O.drop (k + 2 + (256 * hi + lo).toNat)).take 4), k + 2 + (256 * hi + lo).toNat + 4)
  | _, _ => none
def pagesF (L : List Pst) : List (List Pst) := (List.range ((L.length + 15) / 16)).map fun i => (L.drop (16 * i)).take 16
-- the check
theorem chk_bd : ∀ (O : List Int) (s : Int × Int), (0 ≤ s.1 ∧ s.1 < 65521 ∧ 0 ≤ s.2 ∧ s.2 < 65521) → (0 ≤ (chkS s O).1 ∧ (chkS s O).1 < 65521 ∧ 0 ≤ (chkS s O).2 ∧ (chkS s O).2 < 65521)
  | [], s, h => h
  | o :: O, s, h => chk_bd O (stepA s o) (by unfold stepA; dsimp only; omega)
theorem chk_low : ∀ (O : List Int) (s : Int × Int), ∃ q : Int, (chkS s O).1 = s.1 + O.sum - 65521 * q
  | [], s => ⟨0, by show s.1 = s.1 + 0 - 0; omega⟩
  | o :: O, s => by
    obtain ⟨q, hq⟩ := chk_low O (stepA s o)
    refine ⟨q + (s.1 + o) / 65521, ?_⟩
    show (chkS (stepA s o) O).1 = _
    rw [hq, List.sum_cons]
    unfold stepA
    dsimp only
    omega
/-- two states with the same low: the difference of the high ones stays -/
theorem chk_diff : ∀ (O : List Int) (s t : Int × Int), s.1 = t.1 → (chkS s O).1 = (chkS t O).1 ∧ ∃ q : Int, (chkS s O).2 - (chkS t O).2 = s.2 - t.2 - 65521 * q
  | [], s, t, h => ⟨h, 0, by show s.2 - t.2 = s.2 - t.2 - 0; omega⟩
  | o :: O, s, t, h => by
    have h1 : (stepA s o).1 = (stepA t o).1 := by unfold stepA; rw [h]
    obtain ⟨i1, q, i2⟩ := chk_diff O (stepA s o) (stepA t o) h1
    refine ⟨i1, q + (s.2 + (s.1 + o) % 65521) / 65521 - (t.2 + (t.1 + o) % 65521) / 65521, ?_⟩
    show (chkS (stepA s o) O).2 - (chkS (stepA t o) O).2 = _
    rw [i2]
    unfold stepA
    rw [h]
    dsimp only
    omega
theorem chk_inj {O M : List Int} (h : chkF O = chkF M) : (chkS (1, 0) O).1 = (chkS (1, 0) M).1 ∧ (chkS (1, 0) O).2 = (chkS (1, 0) M).2 := by
  have h1 := chk_bd O (1, 0) (by decide)
  have h2 := chk_bd M (1, 0) (by decide)
  unfold chkF at h
  omega
theorem chk_range (O : List Int) : 0 ≤ chkF O ∧ chkF O < 4294967296 := by
  have h1 := chk_bd O (1, 0) (by decide)
  unfold chkF
  omega
theorem four_oct {c : Int} (h0 : 0 ≤ c) (h1 : c < 4294967296) : ∀ o ∈ fourF c, 0 ≤ o ∧ o ≤ 255 := by
  intro o ho
  unfold fourF at ho
  simp only [List.mem_cons, List.not_mem_nil, or_false] at ho
  omega
theorem four_val (c : Int) : valF (fourF c) = c := by
  unfold valF fourF
  simp only [List.foldl_cons, List.foldl_nil]
  omega
/-- one octet turned: another check -/
theorem chk_turn {X Y : List Int} {a b : Int} (ha : 0 ≤ a ∧ a ≤ 255) (hb : 0 ≤ b ∧ b ≤ 255) (hne : a ≠ b) : chkF (X ++ a :: Y) ≠ chkF (X ++ b :: Y) := by
  intro h
  obtain ⟨h1, _⟩ := chk_inj h
  obtain ⟨q, hq⟩ := chk_low (X ++ a :: Y) (1, 0)
  obtain ⟨r, hr⟩ := chk_low (X ++ b :: Y) (1, 0)
  rw [hq, hr] at h1
  simp only [List.sum_append, List.sum_cons] at h1
  omega
theorem chk_prior {c d : Int} {B : List Int} (hc : 0 ≤ c ∧ c < 65521) (hd : 0 ≤ d ∧ d < 65521) (hne : c ≠ d) : pchkF c B ≠ pchkF d B := by
  intro h
  unfold pchkF at h
  obtain ⟨h1, h2⟩ := chk_inj h
  have e : ∀ x : Int, 0 ≤ x ∧ x < 65521 → chkS (1, 0) (fourF x ++ B) = chkS (1 + x / 256 + x % 256, 4 + 2 * (x / 256) + x % 256) B := fun x hx => by
    have hf : fourF x = [0, 0, x / 256, x % 256] := by
      unfold fourF
      rw [show x / 16777216 = 0 by omega, show x / 65536 % 256 = 0 by omega, show x / 256 % 256 = x / 256 by omega]
    have ha : 0 ≤ x / 256 ∧ x / 256 ≤ 255 := by omega
    have hb : 0 ≤ x % 256 ∧ x % 256 ≤ 255 := by omega
    unfold chkS
    rw [hf, List.foldl_append]
    generalize x / 256 = a at ha ⊢
    generalize x % 256 = b at hb ⊢
    have s1 : stepA (1, 0) 0 = (1, 1) := by decide
    have s2 : stepA (1, 1) 0 = (1, 2) := by decide
    have s3 : stepA (1, 2) a = (1 + a, 3 + a) := by unfold stepA; refine Prod.ext ?_ ?_ <;> dsimp only <;> omega
    have s4 : stepA (1 + a, 3 + a) b = (1 + a + b, 4 + 2 * a + b) := by unfold stepA; refine Prod.ext ?_ ?_ <;> dsimp only <;> omega
    simp only [List.foldl_cons, List.foldl_nil, s1, s2, s3, s4]
  rw [e c hc, e d hd] at h1 h2
  obtain ⟨q, hq⟩ := chk_low B (1 + c / 256 + c % 256, 4 + 2 * (c / 256) + c % 256)
  obtain ⟨r, hr⟩ := chk_low B (1 + d / 256 + d % 256, 4 + 2 * (d / 256) + d % 256)
  rw [hq, hr] at h1
  dsimp only at h1
  have hs : 1 + c / 256 + c % 256 = 1 + d / 256 + d % 256 := by omega
  obtain ⟨_, u, hu⟩ := chk_diff B (1 + c / 256 + c % 256, 4 + 2 * (c / 256) + c % 256) (1 + d / 256 + d % 256, 4 + 2 * (d / 256) + d % 256) hs
  dsimp only at hu
  omega
/-- many postings are read back -/
theorem many_full : ∀ (L : List Pst) (pre post : List Int), (∀ p ∈ L, PstOk p) → rdMany (pre ++ L.flatMap pstO ++ post) L.length pre.length = some (L, pre.length + (L.flatMap pstO).length)
  | [], pre, post, _ => by show some _ = some _; simp
  | p :: L, pre, post, h => by
    have hg := (good_pst (h p List.mem_cons_self)).full pre (L.flatMap pstO ++ post)
    have ih := many_full L (pre ++ pstO p) post fun q hq => h q (List.mem_cons_of_mem _ hq)
    rw [List.length_append] at ih
    rw [List.flatMap_cons, List.length_cons]
    unfold rdMany
    rw [show pre ++ (pstO p ++ L.flatMap pstO) ++ post = pre ++ pstO p ++ (L.flatMap pstO ++ post) by simp only [List.append_assoc], hg]
    show Option.map _ (rdMany (pre ++ pstO p ++ (L.flatMap pstO ++ post)) L.length (pre.length + (pstO p).length)) = _
    rw [← List.append_assoc, ih]
    simp only [Option.map_some, List.length_append, Nat.add_assoc]
theorem body_full {L : List Pst} (h1 : 1 ≤ L.length) (h2 : L.length ≤ 16) (h : ∀ p ∈ L, PstOk p) : rdB (bodyF L) = some L := by
  have := many_full L [(L.length : Int)] [] h
  unfold rdB bodyF
  dsimp only
  rw [if_neg (by omega), Int.toNat_natCast]
  rw [List.append_nil] at this
  have e : ((L.length : Int) :: L.flatMap pstO) = [(L.length : Int)] ++ L.flatMap pstO := rfl
  rw [e, show (1 : Nat) = [(L.length : Int)].length from rfl, this]
  show (if _ then _ else _) = _
  rw [if_pos (by simp; omega)]
theorem flat_len : ∀ (L : List Pst), (∀ p ∈ L, PstOk p) → (L.flatMap pstO).length ≤ 500 * L.length
  | [], _ => Nat.le_refl _
  | p :: L, h => by
    have h1 := pst_len (h p List.mem_cons_self)
    have h2 := flat_len L fun q hq => h q (List.mem_cons_of_mem _ hq)
    rw [List.flatMap_cons, List.length_append, List.length_cons]
    omega
theorem body_len {L : List Pst} (hl : L.length ≤ 16) (h : ∀ p ∈ L, PstOk p) : (bodyF L).length ≤ 8001 := by
  have := flat_len L h
  unfold bodyF
  rw [List.length_cons]
  omega
theorem rgC_16 {n : Nat} (h : n ≤ 1000000) : RgC 0 (n : Int) 16 ((n + 15) / 16) := by
  have e : Builtin.Range.rangeSize 0 (n : Int) 16 = (((n + 15) / 16 : Nat) : Int) := by
    unfold Builtin.Range.rangeSize
    split <;> omega
  refine ⟨by decide, by decide, ?_, e⟩
  unfold Builtin.Range.small
  rw [e]
  have e1 : ((16 : Int) > 0) = True := by simp
  have e2 : Builtin.Range.rangeFitsLong 16 = true := by decide
  have e3 : Builtin.Range.rangeFitsLong 0 = true := by decide
  have e4 : ∀ i : Int, 0 ≤ i → i ≤ 3000000 → Builtin.Range.rangeFitsLong i = true := fun i h1 h2 => by
    simp only [Builtin.Range.rangeFitsLong, Bool.and_eq_true, decide_eq_true_eq]; omega
  rw [e2, e3, e4 _ (by omega) (by omega)]
  simp only [Bool.and_eq_true, Bool.or_eq_true, decide_eq_true_eq, beq_iff_eq, e1, if_true, true_and]
  exact ⟨e4 _ (by omega) (by omega), .inr (e4 _ (by omega) (by omega))⟩
theorem many_succ (B : List Int) (m k : Nat) : rdMany B (m + 1) k = (rdP B k).bind fun a => (rdMany B m a.2).map fun b => (a.1 :: b.1, b.2) := rfl
theorem many_zero (B : List Int) (k : Nat) : rdMany B 0 k = some ([], k) := rfl
theorem cut_mid2 (xs : List D) {a b : Nat} (h1 : a ≤ b) (h2 : a ≤ xs.length) : cutD xs (some (a : Int)) (some (b : Int)) = (xs.drop a).take (b - a) := by
  unfold cutD
  rw [HT.sIx_nat, HT.sIx_nat, Nat.min_eq_left h2]
  by_cases h : b ≤ xs.length
  · rw [Nat.min_eq_left h]
  · rw [Nat.min_eq_right (by omega), List.take_of_length_le (by rw [List.length_drop]; exact Nat.le_refl _), List.take_of_length_le (by rw [List.length_drop]; omega)]
theorem rdp_le {O : List Int} {k : Nat} {r : Pst × Nat} (h : rdP O k = some r) (hk : k ≤ 100000) (hO : OctOk O) : r.2 ≤ 100000 := by
  unfold rdP mapR thenR at h
  simp only [Option.map_eq_some_iff, Option.bind_eq_some_iff] at h
  obtain ⟨a, ⟨b, ⟨c1, ⟨d, ⟨e, ⟨f, h6, g, h7, rfl⟩, i, h8, rfl⟩, j, h9, rfl⟩, l, h10, rfl⟩, m, h11, rfl⟩, rfl⟩ := h
  exact rdn_le h11 (rda_le h10 (rdt_le h9 (rdn_le h8 (rdr_le h7 (rdt_le h6 hk hO) hO) hO) hO) hO) hO
theorem pg_len (c : Int) (L : List Pst) : (pageF c L).length = (bodyF L).length + 6 := by
  unfold pageF
  rw [List.length_append, List.length_append]
  simp only [List.length_cons, List.length_nil, show ∀ z, (fourF z).length = 4 from fun _ => rfl]
  omega
/-- what read_page sees of a list that begins as a page does -/
theorem rdG_at {O : List Int} {k : Nat} {d : Int} {n : Nat} {B V : List Int} (h1 : O[k]? = some ((n : Int) / 256)) (h2 : O[k + 1]? = some ((n : Int) % 256)) (h3 : k + 2 + n + 4 ≤ O.length)
    (h4 : (O.drop (k + 2)).take n = B) (h5 : (O.drop (k + 2 + n)).take 4 = V) : rdG O k d = if valF V ≠ pchkF d B then none else (rdB B).map fun L => (L, valF V, k + 2 + n + 4) := by
  unfold rdG
  rw [h1, h2]
  dsimp only
  have e : (256 * ((n : Int) / 256) + (n : Int) % 256).toNat = n := by omega
  rw [e, if_neg (by omega), h4, h5]
theorem page_full {c : Int} {L : List Pst} (h1 : 1 ≤ L.length) (h2 : L.length ≤ 16) (h : ∀ p ∈ L, PstOk p) (pre post : List Int) : rdG (pre ++ pageF c L ++ post) pre.length c = some (L, pchkF c (bodyF L), pre.length + (pageF c L).length) := by
  have hl := pg_len c L
  have e : pre ++ pageF c L ++ post = (pre ++ [((bodyF L).length : Int) / 256, ((bodyF L).length : Int) % 256]) ++ (bodyF L ++ (fourF (pchkF c (bodyF L)) ++ post)) := by unfold pageF; simp only [List.append_assoc]
  have hp2 : (pre ++ [((bodyF L).length : Int) / 256, ((bodyF L).length : Int) % 256]).length = pre.length + 2 := by simp
  rw [rdG_at (n := (bodyF L).length) (B := bodyF L) (V := fourF (pchkF c (bodyF L)))]
  · rw [four_val, if_neg (by simp), body_full h1 h2 h, hl]
    simp only [Option.map_some]
    congr 3
    omega
  · unfold pageF
    rw [List.append_assoc, List.getElem?_append_right (Nat.le_refl _), Nat.sub_self]
    rfl
  · unfold pageF
    rw [List.append_assoc, List.getElem?_append_right (by omega), show pre.length + 1 - pre.length = 1 by omega]
    rfl
  · rw [List.length_append, List.length_append, hl]; omega
  · rw [e, ← hp2, List.drop_left, List.take_left]
  · rw [e, ← hp2, ← List.drop_drop, List.drop_left, List.drop_left, List.take_left' (by rfl)]
theorem page_parts (c : Int) (L : List Pst) : (pageF c L)[0]? = some (((bodyF L).length : Int) / 256) ∧ (pageF c L)[1]? = some (((bodyF L).length : Int) % 256) ∧ ((pageF c L).drop 2).take (bodyF L).length = bodyF L ∧ ((pageF c L).drop (2 + (bodyF L).length)).take 4 = fourF (pchkF c (bodyF L)) := by
  refine ⟨rfl, rfl, ?_, ?_⟩
  · unfold pageF
    simp only [List.cons_append, List.nil_append, List.drop_succ_cons, List.drop_zero]
    rw [List.take_left]
  · unfold pageF
    rw [← List.drop_drop]
    simp only [List.cons_append, List.nil_append, List.drop_succ_cons, List.drop_zero]
    rw [List.drop_left]
    rfl
theorem page_prior {c d : Int} {L : List Pst} (hc : 0 ≤ c ∧ c < 65521) (hd : 0 ≤ d ∧ d < 65521) (hne : d ≠ c) : rdG (pageF c L) 0 d = none := by
  obtain ⟨p1, p2, p3, p4⟩ := page_parts c L
  rw [rdG_at (n := (bodyF L).length) (B := bodyF L) (V := fourF (pchkF c (bodyF L))) p1 p2 (by rw [pg_len]; omega) (by rw [Nat.zero_add]; exact p3) (by rw [Nat.zero_add]; exact p4), four_val, if_pos]
  exact chk_prior hc hd fun z => hne z.symm
theorem page_cut (c : Int) (L : List Pst) : rdG ((pageF c L).take ((pageF c L).length - 1)) 0 c = none := by
  obtain ⟨p1, p2, _, _⟩ := page_parts c L
  have hl := pg_len c L
  unfold rdG
  rw [List.getElem?_take_of_lt (by omega), List.getElem?_take_of_lt (by omega), p1, Nat.zero_add, p2]
  dsimp only
  rw [show (256 * (((bodyF L).length : Int) / 256) + ((bodyF L).length : Int) % 256).toNat = (bodyF L).length by omega, if_pos]
  rw [List.length_take]
  omega
theorem set_split {B : List Int} {i : Nat} (hi : i < B.length) (v : Int) : B.set i v = B.take i ++ v :: B.drop (i + 1) ∧ B = B.take i ++ B[i] :: B.drop (i + 1) := by
  refine ⟨List.set_eq_take_append_cons_drop.trans (if_pos hi), ?_⟩
  rw [← List.drop_eq_getElem_cons hi, List.take_append_drop]
theorem four_turn {c v : Int} (hc : 0 ≤ c ∧ c < 4294967296) {i : Nat} (hi : i < 4) {a : Int} (ha : (fourF c)[i]? = some a) (hv : 0 ≤ v ∧ v ≤ 255) (hne : v ≠ a) : valF ((fourF c).set i v) ≠ c := by
  have h : ∀ x y z w : Int, valF [x, y, z, w] = 16777216 * x + 65536 * y + 256 * z + w := fun x y z w => by
    unfold valF
    simp only [List.foldl_cons, List.foldl_nil]
    omega
  unfold fourF at *
  rcases (by omega : i = 0 ∨ i = 1 ∨ i = 2 ∨ i = 3) with rfl | rfl | rfl | rfl
  all_goals
    simp only [List.getElem?_cons_zero, List.getElem?_cons_succ, Option.some.injEq] at ha
    simp only [List.set_cons_zero, List.set_cons_succ]
    rw [h]
    omega
theorem page_turn {c : Int} {L : List Pst} (hok : ∀ p ∈ L, PstOk p) (hl : L.length ≤ 16) {i : Nat} {a v : Int} (h2 : 2 ≤ i) (ha : (pageF c L)[i]? = some a) (hv : 0 ≤ v ∧ v ≤ 255) (hne : v ≠ a) : rdG ((pageF c L).set i v) 0 c = none := by
  obtain ⟨p1, p2, p3, p4⟩ := page_parts c L
  have hlen := pg_len c L
  have hil := (List.getElem?_eq_some_iff.mp ha).1
  have hbo : ∀ o ∈ bodyF L, 0 ≤ o ∧ o ≤ 255 := by
    intro o ho
    unfold bodyF at ho
    rcases List.mem_cons.mp ho with rfl | ho
    · omega
    · obtain ⟨p, hp, hpo⟩ := List.mem_flatMap.mp ho
      exact pst_oct (hok p hp) o hpo
  have q1 : ((pageF c L).set i v)[0]? = some (((bodyF L).length : Int) / 256) := by rw [List.getElem?_set_ne (by omega)]; exact p1
  have q2 : ((pageF c L).set i v)[0 + 1]? = some (((bodyF L).length : Int) % 256) := by rw [List.getElem?_set_ne (by omega)]; exact p2
  have q3 : 0 + 2 + (bodyF L).length + 4 ≤ ((pageF c L).set i v).length := by rw [List.length_set]; omega
  by_cases g : i < 2 + (bodyF L).length
  · have e1 : (((pageF c L).set i v).drop (0 + 2)).take (bodyF L).length = (bodyF L).set (i - 2) v := by
      rw [Nat.zero_add, List.drop_set, if_neg (by omega), List.take_set, p3]
    have e2 : (((pageF c L).set i v).drop (0 + 2 + (bodyF L).length)).take 4 = fourF (pchkF c (bodyF L)) := by
      rw [Nat.zero_add, List.drop_set, if_pos (by omega), p4]
    rw [rdG_at q1 q2 q3 e1 e2, four_val, if_pos]
    have hi2 : i - 2 < (bodyF L).length := by omega
    obtain ⟨s1, s2⟩ := set_split hi2 v
    have hba : (bodyF L)[i - 2] = a := by
      have : (((pageF c L).drop 2).take (bodyF L).length)[i - 2]? = (bodyF L)[i - 2]? := by rw [p3]
      rw [List.getElem?_take_of_lt hi2, List.getElem?_drop, show 2 + (i - 2) = i by omega, ha, List.getElem?_eq_getElem hi2] at this
      injection this with this
      exact this.symm
    rw [s1]
    intro z
    have hab : 0 ≤ a ∧ a ≤ 255 := hbo a (by rw [← hba]; exact List.getElem_mem _)
    rw [hba] at s2
    have z3 : pchkF c ((bodyF L).take (i - 2) ++ a :: (bodyF L).drop (i - 2 + 1)) = pchkF c ((bodyF L).take (i - 2) ++ v :: (bodyF L).drop (i - 2 + 1)) := (congrArg (pchkF c) s2).symm.trans z
    generalize (bodyF L).take (i - 2) = X at z3
    generalize (bodyF L).drop (i - 2 + 1) = Y at z3
    unfold pchkF at z3
    have z2 : chkF ((fourF c ++ X) ++ a :: Y) = chkF ((fourF c ++ X) ++ v :: Y) := by
      rw [List.append_assoc, List.append_assoc]
      exact z3
    exact chk_turn hab hv (fun w => hne w.symm) z2
  · have e1 : (((pageF c L).set i v).drop (0 + 2)).take (bodyF L).length = bodyF L := by
      rw [Nat.zero_add, List.drop_set, if_neg (by omega), List.take_set, p3, List.set_eq_of_length_le (by omega)]
    have e2 : (((pageF c L).set i v).drop (0 + 2 + (bodyF L).length)).take 4 = (fourF (pchkF c (bodyF L))).set (i - (2 + (bodyF L).length)) v := by
      rw [Nat.zero_add, List.drop_set, if_neg (by omega), List.take_set, p4]
    rw [rdG_at q1 q2 q3 e1 e2, if_pos]
    have hfa : (fourF (pchkF c (bodyF L)))[i - (2 + (bodyF L).length)]? = some a := by
      rw [← p4, List.getElem?_take_of_lt (by omega), List.getElem?_drop, show 2 + (bodyF L).length + (i - (2 + (bodyF L).length)) = i by omega, ha]
    exact four_turn (chk_range _) (by omega) hfa hv hne
theorem page_oct (c : Int) {L : List Pst} (hok : ∀ p ∈ L, PstOk p) (hl : L.length ≤ 16) : ∀ o ∈ pageF c L, 0 ≤ o ∧ o ≤ 255 := by
  intro o ho
  have hb := body_len hl hok
  unfold pageF at ho
  rcases List.mem_append.mp ho with ho | ho
  · rcases List.mem_append.mp ho with ho | ho
    · simp only [List.mem_cons, List.not_mem_nil, or_false] at ho
      omega
    · unfold bodyF at ho
      rcases List.mem_cons.mp ho with rfl | ho
      · omega
      · obtain ⟨p, hp, hpo⟩ := List.mem_flatMap.mp ho
        exact pst_oct (hok p hp) o hpo
  · exact four_oct (chk_range _).1 (chk_range _).2 o ho
theorem flat_rep1 {α : Type} (n : Nat) (x : α) : (List.replicate n [x]).flatten = List.replicate n x := by
  induction n with
  | zero => rfl
  | succ n ih => rw [List.replicate_succ, List.flatten_cons, ih, List.replicate_succ]; rfl
theorem pages_take (S : List Pst) : ∀ m : Nat, ((List.range m).map fun i => (S.drop (16 * i)).take 16).flatten = S.take (16 * m)
  | 0 => by simp
  | m + 1 => by
    rw [List.range_succ, List.map_append, List.flatten_append, pages_take S m, List.map_cons, List.map_nil, List.flatten_cons, List.flatten_nil, List.append_nil, show 16 * (m + 1) = 16 * m + 16 by omega, List.take_add]
theorem pages_flat (S : List Pst) : (pagesF S).flatten = S := by
  unfold pagesF
  rw [pages_take, List.take_of_length_le (by omega)]
theorem pages_mem {S : List Pst} {pg : List Pst} (h : pg ∈ pagesF S) : 1 ≤ pg.length ∧ pg.length ≤ 16 ∧ ∀ q ∈ pg, q ∈ S := by
  unfold pagesF at h
  obtain ⟨i, hi, rfl⟩ := List.mem_map.mp h
  have := List.mem_range.mp hi
  refine ⟨?_, ?_, fun q hq => List.mem_of_mem_drop (List.mem_of_mem_take hq)⟩
  · rw [List.length_take, List.length_drop]; omega
  · rw [List.length_take]; omega
theorem pages_lens (S : List Pst) : (pagesF S).map (fun pg => (pg.length : Int)) = List.replicate (S.length / 16) 16 ++ (if 0 < S.length % 16 then [((S.length % 16 : Nat) : Int)] else []) := by
  have h0 : ∀ m, m ≤ S.length / 16 → (List.range m).map (fun i => (((S.drop (16 * i)).take 16).length : Int)) = List.replicate m 16 := by
    intro m
    induction m with
    | zero => intro _; rfl
    | succ m ih =>
      intro hm
      rw [List.range_succ, List.map_append, ih (by omega), List.replicate_succ', List.map_cons, List.map_nil, List.length_take, List.length_drop]
      congr 2
      omega
  unfold pagesF
  rw [List.map_map]
  show (List.range ((S.length + 15) / 16)).map (fun i => (((S.drop (16 * i)).take 16).length : Int)) = _
  by_cases g : 0 < S.length % 16
  · rw [if_pos g, show (S.length + 15) / 16 = S.length / 16 + 1 by omega, List.range_succ, List.map_append, h0 _ (Nat.le_refl _), List.map_cons, List.map_nil, List.length_take, List.length_drop]
    congr 2
    omega
  · rw [if_neg g, show (S.length + 15) / 16 = S.length / 16 by omega, h0 _ (Nat.le_refl _), List.append_nil]
def PstS (p : Pst) : Prop := PstOk p ∧ (pstO p).sum ≤ 4000
theorem num_sum1 (n : Nat) : (numO n).sum ≤ 255 + (numO (n / 128)).sum := by
  by_cases h : 128 ≤ n
  · rw [num_go h, List.sum_cons]; omega
  · rw [num_end h, num_end (show ¬ 128 ≤ n / 128 by omega)]
    simp only [List.sum_cons, List.sum_nil]
    omega
theorem num_sum0 {n : Nat} (h : n < 128) : (numO n).sum = n := by
  rw [num_end (by omega)]
  simp
theorem small_pst {p : Pst} (h1 : goodT p.acc) (h2 : goodT p.lab) (s1 : (txtO p.acc).sum ≤ 760) (s2 : (txtO p.lab).sum ≤ 760) (he : p.e ≤ 5) (hl : p.l ≤ 200) (hc : p.c ≤ 299) (hf : p.f ≤ 699) (ha : foldN p.am ≤ 400003000) (hw : p.wr ≤ 7100) : PstS p := by
  refine ⟨⟨h1, h2, by omega, by omega, by omega, by omega, by omega, by omega⟩, ?_⟩
  have e1 := num_sum0 (n := p.e) (by omega)
  have l1 := num_sum1 p.l
  have l2 := num_sum0 (n := p.l / 128) (by omega)
  have c1 := num_sum1 p.c
  have c2 := num_sum0 (n := p.c / 128) (by omega)
  have f1 := num_sum1 p.f
  have f2 := num_sum0 (n := p.f / 128) (by omega)
  have w1 := num_sum1 p.wr
  have w2 := num_sum0 (n := p.wr / 128) (by omega)
  have a1 := num_sum1 (foldN p.am)
  have a2 := num_sum1 (foldN p.am / 128)
  have a3 := num_sum1 (foldN p.am / 128 / 128)
  have a4 := num_sum1 (foldN p.am / 128 / 128 / 128)
  have a5 := num_sum0 (n := foldN p.am / 128 / 128 / 128 / 128) (by omega)
  unfold pstO refO
  simp only [List.sum_append]
  omega
-- books
def bkP : Int → List (List Pst) → List (List Int)
  | _, [] => []
  | c, pg :: r => pageF c pg :: bkP (pchkF c (bodyF pg)) r
def bkC : Int → List (List Pst) → List Int
  | _, [] => []
  | c, pg :: r => pchkF c (bodyF pg) :: bkC (pchkF c (bodyF pg)) r
def bkL : Int → List (List Pst) → Int
  | c, [] => c
  | c, pg :: r => bkL (pchkF c (bodyF pg)) r
def partsF (L : List Pst) : List (List Int) := bkP 0 (pagesF L)
def bookF (L : List Pst) : List Int := (partsF L).flatten
def checksF (L : List Pst) : List Int := bkC 0 (pagesF L)
def lastF (L : List Pst) : Int := bkL 0 (pagesF L)
theorem bkP_app : ∀ (X Y : List (List Pst)) (c : Int), bkP c (X ++ Y) = bkP c X ++ bkP (bkL c X) Y
  | [], Y, c => rfl
  | p :: X, Y, c => by
    show _ :: _ = _ :: _
    congr 1
    exact bkP_app X Y _
theorem bkC_app : ∀ (X Y : List (List Pst)) (c : Int), bkC c (X ++ Y) = bkC c X ++ bkC (bkL c X) Y
  | [], Y, c => rfl
  | p :: X, Y, c => by
    show _ :: _ = _ :: _
    congr 1
    exact bkC_app X Y _
theorem bkL_app : ∀ (X Y : List (List Pst)) (c : Int), bkL c (X ++ Y) = bkL (bkL c X) Y
  | [], Y, c => rfl
  | p :: X, Y, c => bkL_app X Y _
theorem bkP_len : ∀ (X : List (List Pst)) (c : Int), (bkP c X).length = X.length
  | [], c => rfl
  | p :: X, c => by show _ + 1 = _ + 1; rw [bkP_len X]
theorem bkC_len : ∀ (X : List (List Pst)) (c : Int), (bkC c X).length = X.length
  | [], c => rfl
  | p :: X, c => by show _ + 1 = _ + 1; rw [bkC_len X]
theorem pages_len (L : List Pst) : (pagesF L).length = (L.length + 15) / 16 := by unfold pagesF; rw [List.length_map, List.length_range]
theorem pages_at {L : List Pst} {j : Nat} (h : 16 * j < L.length) : (pagesF L)[j]? = some ((L.drop (16 * j)).take 16) := by
  unfold pagesF
  rw [List.getElem?_map, List.getElem?_range (by omega)]
  rfl
theorem pages_upto {L : List Pst} {j : Nat} (h : 16 * j ≤ L.length) : pagesF (L.take (16 * j)) = (pagesF L).take j := by
  unfold pagesF
  rw [← List.map_take, List.take_range, List.length_take, show min j ((L.length + 15) / 16) = j by omega, show (min (16 * j) L.length + 15) / 16 = j by omega]
  refine List.map_congr_left fun i hi => ?_
  have := List.mem_range.mp hi
  rw [List.drop_take, List.take_take]
  congr 1
  omega
theorem pages_snoc {L : List Pst} {j : Nat} (h : 16 * j < L.length) : (pagesF L).take (j + 1) = (pagesF L).take j ++ [(L.drop (16 * j)).take 16] := take_snoc (pages_at h)
theorem parts_upto {L : List Pst} {j : Nat} (h : 16 * j ≤ L.length) : partsF (L.take (16 * j)) = (partsF L).take j := by
  unfold partsF
  rw [pages_upto h]
  have hl : (bkP 0 ((pagesF L).take j)).length = j := by rw [bkP_len, List.length_take, pages_len]; omega
  have e : bkP 0 (pagesF L) = bkP 0 ((pagesF L).take j) ++ bkP (bkL 0 ((pagesF L).take j)) ((pagesF L).drop j) := by rw [← bkP_app, List.take_append_drop]
  rw [e, List.take_left' hl]
theorem checks_upto {L : List Pst} {j : Nat} (h : 16 * j ≤ L.length) : checksF (L.take (16 * j)) = (checksF L).take j := by
  unfold checksF
  rw [pages_upto h]
  have hl : (bkC 0 ((pagesF L).take j)).length = j := by rw [bkC_len, List.length_take, pages_len]; omega
  have e : bkC 0 (pagesF L) = bkC 0 ((pagesF L).take j) ++ bkC (bkL 0 ((pagesF L).take j)) ((pagesF L).drop j) := by rw [← bkC_app, List.take_append_drop]
  rw [e, List.take_left' hl]
theorem take_page (L : List Pst) (j : Nat) : L.take (16 * j) ++ (L.drop (16 * j)).take 16 = L.take (16 * (j + 1)) := by
  rw [show 16 * (j + 1) = 16 * j + 16 by omega, List.take_add]
theorem pages_step {L : List Pst} {j : Nat} (h : 16 * j < L.length) : pagesF (L.take (16 * (j + 1))) = pagesF (L.take (16 * j)) ++ [(L.drop (16 * j)).take 16] := by
  by_cases g : 16 * (j + 1) ≤ L.length
  · rw [pages_upto g, pages_upto (by omega), pages_snoc h]
  · rw [List.take_of_length_le (by omega), pages_upto (by omega), ← pages_snoc h, List.take_of_length_le (by rw [pages_len]; omega)]
theorem book_step {L : List Pst} {j : Nat} (h : 16 * j < L.length) : bookF (L.take (16 * (j + 1))) = bookF (L.take (16 * j)) ++ pageF (lastF (L.take (16 * j))) ((L.drop (16 * j)).take 16) := by
  unfold bookF partsF lastF
  rw [pages_step h, bkP_app, List.flatten_append]
  simp [bkP]
theorem last_step {L : List Pst} {j : Nat} (h : 16 * j < L.length) : lastF (L.take (16 * (j + 1))) = pchkF (lastF (L.take (16 * j))) (bodyF ((L.drop (16 * j)).take 16)) := by
  unfold lastF
  rw [pages_step h, bkL_app]
  rfl
theorem checks_step {L : List Pst} {j : Nat} (h : 16 * j < L.length) : checksF (L.take (16 * (j + 1))) = checksF (L.take (16 * j)) ++ [lastF (L.take (16 * (j + 1)))] := by
  rw [last_step h]
  unfold lastF checksF
  rw [pages_step h, bkC_app]
  rfl
theorem parts_step {L : List Pst} {j : Nat} (h : 16 * j < L.length) : partsF (L.take (16 * (j + 1))) = partsF (L.take (16 * j)) ++ [pageF (lastF (L.take (16 * j))) ((L.drop (16 * j)).take 16)] := by
  unfold lastF partsF
  rw [pages_step h, bkP_app]
  rfl
theorem pg_in {L : List Pst} {j : Nat} (h : 16 * j < L.length) : 1 ≤ ((L.drop (16 * j)).take 16).length ∧ ((L.drop (16 * j)).take 16).length ≤ 16 ∧ ∀ q ∈ (L.drop (16 * j)).take 16, q ∈ L := by
  refine ⟨?_, ?_, fun q hq => List.mem_of_mem_drop (List.mem_of_mem_take hq)⟩
  · rw [List.length_take, List.length_drop]; omega
  · rw [List.length_take]; omega
/-- a book goes on with what is behind -/
theorem book_split {L : List Pst} : ∀ {j : Nat}, 16 * j ≤ L.length → ∃ R, bookF L = bookF (L.take (16 * j)) ++ R := by
  intro j h
  unfold bookF
  rw [parts_upto h]
  exact ⟨((partsF L).drop j).flatten, by rw [← List.flatten_append, List.take_append_drop]⟩
theorem book_len {L : List Pst} (hok : ∀ p ∈ L, PstOk p) : ∀ j : Nat, 16 * j ≤ L.length + 15 → (bookF (L.take (16 * j))).length ≤ 8010 * j ∧ 6 * j ≤ (bookF (L.take (16 * j))).length
  | 0, _ => by simp [bookF, partsF, pagesF, bkP]
  | j + 1, h => by
    have ih := book_len hok j (by omega)
    obtain ⟨h1, h2, h3⟩ := pg_in (L := L) (j := j) (by omega)
    rw [book_step (by omega), List.length_append, pg_len]
    have := body_len h2 fun q hq => hok q (h3 q hq)
    omega
theorem book_all (L : List Pst) : L.take (16 * ((L.length + 15) / 16)) = L := List.take_of_length_le (by omega)
theorem bkP_oct : ∀ (X : List (List Pst)) (c : Int), (∀ pg ∈ X, pg.length ≤ 16 ∧ ∀ q ∈ pg, PstOk q) → ∀ o ∈ (bkP c X).flatten, 0 ≤ o ∧ o ≤ 255
  | [], c, _, o, ho => by simp [bkP] at ho
  | pg :: X, c, h, o, ho => by
    rw [bkP, List.flatten_cons] at ho
    rcases List.mem_append.mp ho with ho | ho
    · exact page_oct c (h pg List.mem_cons_self).2 (h pg List.mem_cons_self).1 o ho
    · exact bkP_oct X _ (fun q hq => h q (List.mem_cons_of_mem _ hq)) o ho
theorem book_oct {L : List Pst} (hok : ∀ p ∈ L, PstOk p) (hl : L.length ≤ 100) : OctOk (bookF L) := by
  refine ⟨?_, bkP_oct _ _ fun pg hpg => ?_⟩
  · have := (book_len hok ((L.length + 15) / 16) (by omega)).1
    rw [book_all] at this
    have : (L.length + 15) / 16 ≤ 7 := by omega
    omega
  · obtain ⟨_, h2, h3⟩ := pages_mem hpg
    exact ⟨h2, fun q hq => hok q (h3 q hq)⟩
/-- a header: rdG sees no further -/
theorem rdG_app {X post : List Int} {n : Nat} {d : Int} (h1 : X[0]? = some ((n : Int) / 256)) (h2 : X[1]? = some ((n : Int) % 256)) (h3 : 2 + n + 4 ≤ X.length) : rdG (X ++ post) 0 d = rdG X 0 d := by
  rw [rdG_at (O := X) (k := 0) (n := n) (B := (X.drop 2).take n) (V := (X.drop (2 + n)).take 4) h1 h2 (by omega) (by rw [Nat.zero_add]) (by rw [Nat.zero_add])]
  rw [rdG_at (O := X ++ post) (k := 0) (n := n) (B := (X.drop 2).take n) (V := (X.drop (2 + n)).take 4)]
  · rw [List.getElem?_append_left (by omega)]; exact h1
  · rw [List.getElem?_append_left (by omega)]; exact h2
  · rw [List.length_append]; omega
  · rw [Nat.zero_add, List.drop_append_of_le_length (by omega), List.take_append_of_le_length (by rw [List.length_drop]; omega)]
  · rw [Nat.zero_add, List.drop_append_of_le_length (by omega), List.take_append_of_le_length (by rw [List.length_drop]; omega)]
theorem chk_four {c : Int} {B : List Int} (hc : 0 < c ∧ c < 4294967296) : pchkF c B ≠ pchkF 0 B := by
  intro h
  unfold pchkF at h
  obtain ⟨h1, _⟩ := chk_inj h
  obtain ⟨q, hq⟩ := chk_low (fourF c ++ B) (1, 0)
  obtain ⟨r, hr⟩ := chk_low (fourF 0 ++ B) (1, 0)
  rw [hq, hr] at h1
  have s0 : (fourF 0).sum = 0 := by decide
  have s1 : 0 < (fourF c).sum ∧ (fourF c).sum ≤ 1020 := by
    have e : (fourF c).sum = c / 16777216 + (c / 65536 % 256 + (c / 256 % 256 + c % 256)) := by
      unfold fourF
      simp only [List.sum_cons, List.sum_nil]
      omega
    rw [e]
    clear e hq hr h1 h s0
    have a1 : 0 ≤ c / 65536 % 256 := by omega
    have a2 : 0 ≤ c / 256 % 256 := by omega
    refine ⟨?_, by omega⟩
    have x1 : c / 65536 = c / 256 / 256 := by omega
    have x2 : c / 16777216 = c / 256 / 256 / 256 := by omega
    rw [x1, x2]
    generalize hu : c / 256 = u
    generalize hv : u / 256 = v
    omega
  rw [List.sum_append, List.sum_append, s0] at h1
  dsimp only at h1
  omega
theorem other_prior {c : Int} {L : List Pst} (hc : 0 < c ∧ c < 4294967296) (post : List Int) : rdG (pageF c L ++ post) 0 0 = none := by
  obtain ⟨p1, p2, p3, p4⟩ := page_parts c L
  rw [rdG_app (n := (bodyF L).length) p1 p2 (by rw [pg_len]; omega)]
  rw [rdG_at (n := (bodyF L).length) (B := bodyF L) (V := fourF (pchkF c (bodyF L))) p1 p2 (by rw [pg_len]; omega) (by rw [Nat.zero_add]; exact p3) (by rw [Nat.zero_add]; exact p4), four_val, if_pos]
  exact chk_four hc
theorem turned_page {L : List Pst} (hok : ∀ p ∈ L, PstOk p) (hl : L.length ≤ 16) {i : Nat} {a v : Int} (h2 : 2 ≤ i) (ha : (pageF 0 L)[i]? = some a) (hv : 0 ≤ v ∧ v ≤ 255) (hne : v ≠ a) (post : List Int) : rdG ((pageF 0 L).set i v ++ post) 0 0 = none := by
  obtain ⟨p1, p2, _, _⟩ := page_parts 0 L
  rw [rdG_app (n := (bodyF L).length) (by rw [List.getElem?_set_ne (by omega)]; exact p1) (by rw [List.getElem?_set_ne (by omega)]; exact p2) (by rw [List.length_set, pg_len]; omega)]
  exact page_turn hok hl h2 ha hv hne
/-- a page that is cut, behind whole ones -/
theorem cut_page {pre : List Int} {c : Int} {L : List Pst} {i : Nat} (hi : i < (pageF c L).length) : rdG (pre ++ (pageF c L).take i) pre.length c = none := by
  have hl := pg_len c L
  unfold rdG
  by_cases g : i < 2
  · have : (pre ++ (pageF c L).take i)[pre.length + 1]? = none := List.getElem?_eq_none (by rw [List.length_append, List.length_take]; omega)
    rw [this]
    cases (pre ++ (pageF c L).take i)[pre.length]? <;> rfl
  · obtain ⟨p1, p2, _, _⟩ := page_parts c L
    have e1 : (pre ++ (pageF c L).take i)[pre.length]? = some (((bodyF L).length : Int) / 256) := by
      rw [List.getElem?_append_right (Nat.le_refl _), Nat.sub_self, List.getElem?_take_of_lt (by omega)]; exact p1
    have e2 : (pre ++ (pageF c L).take i)[pre.length + 1]? = some (((bodyF L).length : Int) % 256) := by
      rw [List.getElem?_append_right (by omega), show pre.length + 1 - pre.length = 1 by omega, List.getElem?_take_of_lt (by omega)]; exact p2
    rw [e1, e2]
    dsimp only
    rw [show (256 * (((bodyF L).length : Int) / 256) + ((bodyF L).length : Int) % 256).toNat = (bodyF L).length by omega, if_pos]
    rw [List.length_append, List.length_take]
    omega
theorem cut_at {L : List Pst} (hok : ∀ p ∈ L, PstOk p) : ∀ (m place : Nat), 16 * m ≤ L.length + 15 → place < (bookF (L.take (16 * m))).length → ∃ j i, j < m ∧ i < (pageF (lastF (L.take (16 * j))) ((L.drop (16 * j)).take 16)).length ∧ place = (bookF (L.take (16 * j))).length + i ∧ (bookF (L.take (16 * m))).take place = bookF (L.take (16 * j)) ++ (pageF (lastF (L.take (16 * j))) ((L.drop (16 * j)).take 16)).take i
  | 0, place, _, h => by simp [bookF, partsF, pagesF, bkP] at h
  | m + 1, place, hm, h => by
    rw [book_step (by omega)] at h ⊢
    rw [List.length_append] at h
    by_cases g : place < (bookF (L.take (16 * m))).length
    · obtain ⟨j, i, h1, h2, h3, h4⟩ := cut_at hok m place (by omega) g
      exact ⟨j, i, by omega, h2, h3, by rw [List.take_append_of_le_length (by omega), h4]⟩
    · exact ⟨m, place - (bookF (L.take (16 * m))).length, by omega, by omega, by omega, by rw [List.take_append, List.take_of_length_le (by omega)]⟩
/-- the first check is not 0 -/
theorem flat_sum : ∀ (L : List Pst), (∀ p ∈ L, PstS p) → 0 ≤ (L.flatMap pstO).sum ∧ (L.flatMap pstO).sum ≤ 4000 * L.length
  | [], _ => by simp
  | p :: L, h => by
    have h1 := h p List.mem_cons_self
    have h2 := flat_sum L fun q hq => h q (List.mem_cons_of_mem _ hq)
    have h3 : ∀ X : List Int, (∀ o ∈ X, 0 ≤ o ∧ o ≤ 255) → 0 ≤ X.sum := by
      intro X
      induction X with
      | nil => intro _; exact Int.le_refl _
      | cons x X ih =>
        intro hx
        have := ih fun o ho => hx o (List.mem_cons_of_mem _ ho)
        have := hx x List.mem_cons_self
        rw [List.sum_cons]
        omega
    have h4 := h3 (pstO p) (pst_oct h1.1)
    have h5 := h1.2
    rw [List.flatMap_cons, List.sum_append, List.length_cons]
    omega
theorem chk_pos {L : List Pst} (hl : L.length ≤ 16) (h : ∀ p ∈ L, PstS p) : 0 < pchkF 0 (bodyF L) ∧ pchkF 0 (bodyF L) < 4294967296 := by
  refine ⟨?_, (chk_range _).2⟩
  have hs := flat_sum L h
  obtain ⟨q, hq⟩ := chk_low (fourF 0 ++ bodyF L) (1, 0)
  have hb := chk_bd (fourF 0 ++ bodyF L) (1, 0) (by decide)
  have e : (fourF 0 ++ bodyF L).sum = (L.length : Int) + (L.flatMap pstO).sum := by
    unfold fourF bodyF
    simp only [List.sum_append, List.sum_cons, List.sum_nil]
    omega
  rw [e] at hq
  dsimp only at hq
  unfold pchkF chkF
  omega
def plainB (z : Str) : Bool := decide (z.cps.size ≤ 200) && z.cps.toList.all fun c : Nat => signB (c : Nat)
theorem plain_good {z : Str} (h : plainB z = true) : goodT z := by
  unfold plainB at h
  rw [Bool.and_eq_true, decide_eq_true_eq, List.all_eq_true] at h
  exact h
theorem lt_one (c d : Nat) : ltX ⟨#[c]⟩ ⟨#[d]⟩ = decide (c < d) := by
  unfold ltX
  exact decide_eq_decide.mpr (by simp [List.cons_lt_cons_iff])
theorem lt_sp (c : Nat) : ltX ⟨#[c]⟩ (Str.ofString " ") = decide (c < 32) := lt_one c 32
theorem gt_ti (c : Nat) : ltX (Str.ofString "~") ⟨#[c]⟩ = decide (126 < c) := lt_one 126 c
theorem bad_none {L : List Nat} (h : ∀ c ∈ L, c ≠ 37) : (L.filterMap fun c => if c < 32 ∨ 126 < c then some (chD c) else none).isEmpty = L.all fun c : Nat => signB (c : Nat) := by
  induction L with
  | nil => rfl
  | cons c L ih =>
    have hc := h c List.mem_cons_self
    have ih := ih fun x hx => h x (List.mem_cons_of_mem _ hx)
    rw [List.all_cons, ← ih]
    by_cases g : c < 32 ∨ 126 < c
    · rw [List.filterMap_cons, if_pos g]
      have : signB (c : Nat) = false := by unfold signB; rw [decide_eq_false (by omega)]; rfl
      rw [this]; rfl
    · rw [List.filterMap_cons, if_neg g]
      have : signB (c : Nat) = true := by unfold signB; rw [decide_eq_true (by omega), decide_eq_true (by omega)]; rfl
      rw [this, Bool.true_and]
theorem cut1 (xs : List D) (m : Nat) (h : 1 ≤ xs.length) : cutD xs (some 1) (some ((m : Int) + 1)) = (xs.drop 1).take m := by
  unfold cutD
  rw [show (1 : Int) = ((1 : Nat) : Int) from rfl, show (m : Int) + ((1 : Nat) : Int) = ((m + 1 : Nat) : Int) by omega, HT.sIx_nat, HT.sIx_nat, Nat.min_eq_left h]
  rw [List.take_eq_take_iff, List.length_drop]
  omega
def badF (x : Int) : Option D := if signB x = true then none else some (.int x)
theorem bad_emp (S : List Int) : (S.filterMap badF).isEmpty = S.all signB := by
  induction S with
  | nil => rfl
  | cons x S ih =>
    rw [List.all_cons, ← ih]
    unfold badF at ih ⊢
    cases g : signB x with
    | true => rw [List.filterMap_cons, if_pos g, Bool.true_and]
    | false => rw [List.filterMap_cons, if_neg (by rw [g]; decide)]; rfl
/-- refused, just where the rule says so -/
theorem ref_text (d : Nat) (L : List Int) (hd : d ≤ 200) : (rdT ((d : Int) :: L) 0).isNone = !(decide (L.length + 1 > d) && (L.take d).all signB) := by
  have e : rdT ((d : Int) :: L) 0 = if 200 < (d : Int) then none else if ((d : Int) :: L).length < 0 + 1 + (d : Int).toNat then none else
      if (((((d : Int) :: L).drop (0 + 1)).take (d : Int).toNat).all signB) = true then some (⟨(((((d : Int) :: L).drop (0 + 1)).take (d : Int).toNat).map Int.toNat).toArray⟩, 0 + 1 + (d : Int).toNat) else none := rfl
  rw [e, if_neg (by omega), Int.toNat_natCast, List.length_cons]
  by_cases g : L.length + 1 < 0 + 1 + d
  · rw [if_pos g, decide_eq_false (by omega)]; rfl
  · rw [if_neg g, decide_eq_true (by omega), Bool.true_and]
    show Option.isNone (if ((L.take d).all signB) = true then _ else none) = _
    cases h : (L.take d).all signB with
    | true => rw [if_pos rfl]; rfl
    | false => rw [if_neg (by decide)]; rfl
theorem rep_mem {z : Str} {n c : Nat} (h : c ∈ (repX z n).cps.toList) : c ∈ z.cps.toList := by
  rw [repX_flat] at h
  obtain ⟨l, hl, hc⟩ := List.mem_flatten.mp h
  rw [List.eq_of_mem_replicate hl] at hc
  exact hc
theorem rep_size (z : Str) (n : Nat) : (repX z n).cps.size = n * z.cps.size := by
  have : (repX z n).cps.size = (repX z n).cps.toList.length := by rw [Array.length_toList]
  rw [this, repX_flat, List.length_flatten, List.map_replicate, List.sum_replicate_nat, Array.length_toList]
theorem cut_mem {z : Str} {lo hi : Option Int} {c : Nat} (h : c ∈ (cutS z lo hi).cps.toList) : c ∈ z.cps.toList := by
  unfold cutS at h
  simp only [List.toList_toArray] at h
  exact List.mem_of_mem_drop (List.mem_of_mem_take h)
theorem of_az : (Str.ofString "az ~!").cps.toList = [97, 122, 32, 126, 33] := by decide +kernel
theorem len_list (z : Str) : z.length = z.cps.toList.length := by rw [Array.length_toList]; rfl
theorem cat_list (y z : Str) : (y ++ z).cps.toList = y.cps.toList ++ z.cps.toList := by
  show (y.cps ++ z.cps).toList = _
  exact Array.toList_append
theorem sgn_one (x1 : Nat) : (Str.ofString "az ~!" ++ (⟨#[x1]⟩ : Str)).cps.toList = [97, 122, 32, 126, 33, x1] := by rw [cat_list, of_az]; rfl
theorem sgn_two (x1 x2 : Nat) : (Str.ofString "az ~!" ++ (⟨#[x1]⟩ : Str) ++ (⟨#[x2]⟩ : Str)).cps.toList = [97, 122, 32, 126, 33, x1, x2] := by rw [cat_list, sgn_one]; rfl
theorem sgn_l0 (x1 : Nat) : (Str.ofString "az ~!").length + (⟨#[x1]⟩ : Str).length ≤ 100000 := by rw [len_list, len_list, of_az]; show 5 + 1 ≤ 100000; decide
theorem sgn_l1 (x1 x2 : Nat) : (Str.ofString "az ~!" ++ (⟨#[x1]⟩ : Str)).length + (⟨#[x2]⟩ : Str).length ≤ 100000 := by rw [len_list, len_list, sgn_one]; show 6 + 1 ≤ 100000; decide
theorem sgn_size (x1 x2 : Nat) : (Str.ofString "az ~!" ++ (⟨#[x1]⟩ : Str) ++ (⟨#[x2]⟩ : Str)).cps.size = 7 := by
  have := congrArg List.length (sgn_two x1 x2)
  rw [Array.length_toList] at this
  exact this
theorem of_tab : Str.ofString "\t" = ⟨#[9]⟩ := by decide +kernel
theorem of_spc : Str.ofString " " = ⟨#[32]⟩ := by decide +kernel
theorem of_exc : Str.ofString "!" = ⟨#[33]⟩ := by decide +kernel
theorem of_brc : Str.ofString "}" = ⟨#[125]⟩ := by decide +kernel
theorem of_til : Str.ofString "~" = ⟨#[126]⟩ := by decide +kernel
theorem of_nl : Str.ofString "\n" = ⟨#[10]⟩ := by decide +kernel
theorem of_x : (Str.ofString "x").cps.toList = [120] := by decide +kernel
theorem of_xs : (Str.ofString "x").cps.size = 1 := by
  have := congrArg List.length of_x
  rw [Array.length_toList] at this
  exact this
theorem pow_at {u : Int} (h0 : 0 ≤ u) (h1 : u < 6) : ∃ pw : Int, atI [D.int 1, D.int 128, D.int 16384, D.int 2097152, D.int 268435456, D.int 34359738368] u = some (.int pw) ∧ 1 ≤ pw ∧ pw ≤ 34359738368 := by
  rcases (show u = 0 ∨ u = 1 ∨ u = 2 ∨ u = 3 ∨ u = 4 ∨ u = 5 by omega) with rfl | rfl | rfl | rfl | rfl | rfl
  · exact ⟨1, by rw [atI_zero], by omega, by omega⟩
  · exact ⟨128, by rw [atI_lit]; rw [List.getElem?_cons_succ, List.getElem?_cons_zero], by omega, by omega⟩
  · exact ⟨16384, by rw [atI_lit]; simp only [List.getElem?_cons_succ, List.getElem?_cons_zero], by omega, by omega⟩
  · exact ⟨2097152, by rw [atI_lit]; simp only [List.getElem?_cons_succ, List.getElem?_cons_zero], by omega, by omega⟩
  · exact ⟨268435456, by rw [atI_lit]; simp only [List.getElem?_cons_succ, List.getElem?_cons_zero], by omega, by omega⟩
  · exact ⟨34359738368, by rw [atI_lit]; simp only [List.getElem?_cons_succ, List.getElem?_cons_zero], by omega, by omega⟩
theorem chk_at {u : Int} (h0 : 0 ≤ u) (h1 : u < 4) : ∃ c : Int, atI [D.int 1, D.int 256, D.int 65536, D.int 16777216] u = some (.int c) ∧ 0 ≤ c ∧ c < 4294967296 := by
  rcases (show u = 0 ∨ u = 1 ∨ u = 2 ∨ u = 3 by omega) with rfl | rfl | rfl | rfl
  · exact ⟨1, by rw [atI_zero], by omega, by omega⟩
  · exact ⟨256, by rw [atI_lit]; simp only [List.getElem?_cons_succ, List.getElem?_cons_zero], by omega, by omega⟩
  · exact ⟨65536, by rw [atI_lit]; simp only [List.getElem?_cons_succ, List.getElem?_cons_zero], by omega, by omega⟩
  · exact ⟨16777216, by rw [atI_lit]; simp only [List.getElem?_cons_succ, List.getElem?_cons_zero], by omega, by omega⟩
def R_law_state (A : Ad) : DSp := fun ds C P => ∃ (c k : Int), ds = [.int c, .int k] ∧ 0 ≤ k ∧ k ≤ 100 ∧ ∀ p s, 0 ≤ s → C p = none → P (.ptr p) (cput C p (.lst [.int s]))
theorem len_law_state (A : Ad) : ∀ ds C P, R_law_state A ds C P → ds.length = 2 := by rintro _ _ _ ⟨c, k, rfl, _⟩; rfl
theorem ok_law_state (T : Txt K mg A) : FnOk P w K mg base CX0 1 A.a_law_state A.d_law_state ["cell", "k"] (spD K (R_law_state A)) :=
  ok_D T.F_law_state sc_law_state (len_law_state A) (fun cdv Ar outer s H E hr =>
    ds_cons (ds_set 2 sc_law_state.nd (d_int))
    (ds_cons (ds_set 3 sc_law_state.nd (d_op op_mod s_mod (d_callTy call_int1 s_int (by rfl) T.z_int (by decide +kernel) (d_cons (d_op op_add s_add (d_op op_add s_add (d_op op_mul s_mul (d_op op_mod s_mod (d_callTy call_int1 s_int (by rfl) T.z_int (by decide +kernel) (d_cons (d_var 0) (d_nil))) (d_var 2)) (d_int)) (d_op op_mul s_mul (d_op op_add s_add (d_var 1) (d_int)) (d_int))) (d_int)) (d_nil))) (d_var 2)))
    (ds_cons (ds_set 4 sc_law_state.nd (d_op op_mod s_mod (d_callTy call_int1 s_int (by rfl) T.z_int (by decide +kernel) (d_cons (d_op op_add s_add (d_op op_add s_add (d_op op_mul s_mul (d_var 3) (d_var 3)) (d_op op_mul s_mul (d_int) (d_var 3))) (d_var 1)) (d_nil))) (d_var 2)))
    (ds_cons (ds_set 5 sc_law_state.nd (d_op op_mod s_mod (d_callTy call_int1 s_int (by rfl) T.z_int (by decide +kernel) (d_cons (d_op op_add s_add (d_op op_add s_add (d_op op_mul s_mul (d_var 4) (d_int)) (d_op op_mul s_mul (d_var 3) (d_int))) (d_int)) (d_nil))) (d_var 2)))
    (ds_cons (ds_set 6 sc_law_state.nd (d_op op_mod s_mod (d_callTy call_int1 s_int (by rfl) T.z_int (by decide +kernel) (d_cons (d_op op_add s_add (d_op op_mul s_mul (d_var 5) (d_var 5)) (d_var 4)) (d_nil))) (d_var 2)))
    (ds_one (ds_ret (d_lstC (d_cons (d_op op_add s_add (d_op op_mul s_mul (d_op op_add s_add (d_op op_mul s_mul (d_op op_add s_add (d_op op_mul s_mul (d_var 6) (d_var 2)) (d_var 5)) (d_var 2)) (d_var 4)) (d_var 2)) (d_var 3)) (d_nil)))))))))) (fun ds C Pk h => by
    obtain ⟨c, k, rfl, h0, h1, q⟩ := h
    walk_at "dd"
    have e1 := mod_lo c (m := 2305843009213693951) (by decide)
    have e2 := mod_hi c (m := 2305843009213693951) (by decide)
    generalize c % 2305843009213693951 = x1 at *
    have f1 := mod_lo (x1 * 6364136223 + (k + 1) * 104729 + 77) (m := 2305843009213693951) (by decide)
    have f2 := mod_hi (x1 * 6364136223 + (k + 1) * 104729 + 77) (m := 2305843009213693951) (by decide)
    generalize (x1 * 6364136223 + (k + 1) * 104729 + 77) % 2305843009213693951 = x2 at *
    have g1 := mod_lo (x2 * x2 + 1013 * x2 + k) (m := 2305843009213693951) (by decide)
    have g2 := mod_hi (x2 * x2 + 1013 * x2 + k) (m := 2305843009213693951) (by decide)
    generalize (x2 * x2 + 1013 * x2 + k) % 2305843009213693951 = x3 at *
    have i1 := mod_lo (x3 * 48271 + x2 * 31 + 9) (m := 2305843009213693951) (by decide)
    have i2 := mod_hi (x3 * 48271 + x2 * 31 + 9) (m := 2305843009213693951) (by decide)
    generalize (x3 * 48271 + x2 * 31 + 9) % 2305843009213693951 = x4 at *
    have j1 := mod_lo (x4 * x4 + x3) (m := 2305843009213693951) (by decide)
    have j2 := mod_hi (x4 * x4 + x3) (m := 2305843009213693951) (by decide)
    generalize (x4 * x4 + x3) % 2305843009213693951 = x5 at *
    refine ⟨by decide, cmul_l (by omega) (by omega), cmul_l (by omega) (by omega), by decide, cmul_l (by omega) (by omega), cmul_l (by omega) (by omega), by decide, cmul_l (by omega) (by omega), cmul_l (by omega) (by omega), by decide, cmul_l (by omega) (by omega), by decide,
      cmul_l (by omega) (by omega), cmul_r (by omega) (by omega), cmul_r (by omega) (by omega), fun p hp => ⟨_, Sub.refl _, q p _ ?_ hp⟩⟩
    omega)

def R_is_sign (A : Ad) : DSp := fun ds C P => ∃ c : Int, ds = [.int c] ∧ P (.bl (signB c)) C
theorem len_is_sign (A : Ad) : ∀ ds C P, R_is_sign A ds C P → ds.length = 1 := by rintro _ _ _ ⟨c, rfl, _⟩; rfl
theorem ok_is_sign (T : Txt K mg A) : FnOk P w K mg base CX0 1 A.a_is_sign A.d_is_sign ["code"] (spD K (R_is_sign A)) :=
  ok_D T.F_is_sign sc_is_sign (len_is_sign A) (fun cdv Ar outer s H E hr =>
    ds_one (ds_ret (d_andV (d_chainE op_le s_le op_le s_le (d_kint T.k_FIRST_SIGN) (d_var 0) (d_kint T.k_LAST_SIGN)) (d_one (d_cmp op_ne s_ne (d_var 0) (d_kint T.k_NO_SIGN)))))) (fun ds C Pk h => by
    obtain ⟨c, rfl, q⟩ := h
    unfold signB at q
    by_cases h1 : 32 ≤ c
    · by_cases h2 : c ≤ 126
      · rw [decide_eq_true ⟨h1, h2⟩, Bool.true_and] at q
        by_cases h3 : c = 37
        · rw [decide_eq_false (fun z => z h3)] at q
          walk_at "dd"
          exact ⟨_, Sub.refl _, q⟩
        · rw [decide_eq_true h3] at q
          walk_at "dd"
          exact ⟨_, Sub.refl _, q⟩
      · rw [decide_eq_false (fun z => h2 z.2), Bool.false_and] at q
        walk_at "dd"
        exact ⟨_, Sub.refl _, q⟩
    · rw [decide_eq_false (fun z => h1 z.1), Bool.false_and] at q
      walk_at "dd"
      exact ⟨_, Sub.refl _, q⟩)

def R_read_text (A : Ad) : DSpX := fun ds C P PX => ∃ (O : List Int) (k : Nat), ds = [.lst (O.map D.int), .int (k : Int)] ∧ OctOk O ∧ k ≤ 100000 ∧ (rdT O k = none → PX (.ref A.C_BadOctets) [] C) ∧ (∀ r, rdT O k = some r → P (.tup [.str r.1, .int (r.2 : Int)]) C)
theorem len_read_text (A : Ad) : ∀ ds C P PX, R_read_text A ds C P PX → ds.length = 2 := by rintro _ _ _ _ ⟨O, k, rfl, _⟩; rfl
theorem ok_read_text (T : Txt K mg A) : FnOk P w K mg base (L2.CX P w) 2 A.a_read_text A.d_read_text ["octets", "place"] (spX K (R_read_text A)) :=
  ok_DX T.F_read_text sc_read_text (len_read_text A) (fun cdv Ar outer s H E hr tk =>
    ds_cons (ds_if ((d_or (d_tcmp op_ge s_ge (d_var 1) (d_callB call_len s_len (by rfl) T.z_len (by decide +kernel) (d_cons (d_var 0) (d_nil)))) (d_or1 (d_tcmp op_gt s_gt (d_ix ix_seq s_ix (d_var 0) (d_var 1)) (d_kint T.k_TEXT_LIMIT)))).pt)
      (ds_one (ds_raise0 rfl tk T.x_BadOctets T.g_BadOctets (by exact rfl)))
      (ds_nil))
    (ds_cons (ds_set 2 sc_read_text.nd (d_op op_add s_add (d_op op_add s_add (d_var 1) (d_int)) (d_ix ix_seq s_ix (d_var 0) (d_var 1))))
    (ds_cons (ds_if (d_tcmp op_gt s_gt (d_var 2) (d_callB call_len s_len (by rfl) T.z_len (by decide +kernel) (d_cons (d_var 0) (d_nil))))
      (ds_one (ds_raise0 rfl tk T.x_BadOctets T.g_BadOctets (by exact rfl)))
      (ds_nil))
    (ds_consL (ds_set 3 sc_read_text.nd (d_lstC (d_nil)))
    (ds_consL (ds_for (passes_of rfl) rfl (di_list (d_sl (d_var 0) (do_some (d_op op_add s_add (d_var 1) (d_int))) (do_some (d_var 2)))) (dg_name 4 sc_read_text.nd)
      (ds_consL (ds_if (d_not (d_tval (d_call (ok_is_sign T) (hr.mono (by decide)) T.g_is_sign T.F_is_sign.kp T.b_is_sign (d_cons (d_var 4) (d_nil)))))
        (ds_one (ds_raise0 rfl tk T.x_BadOctets T.g_BadOctets (by exact rfl)))
        (ds_nil))
      (ds_one (ds_expr (d_bmL PySem.F.plainAttrs_list PySem.F.slot_list_append PySem.F.type_list_append mt_append s_append (d_var 3) (d_cons (d_ix ix_seq s_ix (d_kstr T.k_SIGNS) (d_op op_sub s_sub (d_var 4) (d_kint T.k_FIRST_SIGN))) (d_nil)))))))
    (ds_one (ds_ret (d_tup (d_cons (d_bmS PySem.F.plainAttrs_str PySem.F.slot_str_join PySem.F.type_str_join mt_join s_join (d_str) (d_cons (d_var 3) (d_nil))) (d_cons (d_var 2) (d_nil))))))))))) (fun ds C Pk PX h => by
    obtain ⟨O, k, rfl, ⟨hO1, hO2⟩, hk, q1, q2⟩ := h
    refine seq_hide fun E' hE => ?_
    walk_at "dd"
    by_cases g1 : O.length ≤ k
    · rw [if_pos (by omega)]
      have q := q1 (by unfold rdT; rw [List.getElem?_eq_none g1])
      subst hE
      exact ⟨_, Sub.refl _, q⟩
    rw [if_neg (by omega)]
    obtain ⟨m, hm⟩ : ∃ m, O[k]? = some m := ⟨_, List.getElem?_eq_getElem (by omega)⟩
    have hmb := hO2 m (List.mem_of_getElem? hm)
    have er : rdT O k = if 200 < m then none else if O.length < k + 1 + m.toNat then none else
          if ((O.drop (k + 1)).take m.toNat).all signB = true then some (⟨(((O.drop (k + 1)).take m.toNat).map Int.toNat).toArray⟩, k + 1 + m.toNat) else none := by unfold rdT; rw [hm]
    rw [er] at q1 q2
    walk_at "dd"
    by_cases g2 : 200 < m
    · rw [if_pos g2]
      have q := q1 (if_pos g2)
      subst hE
      exact ⟨_, Sub.refl _, q⟩
    rw [if_neg g2] at q1 q2 ⊢
    subst hE
    dsimp only
    obtain ⟨m, rfl⟩ : ∃ n : Nat, m = n := ⟨m.toNat, by omega⟩
    rw [Int.toNat_natCast] at q1 q2
    clear er
    refine seq_hide fun E' hE => ?_
    walk_at "dd"
    subst hE
    dsimp only
    refine seq_hide fun E' hE => ?_
    walk_at "dd"
    by_cases g3 : O.length < k + 1 + m
    · rw [if_pos (by omega)]
      have q := q1 (if_pos g3)
      subst hE
      exact ⟨_, Sub.refl _, q⟩
    rw [if_neg (by omega)]
    rw [if_neg g3] at q1 q2
    subst hE
    dsimp only
    refine seq_hide fun E' hE => ?_
    walk_at "dd"
    intro p hp
    subst hE
    dsimp only [List.set_cons_succ, List.set_cons_zero]
    refine seq_hide fun E' hE => ?_
    walk_at "dd"
    rw [show (k : Int) + 1 = ((k + 1 : Nat) : Int) by omega, show ((k + 1 : Nat) : Int) + (m : Int) = ((k + 1 + m : Nat) : Int) by omega, cut_mid _ (by omega) (by rw [List.length_map]; omega), show k + 1 + m - (k + 1) = m by omega, ← List.map_drop, ← List.map_take]
    have hSl : ((O.drop (k + 1)).take m).length = m := by rw [List.length_take, List.length_drop]; omega
    generalize (O.drop (k + 1)).take m = S at hSl q1 q2
    refine for_map (enc := D.int) (L := S) (fun j ρ' C' => C' = cput C p (.lst ((S.take j).map fun o => chD o.toNat)) ∧ (S.take j).all signB = true ∧ ∃ o4, ρ' = [some (.lst (O.map D.int)), some (.int (k : Int)), some (.int ((k + 1 + m : Nat) : Int)), some (.ptr p), o4]) ⟨rfl, rfl, _, rfl⟩ ?_ ?_
    · rintro j x ρ' C' hj ⟨rfl, hal, o4, rfl⟩
      have hjl := (List.getElem?_eq_some_iff.mp hj).1
      have hxm := List.mem_of_getElem? hj
      rw [take_snoc hj]
      have hjt : (S.take j).length = j := by rw [List.length_take]; omega
      clear hj
      cases hx : signB x with
      | false =>
        have q := q1 (if_neg (fun z => by have := List.all_eq_true.mp z x hxm; rw [hx] at this; cases this))
        clear q1 q2 hal
        refine seq_hide fun E2 hE2 => ?_
        walk_at "dd"
        refine ⟨x, rfl, ?_⟩
        rw [hx]
        subst hE2
        walk_at "dd"
        subst hE
        exact ⟨C, Sub.new hp, q⟩
      | true =>
        have hsg : ∀ C0, itemOf (.str SIG) C0 (x - 32) = some (chD x.toNat) := sign_item hx
        clear q1 q2
        have hal2 : (S.take j ++ [x]).all signB = true := by rw [List.all_append, hal]; simp [hx]
        clear hal
        generalize S.take j = Y at hjt hal2
        refine seq_hide fun E2 hE2 => ?_
        walk_at "dd"
        refine ⟨x, rfl, ?_⟩
        rw [hx]
        walk_at "dd"
        subst hE2
        unfold SIG at hsg
        walk_at "dd"
        exact ⟨by omega, by rw [List.map_append]; rfl, _, rfl⟩
    rintro ρ' C' ⟨rfl, hal, o4, rfl⟩
    rw [List.take_length] at hal ⊢
    have q := q2 _ (if_pos hal)
    clear q1 q2
    subst hE
    walk_at "dd"
    refine ⟨S.map fun o => (⟨#[o.toNat]⟩ : Str), ?_, ?_, C, Sub.new hp, ?_⟩
    · rw [List.map_map]
      rfl
    · have hsum : ∀ T : List Int, ((T.map fun o => (⟨#[o.toNat]⟩ : Str)).map fun x => x.length).sum = T.length := fun T => by
        induction T with
        | nil => rfl
        | cons a T ih =>
          rw [List.map_cons, List.map_cons, List.sum_cons, ih, List.length_cons]
          show 1 + T.length = _
          omega
      rw [hsum, List.length_map, show (Str.ofString "").length = 0 from by decide +kernel]
      omega
    · have hj := join_chars (S.map Int.toNat)
      rw [List.map_map] at hj
      have h0 : Str.ofString "" = ⟨#[]⟩ := by decide +kernel
      rw [h0]
      have h1 : (S.map fun o => (⟨#[o.toNat]⟩ : Str)) = S.map ((fun c => (⟨#[c]⟩ : Str)) ∘ Int.toNat) := rfl
      rw [h1, hj]
      exact q)

def R_read_check (A : Ad) : DSpX := fun ds C P PX => ∃ (O : List Int) (k : Nat), ds = [.lst (O.map D.int), .int (k : Int)] ∧ OctOk O ∧ k ≤ 1000000 ∧ (O.length < k + 4 → PX (.ref A.C_BadOctets) [] C) ∧ (k + 4 ≤ O.length → P (.tup [.int (valF ((O.drop k).take 4)), .int ((k + 4 : Nat) : Int)]) C)
theorem len_read_check (A : Ad) : ∀ ds C P PX, R_read_check A ds C P PX → ds.length = 2 := by rintro _ _ _ _ ⟨O, k, rfl, _⟩; rfl
theorem ok_read_check (T : Txt K mg A) : FnOk P w K mg base (L2.CX P w) 1 A.a_read_check A.d_read_check ["octets", "place"] (spX K (R_read_check A)) :=
  ok_DX T.F_read_check sc_read_check (len_read_check A) (fun cdv Ar outer s H E hr tk =>
    ds_cons (ds_if (d_tcmp op_gt s_gt (d_op op_add s_add (d_var 1) (d_int)) (d_callB call_len s_len (by rfl) T.z_len (by decide +kernel) (d_cons (d_var 0) (d_nil))))
      (ds_one (ds_raise0 rfl tk T.x_BadOctets T.g_BadOctets (by exact rfl)))
      (ds_nil))
    (ds_cons (ds_set 2 sc_read_check.nd (d_int))
    (ds_consL (ds_for (passes_of rfl) rfl (di_list (d_sl (d_var 0) (do_some (d_var 1)) (do_some (d_op op_add s_add (d_var 1) (d_int))))) (dg_name 3 sc_read_check.nd)
      (ds_one (ds_set 2 sc_read_check.nd (d_op op_add s_add (d_op op_mul s_mul (d_int) (d_var 2)) (d_var 3)))))
    (ds_one (ds_ret (d_tup (d_cons (d_var 2) (d_cons (d_op op_add s_add (d_var 1) (d_int)) (d_nil))))))))) (fun ds C Pk PX h => by
    obtain ⟨O, k, rfl, ⟨hO1, hO2⟩, hk, q1, q2⟩ := h
    refine seq_hide fun E' hE => ?_
    walk_at "dd"
    by_cases g : O.length < k + 4
    · rw [if_pos (by omega)]
      have q := q1 g
      subst hE
      exact ⟨_, Sub.refl _, q⟩
    rw [if_neg (by omega)]
    have q := q2 (by omega)
    clear q1 q2
    subst hE
    dsimp only
    refine seq_hide fun E' hE => ?_
    walk_at "dd"
    subst hE
    dsimp only [List.set_cons_succ, List.set_cons_zero]
    refine seq_hide fun E' hE => ?_
    walk_at "dd"
    rw [show (k : Int) + 4 = ((k + 4 : Nat) : Int) by omega, cut_mid _ (by omega) (by rw [List.length_map]; omega), show k + 4 - k = 4 by omega, ← List.map_drop, ← List.map_take]
    have hSb : ∀ o ∈ (O.drop k).take 4, 0 ≤ o ∧ o ≤ 255 := fun o ho => hO2 o (List.mem_of_mem_drop (List.mem_of_mem_take ho))
    generalize (O.drop k).take 4 = S at hSb q
    refine for_map (enc := D.int) (L := S) (fun j ρ' C' => C' = C ∧ ∃ o3, ρ' = [some (.lst (O.map D.int)), some (.int (k : Int)), some (.int (valF (S.take j))), o3]) ⟨rfl, _, rfl⟩ ?_ ?_
    · rintro j x ρ' C' hj ⟨rfl, o3, rfl⟩
      rw [take_snoc hj]
      have e1 : valF (S.take j ++ [x]) = 256 * valF (S.take j) + x := by unfold valF; rw [List.foldl_append]; rfl
      rw [e1]
      clear hj e1 q
      generalize valF (S.take j) = v
      walk_at "dd"
      exact ⟨cmul_l (by decide) (by decide), _, rfl⟩
    · rintro ρ' C' ⟨rfl, o3, rfl⟩
      rw [List.take_length]
      subst hE
      walk_at "dd"
      rw [show (k : Int) + 4 = ((k + 4 : Nat) : Int) by omega]
      exact ⟨_, Sub.refl _, q⟩)

def R_read_number (A : Ad) : DSpX := fun ds C P PX => ∃ (O : List Int) (k : Nat), ds = [.lst (O.map D.int), .int (k : Int)] ∧ OctOk O ∧ k ≤ 100000 ∧ (rdN O k = none → PX (.ref A.C_BadOctets) [] C) ∧ (∀ r, rdN O k = some r → P (.tup [.int r.1, .int (r.2 : Int)]) C)
theorem len_read_number (A : Ad) : ∀ ds C P PX, R_read_number A ds C P PX → ds.length = 2 := by rintro _ _ _ _ ⟨O, k, rfl, _⟩; rfl
theorem ok_read_number (T : Txt K mg A) : FnOk P w K mg base (L2.CX P w) 1 A.a_read_number A.d_read_number ["octets", "place"] (spX K (R_read_number A)) :=
  ok_DX T.F_read_number sc_read_number (len_read_number A) (fun cdv Ar outer s H E hr tk =>
    ds_cons (ds_set 2 sc_read_number.nd (d_int))
    (ds_cons (ds_set 3 sc_read_number.nd (d_int))
    (ds_consL (ds_for (passes_of rfl) rfl (di_rng1 (by rfl) T.z_range (d_cons (d_int) (d_nil))) (dg_name 4 sc_read_number.nd)
      (ds_cons (ds_if (d_tcmp op_ge s_ge (d_op op_add s_add (d_var 1) (d_var 4)) (d_callB call_len s_len (by rfl) T.z_len (by decide +kernel) (d_cons (d_var 0) (d_nil))))
        (ds_one (ds_raise0 rfl tk T.x_BadOctets T.g_BadOctets (by exact rfl)))
        (ds_nil))
      (ds_cons (ds_set 5 sc_read_number.nd (d_ix ix_seq s_ix (d_var 0) (d_op op_add s_add (d_var 1) (d_var 4))))
      (ds_cons (ds_aug 2 sc_read_number.nd ip_add s_ipAdd (d_op op_mul s_mul (d_op op_mod s_mod (d_var 5) (d_int)) (d_var 3)))
      (ds_cons (ds_set 3 sc_read_number.nd (d_op op_mul s_mul (d_var 3) (d_int)))
      (ds_one (ds_if (d_tcmp op_lt s_lt (d_var 5) (d_int))
        (ds_cons (ds_if ((d_or ((d_and (d_tcmp op_eq s_eq (d_var 5) (d_int)) (d_and1 (d_tcmp op_gt s_gt (d_var 4) (d_int)))).pt) (d_or1 (d_tcmp op_gt s_gt (d_var 2) (d_kint T.k_GREATEST)))).pt)
          (ds_one (ds_raise0 rfl tk T.x_BadOctets T.g_BadOctets (by exact rfl)))
          (ds_nil))
        (ds_one (ds_ret (d_tup (d_cons (d_var 2) (d_cons (d_op op_add s_add (d_op op_add s_add (d_var 1) (d_var 4)) (d_int)) (d_nil)))))))
        (ds_nil))))))))
    (ds_one (ds_raise0 rfl tk T.x_BadOctets T.g_BadOctets (by exact rfl)))))) (fun ds C Pk PX h => by
    obtain ⟨O, k, rfl, ⟨hO1, hO2⟩, hk, q1, q2⟩ := h
    refine seq_hide fun E' hE => ?_
    walk_at "dd"
    subst hE
    dsimp only
    refine seq_hide fun E' hE => ?_
    walk_at "dd"
    subst hE
    dsimp only [List.set_cons_succ, List.set_cons_zero]
    refine seq_hide fun E' hE => ?_
    walk_at "dd"
    refine ⟨by decide, for_rng (fun g ρ' C' => C' = C ∧ ∃ (nu we : Int) (o5 o6 : Option D), ρ' = [some (.lst (O.map D.int)), some (.int (k : Int)), some (.int nu), some (.int we), o5, o6] ∧ rdN O k = rdGo O k (6 - g) g nu we ∧ g ≤ 6) ⟨rfl, 0, 1, _, _, rfl, rfl, by decide⟩ ?_ ?_⟩
    · rintro g ρ' C' hg ⟨rfl, nu, we, o5, o6, rfl, hr, _⟩
      have hg' : g < 6 := hg
      rw [Int.zero_add]
      have e6 : 6 - g = (6 - (g + 1)) + 1 := by omega
      rw [e6] at hr
      unfold rdGo at hr
      have hcast : (k : Int) + (g : Int) = ((k + g : Nat) : Int) := by omega
      cases ho : O[k + g]? with
      | none =>
        rw [ho] at hr
        dsimp only at hr
        have hlen : O.length ≤ k + g := List.getElem?_eq_none_iff.mp ho
        have h1 : (k : Int) + (g : Int) ≥ (O.length : Int) := by omega
        have q := q1 hr
        clear hr hcast ho
        subst hE
        walk_at "dd"
        exact ⟨_, Sub.refl _, q⟩
      | some o =>
        rw [ho] at hr
        dsimp only at hr
        have hlen := (List.getElem?_eq_some_iff.mp ho).1
        have hob := hO2 o (List.mem_of_getElem? ho)
        have h1 : ¬ (k : Int) + (g : Int) ≥ (O.length : Int) := by omega
        have hat : atI (O.map D.int) ((k : Int) + (g : Int)) = some (.int o) := by rw [hcast, atI_nat', List.getElem?_map, ho]; rfl
        clear hO2
        have hr' := hr
        clear hr
        walk_at "dd"
        rw [if_neg (by omega)]
        refine ⟨by decide, cmul_l (by omega) (by omega), cmul_r (by decide) (by decide), ?_⟩
        by_cases c1 : o < 128
        · rw [if_pos c1] at hr'
          by_cases c2 : (o = 0 ∧ 0 < g) ∨ 1000000000000 < nu + o % 128 * we
          · rw [if_pos c2] at hr'
            have q := q1 hr'
            subst hE
            repeat' split
            all_goals first
              | exact ⟨_, Sub.refl _, q⟩
              | (exfalso; omega)
          · rw [if_neg c2] at hr'
            have q := q2 _ hr'
            dsimp only at q
            rw [show ((k + g + 1 : Nat) : Int) = ((k + g : Nat) : Int) + 1 by omega] at q
            subst hE
            repeat' split
            all_goals first
              | exact ⟨_, Sub.refl _, q⟩
              | (exfalso; omega)
        · rw [if_neg c1]
          exact ⟨_, _, _, _, rfl, by rw [if_neg c1], by omega⟩
    · rintro ρ' C' ⟨rfl, nu, we, o5, o6, rfl, hr, _⟩
      have q := q1 hr
      subst hE
      walk_at "dd"
      exact ⟨_, Sub.refl _, q⟩)

def R_unfolded (A : Ad) : DSp := fun ds C P => ∃ a : Int, ds = [.int a] ∧ P (.int (unfI a)) C
theorem len_unfolded (A : Ad) : ∀ ds C P, R_unfolded A ds C P → ds.length = 1 := by rintro _ _ _ ⟨c, rfl, _⟩; rfl
theorem ok_unfolded (T : Txt K mg A) : FnOk P w K mg base CX0 1 A.a_unfolded A.d_unfolded ["number"] (spD K (R_unfolded A)) :=
  ok_D T.F_unfolded sc_unfolded (len_unfolded A) (fun cdv Ar outer s H E hr =>
    ds_cons (ds_if (d_tcmp op_eq s_eq (d_op op_mod s_mod (d_var 0) (d_int)) (d_int))
      (ds_one (ds_ret (d_op op_fdivW s_divW (d_var 0) (d_int))))
      (ds_nil))
    (ds_one (ds_ret (d_op op_fdivW s_divW (d_un un_neg s_neg (d_op op_add s_add (d_var 0) (d_int))) (d_int))))) (fun ds C Pk h => by
    obtain ⟨a, rfl, q⟩ := h
    unfold unfI at q
    by_cases h1 : a % 2 = 0
    · rw [if_pos h1] at q
      walk_at "dd"
      exact ⟨by decide, ⟨by decide, by decide⟩, _, Sub.refl _, q⟩
    · rw [if_neg h1] at q
      walk_at "dd"
      exact ⟨by decide, ⟨by decide, by decide⟩, _, Sub.refl _, q⟩)

def R_read_amount (A : Ad) : DSpX := fun ds C P PX => ∃ (O : List Int) (k : Nat), ds = [.lst (O.map D.int), .int (k : Int)] ∧ OctOk O ∧ k ≤ 100000 ∧ (rdA O k = none → PX (.ref A.C_BadOctets) [] C) ∧ (∀ r, rdA O k = some r → P (.tup [.int r.1, .int (r.2 : Int)]) C)
theorem len_read_amount (A : Ad) : ∀ ds C P PX, R_read_amount A ds C P PX → ds.length = 2 := by rintro _ _ _ _ ⟨O, k, rfl, _⟩; rfl
theorem ok_read_amount (T : Txt K mg A) : FnOk P w K mg base (L2.CX P w) 2 A.a_read_amount A.d_read_amount ["octets", "place"] (spX K (R_read_amount A)) :=
  ok_DX T.F_read_amount sc_read_amount (len_read_amount A) (fun cdv Ar outer s H E hr tk =>
    ds_consL (ds_asg (d_callX tk (ok_read_number T) (hr.mono (by decide)) T.g_read_number T.F_read_number.kp T.b_read_number (d_cons (d_var 0) (d_cons (d_var 1) (d_nil)))) (dg_tup rfl (dgs_cons (dg_name 2 sc_read_amount.nd) (dgs_cons (dg_name 3 sc_read_amount.nd) (dgs_nil)))))
    (ds_one (ds_ret (d_tup (d_cons (d_call (ok_unfolded T) (hr.mono (by decide)) T.g_unfolded T.F_unfolded.kp T.b_unfolded (d_cons (d_var 2) (d_nil))) (d_cons (d_var 3) (d_nil))))))) (fun ds C Pk PX h => by
    obtain ⟨O, k, rfl, hO, hk, q1, q2⟩ := h
    unfold rdA mapR at q1 q2
    walk_at "dd"
    refine ⟨O, k, rfl, hO, hk, fun h => ?_, fun r hr => ?_⟩
    · rw [h] at q1
      exact ⟨_, Sub.refl _, q1 rfl⟩
    · rw [hr] at q2
      have q := q2 _ rfl
      walk_at "dd"
      exact ⟨_, rfl, _, Sub.refl _, q⟩)

def refB (A : Ad) (a : Addr) (O : List Int) (k : Nat) : Option Bool := if a = A.a_read_text then some (rdT O k).isNone else if a = A.a_read_check then some (decide (O.length < k + 4)) else if a = A.a_read_amount then some (rdA O k).isNone else none
def R_law_refused (A : Ad) : DSp := fun ds C P => ∃ (a : Addr) (O : List Int) (k : Nat), ds = [.ptr a, .lst (O.map D.int), .int (k : Int)] ∧ OctOk O ∧ k ≤ 1000 ∧ ((a = A.a_read_text ∧ P (.bl (rdT O k).isNone) C) ∨ (a = A.a_read_check ∧ P (.bl (decide (O.length < k + 4))) C) ∨ (a = A.a_read_amount ∧ P (.bl (rdA O k).isNone) C))
theorem len_law_refused (A : Ad) : ∀ ds C P, R_law_refused A ds C P → ds.length = 3 := by rintro _ _ _ ⟨a, O, k, rfl, _⟩; rfl
theorem ok_law_refused (T : Txt K mg A) : FnOk P w K mg base CX0 3 A.a_law_refused A.d_law_refused ["deed", "octets", "place"] (spD K (R_law_refused A)) :=
  ok_D T.F_law_refused sc_law_refused (len_law_refused A) (fun cdv Ar outer s H E hr =>
    ds_consL (ds_try rfl rfl T.x_BadOctets T.g_BadOctets takes0 (fun Wt pn xe tkt pot =>
      ds_one (ds_expr (d_callV (ok := [A.a_read_text, A.a_read_check, A.a_read_amount]) (RV := (fun a ds C P PX => (a = A.a_read_text ∧ R_read_text A ds C P PX) ∨ (a = A.a_read_check ∧ R_read_check A ds C P PX) ∨ (a = A.a_read_amount ∧ R_read_amount A ds C P PX))) (i := 0) tkt (fun a h => by simp only [List.mem_cons, List.not_mem_nil, or_false] at h; rcases h with rfl | rfl | rfl <;> first | exact T.F_read_text.kp | exact T.F_read_check.kp | exact T.F_read_amount.kp) (fun a ds C P PX h => by rcases h with ⟨rfl, h⟩ | ⟨rfl, h⟩ | ⟨rfl, h⟩ <;> first | exact ⟨R_read_text A, _, _, _, h, ok_read_text T, hr.mono (by decide), T.b_read_text⟩ | exact ⟨R_read_check A, _, _, _, h, ok_read_check T, hr.mono (by decide), T.b_read_check⟩ | exact ⟨R_read_amount A, _, _, _, h, ok_read_amount T, hr.mono (by decide), T.b_read_amount⟩) rfl (by first | exact Or.inl rfl | exact Or.inr (Or.inl rfl) | exact Or.inr (Or.inr rfl)) (d_cons (d_var 1) (d_cons (d_var 2) (d_nil)))))) (fun a oe cls d pn hz hf =>
      ds_one (ds_ret (d_bl))))
    (ds_one (ds_ret (d_bl)))) (fun ds C Pk h => by
    obtain ⟨a, O, k, rfl, hO, hk, q⟩ := h
    have he := T.e_BadOctets_BadOctets
    refine seq_hide fun E' hE => ?_
    walk_at "dd"
    refine ⟨?_, ?_⟩
    · rcases q with ⟨rfl, _⟩ | ⟨rfl, _⟩ | ⟨rfl, _⟩ <;> simp
    have hno : P.main.body = P.main.body := rfl
    rcases q with ⟨ha, q⟩ | ⟨ha, q⟩ | ⟨ha, q⟩
    · refine .inl ⟨ha, O, k, rfl, hO, by omega, fun hn => ⟨true, he, fun _ => ?_, fun z => Bool.noConfusion z⟩, fun r hr => ?_⟩
      · rw [hn] at q
        subst hE
        exact ⟨_, Sub.refl _, q⟩
      · rw [hr] at q
        subst hE
        dsimp only
        walk_at "dd"
        exact ⟨_, Sub.refl _, q⟩
    · refine .inr (.inl ⟨ha, O, k, rfl, hO, by omega, fun hn => ⟨true, he, fun _ => ?_, fun z => Bool.noConfusion z⟩, fun hn => ?_⟩)
      · rw [decide_eq_true hn] at q
        subst hE
        exact ⟨_, Sub.refl _, q⟩
      · rw [decide_eq_false (by omega)] at q
        subst hE
        dsimp only
        walk_at "dd"
        exact ⟨_, Sub.refl _, q⟩
    · refine .inr (.inr ⟨ha, O, k, rfl, hO, by omega, fun hn => ⟨true, he, fun _ => ?_, fun z => Bool.noConfusion z⟩, fun r hr => ?_⟩)
      · rw [hn] at q
        subst hE
        exact ⟨_, Sub.refl _, q⟩
      · rw [hr] at q
        subst hE
        dsimp only
        walk_at "dd"
        exact ⟨_, Sub.refl _, q⟩)

def R_law_cell (A : Ad) : DSp := fun ds C P => ∃ (ns : List Int) (k : Int), ds = [.lst (ns.map D.int), .int k] ∧ ns.length ≤ 63 ∧ 0 ≤ k ∧ ∀ v, P (.int v) C
theorem len_law_cell (A : Ad) : ∀ ds C P, R_law_cell A ds C P → ds.length = 2 := by rintro _ _ _ ⟨ns, k, rfl, _⟩; rfl
theorem ok_law_cell (T : Txt K mg A) : FnOk P w K mg base CX0 1 A.a_law_cell A.d_law_cell ["script", "k"] (spD K (R_law_cell A)) :=
  ok_D T.F_law_cell sc_law_cell (len_law_cell A) (fun cdv Ar outer s H E hr =>
    ds_cons (ds_if (d_tcmp op_lt s_lt (d_var 1) (d_callB call_len s_len (by rfl) T.z_len (by decide +kernel) (d_cons (d_var 0) (d_nil))))
      (ds_one (ds_ret (d_ix ix_seq s_ix (d_var 0) (d_var 1))))
      (ds_nil))
    (ds_one (ds_ret (d_int)))) (fun ds C Pk h => by
    obtain ⟨ns, k, rfl, hl, hk, q⟩ := h
    walk_at "dd"
    split
    · rename_i hc
      rw [atI_at hk, List.getElem?_map, List.getElem?_eq_getElem (by omega)]
      exact ⟨C, Sub.refl _, q _⟩
    · exact ⟨C, Sub.refl _, q _⟩)

def R_law_digit (A : Ad) : DSp := fun ds C P => ∃ p s m, ds = [.ptr p, .int m] ∧ C p = some (.lst [.int s]) ∧ 0 ≤ s ∧ 0 < m ∧ m < 18446744073709551616 ∧ ∀ d s', 0 ≤ d → d < m → 0 ≤ s' → P (.int d) (cput C p (.lst [.int s']))
theorem len_law_digit (A : Ad) : ∀ ds C P, R_law_digit A ds C P → ds.length = 2 := by rintro _ _ _ ⟨p, s, m, rfl, _⟩; rfl
theorem ok_law_digit (T : Txt K mg A) : FnOk P w K mg base CX0 1 A.a_law_digit A.d_law_digit ["state", "many"] (spD K (R_law_digit A)) :=
  ok_D T.F_law_digit sc_law_digit (len_law_digit A) (fun cdv Ar outer s H E hr =>
    ds_cons (ds_set 2 sc_law_digit.nd (d_op op_mod s_mod (d_callTy call_int1 s_int (by rfl) T.z_int (by decide +kernel) (d_cons (d_ix ix_seq s_ix (d_var 0) (d_int)) (d_nil))) (d_var 1)))
    (ds_cons (ds_setL (d_var 0) (d_int) (d_op op_fdivW s_divW (d_ix ix_seq s_ix (d_var 0) (d_int)) (d_var 1)))
    (ds_one (ds_ret (d_var 2))))) (fun ds C Pk h => by
    obtain ⟨p, s, m, rfl, hp, hs, h0, h1, q⟩ := h
    walk_at "dd"
    rw [ixN_at (by omega) (by omega)]
    exact ⟨_, Sub.refl _, q _ _ (mod_lo s h0) (mod_hi s h0) (Int.ediv_nonneg hs (by omega))⟩)

def R_law_octets (A : Ad) : DSp := fun ds C P => ∃ (p : Addr) (s : Int), ds = [.ptr p] ∧ C p = some (.lst [.int s]) ∧ 0 ≤ s ∧ ∀ s', 0 ≤ s' → P (.bl true) (cput C p (.lst [.int s']))
theorem len_law_octets (A : Ad) : ∀ ds C P, R_law_octets A ds C P → ds.length = 1 := by rintro _ _ _ ⟨z, s, rfl, _⟩; rfl
theorem ok_law_octets (T : Txt K mg A) : FnOk P w K mg base CX0 4 A.a_law_octets A.d_law_octets ["state"] (spD K (R_law_octets A)) :=
  ok_D T.F_law_octets sc_law_octets (len_law_octets A) (fun cdv Ar outer s H E hr =>
    ds_consL (ds_set 1 sc_law_octets.nd (d_op op_catS s_cat (d_lst (d_cons (d_call (ok_law_digit T) (hr.mono (by decide)) T.g_law_digit T.F_law_digit.kp T.b_law_digit (d_cons (d_var 0) (d_cons (d_int) (d_nil)))) (d_nil))) (d_lc rfl sc_law_octets.nd (di_rng1 (by rfl) T.z_range (d_cons (d_call (ok_law_digit T) (hr.mono (by decide)) T.g_law_digit T.F_law_digit.kp T.b_law_digit (d_cons (d_var 0) (d_cons (d_int) (d_nil)))) (d_nil))) (blkOk_by (own := [("spare", 5)]) (N := ["state", "octets", "many", "signs", "right", "spare", "octet"]) (sc := defScope s_law_octets) (by decide +kernel)) (by decide) (fun _ _ _ _ _ => dg_name 5 sc_law_octets.nd) (fun _ _ _ _ _ => dts_nil) (fun _ _ _ _ _ => d_op op_add s_add (d_int) (d_call (ok_law_digit T) (hr.mono (by decide)) T.g_law_digit T.F_law_digit.kp T.b_law_digit (d_cons (d_var 0) (d_cons (d_int) (d_nil))))))))
    (ds_cons (ds_set 2 sc_law_octets.nd (d_ix ix_seq s_ix (d_var 1) (d_int)))
    (ds_cons (ds_set 3 sc_law_octets.nd (d_sl (d_var 1) (do_some (d_int)) (do_some (d_op op_add s_add (d_var 2) (d_int)))))
    (ds_consL (ds_set 4 sc_law_octets.nd (d_andV (d_cmp op_gt s_gt (d_callB call_len s_len (by rfl) T.z_len (by decide +kernel) (d_cons (d_var 1) (d_nil))) (d_var 2)) (d_one (d_cmp (op_eqEmp hr.units) s_emp (d_lc rfl sc_law_octets.nd (di_list (d_var 3)) (blkOk_by (own := [("octet", 6)]) (N := ["state", "octets", "many", "signs", "right", "spare", "octet"]) (sc := defScope s_law_octets) (by decide +kernel)) (by decide) (fun _ _ _ _ _ => dg_name 6 sc_law_octets.nd) (fun _ _ _ _ _ => dts_one ((d_or (d_tcmp op_lt s_lt (d_var 6) (d_int)) (d_or (d_tcmp op_gt s_gt (d_var 6) (d_int)) (d_or1 (d_tcmp op_eq s_eq (d_var 6) (d_int))))).pt)) (fun _ _ _ _ _ => d_var 6)) (d_lst (d_nil))))))
    (ds_one (ds_ret (d_cmp op_ne s_ne (d_call (ok_law_refused T) (hr.mono (by decide)) T.g_law_refused T.F_law_refused.kp T.b_law_refused (d_cons (d_fnV T.g_read_text) (d_cons (d_var 1) (d_cons (d_int) (d_nil))))) (d_var 4)))))))) (fun ds C Pk h => by
    obtain ⟨p, s, rfl, hp, hs, q⟩ := h
    refine seq_hide fun E' hE => ?_
    walk_at "dd"
    refine ⟨p, s, 4, rfl, hp, hs, by decide, by decide, fun d s1 hd0 hd1 hs1 => ?_⟩
    obtain ⟨d, rfl⟩ : ∃ n : Nat, d = n := ⟨d.toNat, by omega⟩
    have g1 : cput C p (.lst [.int s1]) p = some (.lst [.int s1]) := cput_same
    refine ⟨p, s1, 5, rfl, g1, hs1, by decide, by decide, fun j s2 hj0 hj1 hs2 => ?_⟩
    rw [cput_cput]
    obtain ⟨j, rfl⟩ : ∃ n : Nat, j = n := ⟨j.toNat, by omega⟩
    have g2 : cput C p (.lst [.int s2]) p = some (.lst [.int s2]) := cput_same
    clear g1
    walk_at "dd"
    refine ⟨by omega, ?_⟩
    intro Dl hD
    have nD : p ≠ Dl := cell_ne g2 hD
    refine ⟨fun i C' => ∃ (L : List Int) (z : Int), L.length = i ∧ (∀ o ∈ L, 28 ≤ o ∧ o ≤ 137) ∧ 0 ≤ z ∧ C' = cput (cput C p (.lst [.int z])) Dl (.lst (L.map D.int)), ⟨[], s2, rfl, (fun o ho => nomatch ho), hs2, rfl⟩, fun _ _ _ => trivial, ?_, ?_⟩
    · rintro i x C' hd ⟨L, z, hL, hok, hz, rfl⟩
      have hi8 : i < j := by
        have := (List.getElem?_eq_some_iff.mp hd).1
        simpa [rngD] using this
      have b1 : cput (cput C p (.lst [.int z])) Dl (.lst (L.map D.int)) p = some (.lst [.int z]) := (cput_ne nD).trans cput_same
      clear hd
      walk_at "dd"
      refine ⟨p, z, 110, rfl, b1, hz, by decide, by decide, fun u z2 hu0 hu1 hz2 => ?_⟩
      have b2 : cput (cput (cput C p (.lst [.int z])) Dl (.lst (L.map D.int))) p (.lst [.int z2]) = cput (cput C p (.lst [.int z2])) Dl (.lst (L.map D.int)) := by
        funext a
        by_cases e : a = p
        · rw [e, cput_same, cput_ne nD, cput_same]
        · rw [cput_ne e]
          by_cases e2 : a = Dl
          · rw [e2, cput_same, cput_same]
          · rw [cput_ne e2, cput_ne e2, cput_ne e, cput_ne e]
      rw [b2]
      clear b1 b2
      walk_at "dd"
      refine ⟨by omega, L ++ [28 + u], z2, by rw [List.length_append, hL]; rfl, fun x hx => ?_, hz2, by rw [List.map_append]; rfl⟩
      rcases List.mem_append.mp hx with hx | hx
      · exact hok x hx
      · simp only [List.mem_cons, List.not_mem_nil, or_false] at hx
        subst hx; omega
    · rintro C' ⟨L, z, hL, hok, hz, rfl⟩
      rw [cput_same]
      have hDl : cput C p (.lst [.int z]) Dl = none := by
        rw [cput_ne nD.symm]
        rw [cput_ne nD.symm] at hD
        exact hD
      refine ⟨cput C p (.lst [.int z]), Sub.new hDl, hDl, ?_⟩
      have q := q z hz
      generalize cput C p (.lst [.int z]) = C4 at q ⊢
      clear hD hDl g2 nD
      have hL8 : L.length = j := by simpa [rngD] using hL
      simp only [seqOf_lst]
      refine ⟨by simp only [List.length_cons, List.length_nil, List.length_map]; omega, ?_⟩
      have eO : [D.int (d : Int)] ++ L.map D.int = ((d : Int) :: L).map D.int := rfl
      rw [eO]
      clear eO
      have hO : OctOk ((d : Int) :: L) := ⟨by rw [List.length_cons]; omega, fun o ho => by
        rcases List.mem_cons.mp ho with rfl | ho
        · omega
        · have := hok o ho; omega⟩
      have hrf := ref_text d L (by omega)
      subst hE
      dsimp only [List.set_cons_succ, List.set_cons_zero]
      refine seq_hide fun E' hE => ?_
      walk_at "dd"
      subst hE
      dsimp only [List.set_cons_succ, List.set_cons_zero]
      refine seq_hide fun E' hE => ?_
      walk_at "dd"
      have hcu := cut1 (D.int (d : Int) :: L.map D.int) d (by simp)
      have hcu2 : ((D.int (d : Int) :: L.map D.int).drop 1).take d = (L.take d).map D.int := by
        show (L.map D.int).take d = _
        rw [List.map_take]
      rw [hcu2] at hcu
      rw [hcu]
      clear hcu hcu2
      subst hE
      dsimp only [List.set_cons_succ, List.set_cons_zero]
      refine seq_hide fun E' hE => ?_
      clear hL
      subst hL8
      have fin : E'.nx [some (.ptr p), some (.lst (D.int (d : Int) :: L.map D.int)), some (.int (d : Int)), some (.lst ((L.take d).map D.int)), some (.bl (decide (L.length + 1 > d) && (L.take d).all signB)), none, none] C4 := by
        subst hE
        dsimp only [List.set_cons_succ, List.set_cons_zero]
        walk_at "dd"
        refine ⟨A.a_read_text, (d : Int) :: L, 0, rfl, hO, by decide, .inl ⟨rfl, ?_⟩⟩
        rw [hrf]
        generalize (decide (L.length + 1 > d) && (L.take d).all signB) = b
        cases b with
        | true => exact ⟨_, Sub.refl _, q⟩
        | false => exact ⟨_, Sub.refl _, q⟩
      by_cases g : d < L.length + 1
      · rw [decide_eq_true (show L.length + 1 > d from g), Bool.true_and] at fin
        clear hrf hok hO
        walk_at "dd"
        rw [if_pos (by omega)]
        refine lc_map (enc := D.int) (L := L.take d) badF (fun _ _ => trivial) (by rw [List.length_take]; omega) (fun m x C' Q hm hsub hQ => ?_) ?_
        · clear hm fin
          unfold badF at hQ
          cases gx : signB x with
          | true =>
            rw [gx, if_pos rfl] at hQ
            unfold signB at gx
            rw [Bool.and_eq_true, decide_eq_true_eq, decide_eq_true_eq] at gx
            have n1 : ¬ x < 32 := by omega
            have n2 : ¬ 126 < x := by omega
            have n3 : ¬ x = 37 := gx.2
            clear gx
            walk_at "dd"
            try exact hQ
          | false =>
            rw [gx, if_neg (by decide)] at hQ
            unfold signB at gx
            rw [Bool.and_eq_false_iff, decide_eq_false_iff_not, decide_eq_false_iff_not] at gx
            by_cases n1 : x < 32
            · clear gx
              walk_at "dd"
              try exact hQ
            · by_cases n2 : 126 < x
              · clear gx
                walk_at "dd"
                try exact hQ
              · have n3 : x = 37 := by omega
                subst n3
                clear gx n1 n2
                walk_at "dd"
                first
                  | exact hQ
                  | simp
        simp only [seqOf_lst]
        rw [bad_emp]
        exact fin
      · rw [decide_eq_false (show ¬ L.length + 1 > d from g), Bool.false_and] at fin
        clear hrf hok hO
        walk_at "dd"
        rw [if_neg (by omega)]
        try exact fin
        try trivial)

def R_is_plain (A : Ad) : DSp := fun ds C P => ∃ z : Str, ds = [.str z] ∧ z.cps.size ≤ 300 ∧ P (.bl (plainB z)) C
theorem len_is_plain (A : Ad) : ∀ ds C P, R_is_plain A ds C P → ds.length = 1 := by rintro _ _ _ ⟨c, rfl, _⟩; rfl
theorem ok_is_plain (T : Txt K mg A) : FnOk P w K mg base CX0 2 A.a_is_plain A.d_is_plain ["text"] (spD K (R_is_plain A)) :=
  ok_D T.F_is_plain sc_is_plain (len_is_plain A) (fun cdv Ar outer s H E hr =>
    ds_cons (ds_if (d_tcmp op_gt s_gt (d_callB call_len s_len (by rfl) T.z_len (by decide +kernel) (d_cons (d_var 0) (d_nil))) (d_kint T.k_TEXT_LIMIT))
      (ds_one (ds_ret (d_bl)))
      (ds_nil))
    (ds_one (ds_ret (d_callB (cr_all rfl) s_all (by rfl) T.z_all (by decide +kernel) (d_cons (d_lc rfl sc_is_plain.nd (di_str (d_var 0)) (blkOk_by (own := [("sign", 1)]) (N := ["text", "sign"]) (sc := defScope s_is_plain) (by decide +kernel)) (by decide) (fun _ _ _ _ _ => dg_name 1 sc_is_plain.nd) (fun _ _ _ _ _ => dts_nil) (fun _ _ _ _ _ => d_call (ok_is_sign T) (hr.mono (by decide)) T.g_is_sign T.F_is_sign.kp T.b_is_sign (d_cons (d_callB call_ord s_ord (by rfl) T.z_ord (by decide +kernel) (d_cons (d_var 1) (d_nil))) (d_nil)))) (d_nil)))))) (fun ds C Pk h => by
    obtain ⟨z, rfl, hz, q⟩ := h
    have hln : lenOf (.str z) C = some z.cps.size := lenOf_str (by show z.cps.size ≤ _; omega)
    refine seq_hide fun E' hE => ?_
    walk_at "dd"
    unfold plainB at q
    by_cases g : z.cps.size ≤ 200
    case neg =>
      rw [decide_eq_false g, Bool.false_and] at q
      rw [if_pos (by omega)]
      subst hE
      exact ⟨_, Sub.refl _, q⟩
    rw [decide_eq_true g, Bool.true_and] at q
    rw [if_neg (by omega)]
    subst hE
    dsimp only
    walk_at "dd"
    refine lc_map (enc := chD) (L := z.cps.toList) (fun c : Nat => some (.bl (signB (c : Nat)))) (fun _ _ => trivial) (by rw [Array.length_toList]; omega) (fun j c C' Q hj hs hQ => ?_) ?_
    · clear hj
      simp only [chD]
      walk_at "dd"
      exact ⟨rfl, (c : Nat), rfl, hQ⟩
    refine ⟨z.cps.toList.map fun c : Nat => signB (c : Nat), ?_, ?_⟩
    · show some _ = some _
      rw [List.map_map]
      exact congrArg some (congrFun (List.filterMap_eq_map (f := fun c : Nat => D.bl (signB (c : Nat)))) _)
    · have : (z.cps.toList.map fun c : Nat => signB (c : Nat)).all id = z.cps.toList.all fun c : Nat => signB (c : Nat) := by
        rw [List.all_map]; rfl
      rw [this]
      exact ⟨_, Sub.refl _, q⟩)

def R_text_octets (A : Ad) : DSpX := fun ds C P PX => ∃ z : Str, ds = [.str z] ∧ z.cps.size ≤ 300 ∧ (plainB z = false → PX (.ref A.C_BadNumber) [] C) ∧ (plainB z = true → P (.lst ((txtO z).map D.int)) C)
theorem len_text_octets (A : Ad) : ∀ ds C P PX, R_text_octets A ds C P PX → ds.length = 1 := by rintro _ _ _ _ ⟨c, rfl, _⟩; rfl
theorem ok_text_octets (T : Txt K mg A) : FnOk P w K mg base (L2.CX P w) 3 A.a_text_octets A.d_text_octets ["text"] (spX K (R_text_octets A)) :=
  ok_DX T.F_text_octets sc_text_octets (len_text_octets A) (fun cdv Ar outer s H E hr tk =>
    ds_consL (ds_if (d_not (d_tval (d_call (ok_is_plain T) (hr.mono (by decide)) T.g_is_plain T.F_is_plain.kp T.b_is_plain (d_cons (d_var 0) (d_nil)))))
      (ds_one (ds_raise0 rfl tk T.x_BadNumber T.g_BadNumber (by exact rfl)))
      (ds_nil))
    (ds_one (ds_ret (d_op op_catS s_cat (d_lst (d_cons (d_callB call_len s_len (by rfl) T.z_len (by decide +kernel) (d_cons (d_var 0) (d_nil))) (d_nil))) (d_lc rfl sc_text_octets.nd (di_str (d_var 0)) (blkOk_by (own := [("sign", 1)]) (N := ["text", "sign"]) (sc := defScope s_text_octets) (by decide +kernel)) (by decide) (fun _ _ _ _ _ => dg_name 1 sc_text_octets.nd) (fun _ _ _ _ _ => dts_nil) (fun _ _ _ _ _ => d_callB call_ord s_ord (by rfl) T.z_ord (by decide +kernel) (d_cons (d_var 1) (d_nil)))))))) (fun ds C Pk PX h => by
    obtain ⟨z, rfl, hz, q1, q2⟩ := h
    refine seq_hide fun E' hE => ?_
    walk_at "dd"
    refine ⟨z, rfl, hz, ?_⟩
    cases hp : plainB z with
    | false =>
      have q1 := q1 hp
      walk_at "dd"
      subst hE
      exact ⟨_, Sub.refl _, q1⟩
    | true =>
      have q2 := q2 hp
      walk_at "dd"
      subst hE
      have hln : lenOf (.str z) C = some z.cps.size := lenOf_str (by show z.cps.size ≤ _; omega)
      walk_at "dd"
      refine lc_map (enc := chD) (L := z.cps.toList) (fun c : Nat => some (.int ((c : Nat) : Int))) (fun _ _ => trivial) (by rw [Array.length_toList]; omega) (fun j c C' Q hj hs hQ => ?_) ?_
      · clear hj
        simp only [chD]
        walk_at "dd"
        exact ⟨rfl, hQ⟩
      rw [txt_map]
      walk_at "dd"
      exact ⟨by rw [Array.length_toList]; omega, _, Sub.refl _, q2⟩)

def R_law_text (A : Ad) : DSp := fun ds C P => ∃ z : Str, ds = [.str z] ∧ z.cps.size ≤ 300 ∧ (∀ c ∈ z.cps.toList, c ≠ 37) ∧ P (.bl true) C
theorem len_law_text (A : Ad) : ∀ ds C P, R_law_text A ds C P → ds.length = 1 := by rintro _ _ _ ⟨z, rfl, _⟩; rfl
theorem ok_law_text (T : Txt K mg A) : FnOk P w K mg base CX0 4 A.a_law_text A.d_law_text ["text"] (spD K (R_law_text A)) :=
  ok_D T.F_law_text sc_law_text (len_law_text A) (fun cdv Ar outer s H E hr =>
    ds_consL (ds_set 1 sc_law_text.nd (d_andV (d_cmp op_le s_le (d_callB call_len s_len (by rfl) T.z_len (by decide +kernel) (d_cons (d_var 0) (d_nil))) (d_int)) (d_one (d_cmp (op_eqEmp hr.units) s_emp (d_lc rfl sc_law_text.nd (di_str (d_var 0)) (blkOk_by (own := [("sign", 3)]) (N := ["text", "right", "octets", "sign"]) (sc := defScope s_law_text) (by decide +kernel)) (by decide) (fun _ _ _ _ _ => dg_name 3 sc_law_text.nd) (fun _ _ _ _ _ => dts_one ((d_or (d_tcmp op_lt_str s_ltX (d_var 3) (d_str)) (d_or1 (d_tcmp op_gt_str s_gtX (d_var 3) (d_str)))).pt)) (fun _ _ _ _ _ => d_var 3)) (d_lst (d_nil))))))
    (ds_consL (ds_if (d_tcmp op_ne s_ne (d_call (ok_is_plain T) (hr.mono (by decide)) T.g_is_plain T.F_is_plain.kp T.b_is_plain (d_cons (d_var 0) (d_nil))) (d_var 1))
      (ds_one (ds_ret (d_bl)))
      (ds_nil))
    (ds_consL (ds_try rfl rfl T.x_BadNumber T.g_BadNumber takes0 (fun Wt pn xe tkt pot =>
      ds_one (ds_set 2 sc_law_text.nd (d_callX tkt (ok_text_octets T) (hr.mono (by decide)) T.g_text_octets T.F_text_octets.kp T.b_text_octets (d_cons (d_var 0) (d_nil))))) (fun a oe cls d pn hz hf =>
      ds_one (ds_ret (d_notV (d_var 1)))))
    (ds_consL (ds_if ((d_or (d_not (d_tval (d_var 1))) (d_or1 (d_tcmp (op_neD hr.units) s_neD (d_var 2) (d_op op_catS s_cat (d_lst (d_cons (d_callB call_len s_len (by rfl) T.z_len (by decide +kernel) (d_cons (d_var 0) (d_nil))) (d_nil))) (d_lc rfl sc_law_text.nd (di_str (d_var 0)) (blkOk_by (own := [("sign", 3)]) (N := ["text", "right", "octets", "sign"]) (sc := defScope s_law_text) (by decide +kernel)) (by decide) (fun _ _ _ _ _ => dg_name 3 sc_law_text.nd) (fun _ _ _ _ _ => dts_nil) (fun _ _ _ _ _ => d_callB call_ord s_ord (by rfl) T.z_ord (by decide +kernel) (d_cons (d_var 3) (d_nil)))))))).pt)
      (ds_one (ds_ret (d_bl)))
      (ds_nil))
    (ds_one (ds_ret (d_cmp (op_eqD hr.units) s_eqD (d_callX takes0 (ok_read_text T) (hr.mono (by decide)) T.g_read_text T.F_read_text.kp T.b_read_text (d_cons (d_op op_catS s_cat (d_op op_catS s_cat (d_lst (d_cons (d_int) (d_nil))) (d_var 2)) (d_lst (d_cons (d_int) (d_nil)))) (d_cons (d_int) (d_nil)))) (d_tup (d_cons (d_var 0) (d_cons (d_op op_add s_add (d_callB call_len s_len (by rfl) T.z_len (by decide +kernel) (d_cons (d_var 2) (d_nil))) (d_int)) (d_nil))))))))))) (fun ds C Pk h => by
    obtain ⟨z, rfl, hz, hc, q⟩ := h
    have he := T.e_BadNumber_BadNumber
    have hln : ∀ C, lenOf (.str z) C = some z.cps.size := fun C => lenOf_str (by show z.cps.size ≤ _; omega)
    refine seq_hide fun E' hE => ?_
    have rest : E'.nx [some (.str z), some (.bl (plainB z)), none, none] C := by
      subst hE
      dsimp only [List.set_cons_succ, List.set_cons_zero]
      refine seq_hide fun E' hE => ?_
      walk_at "dd"
      refine ⟨z, rfl, hz, ?_⟩
      walk_at "dd"
      subst hE
      dsimp only [List.set_cons_succ, List.set_cons_zero]
      refine seq_hide fun E' hE => ?_
      walk_at "dd"
      refine ⟨z, rfl, hz, fun hp => ⟨true, he, fun _ => ?_, fun z => Bool.noConfusion z⟩, fun hp => ?_⟩
      · rw [hp]
        subst hE
        exact ⟨_, Sub.refl _, q⟩
      · rw [hp]
        subst hE
        dsimp only [List.set_cons_succ, List.set_cons_zero]
        have hg := plain_good hp
        have hfull := (good_txt hg).full [9] [7]
        have dt : Dat 1 (.lst ((txtO z).map D.int)) := dat_ints _
        have e := eqb_self dt
        have hs := (plain_good hp).1
        refine seq_hide fun E' hE => ?_
        walk_at "dd"
        refine lc_map (enc := chD) (L := z.cps.toList) (fun c : Nat => some (.int ((c : Nat) : Int))) (fun _ _ => trivial) (by rw [Array.length_toList]; omega) (fun j c C' Q hj hs hQ => ?_) ?_
        · clear hj
          simp only [chD]
          walk_at "dd"
          exact ⟨rfl, hQ⟩
        rw [txt_map]
        simp only [seqOf_lst]
        refine ⟨by simp only [List.length_cons, List.length_nil, List.length_map, Array.length_toList]; omega, 1, by decide, dt, dt, ?_⟩
        rw [if_neg (by change ¬ (!(D.lst ((txtO z).map D.int)).eqb (.lst ((txtO z).map D.int))) = true; rw [e]; decide)]
        have hlt : (txtO z).length ≤ 201 := by unfold txtO; rw [List.length_cons, List.length_map, Array.length_toList]; omega
        have hoct : OctOk ([9] ++ txtO z ++ [7]) := ⟨by simp only [List.length_append, List.length_cons, List.length_nil]; omega, fun o ho => by
          simp only [List.mem_append, List.mem_cons, List.not_mem_nil, or_false] at ho
          rcases ho with (rfl | ho) | rfl
          · decide
          · exact txt_oct hg o ho
          · decide⟩
        clear hc hz hln e dt
        subst hE
        dsimp only [List.set_cons_succ, List.set_cons_zero]
        walk_at "dd"
        refine ⟨by omega, by omega, [9] ++ txtO z ++ [7], 1, by simp, hoct, by decide, fun hn => ?_, fun r hr => ?_⟩
        · have h2 : rdT ([9] ++ txtO z ++ [7]) 1 = some (z, 1 + (txtO z).length) := hfull
          rw [h2] at hn; cases hn
        · have h2 : rdT ([9] ++ txtO z ++ [7]) 1 = some (z, 1 + (txtO z).length) := hfull
          rw [h2] at hr
          cases hr
          have dd1 : Dat 1 (.tup [.str z, .int ((txtO z).length + 1 : Int)]) := .tup fun d hd => by
            simp only [List.mem_cons, List.not_mem_nil, or_false] at hd
            rcases hd with rfl | rfl
            · exact .str (lay_good hg)
            · exact .int _
          have hen : ((1 + (txtO z).length : Nat) : Int) = ((txtO z).length + 1 : Int) := by omega
          rw [hen]
          refine ⟨1, by decide, dd1, dd1, C, Sub.refl _, ?_⟩
          rw [res_tup, eqb_self dd1]
          exact q
    by_cases g : z.cps.size ≤ 200
    · walk_at "dd"
      rw [if_pos (by omega)]
      refine lc_map (enc := chD) (L := z.cps.toList) (fun c : Nat => if c < 32 ∨ 126 < c then some (chD c) else none) (fun _ _ => trivial) (by rw [Array.length_toList]; omega) (fun j c C' Q hj hs hQ => ?_) ?_
      · clear hj
        have e1 := lt_sp c
        have e2 := gt_ti c
        simp only [chD] at hQ ⊢
        by_cases h1 : c < 32
        · rw [if_pos (.inl h1)] at hQ
          rw [decide_eq_true h1] at e1
          clear e2
          walk_at "dd"
          try exact hQ
        · rw [decide_eq_false h1] at e1
          by_cases h2 : 126 < c
          · rw [if_pos (.inr h2)] at hQ
            rw [decide_eq_true h2] at e2
            walk_at "dd"
            try exact hQ
          · rw [if_neg (fun z => z.elim h1 h2)] at hQ
            rw [decide_eq_false h2] at e2
            walk_at "dd"
            try exact hQ
      simp only [seqOf_lst]
      rw [bad_none hc]
      have ep : (z.cps.toList.all fun c : Nat => signB (c : Nat)) = plainB z := by unfold plainB; rw [decide_eq_true g, Bool.true_and]
      rw [ep]
      exact rest
    · have ep : plainB z = false := by unfold plainB; rw [decide_eq_false g, Bool.false_and]
      rw [ep] at rest
      walk_at "dd"
      rw [if_neg (by omega)]
      trivial)

def R_number_octets (A : Ad) : DSp := fun ds C P => ∃ n : Nat, ds = [.int (n : Int)] ∧ n ≤ 1000000000000 ∧ P (.lst ((numO n).map D.int)) C
theorem len_number_octets (A : Ad) : ∀ ds C P, R_number_octets A ds C P → ds.length = 1 := by rintro _ _ _ ⟨n, rfl, _⟩; rfl
theorem ok_number_octets (T : Txt K mg A) : FnOk P w K mg base CX0 1 A.a_number_octets A.d_number_octets ["number"] (spD K (R_number_octets A)) :=
  ok_D T.F_number_octets sc_number_octets (len_number_octets A) (fun cdv Ar outer s H E hr =>
    ds_cons (ds_if (d_not (d_chainT op_le s_le op_le s_le (d_int) (d_var 0) (d_kint T.k_GREATEST)))
      (ds_one (ds_dead))
      (ds_nil))
    (ds_consL (ds_set 1 sc_number_octets.nd (d_lstC (d_nil)))
    (ds_cons (ds_set 2 sc_number_octets.nd (d_var 0))
    (ds_consL (ds_while PassesOwn.never (d_tcmp op_ge s_ge (d_var 2) (d_int))
      (ds_cons (ds_expr (d_bmL PySem.F.plainAttrs_list PySem.F.slot_list_append PySem.F.type_list_append mt_append s_append (d_var 1) (d_cons (d_op op_add s_add (d_op op_mod s_mod (d_var 2) (d_int)) (d_int)) (d_nil))))
      (ds_one (ds_set 2 sc_number_octets.nd (d_op op_fdivW s_divW (d_var 2) (d_int))))))
    (ds_cons (ds_expr (d_bmL PySem.F.plainAttrs_list PySem.F.slot_list_append PySem.F.type_list_append mt_append s_append (d_var 1) (d_cons (d_var 2) (d_nil))))
    (ds_one (ds_retF (d_var 1)))))))) (fun ds C Pk h => by
    obtain ⟨n, rfl, hn, q⟩ := h
    have g1 : (0 : Int) ≤ (n : Int) := by omega
    have g2 : (n : Int) ≤ 1000000000000 := by omega
    refine seq_hide fun E' hE => ?_
    walk_at "dd"
    subst hE
    dsimp only
    clear g1 g2
    refine seq_hide fun E' hE => ?_
    walk_at "dd"
    intro p hp
    subst hE
    dsimp only
    refine seq_hide fun E' hE => ?_
    walk_at "dd"
    subst hE
    dsimp only [List.set_cons_succ, List.set_cons_zero]
    refine seq_hide fun E' hE => ?_
    refine while_hide fun b' hb => ?_
    refine ⟨fun m ρ' C' => ∃ (a : Nat) (X : List Int), a = m ∧ a ≤ n ∧ X ++ numO a = numO n ∧ ρ' = [some (.int (n : Int)), some (.ptr p), some (.int (a : Int))] ∧ C' = cput C p (.lst (X.map D.int)), ⟨n, n, [], rfl, Nat.le_refl _, rfl, rfl, rfl⟩, ?_⟩
    rintro m ρ' C' ⟨a, X, rfl, hle, hX, rfl, rfl⟩
    have hXl : X.length ≤ 100 := by
      have := num_len hn
      have h2 := congrArg List.length hX
      rw [List.length_append] at h2
      omega
    walk_at "dd"
    by_cases h1 : 128 ≤ a
    · have h2 : (a : Int) ≥ 128 := by omega
      subst hb
      walk_at "dd"
      refine ⟨by decide, by omega, ⟨by decide, by decide⟩, a / 128, by omega, a / 128, X ++ [((a % 128 + 128 : Nat) : Int)], rfl, by omega, ?_, ?_, ?_⟩
      · rw [List.append_assoc, List.singleton_append, ← num_go h1]
        exact hX
      · rw [show ((a / 128 : Nat) : Int) = (a : Int) / 128 by omega]
      · rw [List.map_append, show ((a % 128 + 128 : Nat) : Int) = (a : Int) % 128 + 128 by omega]
        rfl
    · have h2 : ¬ (a : Int) ≥ 128 := by omega
      rw [num_end h1] at hX
      subst hE
      walk_at "dd"
      rw [← hX, List.map_append] at q
      exact ⟨by omega, C, Sub.new hp, hp, C, Sub.refl _, q⟩)

def R_folded (A : Ad) : DSp := fun ds C P => ∃ a : Int, ds = [.int a] ∧ P (.int (foldN a : Nat)) C
theorem len_folded (A : Ad) : ∀ ds C P, R_folded A ds C P → ds.length = 1 := by rintro _ _ _ ⟨c, rfl, _⟩; rfl
theorem ok_folded (T : Txt K mg A) : FnOk P w K mg base CX0 1 A.a_folded A.d_folded ["amount"] (spD K (R_folded A)) :=
  ok_D T.F_folded sc_folded (len_folded A) (fun cdv Ar outer s H E hr =>
    ds_cons (ds_if (d_tcmp op_ge s_ge (d_var 0) (d_int))
      (ds_one (ds_ret (d_op op_mul s_mul (d_int) (d_var 0))))
      (ds_nil))
    (ds_one (ds_ret (d_op op_sub s_sub (d_op op_mul s_mul (d_un un_neg s_neg (d_int)) (d_var 0)) (d_int))))) (fun ds C Pk h => by
    obtain ⟨a, rfl, q⟩ := h
    unfold foldN at q
    by_cases h1 : 0 ≤ a
    · rw [if_pos h1, show (((2 * a).toNat : Nat) : Int) = 2 * a by omega] at q
      have h2 : a ≥ 0 := h1
      walk_at "dd"
      exact ⟨cmul_l (by decide) (by decide), _, Sub.refl _, q⟩
    · rw [if_neg h1, show (((-2 * a - 1).toNat : Nat) : Int) = -2 * a - 1 by omega] at q
      have h2 : ¬ a ≥ 0 := h1
      walk_at "dd"
      exact ⟨cmul_l (by decide) (by decide), _, Sub.refl _, q⟩)

def R_amount_octets (A : Ad) : DSp := fun ds C P => ∃ a : Int, ds = [.int a] ∧ foldN a ≤ 1000000000000 ∧ P (.lst ((numO (foldN a)).map D.int)) C
theorem len_amount_octets (A : Ad) : ∀ ds C P, R_amount_octets A ds C P → ds.length = 1 := by rintro _ _ _ ⟨c, rfl, _⟩; rfl
theorem ok_amount_octets (T : Txt K mg A) : FnOk P w K mg base CX0 2 A.a_amount_octets A.d_amount_octets ["amount"] (spD K (R_amount_octets A)) :=
  ok_D T.F_amount_octets sc_amount_octets (len_amount_octets A) (fun cdv Ar outer s H E hr =>
    ds_one (ds_ret (d_call (ok_number_octets T) (hr.mono (by decide)) T.g_number_octets T.F_number_octets.kp T.b_number_octets (d_cons (d_call (ok_folded T) (hr.mono (by decide)) T.g_folded T.F_folded.kp T.b_folded (d_cons (d_var 0) (d_nil))) (d_nil))))) (fun ds C Pk h => by
    obtain ⟨a, rfl, ha, q⟩ := h
    walk_at "dd"
    exact ⟨a, rfl, foldN a, rfl, ha, _, Sub.refl _, q⟩)

def R_law_amount (A : Ad) : DSp := fun ds C P => ∃ a : Int, ds = [.int a] ∧ foldN a ≤ 1000000000000 ∧ P (.bl true) C
theorem len_law_amount (A : Ad) : ∀ ds C P, R_law_amount A ds C P → ds.length = 1 := by rintro _ _ _ ⟨z, rfl, _⟩; rfl
theorem ok_law_amount (T : Txt K mg A) : FnOk P w K mg base CX0 3 A.a_law_amount A.d_law_amount ["amount"] (spD K (R_law_amount A)) :=
  ok_D T.F_law_amount sc_law_amount (len_law_amount A) (fun cdv Ar outer s H E hr =>
    ds_cons (ds_set 1 sc_law_amount.nd (d_op op_mul s_mul (d_int) (d_var 0)))
    (ds_cons (ds_if (d_tcmp op_lt s_lt (d_var 0) (d_int))
      (ds_one (ds_set 1 sc_law_amount.nd (d_op op_sub s_sub (d_op op_sub s_sub (d_int) (d_op op_mul s_mul (d_int) (d_var 0))) (d_int))))
      (ds_nil))
    (ds_consL (ds_set 2 sc_law_amount.nd (d_call (ok_number_octets T) (hr.mono (by decide)) T.g_number_octets T.F_number_octets.kp T.b_number_octets (d_cons (d_var 1) (d_nil))))
    (ds_consL (ds_if ((d_or (d_tcmp op_ne s_ne (d_call (ok_folded T) (hr.mono (by decide)) T.g_folded T.F_folded.kp T.b_folded (d_cons (d_var 0) (d_nil))) (d_var 1)) (d_or (d_tcmp op_ne s_ne (d_call (ok_unfolded T) (hr.mono (by decide)) T.g_unfolded T.F_unfolded.kp T.b_unfolded (d_cons (d_var 1) (d_nil))) (d_var 0)) (d_or1 (d_tcmp (op_neD hr.units) s_neD (d_call (ok_amount_octets T) (hr.mono (by decide)) T.g_amount_octets T.F_amount_octets.kp T.b_amount_octets (d_cons (d_var 0) (d_nil))) (d_var 2))))).pt)
      (ds_one (ds_ret (d_bl)))
      (ds_nil))
    (ds_one (ds_ret (d_cmp (op_eqD hr.units) s_eqD (d_callX takes0 (ok_read_amount T) (hr.mono (by decide)) T.g_read_amount T.F_read_amount.kp T.b_read_amount (d_cons (d_op op_catS s_cat (d_op op_catS s_cat (d_lst (d_cons (d_int) (d_nil))) (d_var 2)) (d_lst (d_cons (d_int) (d_nil)))) (d_cons (d_int) (d_nil)))) (d_tup (d_cons (d_var 0) (d_cons (d_op op_add s_add (d_callB call_len s_len (by rfl) T.z_len (by decide +kernel) (d_cons (d_var 2) (d_nil))) (d_int)) (d_nil))))))))))) (fun ds C Pk h => by
    obtain ⟨a, rfl, ha, q⟩ := h
    refine seq_hide fun E' hE => ?_
    walk_at "dd"
    refine ⟨cmul_l (by decide) (by decide), ?_⟩
    subst hE
    dsimp only [List.set_cons_succ, List.set_cons_zero]
    refine seq_hide fun E' hE => ?_
    have hrest : E'.nx [some (.int a), some (.int (foldN a : Nat)), none] C := by
      subst hE
      dsimp only [List.set_cons_succ, List.set_cons_zero]
      refine seq_hide fun E' hE => ?_
      walk_at "dd"
      refine ⟨foldN a, rfl, ha, ?_⟩
      subst hE
      dsimp only [List.set_cons_succ, List.set_cons_zero]
      refine seq_hide fun E' hE => ?_
      walk_at "dd"
      refine ⟨a, rfl, ?_⟩
      have hu := unf_fold a
      walk_at "dd"
      refine ⟨_, rfl, ?_⟩
      walk_at "dd"
      refine ⟨a, rfl, ha, ?_⟩
      have dt : Dat 1 (.lst ((numO (foldN a)).map D.int)) := dat_ints _
      refine ⟨1, by decide, dt, dt, ?_⟩
      rw [res_lst, eqb_self dt]
      simp only [Bool.not_true, Bool.true_xor, Bool.false_eq_true, if_false]
      subst hE
      dsimp only [List.set_cons_succ, List.set_cons_zero]
      have hfull := (good_am ha).full [3] [200]
      have hnl := num_len ha
      have hoct : OctOk ([3] ++ numO (foldN a) ++ [200]) := ⟨by simp only [List.length_append, List.length_cons, List.length_nil]; omega, fun o ho => by
        simp only [List.mem_append, List.mem_cons, List.not_mem_nil, or_false] at ho
        rcases ho with (rfl | ho) | rfl
        · decide
        · exact num_oct' ha o ho
        · decide⟩
      walk_at "dd"
      have h2 : rdA ([3] ++ numO (foldN a) ++ [200]) 1 = some (a, 1 + (numO (foldN a)).length) := hfull
      refine ⟨by omega, by omega, [3] ++ numO (foldN a) ++ [200], 1, by simp, hoct, by decide, fun hn => (by rw [h2] at hn; cases hn), fun r hr => ?_⟩
      rw [h2] at hr
      cases hr
      have dd1 : Dat 1 (.tup [.int a, .int ((numO (foldN a)).length + 1 : Int)]) := .tup fun d hd => by
        simp only [List.mem_cons, List.not_mem_nil, or_false] at hd
        rcases hd with rfl | rfl
        · exact .int _
        · exact .int _
      have hen : ((1 + (numO (foldN a)).length : Nat) : Int) = ((numO (foldN a)).length + 1 : Int) := by omega
      rw [hen]
      refine ⟨1, by decide, dd1, dd1, C, Sub.refl _, ?_⟩
      rw [res_tup, eqb_self dd1]
      exact q
    by_cases g : a < 0
    · have e : (foldN a : Int) = 0 - 2 * a - 1 := by unfold foldN; rw [if_neg (by omega)]; omega
      walk_at "dd"
      refine ⟨cmul_l (by decide) (by decide), ?_⟩
      rw [← e]
      exact hrest
    · have e : (foldN a : Int) = 2 * a := by unfold foldN; rw [if_pos (by omega)]; omega
      walk_at "dd"
      rw [← e]
      exact hrest)

def R_check_octets (A : Ad) : DSp := fun ds C P => ∃ c : Int, ds = [.int c] ∧ P (.lst ((fourF c).map D.int)) C
theorem len_check_octets (A : Ad) : ∀ ds C P, R_check_octets A ds C P → ds.length = 1 := by rintro _ _ _ ⟨c, rfl, _⟩; rfl
theorem ok_check_octets (T : Txt K mg A) : FnOk P w K mg base CX0 1 A.a_check_octets A.d_check_octets ["check"] (spD K (R_check_octets A)) :=
  ok_D T.F_check_octets sc_check_octets (len_check_octets A) (fun cdv Ar outer s H E hr =>
    ds_one (ds_ret (d_lst (d_cons (d_op op_fdivW s_divW (d_var 0) (d_int)) (d_cons (d_op op_mod s_mod (d_op op_fdivW s_divW (d_var 0) (d_int)) (d_int)) (d_cons (d_op op_mod s_mod (d_op op_fdivW s_divW (d_var 0) (d_int)) (d_int)) (d_cons (d_op op_mod s_mod (d_var 0) (d_int)) (d_nil)))))))) (fun ds C Pk h => by
    obtain ⟨c, rfl, q⟩ := h
    unfold fourF at q
    walk_at "dd"
    exact ⟨⟨by decide, by decide⟩, ⟨by decide, by decide⟩, by decide, ⟨by decide, by decide⟩, by decide, by decide, _, Sub.refl _, q⟩)

def R_law_check (A : Ad) : DSp := fun ds C P => ∃ c : Int, ds = [.int c] ∧ 0 ≤ c ∧ c < 4294967296 ∧ P (.bl true) C
theorem len_law_check (A : Ad) : ∀ ds C P, R_law_check A ds C P → ds.length = 1 := by rintro _ _ _ ⟨z, rfl, _⟩; rfl
theorem ok_law_check (T : Txt K mg A) : FnOk P w K mg base CX0 2 A.a_law_check A.d_law_check ["check"] (spD K (R_law_check A)) :=
  ok_D T.F_law_check sc_law_check (len_law_check A) (fun cdv Ar outer s H E hr =>
    ds_consL (ds_set 1 sc_law_check.nd (d_call (ok_check_octets T) (hr.mono (by decide)) T.g_check_octets T.F_check_octets.kp T.b_check_octets (d_cons (d_var 0) (d_nil))))
    (ds_cons (ds_set 2 sc_law_check.nd (d_int))
    (ds_consL (ds_for PassesOwn.never rfl (di_list (d_var 1)) (dg_name 3 sc_law_check.nd)
      (ds_cons (ds_if ((d_or (d_tcmp op_lt s_lt (d_var 3) (d_int)) (d_or1 (d_tcmp op_gt s_gt (d_var 3) (d_int)))).pt)
        (ds_one (ds_ret (d_bl)))
        (ds_nil))
      (ds_one (ds_set 2 sc_law_check.nd (d_op op_add s_add (d_op op_mul s_mul (d_int) (d_var 2)) (d_var 3))))))
    (ds_one (ds_ret (d_andV (d_cmp op_eq s_eq (d_callB call_len s_len (by rfl) T.z_len (by decide +kernel) (d_cons (d_var 1) (d_nil))) (d_int)) (d_andV (d_cmp op_eq s_eq (d_var 2) (d_var 0)) (d_one (d_cmp (op_eqD hr.units) s_eqD (d_callX takes0 (ok_read_check T) (hr.mono (by decide)) T.g_read_check T.F_read_check.kp T.b_read_check (d_cons (d_op op_catS s_cat (d_lst (d_cons (d_int) (d_cons (d_int) (d_nil)))) (d_var 1)) (d_cons (d_int) (d_nil)))) (d_tup (d_cons (d_var 0) (d_cons (d_int) (d_nil))))))))))))) (fun ds C Pk h => by
    obtain ⟨c, rfl, h0, h1, q⟩ := h
    refine seq_hide fun E' hE => ?_
    walk_at "dd"
    refine ⟨c, rfl, ?_⟩
    have hoc := four_oct h0 h1
    have hv := four_val c
    have h4 : (fourF c).length = 4 := rfl
    generalize fourF c = F at hoc hv h4 ⊢
    subst hE
    dsimp only [List.set_cons_succ, List.set_cons_zero]
    refine seq_hide fun E' hE => ?_
    walk_at "dd"
    subst hE
    dsimp only [List.set_cons_succ, List.set_cons_zero]
    refine seq_hide fun E' hE => ?_
    walk_at "dd"
    refine for_map (enc := D.int) (L := F) (fun j ρ' C' => C' = C ∧ ∃ o3, ρ' = [some (.int c), some (.lst (F.map D.int)), some (.int (valF (F.take j))), o3]) ⟨rfl, _, rfl⟩ ?_ ?_
    · rintro j x ρ' C' hj ⟨rfl, o3, rfl⟩
      have hx := hoc x (List.mem_of_getElem? hj)
      rw [take_snoc hj]
      have e1 : valF (F.take j ++ [x]) = 256 * valF (F.take j) + x := by unfold valF; rw [List.foldl_append]; rfl
      rw [e1]
      clear hj e1 q hv h4
      generalize valF (F.take j) = v
      have hx0 : ¬ x < 0 := by omega
      have hx1 : ¬ 255 < x := by omega
      walk_at "dd"
      exact ⟨cmul_l (by decide) (by decide), _, rfl⟩
    · rintro ρ' C' ⟨rfl, o3, rfl⟩
      rw [List.take_length, hv]
      subst hE
      walk_at "dd"
      rw [if_pos (by decide)]
      refine ⟨[1, 2] ++ F, 2, rfl, ⟨by simp only [List.length_append, List.length_cons, List.length_nil]; omega, fun o ho => ?_⟩, by decide, fun hn => ?_, fun hn => ?_⟩
      · simp only [List.cons_append, List.nil_append, List.mem_cons] at ho
        rcases ho with rfl | rfl | ho
        · decide
        · decide
        · exact hoc o ho
      · simp only [List.length_append, List.length_cons, List.length_nil] at hn; omega
      · have e1 : (([1, 2] ++ F).drop 2).take 4 = F := by
          show F.take 4 = F
          exact List.take_of_length_le (by omega)
        rw [e1, hv]
        have dd1 : Dat 1 (.tup [.int c, .int 6]) := .tup fun d hd => by
          simp only [List.mem_cons, List.not_mem_nil, or_false] at hd
          rcases hd with rfl | rfl
          · exact .int _
          · exact .int _
        refine ⟨1, by decide, dd1, dd1, C', Sub.refl _, ?_⟩
        have e6 := eqb_self dd1
        change Pk (.bl ((D.tup [.int c, .int 6]).eqb (.tup [.int c, .int 6]))) C'
        rw [e6]
        exact q)

def R_law (A : Ad) : DSp := fun ds C P => ∃ ns : List Int, ds = [.lst (ns.map D.int)] ∧ ns.length ≤ 63 ∧ ∀ C', P (.bl true) C'
theorem len_law (A : Ad) : ∀ ds C P, R_law A ds C P → ds.length = 1 := by rintro _ _ _ ⟨ns, rfl, _⟩; rfl
theorem law_go (A : Ad) : ∀ (ns : List Int) (P : DK), ns.length ≤ 63 → (∀ C', P (.bl true) C') → R_law A [.lst (ns.map D.int)] (fun _ => none) P := fun ns P hl k => ⟨ns, rfl, hl, k⟩

theorem ok_law (T : Txt K mg A) : FnOk P w K mg base CX0 5 A.a_law A.d_law ["script"] (spD K (R_law A)) :=
  ok_D T.F_law sc_law (len_law A) (fun cdv Ar outer s H E hr =>
    ds_consL (ds_for PassesOwn.never rfl (di_rng1 (by rfl) T.z_range (d_cons (d_callB (call_min2 rfl) s_min2 (by rfl) T.z_min (by decide +kernel) (d_cons (d_int) (d_cons (d_op op_add s_add (d_int) (d_callB call_len s_len (by rfl) T.z_len (by decide +kernel) (d_cons (d_var 0) (d_nil)))) (d_nil)))) (d_nil))) (dg_name 1 sc_law.nd)
      (ds_consL (ds_set 2 sc_law.nd (d_call (ok_law_state T) (hr.mono (by decide)) T.g_law_state T.F_law_state.kp T.b_law_state (d_cons (d_call (ok_law_cell T) (hr.mono (by decide)) T.g_law_cell T.F_law_cell.kp T.b_law_cell (d_cons (d_var 0) (d_cons (d_var 1) (d_nil)))) (d_cons (d_var 1) (d_nil)))))
      (ds_consL (ds_set 3 sc_law.nd (d_op op_add_str s_catX (d_op op_add_str s_catX (d_str) (d_ix ix_seq s_ix (d_tup (d_cons (d_str) (d_cons (d_str) (d_cons (d_str) (d_nil))))) (d_call (ok_law_digit T) (hr.mono (by decide)) T.g_law_digit T.F_law_digit.kp T.b_law_digit (d_cons (d_var 2) (d_cons (d_int) (d_nil)))))) (d_ix ix_seq s_ix (d_tup (d_cons (d_str) (d_cons (d_str) (d_cons (d_str) (d_nil))))) (d_call (ok_law_digit T) (hr.mono (by decide)) T.g_law_digit T.F_law_digit.kp T.b_law_digit (d_cons (d_var 2) (d_cons (d_int) (d_nil)))))))
      (ds_consL (ds_set 4 sc_law.nd (d_op op_repX s_repX (d_slX (d_var 3) (do_none) (do_some (d_call (ok_law_digit T) (hr.mono (by decide)) T.g_law_digit T.F_law_digit.kp T.b_law_digit (d_cons (d_var 2) (d_cons (d_int) (d_nil)))))) (d_ix ix_seq s_ix (d_tup (d_cons (d_int) (d_cons (d_int) (d_cons (d_int) (d_nil))))) (d_call (ok_law_digit T) (hr.mono (by decide)) T.g_law_digit T.F_law_digit.kp T.b_law_digit (d_cons (d_var 2) (d_cons (d_int) (d_nil)))))))
      (ds_consL (ds_if ((d_or (d_not (d_tval (d_call (ok_law_text T) (hr.mono (by decide)) T.g_law_text T.F_law_text.kp T.b_law_text (d_cons (d_var 4) (d_nil))))) (d_or1 (d_not (d_tval (d_call (ok_law_text T) (hr.mono (by decide)) T.g_law_text T.F_law_text.kp T.b_law_text (d_cons (d_op op_repX s_repX (d_str) (d_op op_add s_add (d_int) (d_call (ok_law_digit T) (hr.mono (by decide)) T.g_law_digit T.F_law_digit.kp T.b_law_digit (d_cons (d_var 2) (d_cons (d_int) (d_nil)))))) (d_nil))))))).pt)
        (ds_one (ds_ret (d_bl)))
        (ds_nil))
      (ds_consL (ds_set 5 sc_law.nd (d_ix ix_seq s_ix (d_tup (d_cons (d_int) (d_cons (d_int) (d_cons (d_int) (d_cons (d_int) (d_cons (d_int) (d_cons (d_int) (d_nil)))))))) (d_call (ok_law_digit T) (hr.mono (by decide)) T.g_law_digit T.F_law_digit.kp T.b_law_digit (d_cons (d_var 2) (d_cons (d_int) (d_nil))))))
      (ds_consL (ds_for PassesOwn.never rfl (di_tup (d_tup (d_cons (d_op op_sub s_sub (d_var 5) (d_int)) (d_cons (d_var 5) (d_cons (d_op op_sub s_sub (d_int) (d_var 5)) (d_cons (d_op op_sub s_sub (d_int) (d_var 5)) (d_cons (d_op op_fdivW s_divW (d_var 5) (d_int)) (d_cons (d_op op_sub s_sub (d_int) (d_op op_fdivW s_divW (d_var 5) (d_int))) (d_cons (d_call (ok_law_digit T) (hr.mono (by decide)) T.g_law_digit T.F_law_digit.kp T.b_law_digit (d_cons (d_var 2) (d_cons (d_op op_pow s_pow (d_int) (d_int)) (d_nil)))) (d_nil)))))))))) (dg_name 6 sc_law.nd)
        (ds_one (ds_if (d_not (d_tval (d_call (ok_law_amount T) (hr.mono (by decide)) T.g_law_amount T.F_law_amount.kp T.b_law_amount (d_cons (d_var 6) (d_nil)))))
          (ds_one (ds_ret (d_bl)))
          (ds_nil))))
      (ds_consL (ds_for PassesOwn.never rfl (di_tup (d_tup (d_cons (d_call (ok_law_digit T) (hr.mono (by decide)) T.g_law_digit T.F_law_digit.kp T.b_law_digit (d_cons (d_var 2) (d_cons (d_op op_pow s_pow (d_int) (d_int)) (d_nil)))) (d_cons (d_ix ix_seq s_ix (d_tup (d_cons (d_int) (d_cons (d_int) (d_cons (d_int) (d_cons (d_int) (d_nil)))))) (d_call (ok_law_digit T) (hr.mono (by decide)) T.g_law_digit T.F_law_digit.kp T.b_law_digit (d_cons (d_var 2) (d_cons (d_int) (d_nil))))) (d_cons (d_op op_sub s_sub (d_op op_pow s_pow (d_int) (d_int)) (d_int)) (d_nil)))))) (dg_name 7 sc_law.nd)
        (ds_one (ds_if (d_not (d_tval (d_call (ok_law_check T) (hr.mono (by decide)) T.g_law_check T.F_law_check.kp T.b_law_check (d_cons (d_var 7) (d_nil)))))
          (ds_one (ds_ret (d_bl)))
          (ds_nil))))
      (ds_one (ds_if (d_not (d_tval (d_call (ok_law_octets T) (hr.mono (by decide)) T.g_law_octets T.F_law_octets.kp T.b_law_octets (d_cons (d_var 2) (d_nil)))))
        (ds_one (ds_ret (d_bl)))
        (ds_nil)))))))))))
    (ds_consL (ds_for PassesOwn.never rfl (di_rng1 (by rfl) T.z_range (d_cons (d_int) (d_nil))) (dg_name 8 sc_law.nd)
      (ds_one (ds_if ((d_or (d_tcmp op_ne s_ne (d_call (ok_is_sign T) (hr.mono (by decide)) T.g_is_sign T.F_is_sign.kp T.b_is_sign (d_cons (d_var 8) (d_nil))) (d_andV (d_chainE op_le s_le op_le s_le (d_int) (d_var 8) (d_int)) (d_one (d_cmp op_ne s_ne (d_var 8) (d_int))))) (d_or1 (d_tcmp op_eq s_eq (d_call (ok_law_refused T) (hr.mono (by decide)) T.g_law_refused T.F_law_refused.kp T.b_law_refused (d_cons (d_fnV T.g_read_text) (d_cons (d_lst (d_cons (d_int) (d_cons (d_var 8) (d_nil)))) (d_cons (d_int) (d_nil))))) (d_call (ok_is_sign T) (hr.mono (by decide)) T.g_is_sign T.F_is_sign.kp T.b_is_sign (d_cons (d_var 8) (d_nil)))))).pt)
        (ds_one (ds_ret (d_bl)))
        (ds_nil))))
    (ds_consL (ds_if ((d_or (d_not (d_tval (d_call (ok_law_refused T) (hr.mono (by decide)) T.g_law_refused T.F_law_refused.kp T.b_law_refused (d_cons (d_fnV T.g_read_text) (d_cons (d_op op_catS s_cat (d_lst (d_cons (d_int) (d_nil))) (d_rep (d_cons (d_int) (d_nil)) (d_int))) (d_cons (d_int) (d_nil))))))) (d_or1 (d_not (d_tval (d_call (ok_law_refused T) (hr.mono (by decide)) T.g_law_refused T.F_law_refused.kp T.b_law_refused (d_cons (d_fnV T.g_read_check) (d_cons (d_lst (d_cons (d_int) (d_cons (d_int) (d_cons (d_int) (d_nil))))) (d_cons (d_int) (d_nil))))))))).pt)
      (ds_one (ds_ret (d_bl)))
      (ds_nil))
    (ds_one (ds_ret (d_andV (d_call (ok_law_refused T) (hr.mono (by decide)) T.g_law_refused T.F_law_refused.kp T.b_law_refused (d_cons (d_fnV T.g_read_text) (d_cons (d_lst (d_nil)) (d_cons (d_int) (d_nil))))) (d_one (d_call (ok_law_refused T) (hr.mono (by decide)) T.g_law_refused T.F_law_refused.kp T.b_law_refused (d_cons (d_fnV T.g_read_amount) (d_cons (d_lst (d_cons (d_int) (d_nil))) (d_cons (d_int) (d_nil)))))))))))) (fun ds C Pk h => by
    obtain ⟨ns, rfl, hl, q⟩ := h
    refine seq_hide fun E' hE => ?_
    walk_at "dd"
    refine ⟨by omega, for_rng (fun k ρ' C' => ∃ w1 w2 w3 w4 w5 w6 w7 w8 : Option D, ρ' = [some (.lst (ns.map D.int)), w1, w2, w3, w4, w5, w6, w7, w8]) ⟨_, _, _, _, _, _, _, _, rfl⟩ ?_ ?_⟩
    · rintro k ρ' C1 hk ⟨w1, w2, w3, w4, w5, w6, w7, w8, rfl⟩
      rw [Int.zero_add]
      refine seq_hide fun E2 hE2 => ?_
      walk_at "dd"
      refine ⟨ns, (k : Int), rfl, hl, by omega, fun v => ⟨v, (k : Int), rfl, by omega, by omega, fun p s hs hp => ?_⟩⟩
      have g1 : cput C1 p (.lst [.int s]) p = some (.lst [.int s]) := cput_same
      generalize cput C1 p (.lst [.int s]) = C2 at g1 ⊢
      clear hp
      subst hE2
      dsimp only [List.set_cons_succ, List.set_cons_zero]
      refine seq_hide fun E2 hE2 => ?_
      walk_at "dd"
      refine ⟨p, s, 3, rfl, g1, hs, by decide, by decide, fun u s2 hu0 hu1 hs2 => ?_⟩
      have k1 : cput C2 p (.lst [.int s2]) p = some (.lst [.int s2]) := cput_same
      generalize cput C2 p (.lst [.int s2]) = C3 at k1 ⊢
      clear g1
      obtain ⟨x1, hx1, hc1⟩ : ∃ x : Nat, atI [D.str (Str.ofString "\t"), D.str (Str.ofString " "), D.str (Str.ofString "!")] u = some (.str ⟨#[x]⟩) ∧ x ≠ 37 := by
        rcases (show u = 0 ∨ u = 1 ∨ u = 2 by omega) with rfl | rfl | rfl
        · exact ⟨9, by rw [← of_tab]; rfl, by decide⟩
        · exact ⟨32, by rw [← of_spc]; rfl, by decide⟩
        · exact ⟨33, by rw [← of_exc]; rfl, by decide⟩
      walk_at "dd"
      clear hx1
      refine ⟨sgn_l0 x1, p, s2, 3, rfl, k1, hs2, by decide, by decide, fun u s3 hu0 hu1 hs3 => ?_⟩
      have g1 : cput C3 p (.lst [.int s3]) p = some (.lst [.int s3]) := cput_same
      generalize cput C3 p (.lst [.int s3]) = C4 at g1 ⊢
      clear k1
      obtain ⟨x2, hx2, hc2⟩ : ∃ x : Nat, atI [D.str (Str.ofString "}"), D.str (Str.ofString "~"), D.str (Str.ofString "\n")] u = some (.str ⟨#[x]⟩) ∧ x ≠ 37 := by
        rcases (show u = 0 ∨ u = 1 ∨ u = 2 by omega) with rfl | rfl | rfl
        · exact ⟨125, by rw [← of_brc]; rfl, by decide⟩
        · exact ⟨126, by rw [← of_til]; rfl, by decide⟩
        · exact ⟨10, by rw [← of_nl]; rfl, by decide⟩
      walk_at "dd"
      clear hx2
      have hzl : (Str.ofString "az ~!" ++ (⟨#[x1]⟩ : Str) ++ (⟨#[x2]⟩ : Str)).cps.toList = [97, 122, 32, 126, 33, x1, x2] := sgn_two x1 x2
      have hzs : (Str.ofString "az ~!" ++ (⟨#[x1]⟩ : Str) ++ (⟨#[x2]⟩ : Str)).cps.size = 7 := sgn_size x1 x2
      refine ⟨sgn_l1 x1 x2, ?_⟩
      have hz37 : ∀ c ∈ (Str.ofString "az ~!" ++ (⟨#[x1]⟩ : Str) ++ (⟨#[x2]⟩ : Str)).cps.toList, c ≠ 37 := by
        rw [hzl]
        intro c hc
        simp only [List.mem_cons, List.not_mem_nil, or_false] at hc
        omega
      generalize (Str.ofString "az ~!" ++ (⟨#[x1]⟩ : Str) ++ (⟨#[x2]⟩ : Str)) = Z at hzs hz37 ⊢
      clear hzl hc1 hc2
      subst hE2
      dsimp only [List.set_cons_succ, List.set_cons_zero]
      refine seq_hide fun E2 hE2 => ?_
      walk_at "dd"
      refine ⟨p, s3, 8, rfl, g1, hs3, by decide, by decide, fun u s4 hu0 hu1 hs4 => ?_⟩
      have k1 : cput C4 p (.lst [.int s4]) p = some (.lst [.int s4]) := cput_same
      generalize cput C4 p (.lst [.int s4]) = C5 at k1 ⊢
      clear g1
      walk_at "dd"
      have hZl : Z.length = 7 := hzs
      have hcl : (cutS Z none (some u)).length ≤ 7 := by have := cutS_length Z none (some u); omega
      refine ⟨by omega, p, s4, 3, rfl, k1, hs4, by decide, by decide, fun u2 s5 hv0 hv1 hs5 => ?_⟩
      have g1 : cput C5 p (.lst [.int s5]) p = some (.lst [.int s5]) := cput_same
      generalize cput C5 p (.lst [.int s5]) = C6 at g1 ⊢
      clear k1
      obtain ⟨n, hn, hn40⟩ : ∃ n : Nat, atI [D.int 1, D.int 1, D.int 40] u2 = some (.int (n : Int)) ∧ n ≤ 40 := by
        rcases (show u2 = 0 ∨ u2 = 1 ∨ u2 = 2 by omega) with rfl | rfl | rfl
        · exact ⟨1, rfl, by decide⟩
        · exact ⟨1, rfl, by decide⟩
        · exact ⟨40, rfl, by decide⟩
      walk_at "dd"
      clear hn
      refine ⟨⟨by omega, by omega, by omega⟩, ?_⟩
      rw [Int.toNat_natCast]
      have ht37 : ∀ c ∈ (repX (cutS Z none (some u)) n).cps.toList, c ≠ 37 := fun c hc => hz37 c (cut_mem (rep_mem hc))
      have hts : (repX (cutS Z none (some u)) n).cps.size ≤ 300 := by
        rw [rep_size]
        have h1 : (cutS Z none (some u)).cps.size ≤ 7 := hcl
        exact Nat.le_trans (Nat.mul_le_mul hn40 h1) (by decide)
      generalize repX (cutS Z none (some u)) n = T1 at ht37 hts ⊢
      clear hz37 hzs hZl hcl
      subst hE2
      dsimp only [List.set_cons_succ, List.set_cons_zero]
      refine seq_hide fun E2 hE2 => ?_
      walk_at "dd"
      refine ⟨T1, rfl, hts, ht37, ?_⟩
      walk_at "dd"
      refine ⟨p, s5, 5, rfl, g1, hs5, by decide, by decide, fun u3 s6 hx0 hx1 hs6 => ?_⟩
      have k1 : cput C6 p (.lst [.int s6]) p = some (.lst [.int s6]) := cput_same
      generalize cput C6 p (.lst [.int s6]) = C7 at k1 ⊢
      clear g1 ht37 hts
      walk_at "dd"
      refine ⟨⟨by omega, by omega, by rw [len_list, of_x]; decide⟩, ?_⟩
      refine ⟨repX (Str.ofString "x") (198 + u3).toNat, rfl, ?_, fun c hc => ?_, ?_⟩
      · rw [rep_size, of_xs]
        omega
      · have hcx := rep_mem hc
        rw [of_x] at hcx
        simp only [List.mem_cons, List.not_mem_nil, or_false] at hcx
        omega
      walk_at "dd"
      subst hE2
      dsimp only [List.set_cons_succ, List.set_cons_zero]
      refine seq_hide fun E2 hE2 => ?_
      walk_at "dd"
      refine ⟨p, s6, 6, rfl, k1, hs6, by decide, by decide, fun u4 s7 hy0 hy1 hs7 => ?_⟩
      have g1 : cput C7 p (.lst [.int s7]) p = some (.lst [.int s7]) := cput_same
      generalize cput C7 p (.lst [.int s7]) = C8 at g1 ⊢
      clear k1
      obtain ⟨pw, hpw, hpw1, hpw2⟩ : ∃ pw : Int, atI [D.int 1, D.int 128, D.int 16384, D.int 2097152, D.int 268435456, D.int 34359738368] u4 = some (.int pw) ∧ 1 ≤ pw ∧ pw ≤ 34359738368 := pow_at hy0 hy1
      walk_at "dd"
      clear hpw
      subst hE2
      dsimp only [List.set_cons_succ, List.set_cons_zero]
      refine seq_hide fun E2 hE2 => ?_
      simp only [wFor, wItT, wTup, wCons, wNil, wOp, wC, wVar, List.getElem?_cons_succ, List.getElem?_cons_zero]
      simp only [dSub, dDivW, dI0, dI, true_and]
      refine ⟨by decide, by decide, ?_⟩
      simp only [wCall, wCons, wNil, wOp, wC, wVar, List.getElem?_cons_succ, List.getElem?_cons_zero, List.append_nil]
      refine ⟨⟨by decide, by decide, by decide⟩, ?_⟩
      have e9 : (10 : Int) ^ (9 : Int).toNat = 1000000000 := by decide
      dsimp only
      rw [e9]
      clear e9
      refine ⟨p, s7, 1000000000, rfl, g1, hs7, by decide, by decide, fun am s8 ha0 ha1 hs8 => ?_⟩
      have k1 : cput C8 p (.lst [.int s8]) p = some (.lst [.int s8]) := cput_same
      generalize cput C8 p (.lst [.int s8]) = C9 at k1 ⊢
      clear g1
      refine ⟨(show (7 : Nat) ≤ 100000 by decide), ?_⟩
      refine for_map (L := [pw - 1, pw, 0 - pw, 1 - pw, pw / 2, 0 - pw / 2, am]) (enc := D.int) (fun j ρ' C' => C' = C9 ∧ ∃ w6, ρ' = [some (.lst (ns.map D.int)), some (.int (k : Int)), some (.ptr p), some (.str Z), some (.str T1), some (.int pw), w6, w7, w8]) ⟨rfl, _, rfl⟩ ?_ ?_
      · rintro j a ρ' C' hj ⟨rfl, w6, rfl⟩
        have ha := List.mem_of_getElem? hj
        have hfa : foldN a ≤ 1000000000000 := by
          simp only [List.mem_cons, List.not_mem_nil, or_false] at ha
          unfold foldN
          rcases ha with rfl | rfl | rfl | rfl | rfl | rfl | rfl <;> split <;> omega
        clear hj ha
        walk_at "dd"
        refine ⟨a, rfl, hfa, ?_⟩
        walk_at "dd"
        exact ⟨_, rfl⟩
      · rintro ρ' C' ⟨rfl, w6, rfl⟩
        subst hE2
        dsimp only [List.set_cons_succ, List.set_cons_zero]
        refine seq_hide fun E2 hE2 => ?_
        simp only [wFor, wItT, wTup, wCons, wNil, wOp, wC, wVar, List.getElem?_cons_succ, List.getElem?_cons_zero, wCall, List.append_nil]
        refine ⟨⟨by decide, by decide, by decide⟩, ?_⟩
        have e32 : (2 : Int) ^ (32 : Int).toNat = 4294967296 := by decide
        dsimp only
        rw [e32]
        refine ⟨p, s8, 4294967296, rfl, k1, hs8, by decide, by decide, fun ch s9 hb0 hb1 hs9 => ?_⟩
        have g1 : cput C' p (.lst [.int s9]) p = some (.lst [.int s9]) := cput_same
        generalize cput C' p (.lst [.int s9]) = C10 at g1 ⊢
        clear k1
        dsimp only
        refine ⟨(show (4 : Nat) ≤ 100000 by decide), p, s9, 4, rfl, g1, hs9, by decide, by decide, fun u5 s10 hc0 hc1 hs10 => ?_⟩
        have k1 : cput C10 p (.lst [.int s10]) p = some (.lst [.int s10]) := cput_same
        generalize cput C10 p (.lst [.int s10]) = C11 at k1 ⊢
        clear g1
        obtain ⟨c2, hc2, hc3, hc4⟩ := chk_at hc0 hc1
        have hit : itemOf (.tup [D.int 1, D.int 256, D.int 65536, D.int 16777216]) C11 u5 = some (.int c2) := hc2
        simp only [dIx, hit]
        clear hc2 hit
        refine ⟨⟨by decide, by decide, by decide⟩, ?_⟩
        dsimp only
        rw [e32]
        clear e32
        simp only [dSub, dI0]
        refine ⟨(show (3 : Nat) ≤ 100000 by decide), ?_⟩
        refine for_map (L := [ch, c2, 4294967296 - 1]) (enc := D.int) (fun j ρ' C' => C' = C11 ∧ ∃ w7, ρ' = [some (.lst (ns.map D.int)), some (.int (k : Int)), some (.ptr p), some (.str Z), some (.str T1), some (.int pw), w6, w7, w8]) ⟨rfl, _, rfl⟩ ?_ ?_
        · rintro j a ρ' C' hj ⟨rfl, w7, rfl⟩
          have ha := List.mem_of_getElem? hj
          have hfa : 0 ≤ a ∧ a < 4294967296 := by
            simp only [List.mem_cons, List.not_mem_nil, or_false] at ha
            rcases ha with rfl | rfl | rfl <;> omega
          clear hj ha
          walk_at "dd"
          refine ⟨a, rfl, hfa.1, hfa.2, ?_⟩
          walk_at "dd"
          exact ⟨_, rfl⟩
        · rintro ρ' C' ⟨rfl, w7, rfl⟩
          subst hE2
          dsimp only [List.set_cons_succ, List.set_cons_zero]
          walk_at "dd"
          refine ⟨p, s10, rfl, k1, hs10, fun s11 hs11 => ?_⟩
          walk_at "dd"
          exact ⟨_, _, _, _, _, _, _, _, rfl⟩
    · rintro ρ' C1 ⟨w1, w2, w3, w4, w5, w6, w7, w8, rfl⟩
      subst hE
      dsimp only [List.set_cons_succ, List.set_cons_zero]
      refine seq_hide fun E' hE => ?_
      walk_at "dd"
      refine ⟨by decide, for_rng (fun k ρ' C' => ∃ w1 w2 w3 w4 w5 w6 w7 w8 : Option D, ρ' = [some (.lst (ns.map D.int)), w1, w2, w3, w4, w5, w6, w7, w8]) ⟨_, _, _, _, _, _, _, _, rfl⟩ ?_ ?_⟩
      · rintro k ρ' C2 hk ⟨w1, w2, w3, w4, w5, w6, w7, w8, rfl⟩
        rw [Int.zero_add]
        have hk2 : k < 200 := by omega
        have hsg : ∀ b, signB (k : Int) = b → (rdT [1, (k : Int)] 0).isNone = !b := fun b hb => by
          have := ref_text 1 [(k : Int)] (by decide)
          rw [show ((1 : Nat) : Int) = 1 from rfl] at this
          rw [this]
          show (!(decide (1 + 1 > 1) && (signB (k : Int) && true))) = !b
          rw [hb]; cases b <;> rfl
        have hO : OctOk [1, (k : Int)] := ⟨(show (2 : Nat) ≤ 100000 by decide), fun o ho => by
          simp only [List.mem_cons, List.not_mem_nil, or_false] at ho
          omega⟩
        have fin : ∀ (E3 : DEnds) b, signB (k : Int) = b → E3.nx [some (.lst (ns.map D.int)), w1, w2, w3, w4, w5, w6, w7, some (.int (k : Int))] C2 → R_law_refused A [.ptr A.a_read_text, .lst [.int 1, .int (k : Int)], .int 0] C2 fun x C1 => R_is_sign A [.int (k : Int)] C1 fun y C2 => dEq x y C2 fun x C1 => match x with
            | .bl k_2 => if k_2 = true then E'.rt (.bl false) C1 else E3.nx [some (.lst (ns.map D.int)), w1, w2, w3, w4, w5, w6, w7, some (.int (k : Int))] C1
            | _ => False := fun E3 b hb hE3 => by
          refine ⟨A.a_read_text, [1, (k : Int)], 0, rfl, hO, by decide, .inl ⟨rfl, (k : Int), rfl, ?_⟩⟩
          rw [hsg b hb, hb]
          cases b <;> exact hE3
        have hE9 : ∃ E3 : DEnds, E3.nx = fun ρ' C' => ∃ w1 w2 w3 w4 w5 w6 w7 w8 : Option D, ρ' = [some (.lst (ns.map D.int)), w1, w2, w3, w4, w5, w6, w7, w8] := ⟨⟨_, fun _ _ => True, fun _ _ => True, fun _ _ => True, fun _ _ _ _ => True⟩, rfl⟩
        obtain ⟨E3, hE3⟩ := hE9
        have fin := fun b hb => fin E3 b hb (by rw [hE3]; exact ⟨_, _, _, _, _, _, _, _, rfl⟩)
        rw [hE3] at fin
        clear hE3 hsg hO
        walk_at "dd"
        refine ⟨(k : Int), rfl, ?_⟩
        dsimp only
        by_cases n1 : (32 : Int) ≤ (k : Int)
        · rw [if_pos n1]
          by_cases n2 : (k : Int) ≤ 126
          · rw [if_pos n2]
            by_cases n3 : (k : Int) = 37
            · have hb : signB (k : Int) = false := by unfold signB; rw [decide_eq_true ⟨n1, n2⟩, decide_eq_false (fun z => z n3)]; rfl
              rw [hb, decide_eq_true n3]
              exact fin false hb
            · have hb : signB (k : Int) = true := by unfold signB; rw [decide_eq_true ⟨n1, n2⟩, decide_eq_true n3]; rfl
              rw [hb, decide_eq_false n3]
              exact fin true hb
          · have hb : signB (k : Int) = false := by unfold signB; rw [decide_eq_false (fun z => n2 z.2)]; rfl
            rw [if_neg n2, hb]
            exact fin false hb
        · have hb : signB (k : Int) = false := by unfold signB; rw [decide_eq_false (fun z => n1 z.1)]; rfl
          rw [if_neg n1, hb]
          exact fin false hb
      · rintro ρ' C2 ⟨w1, w2, w3, w4, w5, w6, w7, w8, rfl⟩
        subst hE
        dsimp only [List.set_cons_succ, List.set_cons_zero]
        refine seq_hide fun E' hE => ?_
        walk_at "dd"
        have hrep : (List.replicate (Int.toNat 201) [D.int 65]).flatten = (List.replicate 201 (65 : Int)).map D.int := by
          rw [show Int.toNat 201 = 201 from rfl, List.map_replicate]
          have : ∀ n : Nat, (List.replicate n [D.int 65]).flatten = List.replicate n (D.int 65) := fun n => by
            induction n with
            | zero => rfl
            | succ n ih => rw [List.replicate_succ, List.flatten_cons, ih]; rfl
          exact this 201
        rw [hrep]
        clear hrep
        refine ⟨by decide, by rw [List.length_map, List.length_replicate]; decide, A.a_read_text, 201 :: List.replicate 201 65, 0, rfl, ⟨by rw [List.length_cons, List.length_replicate]; decide, fun o ho => ?_⟩, by decide, .inl ⟨rfl, ?_⟩⟩
        · rcases List.mem_cons.mp ho with rfl | ho
          · decide
          · rw [List.eq_of_mem_replicate ho]; decide
        · have hn : rdT (201 :: List.replicate 201 65) 0 = none := rfl
          rw [hn]
          walk_at "dd"
          rw [if_neg (by decide)]
          refine ⟨A.a_read_check, [1, 2, 3], 0, rfl, ⟨by decide, by decide⟩, by decide, .inr (.inl ⟨rfl, ?_⟩)⟩
          dsimp only
          rw [if_neg (by decide)]
          subst hE
          dsimp only [List.set_cons_succ, List.set_cons_zero]
          walk_at "dd"
          refine ⟨A.a_read_text, [], 0, rfl, ⟨by decide, fun o ho => nomatch ho⟩, by decide, .inl ⟨rfl, ?_⟩⟩
          have h1 : (rdT [] 0).isNone = true := rfl
          rw [h1]
          walk_at "dd"
          refine ⟨A.a_read_amount, [128], 0, rfl, ⟨by decide, by decide⟩, by decide, .inr (.inr ⟨rfl, ?_⟩)⟩
          have h2 : (rdA [128] 0).isNone = true := rfl
          rw [h2]
          exact ⟨_, Sub.refl _, q _⟩)

end
/-! ### what the top has written, the head -/
theorem all_mk {l : PySem.W.OpenLaw} {w : World} {K : PySem.W.Frag} {h : Heap} {mg : Str → Option Value} {fa : Addr} (X : K.In h) (G : h.Ns mainGlobals mg) (hfa : mg "law" = some (.ref fa))
    {C_BadNumber : Addr}
    {C_BadOctets : Addr}
    {t_FIRST_SIGN : Tok}
    {t_GREATEST : Tok}
    {t_LAST_SIGN : Tok}
    {t_NO_SIGN : Tok}
    {t_SIGNS : Tok}
    {t_TEXT_LIMIT : Tok}
    {f_law_state : Addr} {od_law_state an_law_state : Option Addr} {sl_law_state : Array (Option Value)} {oc_law_state kV_law_state dc_law_state pm_law_state cd_law_state ct_law_state : Value}
    {f_is_sign : Addr} {od_is_sign an_is_sign : Option Addr} {sl_is_sign : Array (Option Value)} {oc_is_sign kV_is_sign dc_is_sign pm_is_sign cd_is_sign ct_is_sign : Value}
    {f_read_text : Addr} {od_read_text an_read_text : Option Addr} {sl_read_text : Array (Option Value)} {oc_read_text kV_read_text dc_read_text pm_read_text cd_read_text ct_read_text : Value}
    {f_read_check : Addr} {od_read_check an_read_check : Option Addr} {sl_read_check : Array (Option Value)} {oc_read_check kV_read_check dc_read_check pm_read_check cd_read_check ct_read_check : Value}
    {f_read_number : Addr} {od_read_number an_read_number : Option Addr} {sl_read_number : Array (Option Value)} {oc_read_number kV_read_number dc_read_number pm_read_number cd_read_number ct_read_number : Value}
    {f_unfolded : Addr} {od_unfolded an_unfolded : Option Addr} {sl_unfolded : Array (Option Value)} {oc_unfolded kV_unfolded dc_unfolded pm_unfolded cd_unfolded ct_unfolded : Value}
    {f_read_amount : Addr} {od_read_amount an_read_amount : Option Addr} {sl_read_amount : Array (Option Value)} {oc_read_amount kV_read_amount dc_read_amount pm_read_amount cd_read_amount ct_read_amount : Value}
    {f_law_refused : Addr} {od_law_refused an_law_refused : Option Addr} {sl_law_refused : Array (Option Value)} {oc_law_refused kV_law_refused dc_law_refused pm_law_refused cd_law_refused ct_law_refused : Value}
    {f_law_cell : Addr} {od_law_cell an_law_cell : Option Addr} {sl_law_cell : Array (Option Value)} {oc_law_cell kV_law_cell dc_law_cell pm_law_cell cd_law_cell ct_law_cell : Value}
    {f_law_digit : Addr} {od_law_digit an_law_digit : Option Addr} {sl_law_digit : Array (Option Value)} {oc_law_digit kV_law_digit dc_law_digit pm_law_digit cd_law_digit ct_law_digit : Value}
    {f_law_octets : Addr} {od_law_octets an_law_octets : Option Addr} {sl_law_octets : Array (Option Value)} {oc_law_octets kV_law_octets dc_law_octets pm_law_octets cd_law_octets ct_law_octets : Value}
    {f_is_plain : Addr} {od_is_plain an_is_plain : Option Addr} {sl_is_plain : Array (Option Value)} {oc_is_plain kV_is_plain dc_is_plain pm_is_plain cd_is_plain ct_is_plain : Value}
    {f_text_octets : Addr} {od_text_octets an_text_octets : Option Addr} {sl_text_octets : Array (Option Value)} {oc_text_octets kV_text_octets dc_text_octets pm_text_octets cd_text_octets ct_text_octets : Value}
    {f_law_text : Addr} {od_law_text an_law_text : Option Addr} {sl_law_text : Array (Option Value)} {oc_law_text kV_law_text dc_law_text pm_law_text cd_law_text ct_law_text : Value}
    {f_number_octets : Addr} {od_number_octets an_number_octets : Option Addr} {sl_number_octets : Array (Option Value)} {oc_number_octets kV_number_octets dc_number_octets pm_number_octets cd_number_octets ct_number_octets : Value}
    {f_folded : Addr} {od_folded an_folded : Option Addr} {sl_folded : Array (Option Value)} {oc_folded kV_folded dc_folded pm_folded cd_folded ct_folded : Value}
    {f_amount_octets : Addr} {od_amount_octets an_amount_octets : Option Addr} {sl_amount_octets : Array (Option Value)} {oc_amount_octets kV_amount_octets dc_amount_octets pm_amount_octets cd_amount_octets ct_amount_octets : Value}
    {f_law_amount : Addr} {od_law_amount an_law_amount : Option Addr} {sl_law_amount : Array (Option Value)} {oc_law_amount kV_law_amount dc_law_amount pm_law_amount cd_law_amount ct_law_amount : Value}
    {f_check_octets : Addr} {od_check_octets an_check_octets : Option Addr} {sl_check_octets : Array (Option Value)} {oc_check_octets kV_check_octets dc_check_octets pm_check_octets cd_check_octets ct_check_octets : Value}
    {f_law_check : Addr} {od_law_check an_law_check : Option Addr} {sl_law_check : Array (Option Value)} {oc_law_check kV_law_check dc_law_check pm_law_check cd_law_check ct_law_check : Value}
    {f_law : Addr} {od_law an_law : Option Addr} {sl_law : Array (Option Value)} {oc_law kV_law dc_law pm_law cd_law ct_law : Value}
    (aC_BadNumber : PySem.W.nsIn K mainGlobals "BadNumber" = some (some (.ref C_BadNumber)))
    (xi_BadNumber : PySem.W.excIn K C_BadNumber [.type "ValueError", .type "Exception", .type "BaseException", .type "object"] "ValueError.__new__" = true)
    (xb_BadNumber : PySem.W.subIn K (.ref C_BadNumber) (.type "BaseException") = some true)
    (xt_BadNumber : PySem.W.typeIn K (.ref C_BadNumber) = some (.type "type"))
    (xk_BadNumber : PySem.W.keepIn K (.ref C_BadNumber) = true)
    (xc_BadNumber : PySem.W.isClsIn K C_BadNumber = true)
    (aC_BadOctets : PySem.W.nsIn K mainGlobals "BadOctets" = some (some (.ref C_BadOctets)))
    (xi_BadOctets : PySem.W.excIn K C_BadOctets [.type "ValueError", .type "Exception", .type "BaseException", .type "object"] "ValueError.__new__" = true)
    (xb_BadOctets : PySem.W.subIn K (.ref C_BadOctets) (.type "BaseException") = some true)
    (xt_BadOctets : PySem.W.typeIn K (.ref C_BadOctets) = some (.type "type"))
    (xk_BadOctets : PySem.W.keepIn K (.ref C_BadOctets) = true)
    (xc_BadOctets : PySem.W.isClsIn K C_BadOctets = true)
    (xs_BadNumber_BadNumber : PySem.W.subIn K (.ref C_BadNumber) (.ref C_BadNumber) = some true)
    (xs_BadNumber_BadOctets : PySem.W.subIn K (.ref C_BadNumber) (.ref C_BadOctets) = some false)
    (xs_BadOctets_BadNumber : PySem.W.subIn K (.ref C_BadOctets) (.ref C_BadNumber) = some false)
    (xs_BadOctets_BadOctets : PySem.W.subIn K (.ref C_BadOctets) (.ref C_BadOctets) = some true)
    (z_all : PySem.W.nsIn K mainGlobals "all" = some none)
    (z_int : PySem.W.nsIn K mainGlobals "int" = some none)
    (z_len : PySem.W.nsIn K mainGlobals "len" = some none)
    (z_min : PySem.W.nsIn K mainGlobals "min" = some none)
    (z_ord : PySem.W.nsIn K mainGlobals "ord" = some none)
    (z_range : PySem.W.nsIn K mainGlobals "range" = some none)
    (kk_FIRST_SIGN : PySem.W.nsIn K mainGlobals "FIRST_SIGN" = some (some (.int 32 t_FIRST_SIGN)))
    (kk_GREATEST : PySem.W.nsIn K mainGlobals "GREATEST" = some (some (.int 1000000000000 t_GREATEST)))
    (kk_LAST_SIGN : PySem.W.nsIn K mainGlobals "LAST_SIGN" = some (some (.int 126 t_LAST_SIGN)))
    (kk_NO_SIGN : PySem.W.nsIn K mainGlobals "NO_SIGN" = some (some (.int 37 t_NO_SIGN)))
    (kk_SIGNS : PySem.W.nsIn K mainGlobals "SIGNS" = some (some (.str (Str.ofString " !\"#$.&'()*+,-./0123456789:;<=>?@ABCDEFGHIJKLMNOPQRSTUVWXYZ[\\]^_`abcdefghijklmnopqrstuvwxyz{|}~") t_SIGNS)))
    (kk_TEXT_LIMIT : PySem.W.nsIn K mainGlobals "TEXT_LIMIT" = some (some (.int 200 t_TEXT_LIMIT)))
    (a_law_state : PySem.W.nsIn K mainGlobals "_law_state" = some (some (.ref f_law_state)))
    (l_law_state : K.lookup f_law_state = some ⟨oc_law_state, od_law_state, .func (PySem.W.fnOf "_law_state" "_law_state" (defArgs s_law_state) (defBody s_law_state) (defScope s_law_state) .none kV_law_state dc_law_state pm_law_state an_law_state cd_law_state ct_law_state), sl_law_state⟩)
    (c_law_state : PySem.W.codeIn K cd_law_state "_law_state" = true)
    (k_law_state : PySem.W.keepIn K (.ref f_law_state) = true)
    (a_is_sign : PySem.W.nsIn K mainGlobals "is_sign" = some (some (.ref f_is_sign)))
    (l_is_sign : K.lookup f_is_sign = some ⟨oc_is_sign, od_is_sign, .func (PySem.W.fnOf "is_sign" "is_sign" (defArgs s_is_sign) (defBody s_is_sign) (defScope s_is_sign) .none kV_is_sign dc_is_sign pm_is_sign an_is_sign cd_is_sign ct_is_sign), sl_is_sign⟩)
    (c_is_sign : PySem.W.codeIn K cd_is_sign "is_sign" = true)
    (k_is_sign : PySem.W.keepIn K (.ref f_is_sign) = true)
    (a_read_text : PySem.W.nsIn K mainGlobals "read_text" = some (some (.ref f_read_text)))
    (l_read_text : K.lookup f_read_text = some ⟨oc_read_text, od_read_text, .func (PySem.W.fnOf "read_text" "read_text" (defArgs s_read_text) (defBody s_read_text) (defScope s_read_text) .none kV_read_text dc_read_text pm_read_text an_read_text cd_read_text ct_read_text), sl_read_text⟩)
    (c_read_text : PySem.W.codeIn K cd_read_text "read_text" = true)
    (k_read_text : PySem.W.keepIn K (.ref f_read_text) = true)
    (a_read_check : PySem.W.nsIn K mainGlobals "read_check" = some (some (.ref f_read_check)))
    (l_read_check : K.lookup f_read_check = some ⟨oc_read_check, od_read_check, .func (PySem.W.fnOf "read_check" "read_check" (defArgs s_read_check) (defBody s_read_check) (defScope s_read_check) .none kV_read_check dc_read_check pm_read_check an_read_check cd_read_check ct_read_check), sl_read_check⟩)
    (c_read_check : PySem.W.codeIn K cd_read_check "read_check" = true)
    (k_read_check : PySem.W.keepIn K (.ref f_read_check) = true)
    (a_read_number : PySem.W.nsIn K mainGlobals "read_number" = some (some (.ref f_read_number)))
    (l_read_number : K.lookup f_read_number = some ⟨oc_read_number, od_read_number, .func (PySem.W.fnOf "read_number" "read_number" (defArgs s_read_number) (defBody s_read_number) (defScope s_read_number) .none kV_read_number dc_read_number pm_read_number an_read_number cd_read_number ct_read_number), sl_read_number⟩)
    (c_read_number : PySem.W.codeIn K cd_read_number "read_number" = true)
    (k_read_number : PySem.W.keepIn K (.ref f_read_number) = true)
    (a_unfolded : PySem.W.nsIn K mainGlobals "unfolded" = some (some (.ref f_unfolded)))
    (l_unfolded : K.lookup f_unfolded = some ⟨oc_unfolded, od_unfolded, .func (PySem.W.fnOf "unfolded" "unfolded" (defArgs s_unfolded) (defBody s_unfolded) (defScope s_unfolded) .none kV_unfolded dc_unfolded pm_unfolded an_unfolded cd_unfolded ct_unfolded), sl_unfolded⟩)
    (c_unfolded : PySem.W.codeIn K cd_unfolded "unfolded" = true)
    (k_unfolded : PySem.W.keepIn K (.ref f_unfolded) = true)
    (a_read_amount : PySem.W.nsIn K mainGlobals "read_amount" = some (some (.ref f_read_amount)))
    (l_read_amount : K.lookup f_read_amount = some ⟨oc_read_amount, od_read_amount, .func (PySem.W.fnOf "read_amount" "read_amount" (defArgs s_read_amount) (defBody s_read_amount) (defScope s_read_amount) .none kV_read_amount dc_read_amount pm_read_amount an_read_amount cd_read_amount ct_read_amount), sl_read_amount⟩)
    (c_read_amount : PySem.W.codeIn K cd_read_amount "read_amount" = true)
    (k_read_amount : PySem.W.keepIn K (.ref f_read_amount) = true)
    (a_law_refused : PySem.W.nsIn K mainGlobals "_law_refused" = some (some (.ref f_law_refused)))
    (l_law_refused : K.lookup f_law_refused = some ⟨oc_law_refused, od_law_refused, .func (PySem.W.fnOf "_law_refused" "_law_refused" (defArgs s_law_refused) (defBody s_law_refused) (defScope s_law_refused) .none kV_law_refused dc_law_refused pm_law_refused an_law_refused cd_law_refused ct_law_refused), sl_law_refused⟩)
    (c_law_refused : PySem.W.codeIn K cd_law_refused "_law_refused" = true)
    (k_law_refused : PySem.W.keepIn K (.ref f_law_refused) = true)
    (a_law_cell : PySem.W.nsIn K mainGlobals "_law_cell" = some (some (.ref f_law_cell)))
    (l_law_cell : K.lookup f_law_cell = some ⟨oc_law_cell, od_law_cell, .func (PySem.W.fnOf "_law_cell" "_law_cell" (defArgs s_law_cell) (defBody s_law_cell) (defScope s_law_cell) .none kV_law_cell dc_law_cell pm_law_cell an_law_cell cd_law_cell ct_law_cell), sl_law_cell⟩)
    (c_law_cell : PySem.W.codeIn K cd_law_cell "_law_cell" = true)
    (k_law_cell : PySem.W.keepIn K (.ref f_law_cell) = true)
    (a_law_digit : PySem.W.nsIn K mainGlobals "_law_digit" = some (some (.ref f_law_digit)))
    (l_law_digit : K.lookup f_law_digit = some ⟨oc_law_digit, od_law_digit, .func (PySem.W.fnOf "_law_digit" "_law_digit" (defArgs s_law_digit) (defBody s_law_digit) (defScope s_law_digit) .none kV_law_digit dc_law_digit pm_law_digit an_law_digit cd_law_digit ct_law_digit), sl_law_digit⟩)
    (c_law_digit : PySem.W.codeIn K cd_law_digit "_law_digit" = true)
    (k_law_digit : PySem.W.keepIn K (.ref f_law_digit) = true)
    (a_law_octets : PySem.W.nsIn K mainGlobals "_law_octets" = some (some (.ref f_law_octets)))
    (l_law_octets : K.lookup f_law_octets = some ⟨oc_law_octets, od_law_octets, .func (PySem.W.fnOf "_law_octets" "_law_octets" (defArgs s_law_octets) (defBody s_law_octets) (defScope s_law_octets) .none kV_law_octets dc_law_octets pm_law_octets an_law_octets cd_law_octets ct_law_octets), sl_law_octets⟩)
    (c_law_octets : PySem.W.codeIn K cd_law_octets "_law_octets" = true)
    (k_law_octets : PySem.W.keepIn K (.ref f_law_octets) = true)
    (a_is_plain : PySem.W.nsIn K mainGlobals "is_plain" = some (some (.ref f_is_plain)))
    (l_is_plain : K.lookup f_is_plain = some ⟨oc_is_plain, od_is_plain, .func (PySem.W.fnOf "is_plain" "is_plain" (defArgs s_is_plain) (defBody s_is_plain) (defScope s_is_plain) .none kV_is_plain dc_is_plain pm_is_plain an_is_plain cd_is_plain ct_is_plain), sl_is_plain⟩)
    (c_is_plain : PySem.W.codeIn K cd_is_plain "is_plain" = true)
    (k_is_plain : PySem.W.keepIn K (.ref f_is_plain) = true)
    (a_text_octets : PySem.W.nsIn K mainGlobals "text_octets" = some (some (.ref f_text_octets)))
    (l_text_octets : K.lookup f_text_octets = some ⟨oc_text_octets, od_text_octets, .func (PySem.W.fnOf "text_octets" "text_octets" (defArgs s_text_octets) (defBody s_text_octets) (defScope s_text_octets) .none kV_text_octets dc_text_octets pm_text_octets an_text_octets cd_text_octets ct_text_octets), sl_text_octets⟩)
    (c_text_octets : PySem.W.codeIn K cd_text_octets "text_octets" = true)
    (k_text_octets : PySem.W.keepIn K (.ref f_text_octets) = true)
    (a_law_text : PySem.W.nsIn K mainGlobals "_law_text" = some (some (.ref f_law_text)))
    (l_law_text : K.lookup f_law_text = some ⟨oc_law_text, od_law_text, .func (PySem.W.fnOf "_law_text" "_law_text" (defArgs s_law_text) (defBody s_law_text) (defScope s_law_text) .none kV_law_text dc_law_text pm_law_text an_law_text cd_law_text ct_law_text), sl_law_text⟩)
    (c_law_text : PySem.W.codeIn K cd_law_text "_law_text" = true)
    (k_law_text : PySem.W.keepIn K (.ref f_law_text) = true)
    (a_number_octets : PySem.W.nsIn K mainGlobals "number_octets" = some (some (.ref f_number_octets)))
    (l_number_octets : K.lookup f_number_octets = some ⟨oc_number_octets, od_number_octets, .func (PySem.W.fnOf "number_octets" "number_octets" (defArgs s_number_octets) (defBody s_number_octets) (defScope s_number_octets) .none kV_number_octets dc_number_octets pm_number_octets an_number_octets cd_number_octets ct_number_octets), sl_number_octets⟩)
    (c_number_octets : PySem.W.codeIn K cd_number_octets "number_octets" = true)
    (k_number_octets : PySem.W.keepIn K (.ref f_number_octets) = true)
    (a_folded : PySem.W.nsIn K mainGlobals "folded" = some (some (.ref f_folded)))
    (l_folded : K.lookup f_folded = some ⟨oc_folded, od_folded, .func (PySem.W.fnOf "folded" "folded" (defArgs s_folded) (defBody s_folded) (defScope s_folded) .none kV_folded dc_folded pm_folded an_folded cd_folded ct_folded), sl_folded⟩)
    (c_folded : PySem.W.codeIn K cd_folded "folded" = true)
    (k_folded : PySem.W.keepIn K (.ref f_folded) = true)
    (a_amount_octets : PySem.W.nsIn K mainGlobals "amount_octets" = some (some (.ref f_amount_octets)))
    (l_amount_octets : K.lookup f_amount_octets = some ⟨oc_amount_octets, od_amount_octets, .func (PySem.W.fnOf "amount_octets" "amount_octets" (defArgs s_amount_octets) (defBody s_amount_octets) (defScope s_amount_octets) .none kV_amount_octets dc_amount_octets pm_amount_octets an_amount_octets cd_amount_octets ct_amount_octets), sl_amount_octets⟩)
    (c_amount_octets : PySem.W.codeIn K cd_amount_octets "amount_octets" = true)
    (k_amount_octets : PySem.W.keepIn K (.ref f_amount_octets) = true)
    (a_law_amount : PySem.W.nsIn K mainGlobals "_law_amount" = some (some (.ref f_law_amount)))
    (l_law_amount : K.lookup f_law_amount = some ⟨oc_law_amount, od_law_amount, .func (PySem.W.fnOf "_law_amount" "_law_amount" (defArgs s_law_amount) (defBody s_law_amount) (defScope s_law_amount) .none kV_law_amount dc_law_amount pm_law_amount an_law_amount cd_law_amount ct_law_amount), sl_law_amount⟩)
    (c_law_amount : PySem.W.codeIn K cd_law_amount "_law_amount" = true)
    (k_law_amount : PySem.W.keepIn K (.ref f_law_amount) = true)
    (a_check_octets : PySem.W.nsIn K mainGlobals "check_octets" = some (some (.ref f_check_octets)))
    (l_check_octets : K.lookup f_check_octets = some ⟨oc_check_octets, od_check_octets, .func (PySem.W.fnOf "check_octets" "check_octets" (defArgs s_check_octets) (defBody s_check_octets) (defScope s_check_octets) .none kV_check_octets dc_check_octets pm_check_octets an_check_octets cd_check_octets ct_check_octets), sl_check_octets⟩)
    (c_check_octets : PySem.W.codeIn K cd_check_octets "check_octets" = true)
    (k_check_octets : PySem.W.keepIn K (.ref f_check_octets) = true)
    (a_law_check : PySem.W.nsIn K mainGlobals "_law_check" = some (some (.ref f_law_check)))
    (l_law_check : K.lookup f_law_check = some ⟨oc_law_check, od_law_check, .func (PySem.W.fnOf "_law_check" "_law_check" (defArgs s_law_check) (defBody s_law_check) (defScope s_law_check) .none kV_law_check dc_law_check pm_law_check an_law_check cd_law_check ct_law_check), sl_law_check⟩)
    (c_law_check : PySem.W.codeIn K cd_law_check "_law_check" = true)
    (k_law_check : PySem.W.keepIn K (.ref f_law_check) = true)
    (a_law : PySem.W.nsIn K mainGlobals "law" = some (some (.ref f_law)))
    (l_law : K.lookup f_law = some ⟨oc_law, od_law, .func (PySem.W.fnOf "law" "law" (defArgs s_law) (defBody s_law) (defScope s_law) .none kV_law dc_law pm_law an_law cd_law ct_law), sl_law⟩)
    (c_law : PySem.W.codeIn K cd_law "law" = true)
    (k_law : PySem.W.keepIn K (.ref f_law) = true)
    : ∃ (A : Ad) (fd : FuncData), (∀ (s : Shared) (v : Value), BindsTo s fd ⟨[v], []⟩ [("script", v)]) ∧ ∀ base : Heap, K.In base → base.Ns mainGlobals mg → FnOk l.prog w K mg base CX0 5 fa fd ["script"] (spD K (R_law A)) := by
  have e := hfa.symm.trans (PySem.W.mg_of X G a_law)
  cases e
  have F_law_state := fun_mk (st := s_law_state) l_law_state c_law_state k_law_state
  have b_law_state := F_law_state.binds (ps := ["cell", "k"]) fun _ _ _ _ _ _ us hl => match us, hl with | [_, _], _ => rfl
  have F_is_sign := fun_mk (st := s_is_sign) l_is_sign c_is_sign k_is_sign
  have b_is_sign := F_is_sign.binds (ps := ["code"]) fun _ _ _ _ _ _ us hl => match us, hl with | [_], _ => rfl
  have F_read_text := fun_mk (st := s_read_text) l_read_text c_read_text k_read_text
  have b_read_text := F_read_text.binds (ps := ["octets", "place"]) fun _ _ _ _ _ _ us hl => match us, hl with | [_, _], _ => rfl
  have F_read_check := fun_mk (st := s_read_check) l_read_check c_read_check k_read_check
  have b_read_check := F_read_check.binds (ps := ["octets", "place"]) fun _ _ _ _ _ _ us hl => match us, hl with | [_, _], _ => rfl
  have F_read_number := fun_mk (st := s_read_number) l_read_number c_read_number k_read_number
  have b_read_number := F_read_number.binds (ps := ["octets", "place"]) fun _ _ _ _ _ _ us hl => match us, hl with | [_, _], _ => rfl
  have F_unfolded := fun_mk (st := s_unfolded) l_unfolded c_unfolded k_unfolded
  have b_unfolded := F_unfolded.binds (ps := ["number"]) fun _ _ _ _ _ _ us hl => match us, hl with | [_], _ => rfl
  have F_read_amount := fun_mk (st := s_read_amount) l_read_amount c_read_amount k_read_amount
  have b_read_amount := F_read_amount.binds (ps := ["octets", "place"]) fun _ _ _ _ _ _ us hl => match us, hl with | [_, _], _ => rfl
  have F_law_refused := fun_mk (st := s_law_refused) l_law_refused c_law_refused k_law_refused
  have b_law_refused := F_law_refused.binds (ps := ["deed", "octets", "place"]) fun _ _ _ _ _ _ us hl => match us, hl with | [_, _, _], _ => rfl
  have F_law_cell := fun_mk (st := s_law_cell) l_law_cell c_law_cell k_law_cell
  have b_law_cell := F_law_cell.binds (ps := ["script", "k"]) fun _ _ _ _ _ _ us hl => match us, hl with | [_, _], _ => rfl
  have F_law_digit := fun_mk (st := s_law_digit) l_law_digit c_law_digit k_law_digit
  have b_law_digit := F_law_digit.binds (ps := ["state", "many"]) fun _ _ _ _ _ _ us hl => match us, hl with | [_, _], _ => rfl
  have F_law_octets := fun_mk (st := s_law_octets) l_law_octets c_law_octets k_law_octets
  have b_law_octets := F_law_octets.binds (ps := ["state"]) fun _ _ _ _ _ _ us hl => match us, hl with | [_], _ => rfl
  have F_is_plain := fun_mk (st := s_is_plain) l_is_plain c_is_plain k_is_plain
  have b_is_plain := F_is_plain.binds (ps := ["text"]) fun _ _ _ _ _ _ us hl => match us, hl with | [_], _ => rfl
  have F_text_octets := fun_mk (st := s_text_octets) l_text_octets c_text_octets k_text_octets
  have b_text_octets := F_text_octets.binds (ps := ["text"]) fun _ _ _ _ _ _ us hl => match us, hl with | [_], _ => rfl
  have F_law_text := fun_mk (st := s_law_text) l_law_text c_law_text k_law_text
  have b_law_text := F_law_text.binds (ps := ["text"]) fun _ _ _ _ _ _ us hl => match us, hl with | [_], _ => rfl
  have F_number_octets := fun_mk (st := s_number_octets) l_number_octets c_number_octets k_number_octets
  have b_number_octets := F_number_octets.binds (ps := ["number"]) fun _ _ _ _ _ _ us hl => match us, hl with | [_], _ => rfl
  have F_folded := fun_mk (st := s_folded) l_folded c_folded k_folded
  have b_folded := F_folded.binds (ps := ["amount"]) fun _ _ _ _ _ _ us hl => match us, hl with | [_], _ => rfl
  have F_amount_octets := fun_mk (st := s_amount_octets) l_amount_octets c_amount_octets k_amount_octets
  have b_amount_octets := F_amount_octets.binds (ps := ["amount"]) fun _ _ _ _ _ _ us hl => match us, hl with | [_], _ => rfl
  have F_law_amount := fun_mk (st := s_law_amount) l_law_amount c_law_amount k_law_amount
  have b_law_amount := F_law_amount.binds (ps := ["amount"]) fun _ _ _ _ _ _ us hl => match us, hl with | [_], _ => rfl
  have F_check_octets := fun_mk (st := s_check_octets) l_check_octets c_check_octets k_check_octets
  have b_check_octets := F_check_octets.binds (ps := ["check"]) fun _ _ _ _ _ _ us hl => match us, hl with | [_], _ => rfl
  have F_law_check := fun_mk (st := s_law_check) l_law_check c_law_check k_law_check
  have b_law_check := F_law_check.binds (ps := ["check"]) fun _ _ _ _ _ _ us hl => match us, hl with | [_], _ => rfl
  have F_law := fun_mk (st := s_law) l_law c_law k_law
  have b_law := F_law.binds (ps := ["script"]) fun _ _ _ _ _ _ us hl => match us, hl with | [_], _ => rfl
  let A : Ad := { a_law_state := f_law_state, d_law_state := PySem.W.fnOf "_law_state" "_law_state" (defArgs s_law_state) (defBody s_law_state) (defScope s_law_state) .none kV_law_state dc_law_state pm_law_state an_law_state cd_law_state ct_law_state, a_is_sign := f_is_sign, d_is_sign := PySem.W.fnOf "is_sign" "is_sign" (defArgs s_is_sign) (defBody s_is_sign) (defScope s_is_sign) .none kV_is_sign dc_is_sign pm_is_sign an_is_sign cd_is_sign ct_is_sign, a_read_text := f_read_text, d_read_text := PySem.W.fnOf "read_text" "read_text" (defArgs s_read_text) (defBody s_read_text) (defScope s_read_text) .none kV_read_text dc_read_text pm_read_text an_read_text cd_read_text ct_read_text, a_read_check := f_read_check, d_read_check := PySem.W.fnOf "read_check" "read_check" (defArgs s_read_check) (defBody s_read_check) (defScope s_read_check) .none kV_read_check dc_read_check pm_read_check an_read_check cd_read_check ct_read_check, a_read_number := f_read_number, d_read_number := PySem.W.fnOf "read_number" "read_number" (defArgs s_read_number) (defBody s_read_number) (defScope s_read_number) .none kV_read_number dc_read_number pm_read_number an_read_number cd_read_number ct_read_number, a_unfolded := f_unfolded, d_unfolded := PySem.W.fnOf "unfolded" "unfolded" (defArgs s_unfolded) (defBody s_unfolded) (defScope s_unfolded) .none kV_unfolded dc_unfolded pm_unfolded an_unfolded cd_unfolded ct_unfolded, a_read_amount := f_read_amount, d_read_amount := PySem.W.fnOf "read_amount" "read_amount" (defArgs s_read_amount) (defBody s_read_amount) (defScope s_read_amount) .none kV_read_amount dc_read_amount pm_read_amount an_read_amount cd_read_amount ct_read_amount, a_law_refused := f_law_refused, d_law_refused := PySem.W.fnOf "_law_refused" "_law_refused" (defArgs s_law_refused) (defBody s_law_refused) (defScope s_law_refused) .none kV_law_refused dc_law_refused pm_law_refused an_law_refused cd_law_refused ct_law_refused, a_law_cell := f_law_cell, d_law_cell := PySem.W.fnOf "_law_cell" "_law_cell" (defArgs s_law_cell) (defBody s_law_cell) (defScope s_law_cell) .none kV_law_cell dc_law_cell pm_law_cell an_law_cell cd_law_cell ct_law_cell, a_law_digit := f_law_digit, d_law_digit := PySem.W.fnOf "_law_digit" "_law_digit" (defArgs s_law_digit) (defBody s_law_digit) (defScope s_law_digit) .none kV_law_digit dc_law_digit pm_law_digit an_law_digit cd_law_digit ct_law_digit, a_law_octets := f_law_octets, d_law_octets := PySem.W.fnOf "_law_octets" "_law_octets" (defArgs s_law_octets) (defBody s_law_octets) (defScope s_law_octets) .none kV_law_octets dc_law_octets pm_law_octets an_law_octets cd_law_octets ct_law_octets, a_is_plain := f_is_plain, d_is_plain := PySem.W.fnOf "is_plain" "is_plain" (defArgs s_is_plain) (defBody s_is_plain) (defScope s_is_plain) .none kV_is_plain dc_is_plain pm_is_plain an_is_plain cd_is_plain ct_is_plain, a_text_octets := f_text_octets, d_text_octets := PySem.W.fnOf "text_octets" "text_octets" (defArgs s_text_octets) (defBody s_text_octets) (defScope s_text_octets) .none kV_text_octets dc_text_octets pm_text_octets an_text_octets cd_text_octets ct_text_octets, a_law_text := f_law_text, d_law_text := PySem.W.fnOf "_law_text" "_law_text" (defArgs s_law_text) (defBody s_law_text) (defScope s_law_text) .none kV_law_text dc_law_text pm_law_text an_law_text cd_law_text ct_law_text, a_number_octets := f_number_octets, d_number_octets := PySem.W.fnOf "number_octets" "number_octets" (defArgs s_number_octets) (defBody s_number_octets) (defScope s_number_octets) .none kV_number_octets dc_number_octets pm_number_octets an_number_octets cd_number_octets ct_number_octets, a_folded := f_folded, d_folded := PySem.W.fnOf "folded" "folded" (defArgs s_folded) (defBody s_folded) (defScope s_folded) .none kV_folded dc_folded pm_folded an_folded cd_folded ct_folded, a_amount_octets := f_amount_octets, d_amount_octets := PySem.W.fnOf "amount_octets" "amount_octets" (defArgs s_amount_octets) (defBody s_amount_octets) (defScope s_amount_octets) .none kV_amount_octets dc_amount_octets pm_amount_octets an_amount_octets cd_amount_octets ct_amount_octets, a_law_amount := f_law_amount, d_law_amount := PySem.W.fnOf "_law_amount" "_law_amount" (defArgs s_law_amount) (defBody s_law_amount) (defScope s_law_amount) .none kV_law_amount dc_law_amount pm_law_amount an_law_amount cd_law_amount ct_law_amount, a_check_octets := f_check_octets, d_check_octets := PySem.W.fnOf "check_octets" "check_octets" (defArgs s_check_octets) (defBody s_check_octets) (defScope s_check_octets) .none kV_check_octets dc_check_octets pm_check_octets an_check_octets cd_check_octets ct_check_octets, a_law_check := f_law_check, d_law_check := PySem.W.fnOf "_law_check" "_law_check" (defArgs s_law_check) (defBody s_law_check) (defScope s_law_check) .none kV_law_check dc_law_check pm_law_check an_law_check cd_law_check ct_law_check, a_law := fa, d_law := PySem.W.fnOf "law" "law" (defArgs s_law) (defBody s_law) (defScope s_law) .none kV_law dc_law pm_law an_law cd_law ct_law, C_BadNumber := C_BadNumber, C_BadOctets := C_BadOctets }
  have T : Txt K mg A := { F_law_state := F_law_state, b_law_state := b_law_state, g_law_state := PySem.W.mg_of X G a_law_state, F_is_sign := F_is_sign, b_is_sign := b_is_sign, g_is_sign := PySem.W.mg_of X G a_is_sign, F_read_text := F_read_text, b_read_text := b_read_text, g_read_text := PySem.W.mg_of X G a_read_text, F_read_check := F_read_check, b_read_check := b_read_check, g_read_check := PySem.W.mg_of X G a_read_check, F_read_number := F_read_number, b_read_number := b_read_number, g_read_number := PySem.W.mg_of X G a_read_number, F_unfolded := F_unfolded, b_unfolded := b_unfolded, g_unfolded := PySem.W.mg_of X G a_unfolded, F_read_amount := F_read_amount, b_read_amount := b_read_amount, g_read_amount := PySem.W.mg_of X G a_read_amount, F_law_refused := F_law_refused, b_law_refused := b_law_refused, g_law_refused := PySem.W.mg_of X G a_law_refused, F_law_cell := F_law_cell, b_law_cell := b_law_cell, g_law_cell := PySem.W.mg_of X G a_law_cell, F_law_digit := F_law_digit, b_law_digit := b_law_digit, g_law_digit := PySem.W.mg_of X G a_law_digit, F_law_octets := F_law_octets, b_law_octets := b_law_octets, g_law_octets := PySem.W.mg_of X G a_law_octets, F_is_plain := F_is_plain, b_is_plain := b_is_plain, g_is_plain := PySem.W.mg_of X G a_is_plain, F_text_octets := F_text_octets, b_text_octets := b_text_octets, g_text_octets := PySem.W.mg_of X G a_text_octets, F_law_text := F_law_text, b_law_text := b_law_text, g_law_text := PySem.W.mg_of X G a_law_text, F_number_octets := F_number_octets, b_number_octets := b_number_octets, g_number_octets := PySem.W.mg_of X G a_number_octets, F_folded := F_folded, b_folded := b_folded, g_folded := PySem.W.mg_of X G a_folded, F_amount_octets := F_amount_octets, b_amount_octets := b_amount_octets, g_amount_octets := PySem.W.mg_of X G a_amount_octets, F_law_amount := F_law_amount, b_law_amount := b_law_amount, g_law_amount := PySem.W.mg_of X G a_law_amount, F_check_octets := F_check_octets, b_check_octets := b_check_octets, g_check_octets := PySem.W.mg_of X G a_check_octets, F_law_check := F_law_check, b_law_check := b_law_check, g_law_check := PySem.W.mg_of X G a_law_check, F_law := F_law, b_law := b_law, g_law := PySem.W.mg_of X G a_law, g_BadNumber := PySem.W.mg_of X G aC_BadNumber, x_BadNumber := ⟨xi_BadNumber, xb_BadNumber, xt_BadNumber, xk_BadNumber⟩, g_BadOctets := PySem.W.mg_of X G aC_BadOctets, x_BadOctets := ⟨xi_BadOctets, xb_BadOctets, xt_BadOctets, xk_BadOctets⟩, e_BadNumber_BadNumber := exm_is xb_BadNumber xc_BadNumber xt_BadNumber xs_BadNumber_BadNumber, e_BadNumber_BadOctets := exm_is xb_BadOctets xc_BadOctets xt_BadOctets xs_BadNumber_BadOctets, e_BadOctets_BadNumber := exm_is xb_BadNumber xc_BadNumber xt_BadNumber xs_BadOctets_BadNumber, e_BadOctets_BadOctets := exm_is xb_BadOctets xc_BadOctets xt_BadOctets xs_BadOctets_BadOctets, z_all := PySem.W.mg_none_of X G z_all, z_int := PySem.W.mg_none_of X G z_int, z_len := PySem.W.mg_none_of X G z_len, z_min := PySem.W.mg_none_of X G z_min, z_ord := PySem.W.mg_none_of X G z_ord, z_range := PySem.W.mg_none_of X G z_range, k_FIRST_SIGN := ⟨_, PySem.W.mg_of X G kk_FIRST_SIGN⟩, k_GREATEST := ⟨_, PySem.W.mg_of X G kk_GREATEST⟩, k_LAST_SIGN := ⟨_, PySem.W.mg_of X G kk_LAST_SIGN⟩, k_NO_SIGN := ⟨_, PySem.W.mg_of X G kk_NO_SIGN⟩, k_SIGNS := ⟨_, PySem.W.mg_of X G kk_SIGNS⟩, k_TEXT_LIMIT := ⟨_, PySem.W.mg_of X G kk_TEXT_LIMIT⟩ }
  exact ⟨A, A.d_law, fun s v => .of_eq rfl, fun base _ _ => ok_law T⟩
theorem walk {l : PySem.W.OpenLaw} {q : Program} {loose : List Str} {XP : (Str → Option Value) → Heap → Prop} {YP : World → Heap → Prop} {d : DefRec} {K : Params → PySem.W.Frag} (hn : l.most = some 63) (hdf : d.params.defaults = [])
    (hY : ∀ (w : World) (h : Heap), YP w h → (K w.params).In h)
    (F : ∀ (w : World) (mg : Str → Option Value) (fa : Addr) (h : Heap), (K w.params).In h → h.Ns mainGlobals mg → mg d.name = some (.ref fa) →
      ∃ (A : Ad) (fd : FuncData), (∀ (s : Shared) (u : Value), BindsTo s fd ⟨[u], []⟩ [("script", u)]) ∧ ∀ base : Heap, (K w.params).In base → base.Ns mainGlobals mg → FnOk l.prog w (K w.params) mg base CX0 5 fa fd ["script"] (spD (K w.params) (R_law A))) :
    PySem.W.WalkO q loose XP YP l.row.toRowW d [] (fun f vs => PySem.call f vs) :=
  L2.walk_of (n := 63) (k := 5) (x := "script") (CX := fun _ => CX0) (sp := fun w => spLawD (K w.params)) hn (by decide) hdf ⟨rfl, by decide, by decide⟩ hY (fun w mg fa h KX G hm => by
    obtain ⟨A, fd, b, G⟩ := F w mg fa h KX G hm
    exact ⟨fd, b, fun base h1 h2 => (G base h1 h2).imp (spLaw_imp (R_law A) (law_go A))⟩) (fun _ _ a ns hl _ hS => ⟨a, ns, rfl, hS, hl, fun _ => rfl⟩) fun _ _ _ _ _ z => z
end Law

open PySem PySem.W PyProof.Rows in
set_option maxRecDepth 100000 in
set_option maxHeartbeats 0 in
theorem PySem.Challenge.cw_copperhouse_k11_texts_and_amounts_as_oct_holds : PySem.Challenge.rw_copperhouse_k11_texts_and_amounts_as_oct.Holds := by
  w_on; o_law; k_head; (case hw => w_witness2)
  k_fill
  refine Law.walk (l := PySem.Challenge.rw_copperhouse_k11_texts_and_amounts_as_oct) rfl rfl (fun w h Y => PySem.W.kIn_of Y) ?F
  case F =>
    intro w mg fa h KX G hmg
    refine' Law.all_mk KX G hmg ?aC_BadNumber ?xi_BadNumber ?xb_BadNumber ?xt_BadNumber ?xk_BadNumber ?xc_BadNumber ?aC_BadOctets ?xi_BadOctets ?xb_BadOctets ?xt_BadOctets ?xk_BadOctets ?xc_BadOctets ?xs_BadNumber_BadNumber ?xs_BadNumber_BadOctets ?xs_BadOctets_BadNumber ?xs_BadOctets_BadOctets ?z_all ?z_int ?z_len ?z_min ?z_ord ?z_range ?kk_FIRST_SIGN ?kk_GREATEST ?kk_LAST_SIGN ?kk_NO_SIGN ?kk_SIGNS ?kk_TEXT_LIMIT ?a_law_state ?l_law_state ?c_law_state ?k_law_state ?a_is_sign ?l_is_sign ?c_is_sign ?k_is_sign ?a_read_text ?l_read_text ?c_read_text ?k_read_text ?a_read_check ?l_read_check ?c_read_check ?k_read_check ?a_read_number ?l_read_number ?c_read_number ?k_read_number ?a_unfolded ?l_unfolded ?c_unfolded ?k_unfolded ?a_read_amount ?l_read_amount ?c_read_amount ?k_read_amount ?a_law_refused ?l_law_refused ?c_law_refused ?k_law_refused ?a_law_cell ?l_law_cell ?c_law_cell ?k_law_cell ?a_law_digit ?l_law_digit ?c_law_digit ?k_law_digit ?a_law_octets ?l_law_octets ?c_law_octets ?k_law_octets ?a_is_plain ?l_is_plain ?c_is_plain ?k_is_plain ?a_text_octets ?l_text_octets ?c_text_octets ?k_text_octets ?a_law_text ?l_law_text ?c_law_text ?k_law_text ?a_number_octets ?l_number_octets ?c_number_octets ?k_number_octets ?a_folded ?l_folded ?c_folded ?k_folded ?a_amount_octets ?l_amount_octets ?c_amount_octets ?k_amount_octets ?a_law_amount ?l_law_amount ?c_law_amount ?k_law_amount ?a_check_octets ?l_check_octets ?c_check_octets ?k_check_octets ?a_law_check ?l_law_check ?c_law_check ?k_law_check ?a_law ?l_law ?c_law ?k_law
    (case aC_BadNumber => k_is)
    (case xi_BadNumber => k_exc)
    (case xb_BadNumber => k_is)
    (case xt_BadNumber => k_is)
    (case xk_BadNumber => k_is)
    (case xc_BadNumber => k_is)
    (case aC_BadOctets => k_is)
    (case xi_BadOctets => k_exc)
    (case xb_BadOctets => k_is)
    (case xt_BadOctets => k_is)
    (case xk_BadOctets => k_is)
    (case xc_BadOctets => k_is)
    (case xs_BadNumber_BadNumber => k_is)
    (case xs_BadNumber_BadOctets => k_is)
    (case xs_BadOctets_BadNumber => k_is)
    (case xs_BadOctets_BadOctets => k_is)
    (case z_all => k_is)
    (case z_int => k_is)
    (case z_len => k_is)
    (case z_min => k_is)
    (case z_ord => k_is)
    (case z_range => k_is)
    (case kk_FIRST_SIGN => k_is)
    (case kk_GREATEST => k_is)
    (case kk_LAST_SIGN => k_is)
    (case kk_NO_SIGN => k_is)
    (case kk_SIGNS => k_is)
    (case kk_TEXT_LIMIT => k_is)
    (case a_law_state => k_is)
    (case l_law_state => k_is)
    (case c_law_state => k_is)
    (case k_law_state => k_is)
    (case a_is_sign => k_is)
    (case l_is_sign => k_is)
    (case c_is_sign => k_is)
    (case k_is_sign => k_is)
    (case a_read_text => k_is)
    (case l_read_text => k_is)
    (case c_read_text => k_is)
    (case k_read_text => k_is)
    (case a_read_check => k_is)
    (case l_read_check => k_is)
    (case c_read_check => k_is)
    (case k_read_check => k_is)
    (case a_read_number => k_is)
    (case l_read_number => k_is)
    (case c_read_number => k_is)
    (case k_read_number => k_is)
    (case a_unfolded => k_is)
    (case l_unfolded => k_is)
    (case c_unfolded => k_is)
    (case k_unfolded => k_is)
    (case a_read_amount => k_is)
    (case l_read_amount => k_is)
    (case c_read_amount => k_is)
    (case k_read_amount => k_is)
    (case a_law_refused => k_is)
    (case l_law_refused => k_is)
    (case c_law_refused => k_is)
    (case k_law_refused => k_is)
    (case a_law_cell => k_is)
    (case l_law_cell => k_is)
    (case c_law_cell => k_is)
    (case k_law_cell => k_is)
    (case a_law_digit => k_is)
    (case l_law_digit => k_is)
    (case c_law_digit => k_is)
    (case k_law_digit => k_is)
    (case a_law_octets => k_is)
    (case l_law_octets => k_is)
    (case c_law_octets => k_is)
    (case k_law_octets => k_is)
    (case a_is_plain => k_is)
    (case l_is_plain => k_is)
    (case c_is_plain => k_is)
    (case k_is_plain => k_is)
    (case a_text_octets => k_is)
    (case l_text_octets => k_is)
    (case c_text_octets => k_is)
    (case k_text_octets => k_is)
    (case a_law_text => k_is)
    (case l_law_text => k_is)
    (case c_law_text => k_is)
    (case k_law_text => k_is)
    (case a_number_octets => k_is)
    (case l_number_octets => k_is)
    (case c_number_octets => k_is)
    (case k_number_octets => k_is)
    (case a_folded => k_is)
    (case l_folded => k_is)
    (case c_folded => k_is)
    (case k_folded => k_is)
    (case a_amount_octets => k_is)
    (case l_amount_octets => k_is)
    (case c_amount_octets => k_is)
    (case k_amount_octets => k_is)
    (case a_law_amount => k_is)
    (case l_law_amount => k_is)
    (case c_law_amount => k_is)
    (case k_law_amount => k_is)
    (case a_check_octets => k_is)
    (case l_check_octets => k_is)
    (case c_check_octets => k_is)
    (case k_check_octets => k_is)
    (case a_law_check => k_is)
    (case l_law_check => k_is)
    (case c_law_check => k_is)
    (case k_law_check => k_is)
    (case a_law => k_is)
    (case l_law => k_is)
    (case c_law => k_is)
    (case k_law => k_is)
