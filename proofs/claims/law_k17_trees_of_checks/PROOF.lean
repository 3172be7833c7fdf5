import PyProof.Rows.All
import Wide.All
import OpenK.AllK
import Wide.FinOn
import HandS.ForMost
import HandS.Exc
import HandS.TryOnly
import HandS.ExcOwn
import HandS.WordsExc
import HandS.CallSlots
import HandS.Wide
import HandS.SortInts
import PyProof.Rows.SeqMore
import KE.SortData
import PySem.Challenge.RW_copperhouse_k17_trees_of_checks

set_option Elab.async false
set_option linter.all false
set_option maxRecDepth 100000
set_option maxHeartbeats 4000000
/-! A layer of plain data over the hand layer: values as trees (D), what may still change as cells, readings that speak of these alone. -/
namespace DD
open PySem L2

/-! ### data -/
inductive D where
  | non | bl (b : Bool) | int (i : Int) | str (x : Str)
  | tup (xs : List D) | lst (xs : List D) | ins (C : Addr) (fs : List (String × D)) | ptr (a : Addr)
  | dK (kvs : List (L2.Key × D)) | dT (kvs : List (List L2.Key × D))
instance : Inhabited D := ⟨.non⟩
inductive Cell where
  | lst (xs : List D) | ins (C : Addr) (fs : List (String × D)) | dK (kvs : List (L2.Key × D)) | dT (kvs : List (List L2.Key × D))
abbrev Cells := Addr → Option Cell
abbrev DEnv := List (Option D)
def cput (C : Cells) (a : Addr) (c : Cell) : Cells := fun b => if b = a then some c else C b
theorem cput_same {C : Cells} {a : Addr} {c : Cell} : cput C a c a = some c := by unfold cput; rw [if_pos rfl]
theorem cput_ne {C : Cells} {a b : Addr} {c : Cell} (h : b ≠ a) : cput C a c b = C b := by unfold cput; rw [if_neg h]
theorem cput_cput {C : Cells} {a : Addr} {c d : Cell} : cput (cput C a c) a d = cput C a d := by
  funext b; unfold cput; split <;> rfl
/-- nothing more is claimed -/
def Sub (C C' : Cells) : Prop := ∀ a c, C a = some c → C' a = some c
theorem Sub.refl (C : Cells) : Sub C C := fun _ _ h => h
theorem Sub.trans {A B C : Cells} (h : Sub A B) (g : Sub B C) : Sub A C := fun a c e => g a c (h a c e)
theorem Sub.new {C : Cells} {a : Addr} {c : Cell} (h : C a = none) : Sub C (cput C a c) := fun b d e => by
  by_cases q : b = a
  · rw [q, h] at e; cases e
  · rw [cput_ne q]; exact e
theorem Sub.put {C C' : Cells} {a : Addr} {c : Cell} (s : Sub C C') (h : C a = none) : Sub C (cput C' a c) := fun b d e => by
  by_cases q : b = a
  · rw [q, h] at e; cases e
  · rw [cput_ne q]; exact s b d e
theorem cell_ne {C : Cells} {a b : Addr} {c : Cell} (h : C a = some c) (g : C b = none) : a ≠ b := fun e => by
  rw [e, g] at h; cases h
theorem cell_ne' {C : Cells} {a b : Addr} {c : Cell} (h : C a = some c) (g : C b = none) : b ≠ a := fun e => cell_ne h g e.symm

/-! ### heaps: what is known stays -/
def Ex (H H' : Hp) : Prop := ∀ a o, H a = some o → H' a = some o
theorem Ex.refl (H : Hp) : Ex H H := fun _ _ h => h
theorem Ex.trans {H H1 H2 : Hp} (a : Ex H H1) (b : Ex H1 H2) : Ex H H2 := fun x o h => b x o (a x o h)
theorem Ex.new {H : Hp} {p : Addr} {o : HO} (h : H p = none) : Ex H (upd H p o) := fun a u e => by
  rw [upd_ne (ne_of_none e h)]
  exact e
theorem Ex.mut {H H' : Hp} {p : Addr} {o : HO} (e : Ex H H') (h : H p = none) : Ex H (upd H' p o) := fun a u ha => by
  rw [upd_ne (ne_of_none ha h)]
  exact e a u ha
theorem Ex.free {H H' : Hp} {p : Addr} (e : Ex H H') (h : H' p = none) : H p = none := by
  cases h1 : H p with
  | none => rfl
  | some o =>
    rw [e p o h1] at h
    cases h
theorem ex_rd {H H' : Hp} {a : Addr} {u : HO} (e : Ex H H') (h : Rd H a u) : Rd H' a u := by
  rcases h with h | ⟨o, h⟩
  · exact Or.inl (e a _ h)
  · exact Or.inr ⟨o, e a _ h⟩
theorem ex_l {K : PySem.W.Frag} {H H' : Hp} {a : Addr} {xs : List V} (e : Ex H H') (h : SqL K H a xs) : SqL K H' a xs := by
  rcases h with h | h
  · exact Or.inl (ex_rd e h)
  · exact Or.inr h
theorem ex_t {K : PySem.W.Frag} {H H' : Hp} {a : Addr} {xs : List V} (e : Ex H H') (h : SqT K H a xs) : SqT K H' a xs := by
  rcases h with h | h
  · exact Or.inl (ex_rd e h)
  · exact Or.inr h

/-! ### what a value stands for -/
mutual
inductive Rep (K : PySem.W.Frag) (F : Hp) : V → D → Prop
  | non : Rep K F .non .non
  | bl (b : Bool) : Rep K F (.bl b) (.bl b)
  | int (i : Int) : Rep K F (.int i) (.int i)
  | str (x : Str) : Rep K F (.str x) (.str x)
  | tup {a : Addr} {xs : List V} {ds : List D} : SqT K F a xs → RepL K F xs ds → Rep K F (.ref a) (.tup ds)
  | lst {a : Addr} {xs : List V} {ds : List D} : SqL K F a xs → RepL K F xs ds → Rep K F (.ref a) (.lst ds)
  | ins {a C dx : Addr} {gs : List (Str × V)} {fs : List (String × D)} : F a = some (.ins C dx gs) → RepF K F gs fs → Rep K F (.ref a) (.ins C fs)
  | ptr (a : Addr) : Rep K F (.ref a) (.ptr a)
  | dK {a : Addr} {vs : List (L2.Key × V)} {kvs : List (L2.Key × D)} : F a = some (.dK vs) → RepK K F vs kvs → Rep K F (.ref a) (.dK kvs)
  | dT {a : Addr} {vs : List (List L2.Key × V)} {kvs : List (List L2.Key × D)} : F a = some (.dT vs) → RepT K F vs kvs → Rep K F (.ref a) (.dT kvs)
inductive RepL (K : PySem.W.Frag) (F : Hp) : List V → List D → Prop
  | nil : RepL K F [] []
  | cons {v : V} {vs : List V} {d : D} {ds : List D} : Rep K F v d → RepL K F vs ds → RepL K F (v :: vs) (d :: ds)
inductive RepF (K : PySem.W.Frag) (F : Hp) : List (Str × V) → List (String × D) → Prop
  | nil : RepF K F [] []
  | cons {f : String} {v : V} {vs : List (Str × V)} {d : D} {ds : List (String × D)} : Rep K F v d → RepF K F vs ds → RepF K F ((Str.ofString f, v) :: vs) ((f, d) :: ds)
inductive RepK (K : PySem.W.Frag) (F : Hp) : List (L2.Key × V) → List (L2.Key × D) → Prop
  | nil : RepK K F [] []
  | cons {k : L2.Key} {v : V} {vs : List (L2.Key × V)} {d : D} {ds : List (L2.Key × D)} : Rep K F v d → RepK K F vs ds → RepK K F ((k, v) :: vs) ((k, d) :: ds)
inductive RepT (K : PySem.W.Frag) (F : Hp) : List (List L2.Key × V) → List (List L2.Key × D) → Prop
  | nil : RepT K F [] []
  | cons {k : List L2.Key} {v : V} {vs : List (List L2.Key × V)} {d : D} {ds : List (List L2.Key × D)} : Rep K F v d → RepT K F vs ds → RepT K F ((k, v) :: vs) ((k, d) :: ds)
end
mutual
theorem Rep.mono {K : PySem.W.Frag} {F F' : Hp} (e : Ex F F') : ∀ {v : V} {d : D}, Rep K F v d → Rep K F' v d
  | _, _, .non => .non
  | _, _, .bl b => .bl b
  | _, _, .int i => .int i
  | _, _, .str x => .str x
  | _, _, .tup h r => .tup (ex_t e h) (RepL.mono e r)
  | _, _, .lst h r => .lst (ex_l e h) (RepL.mono e r)
  | _, _, .ins h r => .ins (e _ _ h) (RepF.mono e r)
  | _, _, .ptr a => .ptr a
  | _, _, .dK h r => .dK (e _ _ h) (RepK.mono e r)
  | _, _, .dT h r => .dT (e _ _ h) (RepT.mono e r)
theorem RepL.mono {K : PySem.W.Frag} {F F' : Hp} (e : Ex F F') : ∀ {v : List V} {d : List D}, RepL K F v d → RepL K F' v d
  | _, _, .nil => .nil
  | _, _, .cons h r => .cons (Rep.mono e h) (RepL.mono e r)
theorem RepF.mono {K : PySem.W.Frag} {F F' : Hp} (e : Ex F F') : ∀ {v : List (Str × V)} {d : List (String × D)}, RepF K F v d → RepF K F' v d
  | _, _, .nil => .nil
  | _, _, .cons h r => .cons (Rep.mono e h) (RepF.mono e r)
theorem RepK.mono {K : PySem.W.Frag} {F F' : Hp} (e : Ex F F') : ∀ {v : List (L2.Key × V)} {d : List (L2.Key × D)}, RepK K F v d → RepK K F' v d
  | _, _, .nil => .nil
  | _, _, .cons h r => .cons (Rep.mono e h) (RepK.mono e r)
theorem RepT.mono {K : PySem.W.Frag} {F F' : Hp} (e : Ex F F') : ∀ {v : List (List L2.Key × V)} {d : List (List L2.Key × D)}, RepT K F v d → RepT K F' v d
  | _, _, .nil => .nil
  | _, _, .cons h r => .cons (Rep.mono e h) (RepT.mono e r)
end
section
variable {K : PySem.W.Frag} {F : Hp}
theorem RepL.length : ∀ {xs : List V} {ds : List D}, RepL K F xs ds → xs.length = ds.length
  | _, _, .nil => rfl
  | _, _, .cons _ r => congrArg (· + 1) r.length
theorem RepL.get : ∀ {xs : List V} {ds : List D} {i : Nat} {d : D}, RepL K F xs ds → ds[i]? = some d → ∃ v, xs[i]? = some v ∧ Rep K F v d
  | _, _, _, _, .nil, e => by simp at e
  | _, _, 0, _, .cons h _, e => by simp at e; subst e; exact ⟨_, rfl, h⟩
  | _, _, i + 1, _, .cons _ r, e => by
    obtain ⟨v, h1, h2⟩ := RepL.get (i := i) r (by simpa using e)
    exact ⟨v, by simpa using h1, h2⟩
theorem RepL.getV : ∀ {xs : List V} {ds : List D} {i : Nat} {v : V}, RepL K F xs ds → xs[i]? = some v → ∃ d, ds[i]? = some d ∧ Rep K F v d
  | _, _, _, _, .nil, e => by simp at e
  | _, _, 0, _, .cons h _, e => by simp at e; subst e; exact ⟨_, rfl, h⟩
  | _, _, i + 1, _, .cons _ r, e => by
    obtain ⟨d, h1, h2⟩ := RepL.getV (i := i) r (by simpa using e)
    exact ⟨d, by simpa using h1, h2⟩
theorem RepL.append : ∀ {xs ys : List V} {ds es : List D}, RepL K F xs ds → RepL K F ys es → RepL K F (xs ++ ys) (ds ++ es)
  | _, _, _, _, .nil, s => s
  | _, _, _, _, .cons h r, s => .cons h (RepL.append r s)
theorem RepL.set {v : V} {d : D} (h : Rep K F v d) : ∀ {xs : List V} {ds : List D} (i : Nat), RepL K F xs ds → RepL K F (xs.set i v) (ds.set i d)
  | _, _, _, .nil => .nil
  | _, _, 0, .cons _ r => .cons h r
  | _, _, i + 1, .cons q r => .cons q (RepL.set h i r)
theorem RepL.drop : ∀ {xs : List V} {ds : List D} (n : Nat), RepL K F xs ds → RepL K F (xs.drop n) (ds.drop n)
  | _, _, 0, r => r
  | _, _, _ + 1, .nil => .nil
  | _, _, n + 1, .cons _ r => RepL.drop n r
theorem RepL.take : ∀ {xs : List V} {ds : List D} (n : Nat), RepL K F xs ds → RepL K F (xs.take n) (ds.take n)
  | _, _, 0, _ => .nil
  | _, _, _ + 1, .nil => .nil
  | _, _, n + 1, .cons h r => .cons h (RepL.take n r)
theorem RepL.dropLast {xs : List V} {ds : List D} (h : RepL K F xs ds) : RepL K F xs.dropLast ds.dropLast := by
  rw [List.dropLast_eq_take, List.dropLast_eq_take, h.length]
  exact h.take _
theorem RepL.reverse : ∀ {xs : List V} {ds : List D}, RepL K F xs ds → RepL K F xs.reverse ds.reverse
  | _, _, .nil => .nil
  | _, _, .cons h r => by
    rw [List.reverse_cons, List.reverse_cons]
    exact r.reverse.append (.cons h .nil)
theorem RepL.ints : ∀ ns : List Int, RepL K F (ns.map V.int) (ns.map D.int)
  | [] => .nil
  | n :: r => .cons (.int n) (RepL.ints r)
theorem RepL.of_ints : ∀ {ns : List Int} {xs : List V}, RepL K F xs (ns.map D.int) → xs = ns.map V.int
  | [], _, .nil => rfl
  | n :: r, _, .cons h t => by
    cases h
    rw [RepL.of_ints t] <;> rfl
theorem RepL.of_strs : ∀ {ns : List Str} {xs : List V}, RepL K F xs (ns.map D.str) → xs = ns.map V.str
  | [], _, .nil => rfl
  | n :: r, _, .cons h t => by
    cases h
    rw [RepL.of_strs t] <;> rfl
theorem RepL.rep {v : V} {d : D} (h : Rep K F v d) : ∀ n, RepL K F (List.replicate n v) (List.replicate n d)
  | 0 => .nil
  | n + 1 => .cons h (RepL.rep h n)
end
theorem ofString_inj {a b : String} (h : Str.ofString a = Str.ofString b) : a = b := by
  rw [Str.ofString_eq_toList, Str.ofString_eq_toList] at h
  have h2 : a.toList.map Char.toNat = b.toList.map Char.toNat := by
    have := congrArg Str.cps h
    simpa using congrArg Array.toList this
  have inj : ∀ l m : List Char, l.map Char.toNat = m.map Char.toNat → l = m := by
    intro l
    induction l with
    | nil => intro m e; cases m with
      | nil => rfl
      | cons _ _ => simp at e
    | cons c r ih => intro m e; cases m with
      | nil => simp at e
      | cons d s =>
        simp only [List.map_cons, List.cons.injEq] at e
        have q : c = d := by
          have := e.1
          exact Char.ext (UInt32.toNat_inj.mp this)
        rw [q, ih s e.2]
  have h3 := inj _ _ h2
  have := congrArg String.ofList h3
  simpa using this
theorem ofString_eq_iff {a b : String} : (Str.ofString a = Str.ofString b) = (a = b) := propext ⟨ofString_inj, fun h => by rw [h]⟩
section
variable {K : PySem.W.Frag} {F : Hp}
theorem RepF.length : ∀ {xs : List (Str × V)} {ds : List (String × D)}, RepF K F xs ds → xs.length = ds.length
  | _, _, .nil => rfl
  | _, _, .cons _ r => congrArg (· + 1) r.length
theorem RepF.lookup {f : String} : ∀ {xs : List (Str × V)} {ds : List (String × D)} {d : D}, RepF K F xs ds → ds.lookup f = some d → ∃ v, xs.lookup (Str.ofString f) = some v ∧ Rep K F v d
  | _, _, _, .nil, e => by simp at e
  | _, _, d, .cons (f := g) h r, e => by
    by_cases q : f = g
    · subst q
      simp only [List.lookup, beq_self_eq_true] at e ⊢
      cases e
      exact ⟨_, rfl, h⟩
    · have b1 : (f == g) = false := beq_eq_false_iff_ne.mpr q
      have b2 : (Str.ofString f == Str.ofString g) = false := beq_eq_false_iff_ne.mpr fun e => q (ofString_inj e)
      simp only [List.lookup, b1, b2] at e ⊢
      exact RepF.lookup r e
theorem RepF.lookup_none {f : String} : ∀ {xs : List (Str × V)} {ds : List (String × D)}, RepF K F xs ds → ds.lookup f = none → xs.lookup (Str.ofString f) = none
  | _, _, .nil, _ => rfl
  | _, _, .cons (f := g) h r, e => by
    by_cases q : f = g
    · subst q
      simp only [List.lookup, beq_self_eq_true] at e
      cases e
    · have b1 : (f == g) = false := beq_eq_false_iff_ne.mpr q
      have b2 : (Str.ofString f == Str.ofString g) = false := beq_eq_false_iff_ne.mpr fun e => q (ofString_inj e)
      simp only [List.lookup, b1, b2] at e ⊢
      exact RepF.lookup_none r e
end
/-- an attribute stored -/
def dput (f : String) (v : D) : List (String × D) → List (String × D)
  | [] => [(f, v)]
  | (g, x) :: r => if g = f then (g, v) :: r else (g, x) :: dput f v r
theorem RepF.put {K : PySem.W.Frag} {F : Hp} {f : String} {v : V} {d : D} (h : Rep K F v d) : ∀ {xs : List (Str × V)} {ds : List (String × D)}, RepF K F xs ds → RepF K F (putF (Str.ofString f) v xs) (dput f d ds)
  | _, _, .nil => .cons h .nil
  | _, _, .cons (f := g) q r => by
    by_cases e : g = f
    · subst e
      simp only [putF, dput, if_true]
      exact .cons h r
    · have e2 : ¬ Str.ofString g = Str.ofString f := fun z => e (ofString_inj z)
      simp only [putF, dput, if_neg e, if_neg e2]
      exact .cons q (RepF.put h r)

/-! ### the state: frozen heap F, cells C, heap H; slots -/
def RepC (K : PySem.W.Frag) (F H : Hp) (a : Addr) : Cell → Prop
  | .lst ds => ∃ xs, H a = some (.lst xs) ∧ RepL K F xs ds
  | .ins C fs => ∃ dx gs, H a = some (.ins C dx gs) ∧ RepF K F gs fs
  | .dK kvs => ∃ vs, H a = some (.dK vs) ∧ RepK K F vs kvs
  | .dT kvs => ∃ vs, H a = some (.dT vs) ∧ RepT K F vs kvs
structure Hs (K : PySem.W.Frag) (F : Hp) (C : Cells) (H : Hp) : Prop where
  ex : Ex F H
  cell : ∀ a c, C a = some c → F a = none ∧ RepC K F H a c
def EnvR (K : PySem.W.Frag) (F : Hp) (σ : L2.St) (ρ : DEnv) : Prop := σ.length = ρ.length ∧ ∀ (i : Nat) (d : D), ρ[i]? = some (some d) → ∃ v, σ[i]? = some (some v) ∧ Rep K F v d
section
variable {K : PySem.W.Frag} {F F' H H' : Hp} {C C' : Cells} {σ : L2.St} {ρ : DEnv} {a : Addr} {c : Cell}
theorem RepC.ex (e : Ex F F') {H : Hp} : ∀ {c : Cell}, RepC K F H a c → RepC K F' H a c
  | .lst _, ⟨xs, h, r⟩ => ⟨xs, h, r.mono e⟩
  | .ins _ _, ⟨dx, gs, h, r⟩ => ⟨dx, gs, h, r.mono e⟩
  | .dK _, ⟨vs, h, r⟩ => ⟨vs, h, r.mono e⟩
  | .dT _, ⟨vs, h, r⟩ => ⟨vs, h, r.mono e⟩
theorem RepC.at (h : H' a = H a) : ∀ {c : Cell}, RepC K F H a c → RepC K F H' a c
  | .lst _, ⟨xs, q, r⟩ => ⟨xs, h.trans q, r⟩
  | .ins _ _, ⟨dx, gs, q, r⟩ => ⟨dx, gs, h.trans q, r⟩
  | .dK _, ⟨vs, q, r⟩ => ⟨vs, h.trans q, r⟩
  | .dT _, ⟨vs, q, r⟩ => ⟨vs, h.trans q, r⟩
theorem RepC.some : ∀ {c : Cell}, RepC K F H a c → ∃ o, H a = Option.some o
  | .lst _, ⟨_, h, _⟩ => ⟨_, h⟩
  | .ins _ _, ⟨_, _, h, _⟩ => ⟨_, h⟩
  | .dK _, ⟨_, h, _⟩ => ⟨_, h⟩
  | .dT _, ⟨_, h, _⟩ => ⟨_, h⟩
theorem Hs.sub (h : Hs K F C H) (s : Sub C' C) : Hs K F C' H := ⟨h.ex, fun a c e => h.cell a c (s a c e)⟩
theorem Hs.fresh (h : Hs K F C H) {p : Addr} (hp : H p = none) : F p = none ∧ C p = none := by
  refine ⟨h.ex.free hp, ?_⟩
  cases e : C p with
  | none => rfl
  | some c =>
    obtain ⟨_, r⟩ := h.cell p c e
    obtain ⟨o, q⟩ := r.some
    rw [hp] at q; cases q
/-- a new frozen object -/
theorem Hs.lay (h : Hs K F C H) {p : Addr} {o : HO} (hp : H p = none) : Ex F (upd F p o) ∧ Hs K (upd F p o) C (upd H p o) := by
  obtain ⟨f0, c0⟩ := h.fresh hp
  refine ⟨Ex.new f0, fun a u e => ?_, fun a c e => ?_⟩
  · by_cases q : a = p
    · subst q; rw [upd_same] at e ⊢; exact e
    · rw [upd_ne q] at e ⊢; exact h.ex a u e
  · have q : a ≠ p := cell_ne e c0
    obtain ⟨f1, r⟩ := h.cell a c e
    exact ⟨by rw [upd_ne q]; exact f1, (r.ex (Ex.new f0)).at (upd_ne q)⟩
/-- a new cell, or a cell that changes -/
theorem Hs.put (h : Hs K F C H) {p : Addr} {o : HO} {c : Cell} (hp : F p = none) (hc : RepC K F (upd H p o) p c) : Hs K F (cput C p c) (upd H p o) := by
  refine ⟨h.ex.mut hp, fun a d e => ?_⟩
  by_cases q : a = p
  · subst q
    rw [cput_same] at e; cases e
    exact ⟨hp, hc⟩
  · rw [cput_ne q] at e
    obtain ⟨f1, r⟩ := h.cell a d e
    exact ⟨f1, r.at (upd_ne q)⟩
/-- a cell that is not to change any more -/
theorem Hs.freeze (h : Hs K F C H) {p : Addr} {c : Cell} (e : C p = some c) (hs : Sub C' C) (hn : C' p = none) : ∃ o, H p = some o ∧ Ex F (upd F p o) ∧ Hs K (upd F p o) C' H ∧ upd F p o p = some o ∧ RepC K F H p c := by
  obtain ⟨f0, r⟩ := h.cell p c e
  obtain ⟨o, ho⟩ := r.some
  refine ⟨o, ho, Ex.new f0, ⟨fun a u q => ?_, fun a d q => ?_⟩, upd_same, r⟩
  · by_cases z : a = p
    · subst z; rw [upd_same] at q; cases q; exact ho
    · rw [upd_ne z] at q; exact h.ex a u q
  · have z : a ≠ p := cell_ne q hn
    obtain ⟨f1, r1⟩ := h.cell a d (hs a d q)
    exact ⟨by rw [upd_ne z]; exact f1, r1.ex (Ex.new f0)⟩
theorem EnvR.mono (e : Ex F F') (h : EnvR K F σ ρ) : EnvR K F' σ ρ := ⟨h.1, fun i d q => by
  obtain ⟨v, h1, h2⟩ := h.2 i d q
  exact ⟨v, h1, h2.mono e⟩⟩
theorem EnvR.set {v : V} {d : D} {i : Nat} (h : EnvR K F σ ρ) (r : Rep K F v d) : EnvR K F (σ.set i (some v)) (ρ.set i (some d)) := by
  refine ⟨by rw [List.length_set, List.length_set]; exact h.1, fun j u q => ?_⟩
  by_cases e : i = j
  · subst e
    have hl : i < ρ.length := by
      rcases Nat.lt_or_ge i ρ.length with z | z
      · exact z
      · rw [List.getElem?_eq_none (by rw [List.length_set]; exact z)] at q; cases q
    rw [List.getElem?_set_self hl] at q
    cases q
    exact ⟨v, by rw [List.getElem?_set_self (by rw [h.1]; exact hl)], r⟩
  · rw [List.getElem?_set_ne e] at q
    obtain ⟨w, h1, h2⟩ := h.2 j u q
    exact ⟨w, by rw [List.getElem?_set_ne e]; exact h1, h2⟩
/-- slots may be forgotten -/
def Fgt (ρ ρ' : DEnv) : Prop := ρ.length = ρ'.length ∧ ∀ (i : Nat) (d : D), ρ'[i]? = some (some d) → ρ[i]? = some (some d)
theorem EnvR.fgt {ρ' : DEnv} (h : EnvR K F σ ρ) (f : Fgt ρ ρ') : EnvR K F σ ρ' := ⟨h.1.trans f.1, fun i d q => h.2 i d (f.2 i d q)⟩
end
end DD

set_option Elab.async false
set_option linter.all false
set_option maxRecDepth 100000
set_option maxHeartbeats 4000000
/-! Readings over data: expressions, tests, arguments. -/
namespace DD
open PySem L2 PyProof.Rows

abbrev DK := D → Cells → Prop
abbrev DX := Value → List (String × D) → DEnv → Cells → Prop
abbrev DE := DEnv → Cells → DK → DX → Prop
abbrev DA := DEnv → Cells → (List D → Cells → Prop) → DX → Prop
abbrev DT := DEnv → Cells → (Bool → Cells → Prop) → DX → Prop
structure DEnds where
  nx : DEnv → Cells → Prop
  rt : DK
  bk : DEnv → Cells → Prop
  ct : DEnv → Cells → Prop
  ex : DX
abbrev DS := DEnds → DEnv → Cells → Prop
abbrev DR2 := D → D → Cells → DK → Prop
abbrev DR1 := D → Cells → DK → Prop
abbrev DRA := List D → Cells → DK → Prop

/-- an exception's own fields -/
def XRep (K : PySem.W.Frag) (F H : Hp) (d : Option Addr) (fs : List (String × D)) : Prop := fs = [] ∨ ∃ dd gs, d = some dd ∧ H dd = some (.xd gs) ∧ RepF K F gs fs
def ExR (K : PySem.W.Frag) (F : Hp) (W : WX) (PX : DX) : Prop :=
  ∀ cls d fs σ F' H ρ C, Ex F F' → Hs K F' C H → EnvR K F' σ ρ → XRep K F' H d fs → PX cls fs ρ C → W cls d σ H
theorem ExR.mono {K : PySem.W.Frag} {F F' : Hp} {W : WX} {PX : DX} (e : Ex F F') (h : ExR K F W PX) : ExR K F' W PX :=
  fun cls d fs σ F1 H ρ C e1 => h cls d fs σ F1 H ρ C (e.trans e1)
/-- what is wanted of a value, of arguments, of a truth -/
def Kont (K : PySem.W.Frag) (F : Hp) (P : DK) (Q : VK) : Prop := ∀ v F' H' d C', Ex F F' → Hs K F' C' H' → Rep K F' v d → P d C' → Q v H'
def KontA (K : PySem.W.Frag) (F : Hp) (P : List D → Cells → Prop) (Q : List V → Hp → Prop) : Prop := ∀ vs F' H' ds C', Ex F F' → Hs K F' C' H' → RepL K F' vs ds → P ds C' → Q vs H'
def KontT (K : PySem.W.Frag) (F : Hp) (P : Bool → Cells → Prop) (Q : Bool → Hp → Prop) : Prop := ∀ b F' H' C', Ex F F' → Hs K F' C' H' → P b C' → Q b H'
theorem Kont.mono {K : PySem.W.Frag} {F F' : Hp} {P : DK} {Q : VK} (e : Ex F F') (h : Kont K F P Q) : Kont K F' P Q := fun v F1 H1 d C1 e1 => h v F1 H1 d C1 (e.trans e1)
theorem KontA.mono {K : PySem.W.Frag} {F F' : Hp} {P : List D → Cells → Prop} {Q : List V → Hp → Prop} (e : Ex F F') (h : KontA K F P Q) : KontA K F' P Q := fun v F1 H1 d C1 e1 => h v F1 H1 d C1 (e.trans e1)
theorem KontT.mono {K : PySem.W.Frag} {F F' : Hp} {P : Bool → Cells → Prop} {Q : Bool → Hp → Prop} (e : Ex F F') (h : KontT K F P Q) : KontT K F' P Q := fun v F1 H1 C1 e1 => h v F1 H1 C1 (e.trans e1)

def tE (K : PySem.W.Frag) (W : WX) (w : DE) : TE := fun σ H Q => ∃ F C ρ P PX, Hs K F C H ∧ EnvR K F σ ρ ∧ ExR K F W PX ∧ w ρ C P PX ∧ Kont K F P Q
def tA (K : PySem.W.Frag) (W : WX) (w : DA) : TA := fun σ H Q => ∃ F C ρ P PX, Hs K F C H ∧ EnvR K F σ ρ ∧ ExR K F W PX ∧ w ρ C P PX ∧ KontA K F P Q
def tT (K : PySem.W.Frag) (W : WX) (w : DT) : TT := fun σ H Q => ∃ F C ρ P PX, Hs K F C H ∧ EnvR K F σ ρ ∧ ExR K F W PX ∧ w ρ C P PX ∧ KontT K F P Q

/-! ### weaker readings -/
section
variable {X : Cx}
theorem PE.imp {e : Expr} {t t' : TE} (h : PE X e t) (i : ∀ σ H Q, t' σ H Q → t σ H Q) : PE X e t' := ⟨fun pins s σ H Q I w => h.run pins s σ H Q I (i σ H Q w)⟩
theorem PT.imp {e : Expr} {t t' : TT} (h : PT X e t) (i : ∀ σ H Q, t' σ H Q → t σ H Q) : PT X e t' := ⟨fun pins s σ H Q I w => h.run pins s σ H Q I (i σ H Q w)⟩
theorem PW.imp {e : Expr} {t t' : TT} (h : PW X e t) (i : ∀ σ H Q, t' σ H Q → t σ H Q) : PW X e t' := ⟨fun wh pins s σ H Q I w => h.run wh pins s σ H Q I (i σ H Q w)⟩
theorem PA.imp {e : List Expr} {t t' : TA} (h : PA X e t) (i : ∀ σ H Q, t' σ H Q → t σ H Q) : PA X e t' := ⟨fun pos pins s σ H Q I w => h.run pos pins s σ H Q I (i σ H Q w)⟩
theorem PS.imp {e : Stmt} {t t' : TS} (h : PS X e t) (i : ∀ D σ H, t' D σ H → t D σ H) : PS X e t' := ⟨fun pins s σ H D I w => h.run pins s σ H D I (i D σ H w)⟩
theorem PSs.imp {e : List Stmt} {t t' : TS} (h : PSs X e t) (i : ∀ D σ H, t' D σ H → t D σ H) : PSs X e t' := ⟨fun pins s σ H D I w => h.run pins s σ H D I (i D σ H w)⟩
end

/-! ### names, constants, arguments -/
def wVar (i : Nat) (ρ : DEnv) (C : Cells) (P : DK) (_ : DX) : Prop := match (ρ[i]? : Option (Option D)) with | some (some d) => P d C | _ => False
def wC (d : D) (_ : DEnv) (C : Cells) (P : DK) (_ : DX) : Prop := P d C
def wNil (_ : DEnv) (C : Cells) (P : List D → Cells → Prop) (_ : DX) : Prop := P [] C
def wCons (a : DE) (r : DA) (ρ : DEnv) (C : Cells) (P : List D → Cells → Prop) (PX : DX) : Prop := a ρ C (fun d C1 => r ρ C1 (fun ds C2 => P (d :: ds) C2) PX) PX
section
variable {X : Cx} {W : WX} {K : PySem.W.Frag}
theorem i_var {i : Nat} {σ : L2.St} {H : Hp} {Q : VK} (h : tE K W (wVar i) σ H Q) : tVar i σ H Q := by
  obtain ⟨F, C, ρ, P, PX, hs, en, xr, w, k⟩ := h
  unfold wVar at w
  split at w
  · rename_i d q
    obtain ⟨v, h1, r⟩ := en.2 i d q
    exact ⟨v, h1, k v F H d C (Ex.refl F) hs r w⟩
  · exact w.elim
theorem d_var (i : Nat) {x : Str} {pos : Pos} (hN : X.N[i]? = some x := by rfl) (hv : Vis X.env.scope x := by first | exact Or.inl rfl | exact Or.inr (Or.inl rfl) | exact Or.inr (Or.inr rfl)) (hd : (x == ("__debug__" : Str)) = false := by decide)
    (hcd : (x == ("__classdict__" : Str)) = false := by decide) : PE X (.Name x pos) (tE X.K W (wVar i)) := PE.imp (pe_var hN hv hd hcd) fun _ _ _ => i_var
theorem i_c {v : V} {d : D} (r : ∀ F, Rep K F v d) {σ : L2.St} {H : Hp} {Q : VK} (h : tE K W (wC d) σ H Q) : tC v σ H Q := by
  obtain ⟨F, C, ρ, P, PX, hs, en, xr, w, k⟩ := h
  exact k v F H d C (Ex.refl F) hs (r F) w
theorem d_int {i j pos} : PE X (.Constant (.int i) j pos) (tE X.K W (wC (.int i))) := PE.imp pe_int fun _ _ _ => i_c fun _ => .int i
theorem d_bl {b j pos} : PE X (.Constant (.bool b) j pos) (tE X.K W (wC (.bl b))) := PE.imp pe_bl fun _ _ _ => i_c fun _ => .bl b
theorem d_non {j pos} : PE X (.Constant .none j pos) (tE X.K W (wC .non)) := PE.imp pe_non fun _ _ _ => i_c fun _ => .non
theorem d_str {x j pos} : PE X (.Constant (.str x) j pos) (tE X.K W (wC (.str x))) := PE.imp pe_str fun _ _ _ => i_c fun _ => .str x
/-- a module's name -/
theorem d_glob {x : Str} {v : V} {d : D} {u : Value} {pos : Pos} (hg : Gl X x) (hm : X.mg x = some u) (r : RelV v u) (hr : ∀ F, Rep X.K F v d) (hd : (x == ("__debug__" : Str)) = false := by decide) : PE X (.Name x pos) (tE X.K W (wC d)) :=
  PE.imp (pe_glob hg hm r hd) fun _ _ _ => i_c hr
theorem d_nil : PA X [] (tA X.K W wNil) := PA.imp pa_nil fun σ H Q ⟨F, C, ρ, P, PX, hs, en, xr, w, k⟩ => k [] F H [] C (Ex.refl F) hs .nil w
theorem i_cons {wa : DE} {wr : DA} {σ : L2.St} {H : Hp} {Q : List V → Hp → Prop} (h : tA K W (wCons wa wr) σ H Q) : tCons (tE K W wa) (tA K W wr) σ H Q := by
  obtain ⟨F, C, ρ, P, PX, hs, en, xr, w, k⟩ := h
  exact ⟨F, C, ρ, _, PX, hs, en, xr, w, fun v F1 H1 d C1 e1 h1 rd q => ⟨F1, C1, ρ, _, PX, h1, en.mono e1, xr.mono e1, q, fun vs F2 H2 ds C2 e2 h2 rl q2 => k (v :: vs) F2 H2 (d :: ds) C2 (e1.trans e2) h2 (.cons (rd.mono e2) rl) q2⟩⟩
theorem d_cons {e : Expr} {es : List Expr} {wa : DE} {wr : DA} (ha : PE X e (tE X.K W wa)) (hr : PA X es (tA X.K W wr)) (hs : starEach (e :: es) X.env = (false, eval e X.env) :: starEach es X.env := by rfl) : PA X (e :: es) (tA X.K W (wCons wa wr)) :=
  PA.imp (pa_cons ha hr hs) fun _ _ _ => i_cons
end

/-! ### operators -/
/-- an operation on two values, its reading on data -/
def SimR (K : PySem.W.Frag) (r : R2) (rd : DR2) : Prop := ∀ F C H x y dx dy P Q, Hs K F C H → Rep K F x dx → Rep K F y dy → rd dx dy C P → Kont K F P Q → r x y H Q
def Sim1 (K : PySem.W.Frag) (r : V → Hp → VK → Prop) (rd : DR1) : Prop := ∀ F C H x dx P Q, Hs K F C H → Rep K F x dx → rd dx C P → Kont K F P Q → r x H Q
def SimA (K : PySem.W.Frag) (r : List V → Hp → VK → Prop) (rd : DRA) : Prop := ∀ F C H xs ds P Q, Hs K F C H → RepL K F xs ds → rd ds C P → Kont K F P Q → r xs H Q
def wOp (r : DR2) (a b : DE) (ρ : DEnv) (C : Cells) (P : DK) (PX : DX) : Prop := a ρ C (fun x C1 => b ρ C1 (fun y C2 => r x y C2 P) PX) PX
def wUn (r : DR1) (a : DE) (ρ : DEnv) (C : Cells) (P : DK) (PX : DX) : Prop := a ρ C (fun x C1 => r x C1 P) PX
def wCB (r : DRA) (a : DA) (ρ : DEnv) (C : Cells) (P : DK) (PX : DX) : Prop := a ρ C (fun xs C1 => r xs C1 P) PX
section
variable {X : Cx} {W : WX} {K : PySem.W.Frag} {a b : Expr} {wa wb : DE} {pos : Pos}
theorem i_op {r : R2} {rd : DR2} (hr : SimR K r rd) {σ : L2.St} {H : Hp} {Q : VK} (h : tE K W (wOp rd wa wb) σ H Q) : tOp r (tE K W wa) (tE K W wb) σ H Q := by
  obtain ⟨F, C, ρ, P, PX, hs, en, xr, w, k⟩ := h
  exact ⟨F, C, ρ, _, PX, hs, en, xr, w, fun v F1 H1 d C1 e1 h1 rd1 q => ⟨F1, C1, ρ, _, PX, h1, en.mono e1, xr.mono e1, q, fun u F2 H2 du C2 e2 h2 ru q2 => hr F2 C2 H2 v u d du P Q h2 (rd1.mono e2) ru q2 (k.mono (e1.trans e2))⟩⟩
theorem i_un {r : V → Hp → VK → Prop} {rd : DR1} (hr : Sim1 K r rd) {σ : L2.St} {H : Hp} {Q : VK} (h : tE K W (wUn rd wa) σ H Q) : tUn r (tE K W wa) σ H Q := by
  obtain ⟨F, C, ρ, P, PX, hs, en, xr, w, k⟩ := h
  exact ⟨F, C, ρ, _, PX, hs, en, xr, w, fun v F1 H1 d C1 e1 h1 rd1 q => hr F1 C1 H1 v d P Q h1 rd1 q (k.mono e1)⟩
theorem i_cb {r : List V → Hp → VK → Prop} {rd : DRA} {wr : DA} (hr : SimA K r rd) {σ : L2.St} {H : Hp} {Q : VK} (h : tE K W (wCB rd wr) σ H Q) : tCB r (tA K W wr) σ H Q := by
  obtain ⟨F, C, ρ, P, PX, hs, en, xr, w, k⟩ := h
  exact ⟨F, C, ρ, _, PX, hs, en, xr, w, fun v F1 H1 d C1 e1 h1 rd1 q => hr F1 C1 H1 v d P Q h1 rd1 q (k.mono e1)⟩
/-- e1 op e2 -/
theorem d_op {op : Operator} {r : R2} {rd : DR2} (ho : OpR X (binaryOp op) r) (hr : SimR X.K r rd) (ha : PE X a (tE X.K W wa)) (hb : PE X b (tE X.K W wb)) : PE X (.BinOp a op b pos) (tE X.K W (wOp rd wa wb)) :=
  PE.imp (pe_op ho ha hb) fun _ _ _ => i_op hr
theorem d_un {op : UnaryOp} {r : V → Hp → VK → Prop} {rd : DR1} (ho : UnR X (unaryOp op) r) (hr : Sim1 X.K r rd) (ha : PE X a (tE X.K W wa)) : PE X (.UnaryOp op a pos) (tE X.K W (wUn rd wa)) :=
  PE.imp (pe_un ho ha) fun _ _ _ => i_un hr
/-- e1 < e2 and the like, as a value -/
theorem d_cmp {op : CmpOp} {r : R2} {rd : DR2} (ho : OpR X (compareOp op) r) (hr : SimR X.K r rd) (ha : PE X a (tE X.K W wa)) (hb : PE X b (tE X.K W wb)) (hm : behindInMarks op b = false := by first | exact nobehind _ (by decide) (by decide) | rfl) :
    PE X (.Compare a [op] [b] pos) (tE X.K W (wOp rd wa wb)) := PE.imp (pe_cmpR ho ha hb hm) fun _ _ _ => i_op hr
/-- a subscript -/
theorem d_ix {r : R2} {rd : DR2} (ho : IxR X r) (hr : SimR X.K r rd) (ha : PE X a (tE X.K W wa)) (hb : PE X b (tE X.K W wb)) (hs : PlainIx b := by exact fun _ _ => rfl) : PE X (.Subscript a b pos) (tE X.K W (wOp rd wa wb)) :=
  PE.imp (pe_ix ho ha hb hs) fun _ _ _ => i_op hr
/-- a built-in function by its name -/
theorem d_callB {r : List V → Hp → VK → Prop} {rd : DRA} {id : String} {x : Str} {p : Pos} {e : Expr} {es : List Expr} {wr : DA} (hc : CallR X (.builtin id) r) (hr : SimA X.K r rd) (hg : Gl X x) (hm : X.mg x = none) (hv : bootBuiltins x = some (.builtin id)) (ha : PA X (e :: es) (tA X.K W wr)) (hn : x ≠ "__name__" := by decide) (hdb : (x == ("__debug__" : Str)) = false := by decide)
    (he : starEach (e :: es) X.env = (false, eval e X.env) :: starEach es X.env := by rfl) (hpl : (backTo pos (starEach es X.env)).any (·.1) = false := by rfl) : PE X (.Call (.Name x p) (e :: es) [] pos) (tE X.K W (wCB rd wr)) :=
  PE.imp (pe_callB hc hg hm hv ha hn hdb he hpl) fun _ _ _ => i_cb hr
theorem d_callTy {r : List V → Hp → VK → Prop} {rd : DRA} {T : String} {x : Str} {p : Pos} {e : Expr} {es : List Expr} {wr : DA} (hc : CallR X (.type T) r) (hr : SimA X.K r rd) (hg : Gl X x) (hm : X.mg x = none) (hv : bootBuiltins x = some (.type T)) (ha : PA X (e :: es) (tA X.K W wr)) (hn : x ≠ "__name__" := by decide) (hdb : (x == ("__debug__" : Str)) = false := by decide)
    (he : starEach (e :: es) X.env = (false, eval e X.env) :: starEach es X.env := by rfl) (hpl : (backTo pos (starEach es X.env)).any (·.1) = false := by rfl) : PE X (.Call (.Name x p) (e :: es) [] pos) (tE X.K W (wCB rd wr)) :=
  PE.imp (pe_callTy hc hg hm hv ha hn hdb he hpl) fun _ _ _ => i_cb hr
end

/-! ### whole numbers -/
def dI (c : Int → Int → Prop) (g : Int → Int → D) (x : D) (y : D) (C : Cells) (P : DK) : Prop := match x, y with | .int i, .int j => c i j ∧ P (g i j) C | _, _ => False
def dI0 (g : Int → Int → D) (x : D) (y : D) (C : Cells) (P : DK) : Prop := match x, y with | .int i, .int j => P (g i j) C | _, _ => False
def dU (g : Int → D) (x : D) (C : Cells) (P : DK) : Prop := match x with | .int i => P (g i) C | _ => False
section
variable {K : PySem.W.Frag}
theorem simI {c : Int → Int → Prop} {g : Int → Int → V} {gd : Int → Int → D} (h : ∀ i j F, Rep K F (g i j) (gd i j)) : SimR K (rI c g) (dI c gd) := fun F C H x y dx dy P Q hs rx ry w k => by
  cases rx <;> cases ry <;> first | exact w.elim | exact ⟨_, _, rfl, rfl, w.1, k _ F H _ C (Ex.refl F) hs (h _ _ F) w.2⟩
theorem simI0 {g : Int → Int → V} {gd : Int → Int → D} (h : ∀ i j F, Rep K F (g i j) (gd i j)) : SimR K (rI0 g) (dI0 gd) := fun F C H x y dx dy P Q hs rx ry w k => by
  cases rx <;> cases ry <;> first | exact w.elim | exact ⟨_, _, rfl, rfl, k _ F H _ C (Ex.refl F) hs (h _ _ F) w⟩
theorem simU {g : Int → V} {gd : Int → D} (h : ∀ i F, Rep K F (g i) (gd i)) : Sim1 K (rU g) (dU gd) := fun F C H x dx P Q hs rx w k => by
  cases rx <;> first | exact w.elim | exact ⟨_, rfl, k _ F H _ C (Ex.refl F) hs (h _ F) w⟩
abbrev dAdd : DR2 := dI0 fun i j => .int (i + j)
abbrev dSub : DR2 := dI0 fun i j => .int (i - j)
abbrev dMul : DR2 := dI CMul fun i j => .int (i * j)
abbrev dDiv : DR2 := dI CDiv fun i j => .int (i / j)
abbrev dMod : DR2 := dI (fun _ j => 0 < j) fun i j => .int (i % j)
abbrev dLt : DR2 := dI0 fun i j => .bl (decide (i < j))
abbrev dLe : DR2 := dI0 fun i j => .bl (decide (i ≤ j))
abbrev dGt : DR2 := dI0 fun i j => .bl (decide (j < i))
abbrev dGe : DR2 := dI0 fun i j => .bl (decide (j ≤ i))
theorem s_add : SimR K (rI0 fun i j => .int (i + j)) dAdd := simI0 fun _ _ _ => .int _
theorem s_sub : SimR K (rI0 fun i j => .int (i - j)) dSub := simI0 fun _ _ _ => .int _
theorem s_mul : SimR K (rI CMul fun i j => .int (i * j)) dMul := simI fun _ _ _ => .int _
theorem s_div : SimR K (rI CDiv fun i j => .int (i / j)) dDiv := simI fun _ _ _ => .int _
theorem s_mod : SimR K (rI (fun _ j => 0 < j) fun i j => .int (i % j)) dMod := simI fun _ _ _ => .int _
theorem s_lt : SimR K (rI0 fun i j => .bl (decide (i < j))) dLt := simI0 fun _ _ _ => .bl _
theorem s_le : SimR K (rI0 fun i j => .bl (decide (i ≤ j))) dLe := simI0 fun _ _ _ => .bl _
theorem s_gt : SimR K (rI0 fun i j => .bl (decide (j < i))) dGt := simI0 fun _ _ _ => .bl _
theorem s_ge : SimR K (rI0 fun i j => .bl (decide (j ≤ i))) dGe := simI0 fun _ _ _ => .bl _
abbrev dNeg : DR1 := dU fun i => .int (-i)
theorem s_neg : Sim1 K (rU fun i => .int (-i)) dNeg := simU fun _ _ => .int _
end

/-! ### == of scalars, is None -/
def dEqv (neg : Bool) (x : D) (y : D) (C : Cells) (P : DK) : Prop := match x, y with
  | .int i, .int j => P (.bl (neg ^^ decide (i = j))) C
  | .str i, .str j => P (.bl (neg ^^ decide (i = j))) C
  | .bl i, .bl j => P (.bl (neg ^^ decide (i = j))) C
  | .non, .non => P (.bl (neg ^^ true)) C
  | .non, .int _ => P (.bl (neg ^^ false)) C
  | .int _, .non => P (.bl (neg ^^ false)) C
  | .non, .str _ => P (.bl (neg ^^ false)) C
  | .str _, .non => P (.bl (neg ^^ false)) C
  | .non, .bl _ => P (.bl (neg ^^ false)) C
  | .bl _, .non => P (.bl (neg ^^ false)) C
  | .int _, .str _ => P (.bl (neg ^^ false)) C
  | .str _, .int _ => P (.bl (neg ^^ false)) C
  | _, _ => False
abbrev dEq := dEqv false
abbrev dNe := dEqv true
def dIsN (neg : Bool) (x : D) (y : D) (C : Cells) (P : DK) : Prop := match y with
  | .non => match x with
    | .non => P (.bl (neg ^^ true)) C
    | _ => P (.bl (neg ^^ false)) C
  | _ => False
section
variable {K : PySem.W.Frag}
theorem s_eq : SimR K rEq dEq := fun F C H x y dx dy P Q hs rx ry w k => by
  cases rx <;> cases ry <;> first
    | exact w.elim
    | (refine ⟨rfl, ?_⟩
       have z := k _ F H _ C (Ex.refl F) hs (.bl _) w
       simp only [reduceCtorEq, V.int.injEq, V.str.injEq, V.bl.injEq, decide_true, decide_false, Bool.false_xor] at z ⊢
       exact z)
theorem s_ne : SimR K rNe dNe := fun F C H x y dx dy P Q hs rx ry w k => by
  cases rx <;> cases ry <;> first
    | exact w.elim
    | (refine ⟨rfl, ?_⟩
       have z := k _ F H _ C (Ex.refl F) hs (.bl _) w
       simp only [reduceCtorEq, V.int.injEq, V.str.injEq, V.bl.injEq, decide_true, decide_false, Bool.true_xor] at z ⊢
       exact z)
theorem s_isN : SimR K (fun x y H Q => y = .non ∧ Q (.bl (decide (x = .non))) H) (dIsN false) := fun F C H x y dx dy P Q hs rx ry w k => by
  cases ry <;> first
    | exact w.elim
    | (refine ⟨rfl, ?_⟩
       cases rx <;>
       (have z := k _ F H _ C (Ex.refl F) hs (.bl _) w
        simp only [reduceCtorEq, decide_true, decide_false, Bool.false_xor] at z ⊢
        exact z))
theorem s_notN : SimR K (fun x y H Q => y = .non ∧ Q (.bl (!decide (x = .non))) H) (dIsN true) := fun F C H x y dx dy P Q hs rx ry w k => by
  cases ry <;> first
    | exact w.elim
    | (refine ⟨rfl, ?_⟩
       cases rx <;>
       (have z := k _ F H _ C (Ex.refl F) hs (.bl _) w
        simp only [reduceCtorEq, decide_true, decide_false, Bool.true_xor] at z ⊢
        exact z))
end

/-! ### tests -/
def wTest (e : DE) (ρ : DEnv) (C : Cells) (P : Bool → Cells → Prop) (PX : DX) : Prop := e ρ C (fun x C1 => match x with | .bl k => P k C1 | _ => False) PX
def wAnd (t u : DT) (ρ : DEnv) (C : Cells) (P : Bool → Cells → Prop) (PX : DX) : Prop := t ρ C (fun b C1 => if b = true then u ρ C1 P PX else P false C1) PX
def wOr (t u : DT) (ρ : DEnv) (C : Cells) (P : Bool → Cells → Prop) (PX : DX) : Prop := t ρ C (fun b C1 => if b = true then P true C1 else u ρ C1 P PX) PX
def wNot (t : DT) (ρ : DEnv) (C : Cells) (P : Bool → Cells → Prop) (PX : DX) : Prop := t ρ C (fun b C1 => P (!b) C1) PX
def wIf (t : DT) (a b : DE) (ρ : DEnv) (C : Cells) (P : DK) (PX : DX) : Prop := t ρ C (fun k C1 => if k = true then a ρ C1 P PX else b ρ C1 P PX) PX
section
variable {X : Cx} {W : WX} {K : PySem.W.Frag} {a b : Expr} {wa wb : DE} {pos : Pos} {t u : DT} {rest : List Expr}
theorem i_test {σ : L2.St} {H : Hp} {Q : Bool → Hp → Prop} (h : tT K W (wTest wa) σ H Q) : tE K W wa σ H fun x H' => ∃ k, x = .bl k ∧ Q k H' := by
  obtain ⟨F, C, ρ, P, PX, hs, en, xr, w, k⟩ := h
  refine ⟨F, C, ρ, _, PX, hs, en, xr, w, fun v F1 H1 d C1 e1 h1 r q => ?_⟩
  cases r <;> first | exact q.elim | exact ⟨_, rfl, k _ F1 H1 C1 e1 h1 q⟩
/-- a comparison as a test -/
theorem d_tcmp {op : CmpOp} {r : R2} {rd : DR2} (ho : OpR X (compareOp op) r) (hr : SimR X.K r rd) (ha : PE X a (tE X.K W wa)) (hb : PE X b (tE X.K W wb)) (hm : behindInMarks op b = false := by first | exact nobehind _ (by decide) (by decide) | rfl) :
    PT X (.Compare a [op] [b] pos) (tT X.K W (wTest (wOp rd wa wb))) := PT.imp (pt_cmpR ho ha hb hm) fun σ H Q h => by
  have z := i_test h
  obtain ⟨F, C, ρ, P, PX, hs, en, xr, w, k⟩ := z
  exact i_op hr ⟨F, C, ρ, P, PX, hs, en, xr, w, k⟩
/-- an expression that gives True or False, as a test -/
theorem d_tval {e : Expr} (h : PE X e (tE X.K W wa)) (he : ∀ whole, isTrue e X.env whole = (do let v ← whole; standAt e.pos; holding [v] (truthy v)) := by intro _; rfl) : PT X e (tT X.K W (wTest wa)) :=
  PT.imp (pt_val h he) fun _ _ _ => i_test
theorem i_and {σ : L2.St} {H : Hp} {Q : Bool → Hp → Prop} (h : tT K W (wAnd t u) σ H Q) : tAnd (tT K W t) (tT K W u) σ H Q := by
  obtain ⟨F, C, ρ, P, PX, hs, en, xr, w, k⟩ := h
  refine ⟨F, C, ρ, _, PX, hs, en, xr, w, fun b F1 H1 C1 e1 h1 q => ?_⟩
  cases b with
  | true =>
    rw [if_pos rfl] at q
    rw [if_pos rfl]
    exact ⟨F1, C1, ρ, P, PX, h1, en.mono e1, xr.mono e1, q, k.mono e1⟩
  | false =>
    rw [if_neg Bool.false_ne_true] at q
    rw [if_neg Bool.false_ne_true]
    exact k _ F1 H1 C1 e1 h1 q
theorem i_or {σ : L2.St} {H : Hp} {Q : Bool → Hp → Prop} (h : tT K W (wOr t u) σ H Q) : tOr (tT K W t) (tT K W u) σ H Q := by
  obtain ⟨F, C, ρ, P, PX, hs, en, xr, w, k⟩ := h
  refine ⟨F, C, ρ, _, PX, hs, en, xr, w, fun b F1 H1 C1 e1 h1 q => ?_⟩
  cases b with
  | false =>
    rw [if_neg Bool.false_ne_true] at q
    rw [if_neg Bool.false_ne_true]
    exact ⟨F1, C1, ρ, P, PX, h1, en.mono e1, xr.mono e1, q, k.mono e1⟩
  | true =>
    rw [if_pos rfl] at q
    rw [if_pos rfl]
    exact k _ F1 H1 C1 e1 h1 q
theorem d_and1 (ha : PT X a (tT X.K W t)) : PW X (.BoolOp .And [a] pos) (tT X.K W t) := pw_and1 ha
theorem d_or1 (ha : PT X a (tT X.K W t)) : PW X (.BoolOp .Or [a] pos) (tT X.K W t) := pw_or1 ha
theorem d_and (ha : PT X a (tT X.K W t)) (hb : PW X (.BoolOp .And (b :: rest) pos) (tT X.K W u)) : PW X (.BoolOp .And (a :: b :: rest) pos) (tT X.K W (wAnd t u)) := PW.imp (pw_and ha hb) fun _ _ _ => i_and
theorem d_or (ha : PT X a (tT X.K W t)) (hb : PW X (.BoolOp .Or (b :: rest) pos) (tT X.K W u)) : PW X (.BoolOp .Or (a :: b :: rest) pos) (tT X.K W (wOr t u)) := PW.imp (pw_or ha hb) fun _ _ _ => i_or
theorem d_not (ha : PT X a (tT X.K W t)) : PT X (.UnaryOp .Not a pos) (tT X.K W (wNot t)) := PT.imp (pt_not ha) fun σ H Q ⟨F, C, ρ, P, PX, hs, en, xr, w, k⟩ =>
  ⟨F, C, ρ, _, PX, hs, en, xr, w, fun b F1 H1 C1 e1 h1 q => k _ F1 H1 C1 e1 h1 q⟩
theorem d_ifE {c : Expr} (hc : PT X c (tT X.K W t)) (ha : PE X a (tE X.K W wa)) (hb : PE X b (tE X.K W wb)) : PE X (.IfExp c a b pos) (tE X.K W (wIf t wa wb)) := PE.imp (pe_ifExp hc ha hb) fun σ H Q ⟨F, C, ρ, P, PX, hs, en, xr, w, k⟩ =>
  ⟨F, C, ρ, _, PX, hs, en, xr, w, fun b F1 H1 C1 e1 h1 q => by
    cases b with
    | true =>
      rw [if_pos rfl] at q
      rw [if_pos rfl]
      exact ⟨F1, C1, ρ, P, PX, h1, en.mono e1, xr.mono e1, q, k.mono e1⟩
    | false =>
      rw [if_neg Bool.false_ne_true] at q
      rw [if_neg Bool.false_ne_true]
      exact ⟨F1, C1, ρ, P, PX, h1, en.mono e1, xr.mono e1, q, k.mono e1⟩⟩
/-- and, or, not as values of True and False -/
def wAndV (a b : DE) (ρ : DEnv) (C : Cells) (P : DK) (PX : DX) : Prop := a ρ C (fun x C1 => match x with | .bl k => if k = true then b ρ C1 P PX else P (.bl false) C1 | _ => False) PX
def wOrV (a b : DE) (ρ : DEnv) (C : Cells) (P : DK) (PX : DX) : Prop := a ρ C (fun x C1 => match x with | .bl k => if k = true then P (.bl true) C1 else b ρ C1 P PX | _ => False) PX
def wNotV (a : DE) (ρ : DEnv) (C : Cells) (P : DK) (PX : DX) : Prop := a ρ C (fun x C1 => match x with | .bl k => P (.bl (!k)) C1 | _ => False) PX
theorem d_one {op} (h : PE X a (tE X.K W wa)) : PE X (.BoolOp op [a] pos) (tE X.K W wa) := pe_one h
theorem d_andV (ha : PE X a (tE X.K W wa)) (hb : PE X (.BoolOp .And (b :: rest) pos) (tE X.K W wb)) : PE X (.BoolOp .And (a :: b :: rest) pos) (tE X.K W (wAndV wa wb)) := PE.imp (pe_and ha hb) fun σ H Q ⟨F, C, ρ, P, PX, hs, en, xr, w, k⟩ =>
  ⟨F, C, ρ, _, PX, hs, en, xr, w, fun v F1 H1 d C1 e1 h1 r q => by
    cases r <;> first | exact q.elim | skip
    rename_i b
    refine ⟨b, rfl, ?_⟩
    cases b with
    | true => exact ⟨F1, C1, ρ, P, PX, h1, en.mono e1, xr.mono e1, q, k.mono e1⟩
    | false => exact k _ F1 H1 _ C1 e1 h1 (.bl _) q⟩
theorem d_orV (ha : PE X a (tE X.K W wa)) (hb : PE X (.BoolOp .Or (b :: rest) pos) (tE X.K W wb)) : PE X (.BoolOp .Or (a :: b :: rest) pos) (tE X.K W (wOrV wa wb)) := PE.imp (pe_or ha hb) fun σ H Q ⟨F, C, ρ, P, PX, hs, en, xr, w, k⟩ =>
  ⟨F, C, ρ, _, PX, hs, en, xr, w, fun v F1 H1 d C1 e1 h1 r q => by
    cases r <;> first | exact q.elim | skip
    rename_i b
    refine ⟨b, rfl, ?_⟩
    cases b with
    | false => exact ⟨F1, C1, ρ, P, PX, h1, en.mono e1, xr.mono e1, q, k.mono e1⟩
    | true => exact k _ F1 H1 _ C1 e1 h1 (.bl _) q⟩
theorem d_notV (ha : PE X a (tE X.K W wa)) : PE X (.UnaryOp .Not a pos) (tE X.K W (wNotV wa)) := PE.imp (pe_not ha) fun σ H Q ⟨F, C, ρ, P, PX, hs, en, xr, w, k⟩ =>
  ⟨F, C, ρ, _, PX, hs, en, xr, w, fun v F1 H1 d C1 e1 h1 r q => by
    cases r <;> first | exact q.elim | skip
    exact ⟨_, rfl, k _ F1 H1 _ C1 e1 h1 (.bl _) q⟩⟩
end
/-- a < b < c -/
def wChain (r r' : DR2) (a b c : DE) (ρ : DEnv) (C : Cells) (P : DK) (PX : DX) : Prop := a ρ C (fun x C1 => b ρ C1 (fun y C2 => r x y C2 fun z C3 => match z with
  | .bl k => if k = true then c ρ C3 (fun u C4 => r' y u C4 P) PX else P (.bl false) C3
  | _ => False) PX) PX

/-! ### displays -/
def wTup (a : DA) (ρ : DEnv) (C : Cells) (P : DK) (PX : DX) : Prop := a ρ C (fun ds C1 => ds.length ≤ 100000 ∧ P (.tup ds) C1) PX
def wLst (a : DA) (ρ : DEnv) (C : Cells) (P : DK) (PX : DX) : Prop := a ρ C (fun ds C1 => ds.length ≤ 100000 ∧ P (.lst ds) C1) PX
/-- a list that is still to change -/
def wLstC (a : DA) (ρ : DEnv) (C : Cells) (P : DK) (PX : DX) : Prop := a ρ C (fun ds C1 => ds.length ≤ 100000 ∧ ∀ p, C1 p = none → P (.ptr p) (cput C1 p (.lst ds))) PX
theorem sz_of {n : Nat} (h : n ≤ 100000) : n ≤ sizeLine := Nat.le_trans h (by decide)
theorem sz_lt {n : Nat} (h : n < 100000) : n < sizeLine := Nat.lt_of_lt_of_le h (by decide)
section
variable {X : Cx} {W : WX} {K : PySem.W.Frag} {es : List Expr} {wr : DA} {pos : Pos}
theorem Hs.newL {F : Hp} {C : Cells} {H : Hp} {xs : List V} {ds : List D} (h : Hs K F C H) (r : RepL K F xs ds) {p : Addr} (hp : H p = none) : Ex F (upd F p (.lst xs)) ∧ Hs K (upd F p (.lst xs)) C (upd H p (.lst xs)) ∧ Rep K (upd F p (.lst xs)) (.ref p) (.lst ds) := by
  obtain ⟨e, h2⟩ := h.lay (o := .lst xs) hp
  exact ⟨e, h2, .lst (.of upd_same) (r.mono e)⟩
theorem Hs.newT {F : Hp} {C : Cells} {H : Hp} {xs : List V} {ds : List D} (h : Hs K F C H) (r : RepL K F xs ds) {p : Addr} (hp : H p = none) : Ex F (upd F p (.tup xs)) ∧ Hs K (upd F p (.tup xs)) C (upd H p (.tup xs)) ∧ Rep K (upd F p (.tup xs)) (.ref p) (.tup ds) := by
  obtain ⟨e, h2⟩ := h.lay (o := .tup xs) hp
  exact ⟨e, h2, .tup (.of upd_same) (r.mono e)⟩
theorem Hs.newC {F : Hp} {C : Cells} {H : Hp} {xs : List V} {ds : List D} (h : Hs K F C H) (r : RepL K F xs ds) {p : Addr} (hp : H p = none) : C p = none ∧ Hs K F (cput C p (.lst ds)) (upd H p (.lst xs)) :=
  ⟨(h.fresh hp).2, h.put (h.fresh hp).1 ⟨xs, upd_same, r⟩⟩
theorem d_tup {x1} (h : PA X es (tA X.K W wr)) : PE X (.Tuple es x1 pos) (tE X.K W (wTup wr)) := PE.imp (pe_tup h) fun σ H Q ⟨F, C, ρ, P, PX, hs, en, xr, w, k⟩ =>
  ⟨F, C, ρ, _, PX, hs, en, xr, w, fun vs F1 H1 ds C1 e1 h1 r q => ⟨by rw [r.length]; exact sz_of q.1, fun p hp => by
    obtain ⟨e2, h2, r2⟩ := h1.newT r hp
    exact k _ _ _ _ C1 (e1.trans e2) h2 r2 q.2⟩⟩
theorem d_lst (h : PA X es (tA X.K W wr)) : PE X (.List es pos) (tE X.K W (wLst wr)) := PE.imp (pe_lst h) fun σ H Q ⟨F, C, ρ, P, PX, hs, en, xr, w, k⟩ =>
  ⟨F, C, ρ, _, PX, hs, en, xr, w, fun vs F1 H1 ds C1 e1 h1 r q => ⟨by rw [r.length]; exact sz_of q.1, fun p hp => by
    obtain ⟨e2, h2, r2⟩ := h1.newL r hp
    exact k _ _ _ _ C1 (e1.trans e2) h2 r2 q.2⟩⟩
theorem d_lstC (h : PA X es (tA X.K W wr)) : PE X (.List es pos) (tE X.K W (wLstC wr)) := PE.imp (pe_lst h) fun σ H Q ⟨F, C, ρ, P, PX, hs, en, xr, w, k⟩ =>
  ⟨F, C, ρ, _, PX, hs, en, xr, w, fun vs F1 H1 ds C1 e1 h1 r q => ⟨by rw [r.length]; exact sz_of q.1, fun p hp => by
    obtain ⟨c0, h2⟩ := h1.newC r hp
    exact k _ _ _ _ _ e1 h2 (.ptr p) (q.2 p c0)⟩⟩
theorem d_chain {op op' : CmpOp} {r r' : R2} {rd rd' : DR2} {a b c : Expr} {wa wb wc : DE} (ho : OpR X (compareOp op) r) (hr : SimR X.K r rd) (ho' : OpR X (compareOp op') r') (hr' : SimR X.K r' rd')
    (h : PE X (.Compare a [op, op'] [b, c] pos) (tChain r r' (tE X.K W wa) (tE X.K W wb) (tE X.K W wc))) : PE X (.Compare a [op, op'] [b, c] pos) (tE X.K W (wChain rd rd' wa wb wc)) := PE.imp h fun σ H Q ⟨F, C, ρ, P, PX, hs, en, xr, w, k⟩ =>
  ⟨F, C, ρ, _, PX, hs, en, xr, w, fun v F1 H1 d C1 e1 h1 rd1 q => ⟨F1, C1, ρ, _, PX, h1, en.mono e1, xr.mono e1, q, fun u F2 H2 du C2 e2 h2 ru q2 => hr F2 C2 H2 v u d du _ _ h2 (rd1.mono e2) ru q2 fun z F3 H3 dz C3 e3 h3 rz q3 => by
    cases rz <;> first | exact q3.elim | skip
    rename_i b
    refine ⟨b, rfl, ?_⟩
    cases b with
    | true => exact ⟨F3, C3, ρ, _, PX, h3, en.mono ((e1.trans e2).trans e3), xr.mono ((e1.trans e2).trans e3), q3, fun u4 F4 H4 d4 C4 e4 h4 r4 q4 => hr' F4 C4 H4 u u4 du d4 P Q h4 (ru.mono (e3.trans e4)) r4 q4 (k.mono (((e1.trans e2).trans e3).trans e4))⟩
    | false => exact k _ F3 H3 _ C3 ((e1.trans e2).trans e3) h3 (.bl _) q3⟩⟩
end
end DD

set_option Elab.async false
set_option linter.all false
set_option maxRecDepth 100000
set_option maxHeartbeats 4000000
/-! Readings over data: statements, targets, loops. -/
namespace DD
open PySem L2 PyProof.Rows

section
variable {X : Cx} {W : WX} {K : PySem.W.Frag}
theorem i_chain {r r' : R2} {rd rd' : DR2} {wa wb wc : DE} (hr : SimR K r rd) (hr' : SimR K r' rd') {σ : L2.St} {H : Hp} {Q : VK} (h : tE K W (wChain rd rd' wa wb wc) σ H Q) : tChain r r' (tE K W wa) (tE K W wb) (tE K W wc) σ H Q := by
  obtain ⟨F, C, ρ, P, PX, hs, en, xr, w, k⟩ := h
  exact ⟨F, C, ρ, _, PX, hs, en, xr, w, fun v F1 H1 d C1 e1 h1 rd1 q => ⟨F1, C1, ρ, _, PX, h1, en.mono e1, xr.mono e1, q, fun u F2 H2 du C2 e2 h2 ru q2 => hr F2 C2 H2 v u d du _ _ h2 (rd1.mono e2) ru q2 fun z F3 H3 dz C3 e3 h3 rz q3 => by
    cases rz <;> first | exact q3.elim | skip
    rename_i b
    refine ⟨b, rfl, ?_⟩
    cases b with
    | true => exact ⟨F3, C3, ρ, _, PX, h3, en.mono ((e1.trans e2).trans e3), xr.mono ((e1.trans e2).trans e3), q3, fun u4 F4 H4 d4 C4 e4 h4 r4 q4 => hr' F4 C4 H4 u u4 du d4 P Q h4 (ru.mono (e3.trans e4)) r4 q4 (k.mono (((e1.trans e2).trans e3).trans e4))⟩
    | false => exact k _ F3 H3 _ C3 ((e1.trans e2).trans e3) h3 (.bl _) q3⟩⟩
theorem d_chainE {op op' : CmpOp} {r r' : R2} {rd rd' : DR2} {a b c : Expr} {wa wb wc : DE} {pos : Pos} (ho : OpR X (compareOp op) r) (hr : SimR X.K r rd) (ho' : OpR X (compareOp op') r') (hr' : SimR X.K r' rd') (ha : PE X a (tE X.K W wa)) (hb : PE X b (tE X.K W wb)) (hc : PE X c (tE X.K W wc))
    (hm : lastMarks [op, op'] [b, c] = false := by with_unfolding_all rfl) : PE X (.Compare a [op, op'] [b, c] pos) (tE X.K W (wChain rd rd' wa wb wc)) := PE.imp (pe_chain ho ho' ha hb hc hm) fun _ _ _ => i_chain hr hr'
theorem d_chainT {op op' : CmpOp} {r r' : R2} {rd rd' : DR2} {a b c : Expr} {wa wb wc : DE} {pos : Pos} (ho : OpR X (compareOp op) r) (hr : SimR X.K r rd) (ho' : OpR X (compareOp op') r') (hr' : SimR X.K r' rd') (ha : PE X a (tE X.K W wa)) (hb : PE X b (tE X.K W wb)) (hc : PE X c (tE X.K W wc))
    (hm : lastMarks [op, op'] [b, c] = false := by with_unfolding_all rfl) : PT X (.Compare a [op, op'] [b, c] pos) (tT X.K W (wTest (wChain rd rd' wa wb wc))) := PT.imp (pt_chain ho ho' ha hb hc hm) fun σ H Q h => by
  obtain ⟨F, C, ρ, P, PX, hs, en, xr, w, k⟩ := i_test h
  exact i_chain hr hr' ⟨F, C, ρ, P, PX, hs, en, xr, w, k⟩
end

/-! ### statements -/
def KontS (K : PySem.W.Frag) (F : Hp) (P : DEnv → Cells → Prop) (Q : L2.St → Hp → Prop) : Prop := ∀ σ F' H ρ C, Ex F F' → Hs K F' C H → EnvR K F' σ ρ → P ρ C → Q σ H
theorem KontS.mono {K : PySem.W.Frag} {F F' : Hp} {P : DEnv → Cells → Prop} {Q : L2.St → Hp → Prop} (e : Ex F F') (h : KontS K F P Q) : KontS K F' P Q := fun σ F1 H ρ C e1 => h σ F1 H ρ C (e.trans e1)
structure EndsR (K : PySem.W.Frag) (F : Hp) (DE : DEnds) (D : Ends) : Prop where
  nx : KontS K F DE.nx D.nx
  rt : Kont K F DE.rt D.rt
  bk : KontS K F DE.bk D.bk
  ct : KontS K F DE.ct D.ct
theorem EndsR.mono {K : PySem.W.Frag} {F F' : Hp} {DE : DEnds} {D : Ends} (e : Ex F F') (h : EndsR K F DE D) : EndsR K F' DE D := ⟨h.nx.mono e, h.rt.mono e, h.bk.mono e, h.ct.mono e⟩
def tS (K : PySem.W.Frag) (W : WX) (w : DS) : TS := fun D σ H => ∃ F C ρ DE, Hs K F C H ∧ EnvR K F σ ρ ∧ ExR K F W DE.ex ∧ w DE ρ C ∧ EndsR K F DE D

def wNext (E : DEnds) (ρ : DEnv) (C : Cells) : Prop := E.nx ρ C
def wSeq (a b : DS) (E : DEnds) (ρ : DEnv) (C : Cells) : Prop := a { E with nx := fun ρ' C' => b E ρ' C' } ρ C
/-- the same, a place to stop at -/
def wSeqL (a b : DS) (E : DEnds) (ρ : DEnv) (C : Cells) : Prop := a { E with nx := fun ρ' C' => b E ρ' C' } ρ C
def wBreak (E : DEnds) (ρ : DEnv) (C : Cells) : Prop := E.bk ρ C
def wCont (E : DEnds) (ρ : DEnv) (C : Cells) : Prop := E.ct ρ C
def wDrop (e : DE) (E : DEnds) (ρ : DEnv) (C : Cells) : Prop := e ρ C (fun _ C1 => E.nx ρ C1) E.ex
def wRet (e : DE) (E : DEnds) (ρ : DEnv) (C : Cells) : Prop := e ρ C E.rt E.ex
def wRetN (E : DEnds) (_ : DEnv) (C : Cells) : Prop := E.rt .non C
def wIfS (t : DT) (a b : DS) (E : DEnds) (ρ : DEnv) (C : Cells) : Prop := t ρ C (fun k C1 => if k = true then a E ρ C1 else b E ρ C1) E.ex
/-- a list that was built, handed back: it does not change any more -/
def wRetF (e : DE) (E : DEnds) (ρ : DEnv) (C : Cells) : Prop := e ρ C (fun d C1 => match d with
  | .ptr p => match C1 p with
    | some (.lst ds) => ∃ C2, Sub C2 C1 ∧ C2 p = none ∧ E.rt (.lst ds) C2
    | some (.dK kvs) => ∃ C2, Sub C2 C1 ∧ C2 p = none ∧ E.rt (.dK kvs) C2
    | some (.dT kvs) => ∃ C2, Sub C2 C1 ∧ C2 p = none ∧ E.rt (.dT kvs) C2
    | some (.ins Cl fs) => ∃ C2, Sub C2 C1 ∧ C2 p = none ∧ E.rt (.ins Cl fs) C2
    | none => False
  | d => E.rt d C1) E.ex
/-- a cell that does not change any more: what the name at i holds is data from here on -/
def wFrz (i : Nat) (E : DEnds) (ρ : DEnv) (C : Cells) : Prop := match (ρ[i]? : Option (Option D)) with
  | some (some (.ptr p)) => match C p with
    | some (.lst ds) => ∃ C2, Sub C2 C ∧ C2 p = none ∧ E.nx (ρ.set i (some (.lst ds))) C2
    | some (.dK kvs) => ∃ C2, Sub C2 C ∧ C2 p = none ∧ E.nx (ρ.set i (some (.dK kvs))) C2
    | some (.dT kvs) => ∃ C2, Sub C2 C ∧ C2 p = none ∧ E.nx (ρ.set i (some (.dT kvs))) C2
    | some (.ins Cl fs) => ∃ C2, Sub C2 C ∧ C2 p = none ∧ E.nx (ρ.set i (some (.ins Cl fs))) C2
    | none => False
  | _ => False
/-- a cell's content as data -/
def Cell.toD : Cell → D
  | .lst ds => .lst ds
  | .ins C fs => .ins C fs
  | .dK kvs => .dK kvs
  | .dT kvs => .dT kvs
section
variable {X : Cx} {W : WX} {K : PySem.W.Frag} {st : Stmt} {rest : List Stmt} {a b : DS} {e : Expr} {we : DE} {t : DT} {pos : Pos}
theorem ds_nil : PSs X [] (tS X.K W wNext) := PSs.imp pss_nil fun D σ H ⟨F, C, ρ, DE, hs, en, xr, w, er⟩ => er.nx σ F H ρ C (Ex.refl F) hs en w
theorem ds_cons (h1 : PS X st (tS X.K W a)) (h2 : PSs X rest (tS X.K W b)) : PSs X (st :: rest) (tS X.K W (wSeq a b)) := PSs.imp (pss_cons h1 h2) fun D σ H ⟨F, C, ρ, DE, hs, en, xr, w, er⟩ =>
  ⟨F, C, ρ, { DE with nx := fun ρ' C' => b DE ρ' C' }, hs, en, xr, w, ⟨fun σ1 F1 H1 ρ1 C1 e1 h1 n1 q => ⟨F1, C1, ρ1, DE, h1, n1, xr.mono e1, q, er.mono e1⟩, er.rt, er.bk, er.ct⟩⟩
theorem ds_consL (h1 : PS X st (tS X.K W a)) (h2 : PSs X rest (tS X.K W b)) : PSs X (st :: rest) (tS X.K W (wSeqL a b)) := ds_cons h1 h2
theorem ds_one (h1 : PS X st (tS X.K W a)) : PSs X [st] (tS X.K W a) := pss_one h1
theorem ds_pass : PS X (.Pass pos) (tS X.K W wNext) := PS.imp ps_pass fun D σ H ⟨F, C, ρ, DE, hs, en, xr, w, er⟩ => er.nx σ F H ρ C (Ex.refl F) hs en w
theorem ds_break : PS X (.Break pos) (tS X.K W wBreak) := PS.imp ps_break fun D σ H ⟨F, C, ρ, DE, hs, en, xr, w, er⟩ => er.bk σ F H ρ C (Ex.refl F) hs en w
theorem ds_continue : PS X (.Continue pos) (tS X.K W wCont) := PS.imp ps_continue fun D σ H ⟨F, C, ρ, DE, hs, en, xr, w, er⟩ => er.ct σ F H ρ C (Ex.refl F) hs en w
theorem ds_doc {x j pos'} : PS X (.Expr (.Constant (.str x) j pos) pos') (tS X.K W wNext) := PS.imp ps_doc fun D σ H ⟨F, C, ρ, DE, hs, en, xr, w, er⟩ => er.nx σ F H ρ C (Ex.refl F) hs en w
theorem ds_expr (he : PE X e (tE X.K W we)) (hs : swapsWith e none pos.line X.env = pure false := by rfl) : PS X (.Expr e pos) (tS X.K W (wDrop we)) := PS.imp (ps_expr he hs) fun D σ H ⟨F, C, ρ, DE, hs, en, xr, w, er⟩ =>
  ⟨F, C, ρ, _, _, hs, en, xr, w, fun v F1 H1 d C1 e1 h1 r q => er.nx σ F1 H1 ρ C1 e1 h1 (en.mono e1) q⟩
theorem ds_ret (he : PE X e (tE X.K W we)) : PS X (.Return (some e) pos) (tS X.K W (wRet we)) := PS.imp (ps_ret he) fun D σ H ⟨F, C, ρ, DE, hs, en, xr, w, er⟩ => ⟨F, C, ρ, _, _, hs, en, xr, w, er.rt⟩
theorem ds_retN : PS X (.Return none pos) (tS X.K W wRetN) := PS.imp ps_retN fun D σ H ⟨F, C, ρ, DE, hs, en, xr, w, er⟩ => er.rt _ F H _ C (Ex.refl F) hs .non w
theorem frz_rep {F H : Hp} {p : Addr} {o : HO} : ∀ {c : Cell}, H p = some o → F p = some o → RepC K F H p c → Rep K F (.ref p) c.toD
  | .lst ds, h, f, ⟨xs, q, r⟩ => by rw [h] at q; cases q; exact .lst (.of f) r
  | .dK ds, h, f, ⟨xs, q, r⟩ => by rw [h] at q; cases q; exact .dK f r
  | .dT ds, h, f, ⟨xs, q, r⟩ => by rw [h] at q; cases q; exact .dT f r
  | .ins _ ds, h, f, ⟨dx, xs, q, r⟩ => by rw [h] at q; cases q; exact .ins f r
theorem frz_go {F H : Hp} {C C2 : Cells} {p : Addr} {c : Cell} (h : Hs K F C H) (e : C p = some c) (s : Sub C2 C) (n : C2 p = none) :
    ∃ F2, Ex F F2 ∧ Hs K F2 C2 H ∧ Rep K F2 (.ref p) c.toD := by
  obtain ⟨o, ho, ex, h2, f, r⟩ := h.freeze e s n
  exact ⟨_, ex, h2, frz_rep ho f (r.ex ex)⟩
theorem ds_retF (he : PE X e (tE X.K W we)) : PS X (.Return (some e) pos) (tS X.K W (wRetF we)) := PS.imp (ps_ret he) fun D σ H ⟨F, C, ρ, DE, hs, en, xr, w, er⟩ => ⟨F, C, ρ, _, _, hs, en, xr, w, fun v F1 H1 d C1 e1 h1 r q => by
    cases r <;> first
      | (exact er.rt _ F1 H1 _ C1 e1 h1 (by constructor <;> assumption) q)
      | (rename_i p
         revert q
         show (match C1 p with | some (.lst ds) => _ | some (.dK ds) => _ | some (.dT ds) => _ | some (.ins Cl ds) => _ | none => False) → _
         cases ec : C1 p with
         | none => exact fun z => z.elim
         | some c =>
           cases c <;>
           (rintro ⟨C2, s2, n2, q⟩
            obtain ⟨F2, e2, h2, r2⟩ := frz_go h1 ec s2 n2
            exact er.rt _ F2 H1 _ C2 (e1.trans e2) h2 r2 q))⟩
theorem ds_frz {w : DS} (h : PSs X rest (tS X.K W w)) (i : Nat) : PSs X rest (tS X.K W (wSeq (wFrz i) w)) := PSs.imp h fun Dn σ H ⟨F, C, ρ, DE, hs, en, xr, q, er⟩ => by
  revert q
  show (match (ρ[i]? : Option (Option D)) with | some (some (.ptr p)) => _ | _ => False) → _
  split
  · rename_i p hp
    obtain ⟨v, hv, rv⟩ := en.2 i _ hp
    cases rv
    show (match C p with | some (.lst ds) => _ | some (.dK ds) => _ | some (.dT ds) => _ | some (.ins Cl ds) => _ | none => False) → _
    cases ec : C p with
    | none => exact fun z => z.elim
    | some c =>
      cases c <;>
      (rintro ⟨C2, s2, n2, q⟩
       obtain ⟨F2, e2, h2, r2⟩ := frz_go hs ec s2 n2
       have en2 := (en.mono e2).set (i := i) r2
       have es : σ.set i (some (.ref p)) = σ := by
         refine List.ext_getElem? fun j => ?_
         by_cases ij : i = j
         · subst ij
           have hl : i < σ.length := by
             rcases Nat.lt_or_ge i σ.length with z | z
             · exact z
             · rw [List.getElem?_eq_none z] at hv; cases hv
           rw [List.getElem?_set_self hl, hv]
         · rw [List.getElem?_set_ne ij]
       rw [es] at en2
       exact ⟨F2, C2, _, DE, h2, en2, xr.mono e2, q, er.mono e2⟩)
  · exact fun z => z.elim
theorem ds_if {c : Expr} {p q : List Stmt} (hc : PT X c (tT X.K W t)) (ha : PSs X p (tS X.K W a)) (hb : PSs X q (tS X.K W b)) : PS X (.If c p q pos) (tS X.K W (wIfS t a b)) := PS.imp (ps_if hc ha hb) fun D σ H ⟨F, C, ρ, DE, hs, en, xr, w, er⟩ =>
  ⟨F, C, ρ, _, _, hs, en, xr, w, fun k F1 H1 C1 e1 h1 q => by
    cases k with
    | true =>
      rw [if_pos rfl] at q
      rw [if_pos rfl]
      exact ⟨F1, C1, ρ, DE, h1, en.mono e1, xr.mono e1, q, er.mono e1⟩
    | false =>
      rw [if_neg Bool.false_ne_true] at q
      rw [if_neg Bool.false_ne_true]
      exact ⟨F1, C1, ρ, DE, h1, en.mono e1, xr.mono e1, q, er.mono e1⟩⟩
end

/-! ### targets -/
inductive Tgt where
  | name (i : Nat)
  | tup (ts : List Tgt)
mutual
def Tgt.tg (K : PySem.W.Frag) : Tgt → TG
  | .name i => gName i
  | .tup ts => gTup K ts.length (tgs K ts)
def tgs (K : PySem.W.Frag) : List Tgt → TGs
  | [] => gNil
  | t :: r => gCons (t.tg K) (tgs K r)
end
mutual
def Tgt.dg : Tgt → D → DEnv → Option DEnv
  | .name i, d, ρ => some (ρ.set i (some d))
  | .tup ts, d, ρ => match d with
    | .tup ds => dgs ts ds ρ
    | _ => none
def dgs : List Tgt → List D → DEnv → Option DEnv
  | [], ds, ρ => match ds with
    | [] => some ρ
    | _ => none
  | t :: r, ds, ρ => match ds with
    | d :: ds => match t.dg d ρ with
      | some ρ' => dgs r ds ρ'
      | none => none
    | [] => none
end
mutual
def Tgt.slots : Tgt → List Nat
  | .name i => [i]
  | .tup ts => slotsAll ts
def slotsAll : List Tgt → List Nat
  | [] => []
  | t :: r => t.slots ++ slotsAll r
end
theorem wipe_at (σ : L2.St) : ∀ (vs : List Nat) (j : Nat), (wipe σ vs)[j]? = if j ∈ vs then (σ[j]?).map (fun _ => none) else σ[j]?
  | [], j => by simp [wipe]
  | v :: vs, j => by
    show ((wipe σ vs).set v none)[j]? = _
    rw [List.getElem?_set, wipe_at σ vs j, wipe_length]
    by_cases h : v = j
    · subst h
      rw [if_pos rfl, if_pos (List.mem_cons_self)]
      by_cases hl : v < σ.length
      · rw [if_pos hl, List.getElem?_eq_getElem hl]; rfl
      · rw [if_neg hl, List.getElem?_eq_none (by omega)]; rfl
    · rw [if_neg h]
      by_cases hm : j ∈ vs
      · rw [if_pos hm, if_pos (List.mem_cons_of_mem _ hm)]
      · rw [if_neg hm, if_neg (by simp only [List.mem_cons, not_or]; exact ⟨fun e => h e.symm, hm⟩)]
theorem wipe_set {σ : L2.St} {vs : List Nat} {i : Nat} {x : Option V} (h : i ∈ vs) : wipe (σ.set i x) vs = wipe σ vs := by
  refine List.ext_getElem? fun j => ?_
  rw [wipe_at, wipe_at]
  by_cases hj : j ∈ vs
  · rw [if_pos hj, if_pos hj, List.getElem?_set]
    by_cases e : i = j
    · subst e
      rw [if_pos rfl]
      by_cases hl : i < σ.length
      · rw [if_pos hl, List.getElem?_eq_getElem hl]; rfl
      · rw [if_neg hl, List.getElem?_eq_none (by omega)]
    · rw [if_neg e]
  · rw [if_neg hj, if_neg hj, List.getElem?_set_ne (fun e => hj (by rw [← e]; exact h))]
theorem wipe_wipe (σ : L2.St) (vs : List Nat) : wipe (wipe σ vs) vs = wipe σ vs := by
  refine List.ext_getElem? fun j => ?_
  rw [wipe_at, wipe_at]
  by_cases hj : j ∈ vs
  · rw [if_pos hj, if_pos hj]
    cases σ[j]? <;> rfl
  · rw [if_neg hj, if_neg hj]
section
variable {K : PySem.W.Frag} {F H : Hp}
mutual
theorem tg_ok {Q : L2.St → Hp → Prop} : ∀ (t : Tgt) {v : V} {d : D} {σ : L2.St} {ρ ρ' : DEnv}, Ex F H → Rep K F v d → EnvR K F σ ρ → t.dg d ρ = some ρ' → (∀ σ', EnvR K F σ' ρ' → (∀ vs, (∀ i ∈ t.slots, i ∈ vs) → wipe σ' vs = wipe σ vs) → Q σ' H) → (t.tg K) v σ H Q
  | .name i, v, d, σ, ρ, ρ', ex, r, en, h, k => by
    simp only [Tgt.dg, Option.some.injEq] at h
    subst h
    show Q (σ.set i (some v)) H
    exact k _ (en.set r) fun vs hv => wipe_set (hv i (by simp [Tgt.slots]))
  | .tup ts, v, d, σ, ρ, ρ', ex, r, en, h, k => by
    simp only [Tgt.dg] at h
    cases r <;> first | (simp at h; done) | skip
    rename_i a xs ds hq hr
    simp only at h
    simp only [Tgt.tg]
    refine ⟨a, xs, rfl, ex_t ex hq, ?_, tgs_ok ts ex hr en h (fun σ' e' hw => k σ' e' (by simpa only [Tgt.slots] using hw))⟩
    rw [hr.length]
    exact dgs_len ts h
theorem tgs_ok {Q : L2.St → Hp → Prop} : ∀ (ts : List Tgt) {vs : List V} {ds : List D} {σ : L2.St} {ρ ρ' : DEnv}, Ex F H → RepL K F vs ds → EnvR K F σ ρ → dgs ts ds ρ = some ρ' → (∀ σ', EnvR K F σ' ρ' → (∀ ws, (∀ i ∈ slotsAll ts, i ∈ ws) → wipe σ' ws = wipe σ ws) → Q σ' H) → (tgs K ts) vs σ H Q
  | [], vs, ds, σ, ρ, ρ', ex, r, en, h, k => by
    cases r with
    | nil =>
      simp only [dgs, Option.some.injEq] at h
      subst h
      simp only [tgs]
      exact ⟨rfl, k σ en fun _ _ => rfl⟩
    | cons _ _ => simp [dgs] at h
  | t :: rest, vs, ds, σ, ρ, ρ', ex, r, en, h, k => by
    cases r with
    | nil => simp [dgs] at h
    | cons r1 r2 =>
      simp only [dgs] at h
      split at h
      · rename_i ρ1 h1
        simp only [tgs]
        refine ⟨_, _, rfl, tg_ok t ex r1 en h1 fun σ1 en1 hw1 => tgs_ok rest ex r2 en1 h fun σ2 en2 hw2 => k σ2 en2 fun ws hin => ?_⟩
        simp only [slotsAll, List.mem_append] at hin
        rw [hw2 ws (fun i hi => hin i (.inr hi)), hw1 ws (fun i hi => hin i (.inl hi))]
      · cases h
theorem dgs_len : ∀ (ts : List Tgt) {ds : List D} {ρ ρ' : DEnv}, dgs ts ds ρ = some ρ' → ds.length = ts.length
  | [], ds, ρ, ρ', h => by
    cases ds with
    | nil => rfl
    | cons _ _ => simp [dgs] at h
  | t :: rest, ds, ρ, ρ', h => by
    cases ds with
    | nil => simp [dgs] at h
    | cons d ds =>
      simp only [dgs] at h
      split at h
      · exact congrArg (· + 1) (dgs_len rest h)
      · cases h
end
end
section
variable {X : Cx} {pos : Pos}
theorem dg_name {x : Str} (i : Nat) (hN : X.N.Nodup) (hi : X.N[i]? = some x := by rfl) (hx : Loc X.env.scope x := by first | exact Or.inl rfl | exact Or.inr rfl) (hf : X.fn x = true ∨ X.env.scope.names.lookup x = some .local := by first | exact .inl rfl | exact .inr rfl | assumption) : PG X (.Name x pos) (Tgt.tg X.K (.name i)) := by
  simp only [Tgt.tg]
  exact pg_name hN hi hx hf
theorem dgs_nil : PGs X [] (tgs X.K []) := by
  simp only [tgs]
  exact pgs_nil
theorem dgs_cons {e : Expr} {es : List Expr} {t : Tgt} {r : List Tgt} (h1 : PG X e (t.tg X.K)) (h2 : PGs X es (tgs X.K r))
    (hs : (assignEach (e :: es) X.env).map (·.2) = assign e X.env :: (assignEach es X.env).map (·.2) := by rfl) : PGs X (e :: es) (tgs X.K (t :: r)) := by
  simp only [tgs]
  exact pgs_cons h1 h2 hs
theorem dg_tup {es : List Expr} {k : Nat} {ts : List Tgt} (hc : X.calm = true) (h : PGs X es (tgs X.K ts))
    (hn : (assignEach es X.env).length = ts.length := by rfl) (hst : (assignEach es X.env).findIdx? (·.1) = none := by rfl) : PG X (.Tuple es k pos) (Tgt.tg X.K (.tup ts)) := by
  simp only [Tgt.tg]
  exact pg_tup hc h hn hst
end
/-- target = e -/
def wAsg (e : DE) (t : Tgt) (E : DEnds) (ρ : DEnv) (C : Cells) : Prop := e ρ C (fun d C1 => match t.dg d ρ with | some ρ' => E.nx ρ' C1 | none => False) E.ex
def wSet (i : Nat) (e : DE) (E : DEnds) (ρ : DEnv) (C : Cells) : Prop := e ρ C (fun d C1 => E.nx (ρ.set i (some d)) C1) E.ex
/-- name op= e -/
def wAug (i : Nat) (e : DE) (r : DR2) (E : DEnds) (ρ : DEnv) (C : Cells) : Prop := match (ρ[i]? : Option (Option D)) with
  | some (some x) => e ρ C (fun y C1 => r x y C1 (fun z C2 => E.nx (ρ.set i (some z)) C2)) E.ex
  | _ => False
section
variable {X : Cx} {W : WX} {K : PySem.W.Frag} {e : Expr} {we : DE} {pos : Pos}
theorem ds_asg {tg : Expr} {t : Tgt} (he : PE X e (tE X.K W we)) (hg : PG X tg (t.tg X.K)) (hs : swapsWithSole [tg] e pos.line X.env = pure false := by rfl) (hw : swappedStores [tg] e X.env = pure none := by rfl)
    (h1 : (assignEach [tg] X.env).map (·.2) = [assign tg X.env] := by rfl) : PS X (.Assign [tg] e pos) (tS X.K W (wAsg we t)) := PS.imp (ps_asg he hg hs hw h1) fun D σ H ⟨F, C, ρ, DE, hs, en, xr, w, er⟩ =>
  ⟨F, C, ρ, _, _, hs, en, xr, w, fun v F1 H1 d C1 e1 h1 r q => by
    revert q
    dsimp only
    split
    · rename_i ρ' hd
      exact fun q => tg_ok t h1.ex r (en.mono e1) hd fun σ' en' _ => er.nx σ' F1 H1 ρ' C1 e1 h1 en' q
    · exact fun z => z.elim⟩
/-- name = e -/
theorem ds_set (i : Nat) {x : Str} {pos' : Pos} (hN : X.N.Nodup) (he : PE X e (tE X.K W we)) (hi : X.N[i]? = some x := by rfl) (hx : Loc X.env.scope x := by first | exact Or.inl rfl | exact Or.inr rfl) (hs : swapsWith e (some (.Name x pos')) pos.line X.env = pure false := by rfl) (hf : X.fn x = true ∨ X.env.scope.names.lookup x = some .local := by first | exact .inl rfl | exact .inr rfl | assumption) :
    PS X (.Assign [.Name x pos'] e pos) (tS X.K W (wSet i we)) := PS.imp (ps_set hN hi hx he hs hf) fun D σ H ⟨F, C, ρ, DE, hs, en, xr, w, er⟩ =>
  ⟨F, C, ρ, _, _, hs, en, xr, w, fun v F1 H1 d C1 e1 h1 r q => er.nx _ F1 H1 _ C1 e1 h1 ((en.mono e1).set r) q⟩
theorem ds_aug (i : Nat) {x : Str} {op : Operator} {ti : TIp} {rd : DR2} {pos' : Pos} (hN : X.N.Nodup) (ho : PIp X op ti) (hr : SimR X.K ti rd) (he : PE X e (tE X.K W we)) (hi : X.N[i]? = some x := by rfl) (hx : Loc X.env.scope x := by first | exact Or.inl rfl | exact Or.inr rfl) (hf : X.fn x = true ∨ X.env.scope.names.lookup x = some .local := by first | exact .inl rfl | exact .inr rfl | assumption) :
    PS X (.AugAssign (.Name x pos') op e pos) (tS X.K W (wAug i we rd)) := PS.imp (ps_aug hN hi hx he ho hf) fun Dn σ H ⟨F, C, ρ, DE, hs, en, xr, w, er⟩ => by
  revert w
  show (match (ρ[i]? : Option (Option D)) with | some (some x) => _ | _ => False) → _
  split
  · rename_i x hx
    intro w
    obtain ⟨v, hv, rv⟩ := en.2 i _ hx
    exact ⟨v, hv, F, C, ρ, _, _, hs, en, xr, w, fun u F1 H1 d C1 e1 h1 r q => hr F1 C1 H1 v u x d _ _ h1 (rv.mono e1) r q fun z F2 H2 dz C2 e2 h2 rz q2 => er.nx _ F2 H2 _ C2 (e1.trans e2) h2 ((en.mono (e1.trans e2)).set rz) q2⟩
  · exact fun z => z.elim
theorem s_ipAdd : SimR K (ipI fun i j => i + j) dAdd := fun F C H x y dx dy P Q hs rx ry w k => by
  cases rx <;> cases ry <;> first | exact w.elim | exact ⟨_, _, rfl, rfl, k _ F H _ C (Ex.refl F) hs (.int _) w⟩
theorem s_ipSub : SimR K (ipI fun i j => i - j) dSub := fun F C H x y dx dy P Q hs rx ry w k => by
  cases rx <;> cases ry <;> first | exact w.elim | exact ⟨_, _, rfl, rfl, k _ F H _ C (Ex.refl F) hs (.int _) w⟩
end

/-! ### what is walked -/
structure DIt where
  items : List D
  still : Cells → Prop
abbrev DI := DEnv → Cells → (DIt → Cells → Prop) → DX → Prop
def ItR (K : PySem.W.Frag) (F : Hp) (J : It) (Jd : DIt) : Prop := ∀ F' H C, Ex F F' → Hs K F' C H → Jd.still C →
  (∀ (i : Nat) (d : D), Jd.items[i]? = some d → J.go i H ∧ ∀ x H', J.yld i H x H' → ∃ F'', Ex F' F'' ∧ Hs K F'' C H' ∧ Rep K F'' x d) ∧ J.stop Jd.items.length H
theorem ItR.mono {K : PySem.W.Frag} {F F' : Hp} {J : It} {Jd : DIt} (e : Ex F F') (h : ItR K F J Jd) : ItR K F' J Jd := fun F1 H C e1 => h F1 H C (e.trans e1)
def tI (K : PySem.W.Frag) (W : WX) (w : DI) : TI := fun σ H R => ∃ F C ρ P PX, Hs K F C H ∧ EnvR K F σ ρ ∧ ExR K F W PX ∧ w ρ C P PX ∧ ∀ J F' H' Jd C', Ex F F' → Hs K F' C' H' → ItR K F' J Jd → P Jd C' → R J H'
theorem PI.imp {X : Cx} {tg it : Expr} {t t' : TI} (h : PI X tg it t) (i : ∀ σ H R, t' σ H R → t σ H R) : PI X tg it t' := ⟨fun pins s σ H R I w => h.run pins s σ H R I (i σ H R w)⟩
def frozen : Cells → Prop := fun _ => True
/-- a list, frozen or a cell -/
def wItL (e : DE) (ρ : DEnv) (C : Cells) (P : DIt → Cells → Prop) (PX : DX) : Prop := e ρ C (fun d C1 => match d with
  | .lst ds => P ⟨ds, frozen⟩ C1
  | .ptr a => match C1 a with
    | some (.lst ds) => P ⟨ds, fun C' => C' a = some (.lst ds)⟩ C1
    | _ => False
  | _ => False) PX
def wItT (e : DE) (ρ : DEnv) (C : Cells) (P : DIt → Cells → Prop) (PX : DX) : Prop := e ρ C (fun d C1 => match d with
  | .tup ds => P ⟨ds, frozen⟩ C1
  | _ => False) PX
def rngD (lo : Int) (n : Nat) : List D := (List.range n).map fun (k : Nat) => D.int (lo + (k : Int))
def wRng1 (a : DA) (ρ : DEnv) (C : Cells) (P : DIt → Cells → Prop) (PX : DX) : Prop := a ρ C (fun ds C1 => match ds with
  | [.int j] => (-(2 ^ 62) ≤ j ∧ j < 2 ^ 62) ∧ P ⟨rngD 0 j.toNat, frozen⟩ C1
  | _ => False) PX
def wRng2 (a : DA) (ρ : DEnv) (C : Cells) (P : DIt → Cells → Prop) (PX : DX) : Prop := a ρ C (fun ds C1 => match ds with
  | [.int i, .int j] => (-(2 ^ 62) ≤ i ∧ i < 2 ^ 62 ∧ -(2 ^ 62) ≤ j ∧ j < 2 ^ 62) ∧ P ⟨rngD i (j - i).toNat, frozen⟩ C1
  | _ => False) PX
theorem rngD_len (lo : Int) (n : Nat) : (rngD lo n).length = n := by simp [rngD]
theorem rngD_get {lo : Int} {n i : Nat} {d : D} (h : (rngD lo n)[i]? = some d) : i < n ∧ d = .int (lo + (i : Int)) := by
  unfold rngD at h
  rw [List.getElem?_map] at h
  rcases Nat.lt_or_ge i n with z | z
  · rw [List.getElem?_range z] at h
    exact ⟨z, (Option.some.inj h).symm⟩
  · rw [List.getElem?_eq_none (by simpa using z)] at h; cases h
section
variable {X : Cx} {W : WX} {K : PySem.W.Frag} {e tg : Expr} {we : DE} {wr : DA} {pos : Pos}
theorem itr_lst {F : Hp} {a : Addr} {xs : List V} {ds : List D} (h : SqL K F a xs) (r : RepL K F xs ds) : ItR K F (Itl K a) ⟨ds, frozen⟩ := fun F' H C e hs _ => by
  have hH : SqL K H a xs := ex_l hs.ex (ex_l e h)
  refine ⟨fun i d hd => ?_, ⟨xs, hH, by rw [r.length]; exact Nat.le_refl _⟩⟩
  obtain ⟨v, hv, rv⟩ := r.get hd
  refine ⟨⟨xs, v, hH, hv⟩, fun x H' y => ?_⟩
  obtain ⟨rfl, y⟩ := y
  have := y xs hH
  rw [hv] at this
  cases this
  exact ⟨F', Ex.refl _, hs, rv.mono e⟩
theorem itr_cell {F : Hp} {a : Addr} {ds : List D} : ItR K F (Itl K a) ⟨ds, fun C' => C' a = some (.lst ds)⟩ := fun F' H C e hs hc => by
  obtain ⟨_, xs, hx, r⟩ := hs.cell a _ hc
  have hH : SqL K H a xs := .of hx
  refine ⟨fun i d hd => ?_, ⟨xs, hH, by rw [r.length]; exact Nat.le_refl _⟩⟩
  obtain ⟨v, hv, rv⟩ := r.get hd
  refine ⟨⟨xs, v, hH, hv⟩, fun x H' y => ?_⟩
  obtain ⟨rfl, y⟩ := y
  have := y xs hH
  rw [hv] at this
  cases this
  exact ⟨F', Ex.refl _, hs, rv⟩
theorem itr_tup {F : Hp} {a : Addr} {xs : List V} {ds : List D} (h : SqT K F a xs) (r : RepL K F xs ds) : ItR K F (Itt K a) ⟨ds, frozen⟩ := fun F' H C e hs _ => by
  have hH : SqT K H a xs := ex_t hs.ex (ex_t e h)
  refine ⟨fun i d hd => ?_, ⟨xs, hH, by rw [r.length]; exact Nat.le_refl _⟩⟩
  obtain ⟨v, hv, rv⟩ := r.get hd
  refine ⟨⟨xs, v, hH, hv⟩, fun x H' y => ?_⟩
  obtain ⟨rfl, y⟩ := y
  have := y xs hH
  rw [hv] at this
  cases this
  exact ⟨F', Ex.refl _, hs, rv.mono e⟩
theorem itr_rng {F : Hp} {lo : Int} {n : Nat} : ItR K F (Itr lo n) ⟨rngD lo n, frozen⟩ := fun F' H C e hs _ => by
  refine ⟨fun i d hd => ?_, by show n ≤ (rngD lo n).length; rw [rngD_len]; exact Nat.le_refl _⟩
  obtain ⟨hi, rfl⟩ := rngD_get hd
  refine ⟨hi, fun x H' y => ?_⟩
  obtain ⟨rfl, rfl⟩ := y
  exact ⟨F', Ex.refl _, hs, .int _⟩
theorem di_list (he : PE X e (tE X.K W we)) : PI X tg e (tI X.K W (wItL we)) := PI.imp (pi_list he) fun σ H R ⟨F, C, ρ, P, PX, hs, en, xr, w, k⟩ =>
  ⟨F, C, ρ, _, PX, hs, en, xr, w, fun v F1 H1 d C1 e1 h1 r q => by
    cases r <;> first | exact q.elim | skip
    · rename_i a xs ds hq hr
      exact ⟨a, rfl, ⟨xs, ex_l h1.ex hq⟩, k _ F1 H1 _ C1 e1 h1 (itr_lst hq hr) q⟩
    · rename_i a
      revert q
      dsimp only
      split
      · rename_i ds hc
        intro q
        obtain ⟨_, xs, hx, r⟩ := h1.cell a _ hc
        exact ⟨a, rfl, ⟨xs, .of hx⟩, k _ F1 H1 _ C1 e1 h1 itr_cell q⟩
      · exact fun z => z.elim⟩
theorem di_tup (he : PE X e (tE X.K W we)) : PI X tg e (tI X.K W (wItT we)) := PI.imp (pi_tup he) fun σ H R ⟨F, C, ρ, P, PX, hs, en, xr, w, k⟩ =>
  ⟨F, C, ρ, _, PX, hs, en, xr, w, fun v F1 H1 d C1 e1 h1 r q => by
    cases r <;> first | exact q.elim | skip
    rename_i a xs ds hq hr
    exact ⟨a, rfl, ⟨xs, ex_t h1.ex hq⟩, k _ F1 H1 _ C1 e1 h1 (itr_tup hq hr) q⟩⟩
theorem di_rng1 {a : Expr} {p : Pos} (hg : Gl X "range") (hm : X.mg "range" = none) (ha : PA X [a] (tA X.K W wr)) (hs : starEach [a] X.env = [(false, eval a X.env)] := by rfl) : PI X tg (.Call (.Name "range" p) [a] [] pos) (tI X.K W (wRng1 wr)) :=
  PI.imp (pi_range1 hg hm ha hs) fun σ H R ⟨F, C, ρ, P, PX, hs, en, xr, w, k⟩ => ⟨F, C, ρ, _, PX, hs, en, xr, w, fun v F1 H1 d C1 e1 h1 r q => by
    revert q
    dsimp only
    split
    · intro q
      rename_i j
      cases r with
      | cons r1 r2 =>
        cases r1; cases r2
        exact ⟨j, rfl, q.1.1, q.1.2, k _ F1 H1 _ C1 e1 h1 itr_rng q.2⟩
    · exact fun z => z.elim⟩
theorem di_rng2 {a b : Expr} {p : Pos} (hg : Gl X "range") (hm : X.mg "range" = none) (ha : PA X [a, b] (tA X.K W wr)) (hs : starEach [a, b] X.env = [(false, eval a X.env), (false, eval b X.env)] := by rfl) (hs2 : starEach [b] X.env = [(false, eval b X.env)] := by rfl) : PI X tg (.Call (.Name "range" p) [a, b] [] pos) (tI X.K W (wRng2 wr)) :=
  PI.imp (pi_range2 hg hm ha hs hs2) fun σ H R ⟨F, C, ρ, P, PX, hs, en, xr, w, k⟩ => ⟨F, C, ρ, _, PX, hs, en, xr, w, fun v F1 H1 d C1 e1 h1 r q => by
    revert q
    dsimp only
    split
    · intro q
      rename_i i j
      cases r with
      | cons r1 r2 =>
        cases r1
        cases r2 with
        | cons r2 r3 =>
          cases r2; cases r3
          exact ⟨i, j, rfl, q.1, k _ F1 H1 _ C1 e1 h1 itr_rng q.2⟩
    · exact fun z => z.elim⟩
end

/-! ### loops -/
def ForG (J : DIt) (t : Tgt) (b : DS) (E : DEnds) (ρ : DEnv) (C1 : Cells) : Prop := ∃ Inv : Nat → DEnv → Cells → Prop, Inv 0 ρ C1 ∧ (∀ i ρ' C', Inv i ρ' C' → J.still C') ∧
  (∀ i d ρ' C', J.items[i]? = some d → Inv i ρ' C' → match t.dg d ρ' with
    | some ρ2 => b { nx := Inv (i + 1), ct := Inv (i + 1), bk := E.nx, rt := E.rt, ex := E.ex } ρ2 C'
    | none => False) ∧
  (∀ ρ' C', Inv J.items.length ρ' C' → E.nx ρ' C')
def wFor (wi : DI) (t : Tgt) (b : DS) (E : DEnds) (ρ : DEnv) (C : Cells) : Prop := wi ρ C (fun J C1 => ForG J t b E ρ C1) E.ex
def wWhile (t : DT) (b : DS) (E : DEnds) (ρ : DEnv) (C : Cells) : Prop := ∃ Inv : Nat → DEnv → Cells → Prop, (∃ m, Inv m ρ C) ∧ ∀ m ρ' C', Inv m ρ' C' → t ρ' C' (fun k C1 => if k = true then
    b { nx := fun ρ2 C2 => ∃ m', m' < m ∧ Inv m' ρ2 C2, ct := fun ρ2 C2 => ∃ m', m' < m ∧ Inv m' ρ2 C2, bk := E.nx, rt := E.rt, ex := E.ex } ρ' C1 else E.nx ρ' C1) E.ex
section
variable {X : Cx} {W : WX} {wb : DS} {pos : Pos}
theorem ds_for {tg iter : Expr} {body : List Stmt} {wi : DI} {t : Tgt} (hp : PassesOwn (model X.prog X.w) X.A X.env X.xe) (hc : X.calm = true) (hi : PI X tg iter (tI X.K W wi)) (hg : PG X tg (t.tg X.K)) (hb : PSs X body (tS X.K W wb))
    (hs : ∀ x, foldedSetIterable iter X.env x = pure x := by intro _; rfl) : PS X (.For tg iter body [] pos) (tS X.K W (wFor wi t wb)) := PS.imp (ps_for hp hc hi hg hb hs) fun D σ H ⟨F, C, ρ, DE, hs, en, xr, w, er⟩ =>
  ⟨F, C, ρ, _, _, hs, en, xr, w, fun J F1 H1 Jd C1 e1 h1 ir q => by
    obtain ⟨Inv, i0, st, turn, done⟩ := q
    refine ⟨fun i m σ' H' => m = Jd.items.length - i ∧ i ≤ Jd.items.length ∧ ∃ F' ρ' C', Ex F1 F' ∧ Hs X.K F' C' H' ∧ EnvR X.K F' σ' ρ' ∧ Inv i ρ' C', ⟨_, rfl, Nat.zero_le _, F1, ρ, C1, Ex.refl _, h1, en.mono e1, i0⟩, ?_⟩
    rintro i m σ' H' ⟨rfl, hl, F', ρ', C', e', h', n', p⟩
    obtain ⟨go, stop⟩ := ir F' H' C' e' h' (st i ρ' C' p)
    by_cases hi : i = Jd.items.length
    · subst hi
      exact .inl ⟨stop, er.nx σ' F' H' ρ' C' (e1.trans e') h' n' (done ρ' C' p)⟩
    · have hlt : i < Jd.items.length := by omega
      have hd : Jd.items[i]? = some Jd.items[i] := List.getElem?_eq_getElem hlt
      obtain ⟨g1, g2⟩ := go i _ hd
      have q := turn i _ ρ' C' hd p
      refine .inr ⟨g1, fun σ2 H2 => ∃ F2 ρ2 C2, Ex F' F2 ∧ Hs X.K F2 C2 H2 ∧ EnvR X.K F2 σ2 ρ2 ∧ Inv (i + 1) ρ2 C2, ?_, ?_⟩
      · rintro σ2 H2 ⟨F2, ρ2, C2, e2, h2, n2, p2⟩
        exact ⟨_, by omega, rfl, hlt, F2, ρ2, C2, e'.trans e2, h2, n2, p2⟩
      · intro x H2 hy
        obtain ⟨F2, e2, h2, rx⟩ := g2 x H2 hy
        revert q
        split
        · rename_i ρ2 hdg
          intro q
          refine tg_ok t h2.ex rx (n'.mono e2) hdg fun σ2 en2 _ => ?_
          exact ⟨F2, C', ρ2, { nx := Inv (i + 1), ct := Inv (i + 1), bk := DE.nx, rt := DE.rt, ex := DE.ex }, h2, en2, xr.mono ((e1.trans e').trans e2), q, ⟨fun σ3 F3 H3 ρ3 C3 e3 h3 n3 p3 => ⟨F3, ρ3, C3, e2.trans e3, h3, n3, p3⟩, er.rt.mono ((e1.trans e').trans e2), er.nx.mono ((e1.trans e').trans e2), fun σ3 F3 H3 ρ3 C3 e3 h3 n3 p3 => ⟨F3, ρ3, C3, e2.trans e3, h3, n3, p3⟩⟩⟩
        · exact fun z => z.elim⟩
theorem ds_while {c : Expr} {body : List Stmt} {t : DT} (hp : PassesOwn (model X.prog X.w) X.A X.env X.xe) (hc : PT X c (tT X.K W t)) (hb : PSs X body (tS X.K W wb)) : PS X (.While c body [] pos) (tS X.K W (wWhile t wb)) := PS.imp (ps_while hp hc hb) fun D σ H ⟨F, C, ρ, DE, hs, en, xr, w, er⟩ => by
  obtain ⟨Inv, ⟨m0, i0⟩, turn⟩ := w
  refine ⟨fun m σ' H' => ∃ F' ρ' C', Ex F F' ∧ Hs X.K F' C' H' ∧ EnvR X.K F' σ' ρ' ∧ Inv m ρ' C', ⟨m0, F, ρ, C, Ex.refl _, hs, en, i0⟩, ?_⟩
  rintro m σ' H' ⟨F', ρ', C', e', h', n', p⟩
  refine ⟨F', C', ρ', _, _, h', n', xr.mono e', turn m ρ' C' p, fun k F1 H1 C1 e1 h1 q => ?_⟩
  cases k with
  | true =>
    rw [if_pos rfl] at q
    rw [if_pos rfl]
    refine ⟨fun σ2 H2 => ∃ m', m' < m ∧ ∃ F2 ρ2 C2, Ex F F2 ∧ Hs X.K F2 C2 H2 ∧ EnvR X.K F2 σ2 ρ2 ∧ Inv m' ρ2 C2, fun _ _ z => z, ?_⟩
    exact ⟨F1, C1, ρ', { nx := fun ρ2 C2 => ∃ m', m' < m ∧ Inv m' ρ2 C2, ct := fun ρ2 C2 => ∃ m', m' < m ∧ Inv m' ρ2 C2, bk := DE.nx, rt := DE.rt, ex := DE.ex }, h1, n'.mono e1, xr.mono (e'.trans e1), q, ⟨fun σ3 F3 H3 ρ3 C3 e3 h3 n3 ⟨m', hm, p3⟩ => ⟨m', hm, F3, ρ3, C3, (e'.trans e1).trans e3, h3, n3, p3⟩, er.rt.mono (e'.trans e1), er.nx.mono (e'.trans e1), fun σ3 F3 H3 ρ3 C3 e3 h3 n3 ⟨m', hm, p3⟩ => ⟨m', hm, F3, ρ3, C3, (e'.trans e1).trans e3, h3, n3, p3⟩⟩⟩
  | false =>
    rw [if_neg Bool.false_ne_true] at q
    rw [if_neg Bool.false_ne_true]
    exact er.nx σ' F1 H1 ρ' C1 (e'.trans e1) h1 (n'.mono e1) q
end
end DD

set_option Elab.async false
set_option linter.all false
set_option maxRecDepth 100000
set_option maxHeartbeats 4000000
/-! Readings over data: calls of defs, classes, attributes; a def keeps its promise. -/
namespace DD
open PySem L2 PyProof.Rows

abbrev DSp := List D → Cells → DK → Prop
abbrev XC := Value → List (String × D) → Cells → Prop
abbrev DSpX := List D → Cells → DK → XC → Prop
def KontX (K : PySem.W.Frag) (F : Hp) (PX : XC) (E : XK) : Prop := ∀ cls d fs F' H C, Ex F F' → Hs K F' C H → XRep K F' H d fs → PX cls fs C → E cls d H
/-- a promise over data; of a def that may raise -/
def spD (K : PySem.W.Frag) (R : DSp) : Sp := fun vs H Q _ => ∃ F C ds P, Hs K F C H ∧ RepL K F vs ds ∧ R ds C P ∧ Kont K F P Q
def spX (K : PySem.W.Frag) (R : DSpX) : Sp := fun vs H Q E => ∃ F C ds P PX, Hs K F C H ∧ RepL K F vs ds ∧ R ds C P PX ∧ Kont K F P Q ∧ KontX K F PX E

/-! ### calls -/
def wCall (R : DSp) (dd : List D) (a : DA) (ρ : DEnv) (C : Cells) (P : DK) (PX : DX) : Prop := a ρ C (fun ds C1 => R (ds ++ dd) C1 P) PX
def wCallX (R : DSpX) (dd : List D) (a : DA) (ρ : DEnv) (C : Cells) (P : DK) (PX : DX) : Prop := a ρ C (fun ds C1 => R (ds ++ dd) C1 P (fun cls fs C2 => PX cls fs ρ C2)) PX
/-- it is an instance of the class at Cl without an attribute of this name of its own -/
def isIns (Cl : Addr) (m : String) (o : D) (C : Cells) : Prop := match o with
  | .ins c fs => c = Cl ∧ fs.lookup m = none
  | .ptr p => match C p with
    | some (.ins c fs) => c = Cl ∧ fs.lookup m = none
    | _ => False
  | _ => False
def wMeth (Cl : Addr) (m : String) (R : DSp) (dd : List D) (o : DE) (a : DA) (ρ : DEnv) (C : Cells) (P : DK) (PX : DX) : Prop := o ρ C (fun x C1 => isIns Cl m x C1 ∧ a ρ C1 (fun ds C2 => R (x :: (ds ++ dd)) C2 P) PX) PX
def wMethX (Cl : Addr) (m : String) (R : DSpX) (dd : List D) (o : DE) (a : DA) (ρ : DEnv) (C : Cells) (P : DK) (PX : DX) : Prop := o ρ C (fun x C1 => isIns Cl m x C1 ∧ a ρ C1 (fun ds C2 => R (x :: (ds ++ dd)) C2 P (fun cls fs C3 => PX cls fs ρ C3)) PX) PX
/-- a new instance: a cell; one that does not change any more behind __init__ -/
def wMake (Cl : Addr) (R : DSp) (dd : List D) (a : DA) (ρ : DEnv) (C : Cells) (P : DK) (PX : DX) : Prop := a ρ C (fun ds C1 => ∀ p, C1 p = none → R (.ptr p :: (ds ++ dd)) (cput C1 p (.ins Cl [])) (fun r C2 => r = .non ∧ P (.ptr p) C2)) PX
def frzP (P : DK) (p : Addr) (C2 : Cells) : Prop := match C2 p with
  | some (.ins c fs) => ∃ C3, Sub C3 C2 ∧ C3 p = none ∧ P (.ins c fs) C3
  | _ => False
def wMakeF (Cl : Addr) (R : DSp) (dd : List D) (a : DA) (ρ : DEnv) (C : Cells) (P : DK) (PX : DX) : Prop := a ρ C (fun ds C1 => ∀ p, C1 p = none → R (.ptr p :: (ds ++ dd)) (cput C1 p (.ins Cl [])) (fun r C2 => r = .non ∧ frzP P p C2)) PX
def wMakeX (Cl : Addr) (R : DSpX) (dd : List D) (a : DA) (ρ : DEnv) (C : Cells) (P : DK) (PX : DX) : Prop := a ρ C (fun ds C1 => ∀ p, C1 p = none → R (.ptr p :: (ds ++ dd)) (cput C1 p (.ins Cl [])) (fun r C2 => r = .non ∧ P (.ptr p) C2) (fun cls fs C3 => PX cls fs ρ C3)) PX
def wMakeXF (Cl : Addr) (R : DSpX) (dd : List D) (a : DA) (ρ : DEnv) (C : Cells) (P : DK) (PX : DX) : Prop := a ρ C (fun ds C1 => ∀ p, C1 p = none → R (.ptr p :: (ds ++ dd)) (cput C1 p (.ins Cl [])) (fun r C2 => r = .non ∧ frzP P p C2) (fun cls fs C3 => PX cls fs ρ C3)) PX

section
variable {X : Cx} {W : WX} {K : PySem.W.Frag} {k : Nat} {f Cl : Addr} {fd : FuncData} {ps : List Str} {R : DSp} {RX : DSpX} {dvs : List V} {dd : List D} {dsv : List Value} {x m : Str} {p pos apos : Pos} {e o : Expr} {es : List Expr} {wa : DE} {wr : DA}
theorem KontX.of {F : Hp} {W : WX} {PX : DX} {σ : L2.St} {ρ : DEnv} (xr : ExR K F W PX) (en : EnvR K F σ ρ) : KontX K F (fun cls fs C2 => PX cls fs ρ C2) (WE W σ) :=
  fun cls d fs F' H C e hs r q => xr cls d fs σ F' H ρ C e hs (en.mono e) r q
theorem d_call (G : FnOk X.prog X.w X.K X.mg X.base CX0 k f fd ps (spD X.K R)) (hr : Room k X.A) (hm : X.mg x = some (.ref f)) (hk : PySem.W.keepIn X.K (.ref f) = true) (hb : Binds X.K fd ps dsv) (ha : PA X (e :: es) (tA X.K W wr)) (hd : Vals dvs dsv := by exact .nil) (hdd : ∀ F, RepL X.K F dvs dd := by exact fun _ => .nil) (hg : Gl X x := by rfl)
    (hdb : (x == ("__debug__" : Str)) = false := by decide) (he : starEach (e :: es) X.env = (false, eval e X.env) :: starEach es X.env := by rfl) (hpl : (backTo pos (starEach es X.env)).any (·.1) = false := by rfl) :
    PE X (.Call (.Name x p) (e :: es) [] pos) (tE X.K W (wCall R dd wr)) := PE.imp (pe_call (E := E0) G hr hg hm hk hb hd pass0 ha hdb he hpl) fun σ H Q ⟨F, C, ρ, P, PX, hs, en, xr, w, k⟩ =>
  ⟨F, C, ρ, _, PX, hs, en, xr, w, fun vs F1 H1 ds C1 e1 h1 r q => ⟨F1, C1, ds ++ dd, P, h1, r.append (hdd F1), q, k.mono e1⟩⟩
theorem d_call0 (G : FnOk X.prog X.w X.K X.mg X.base CX0 k f fd ps (spD X.K R)) (hr : Room k X.A) (hm : X.mg x = some (.ref f)) (hk : PySem.W.keepIn X.K (.ref f) = true) (hb : Binds X.K fd ps dsv) (hd : Vals dvs dsv := by exact .nil) (hdd : ∀ F, RepL X.K F dvs dd := by exact fun _ => .nil) (hg : Gl X x := by rfl)
    (hdb : (x == ("__debug__" : Str)) = false := by decide) : PE X (.Call (.Name x p) [] [] pos) (tE X.K W (wCall R dd wNil)) := PE.imp (pe_call0 (E := E0) G hr hg hm hk hb hd pass0 hdb) fun σ H Q ⟨F, C, ρ, P, PX, hs, en, xr, w, k⟩ =>
  ⟨F, C, dd, P, hs, by exact (hdd F), by exact w, k⟩
theorem d_callX (tk : Takes X W) (G : FnOk X.prog X.w X.K X.mg X.base (L2.CX X.prog X.w) k f fd ps (spX X.K RX)) (hr : Room k X.A) (hm : X.mg x = some (.ref f)) (hk : PySem.W.keepIn X.K (.ref f) = true) (hb : Binds X.K fd ps dsv) (ha : PA X (e :: es) (tA X.K W wr)) (hd : Vals dvs dsv := by exact .nil) (hdd : ∀ F, RepL X.K F dvs dd := by exact fun _ => .nil) (hg : Gl X x := by rfl)
    (hdb : (x == ("__debug__" : Str)) = false := by decide) (he : starEach (e :: es) X.env = (false, eval e X.env) :: starEach es X.env := by rfl) (hpl : (backTo pos (starEach es X.env)).any (·.1) = false := by rfl) :
    PE X (.Call (.Name x p) (e :: es) [] pos) (tE X.K W (wCallX RX dd wr)) := PE.imp (pe_callSD (E := WE W) G hr hg hm hk hb hd (fun σ => passAt tk σ) ha hdb he hpl) fun σ H Q ⟨F, C, ρ, P, PX, hs, en, xr, w, k⟩ =>
  ⟨F, C, ρ, _, PX, hs, en, xr, w, fun vs F1 H1 ds C1 e1 h1 r q => ⟨F1, C1, ds ++ dd, P, _, h1, r.append (hdd F1), q, k.mono e1, KontX.of (xr.mono e1) (en.mono e1)⟩⟩
theorem ins_of {F H : Hp} {C : Cells} {v : V} {d : D} (hs : Hs K F C H) (r : Rep K F v d) {mm : String} (h : isIns Cl mm d C) : ∃ a dx gs, v = .ref a ∧ H a = some (.ins Cl dx gs) ∧ gs.lookup (Str.ofString mm) = none := by
  cases r <;> first | exact h.elim | skip
  · rename_i a c dx gs fs hf rf
    obtain ⟨rfl, hl⟩ := h
    exact ⟨a, dx, gs, rfl, hs.ex _ _ hf, rf.lookup_none hl⟩
  · rename_i a
    revert h
    show (match C a with | some (.ins c fs) => _ | _ => False) → _
    split
    · rename_i c fs hc
      rintro ⟨rfl, hl⟩
      obtain ⟨_, dx, gs, hg, rf⟩ := hs.cell a _ hc
      exact ⟨a, dx, gs, rfl, hg, rf.lookup_none hl⟩
    · exact fun z => z.elim
theorem d_meth {mm : String} {pl : Sem Bool} (c : Cls X.K Cl) (hm : Meth X.K Cl (Str.ofString mm) f) (G : FnOk X.prog X.w X.K X.mg X.base CX0 k f fd ps (spD X.K R)) (hr : Room k X.A) (hb : Binds X.K fd ps dsv) (ho : PE X o (tE X.K W wa)) (ha : PA X (e :: es) (tA X.K W wr)) (hd : Vals dvs dsv := by exact .nil) (hdd : ∀ F, RepL X.K F dvs dd := by exact fun _ => .nil)
    (hst : starEach (e :: es) X.env = (false, eval e X.env) :: starEach es X.env := by rfl) (hpl : (backTo pos (starEach es X.env)).any (·.1) = false := by rfl)
    (ht : eval (.Call (.Attribute o (Str.ofString mm) apos) (e :: es) [] pos) X.env = (do
      let ov ← eval o X.env
      standAt apos.atName
      let (f, first) ← holding [ov] (getMethod ov (Str.ofString mm) pl)
      callWith pos f first (backTo pos (starEach (e :: es) X.env)) (backToKw pos (keywordEach [] X.env))) := by rfl) :
    PE X (.Call (.Attribute o (Str.ofString mm) apos) (e :: es) [] pos) (tE X.K W (wMeth Cl mm R dd wa wr)) := PE.imp (pe_meth (pl := pl) (E := E0) ho c hm G hr hb hd pass0 ha hst hpl ht) fun σ H Q ⟨F, C, ρ, P, PX, hs, en, xr, w, k⟩ =>
  ⟨F, C, ρ, _, PX, hs, en, xr, w, fun v F1 H1 d C1 e1 h1 rv q => by
    obtain ⟨qi, q⟩ := q
    obtain ⟨a, dx, gs, ev, ha, hl⟩ := ins_of h1 rv qi
    exact ⟨a, dx, gs, ev, ha, hl, F1, C1, ρ, _, PX, h1, en.mono e1, xr.mono e1, q, fun vs F2 H2 ds C2 e2 h2 rl q2 => ⟨F2, C2, d :: (ds ++ dd), P, h2, .cons (rv.mono e2) (rl.append (hdd F2)), q2, k.mono (e1.trans e2)⟩⟩⟩
theorem d_meth0 {mm : String} {pl : Sem Bool} (c : Cls X.K Cl) (hm : Meth X.K Cl (Str.ofString mm) f) (G : FnOk X.prog X.w X.K X.mg X.base CX0 k f fd ps (spD X.K R)) (hr : Room k X.A) (hb : Binds X.K fd ps dsv) (ho : PE X o (tE X.K W wa)) (hd : Vals dvs dsv := by exact .nil) (hdd : ∀ F, RepL X.K F dvs dd := by exact fun _ => .nil)
    (ht : eval (.Call (.Attribute o (Str.ofString mm) apos) [] [] pos) X.env = (do
      let ov ← eval o X.env
      standAt apos.atName
      let (f, first) ← holding [ov] (getMethod ov (Str.ofString mm) pl)
      callWith pos f first (backTo pos (starEach [] X.env)) (backToKw pos (keywordEach [] X.env))) := by rfl) :
    PE X (.Call (.Attribute o (Str.ofString mm) apos) [] [] pos) (tE X.K W (wMeth Cl mm R dd wa wNil)) := PE.imp (pe_meth0 (pl := pl) (E := E0) ho c hm G hr hb hd pass0 ht) fun σ H Q ⟨F, C, ρ, P, PX, hs, en, xr, w, k⟩ =>
  ⟨F, C, ρ, _, PX, hs, en, xr, w, fun v F1 H1 d C1 e1 h1 rv q => by
    obtain ⟨qi, q⟩ := q
    obtain ⟨a, dx, gs, ev, ha, hl⟩ := ins_of h1 rv qi
    exact ⟨a, dx, gs, ev, ha, hl, F1, C1, d :: dd, P, h1, .cons rv (hdd F1), q, k.mono e1⟩⟩
/-- a method that may raise -/
theorem pe_methSD {ta : TE} {t : TA} {E : L2.St → XK} {pl : Sem Bool} {sp : Sp} {CX : CXT} (he : PE X o ta) (c : Cls X.K Cl) (hm : Meth X.K Cl m f) (F : FnOk X.prog X.w X.K X.mg X.base CX k f fd ps sp) (hr : Room k X.A) (hb : Binds X.K fd ps dsv) (hd : Vals dvs dsv) (hx : ∀ σ, PassesAt CX X σ (E σ)) (ha : PA X (e :: es) t)
    (hst : starEach (e :: es) X.env = (false, eval e X.env) :: starEach es X.env := by rfl) (hpl : (backTo pos (starEach es X.env)).any (·.1) = false := by rfl)
    (ht : eval (.Call (.Attribute o m apos) (e :: es) [] pos) X.env = (do
      let ov ← eval o X.env
      standAt apos.atName
      let (f, first) ← holding [ov] (getMethod ov m pl)
      callWith pos f first (backTo pos (starEach (e :: es) X.env)) (backToKw pos (keywordEach [] X.env))) := by rfl) :
    PE X (.Call (.Attribute o m apos) (e :: es) [] pos) (fun σ H Q => ta σ H fun x H1 => ∃ a dx fs, x = .ref a ∧ H1 a = some (.ins Cl dx fs) ∧ fs.lookup m = none ∧ t σ H1 fun vs H2 => sp (x :: (vs ++ dvs)) H2 Q (E σ)) := by
  refine ⟨fun pins s σ H Q I h => ?_⟩
  refine PySem.W.methodCall_KW (pl := pl) (thn (he.run pins s σ H _ I h) fun u s1 ⟨x, H1, I1, rx, a, dx, fs, ex, ea, l, q⟩ => ?_) ht
  subst ex
  obtain rfl : u = Value.ref a := rx
  refine getmeth_ok I1 ea c hm l ?_
  refine PySem.W.callWith_K (first := [.ref a]) (h₀ := X.base) I.ok.mod.kin hm.kp (thn (ha.run pos pins s1 σ H1 _ I1 q) fun us s2 ⟨vs, H2, I2, r, q2⟩ => ⟨I2.kIn, ?_⟩) hst hpl
  exact run_fnSD (us := .ref a :: us) (vs := .ref a :: vs) F hr hb hd (hx σ) I2 (.cons rfl r) q2
theorem pe_methSD0 {ta : TE} {E : L2.St → XK} {pl : Sem Bool} {sp : Sp} {CX : CXT} (he : PE X o ta) (c : Cls X.K Cl) (hm : Meth X.K Cl m f) (F : FnOk X.prog X.w X.K X.mg X.base CX k f fd ps sp) (hr : Room k X.A) (hb : Binds X.K fd ps dsv) (hd : Vals dvs dsv) (hx : ∀ σ, PassesAt CX X σ (E σ))
    (ht : eval (.Call (.Attribute o m apos) [] [] pos) X.env = (do
      let ov ← eval o X.env
      standAt apos.atName
      let (f, first) ← holding [ov] (getMethod ov m pl)
      callWith pos f first (backTo pos (starEach [] X.env)) (backToKw pos (keywordEach [] X.env))) := by rfl) :
    PE X (.Call (.Attribute o m apos) [] [] pos) (fun σ H Q => ta σ H fun x H1 => ∃ a dx fs, x = .ref a ∧ H1 a = some (.ins Cl dx fs) ∧ fs.lookup m = none ∧ sp (x :: dvs) H1 Q (E σ)) := by
  refine ⟨fun pins s σ H Q I h => ?_⟩
  refine PySem.W.methodCall_KW (pl := pl) (thn (he.run pins s σ H _ I h) fun u s1 ⟨x, H1, I1, rx, a, dx, fs, ex, ea, l, q⟩ => ?_) ht
  subst ex
  obtain rfl : u = Value.ref a := rx
  refine getmeth_ok I1 ea c hm l ?_
  exact PySem.W.callWith_K0 (first := [.ref a]) I1.kIn hm.kp (run_fnSD (us := [.ref a]) (vs := [.ref a]) F hr hb hd (hx σ) I1 (.cons rfl .nil) q)
theorem d_methX {mm : String} {pl : Sem Bool} (tk : Takes X W) (c : Cls X.K Cl) (hm : Meth X.K Cl (Str.ofString mm) f) (G : FnOk X.prog X.w X.K X.mg X.base (L2.CX X.prog X.w) k f fd ps (spX X.K RX)) (hr : Room k X.A) (hb : Binds X.K fd ps dsv) (ho : PE X o (tE X.K W wa)) (ha : PA X (e :: es) (tA X.K W wr)) (hd : Vals dvs dsv := by exact .nil) (hdd : ∀ F, RepL X.K F dvs dd := by exact fun _ => .nil)
    (hst : starEach (e :: es) X.env = (false, eval e X.env) :: starEach es X.env := by rfl) (hpl : (backTo pos (starEach es X.env)).any (·.1) = false := by rfl)
    (ht : eval (.Call (.Attribute o (Str.ofString mm) apos) (e :: es) [] pos) X.env = (do
      let ov ← eval o X.env
      standAt apos.atName
      let (f, first) ← holding [ov] (getMethod ov (Str.ofString mm) pl)
      callWith pos f first (backTo pos (starEach (e :: es) X.env)) (backToKw pos (keywordEach [] X.env))) := by rfl) :
    PE X (.Call (.Attribute o (Str.ofString mm) apos) (e :: es) [] pos) (tE X.K W (wMethX Cl mm RX dd wa wr)) := PE.imp (pe_methSD (pl := pl) (E := WE W) ho c hm G hr hb hd (fun σ => passAt tk σ) ha hst hpl ht) fun σ H Q ⟨F, C, ρ, P, PX, hs, en, xr, w, k⟩ =>
  ⟨F, C, ρ, _, PX, hs, en, xr, w, fun v F1 H1 d C1 e1 h1 rv q => by
    obtain ⟨qi, q⟩ := q
    obtain ⟨a, dx, gs, ev, ha, hl⟩ := ins_of h1 rv qi
    exact ⟨a, dx, gs, ev, ha, hl, F1, C1, ρ, _, PX, h1, en.mono e1, xr.mono e1, q, fun vs F2 H2 ds C2 e2 h2 rl q2 => ⟨F2, C2, d :: (ds ++ dd), P, _, h2, .cons (rv.mono e2) (rl.append (hdd F2)), q2, k.mono (e1.trans e2), KontX.of (xr.mono (e1.trans e2)) (en.mono (e1.trans e2))⟩⟩⟩
theorem d_methX0 {mm : String} {pl : Sem Bool} (tk : Takes X W) (c : Cls X.K Cl) (hm : Meth X.K Cl (Str.ofString mm) f) (G : FnOk X.prog X.w X.K X.mg X.base (L2.CX X.prog X.w) k f fd ps (spX X.K RX)) (hr : Room k X.A) (hb : Binds X.K fd ps dsv) (ho : PE X o (tE X.K W wa)) (hd : Vals dvs dsv := by exact .nil) (hdd : ∀ F, RepL X.K F dvs dd := by exact fun _ => .nil)
    (ht : eval (.Call (.Attribute o (Str.ofString mm) apos) [] [] pos) X.env = (do
      let ov ← eval o X.env
      standAt apos.atName
      let (f, first) ← holding [ov] (getMethod ov (Str.ofString mm) pl)
      callWith pos f first (backTo pos (starEach [] X.env)) (backToKw pos (keywordEach [] X.env))) := by rfl) :
    PE X (.Call (.Attribute o (Str.ofString mm) apos) [] [] pos) (tE X.K W (wMethX Cl mm RX dd wa wNil)) := PE.imp (pe_methSD0 (pl := pl) (E := WE W) ho c hm G hr hb hd (fun σ => passAt tk σ) ht) fun σ H Q ⟨F, C, ρ, P, PX, hs, en, xr, w, k⟩ =>
  ⟨F, C, ρ, _, PX, hs, en, xr, w, fun v F1 H1 d C1 e1 h1 rv q => by
    obtain ⟨qi, q⟩ := q
    obtain ⟨a, dx, gs, ev, ha, hl⟩ := ins_of h1 rv qi
    exact ⟨a, dx, gs, ev, ha, hl, F1, C1, d :: dd, P, _, h1, .cons rv (hdd F1), q, k.mono e1, KontX.of (xr.mono e1) (en.mono e1)⟩⟩
/-- an object that no data speaks of -/
theorem Hs.skip {F : Hp} {C : Cells} {H : Hp} (h : Hs K F C H) {p : Addr} {o : HO} (hp : H p = none) : Hs K F C (upd H p o) := by
  obtain ⟨f0, c0⟩ := h.fresh hp
  exact ⟨h.ex.mut f0, fun a c e => ⟨(h.cell a c e).1, (h.cell a c e).2.at (upd_ne (cell_ne e c0))⟩⟩
theorem Hs.inst {F : Hp} {C : Cells} {H : Hp} (h : Hs K F C H) {q dx : Addr} (hq : H q = none) (hd : H dx = none) (ne : dx ≠ q) : C q = none ∧ Hs K F (cput C q (.ins Cl [])) (upd (upd H dx (.own q)) q (.ins Cl dx [])) := by
  obtain ⟨f0, c0⟩ := h.fresh hq
  refine ⟨c0, ?_⟩
  exact (h.skip (o := .own q) hd).put (c := .ins Cl []) f0 ⟨dx, [], upd_same, .nil⟩
theorem frz_kont {F : Hp} {P : DK} {Q : VK} {q : Addr} (k : Kont K F P Q) : Kont K F (fun r C2 => r = .non ∧ frzP P q C2) (fun v H2 => v = .non ∧ Q (.ref q) H2) := fun v F2 H2 d C2 e2 h2 rv ⟨ed, z⟩ => by
  subst ed
  cases rv
  refine ⟨rfl, ?_⟩
  revert z
  unfold frzP
  split
  · rename_i c fs hc
    rintro ⟨C3, s3, n3, z⟩
    obtain ⟨F3, e3, h3, r3⟩ := frz_go h2 hc s3 n3
    exact k _ F3 H2 _ C3 (e2.trans e3) h3 r3 z
  · exact fun z => z.elim
theorem ptr_kont {F : Hp} {P : DK} {Q : VK} {q : Addr} (k : Kont K F P Q) : Kont K F (fun r C2 => r = .non ∧ P (.ptr q) C2) (fun v H2 => v = .non ∧ Q (.ref q) H2) := fun v F2 H2 d C2 e2 h2 rv ⟨ed, z⟩ => by
  subst ed
  cases rv
  exact ⟨rfl, k _ F2 H2 _ C2 e2 h2 (.ptr q) z⟩
theorem d_make (M : Mk X.K Cl f) (G : FnOk X.prog X.w X.K X.mg X.base CX0 k f fd ps (spD X.K R)) (hr : Room (k + 1) X.A) (hm : X.mg x = some (.ref Cl)) (hb : Binds X.K fd ps dsv) (ha : PA X (e :: es) (tA X.K W wr)) (hd : Vals dvs dsv := by exact .nil) (hdd : ∀ F, RepL X.K F dvs dd := by exact fun _ => .nil) (hg : Gl X x := by rfl)
    (hdb : (x == ("__debug__" : Str)) = false := by decide) (he : starEach (e :: es) X.env = (false, eval e X.env) :: starEach es X.env := by rfl) (hpl : (backTo pos (starEach es X.env)).any (·.1) = false := by rfl) :
    PE X (.Call (.Name x p) (e :: es) [] pos) (tE X.K W (wMake Cl R dd wr)) := PE.imp (pe_make (E := E0) M G hr hg hm hb hd pass0 ha hdb he hpl) fun σ H Q ⟨F, C, ρ, P, PX, hs, en, xr, w, k⟩ =>
  ⟨F, C, ρ, _, PX, hs, en, xr, w, fun vs F1 H1 ds C1 e1 h1 r q => fun z dx hz hdx ne => by
    obtain ⟨c0, h2⟩ := h1.inst (Cl := Cl) hz hdx ne
    exact ⟨F1, _, .ptr z :: (ds ++ dd), _, h2, .cons (.ptr z) (r.append (hdd F1)), q z c0, ptr_kont (k.mono e1)⟩⟩
theorem d_make0 (M : Mk X.K Cl f) (G : FnOk X.prog X.w X.K X.mg X.base CX0 k f fd ps (spD X.K R)) (hr : Room (k + 1) X.A) (hm : X.mg x = some (.ref Cl)) (hb : Binds X.K fd ps dsv) (hd : Vals dvs dsv := by exact .nil) (hdd : ∀ F, RepL X.K F dvs dd := by exact fun _ => .nil) (hg : Gl X x := by rfl)
    (hdb : (x == ("__debug__" : Str)) = false := by decide) : PE X (.Call (.Name x p) [] [] pos) (tE X.K W (wMake Cl R dd wNil)) := PE.imp (pe_make0 (E := E0) M G hr hg hm hb hd pass0 hdb) fun σ H Q ⟨F, C, ρ, P, PX, hs, en, xr, w, k⟩ => fun z dx hz hdx ne => by
    obtain ⟨c0, h2⟩ := hs.inst (Cl := Cl) hz hdx ne
    exact ⟨F, _, .ptr z :: dd, _, h2, .cons (.ptr z) (hdd F), w z c0, ptr_kont k⟩
theorem d_makeF (M : Mk X.K Cl f) (G : FnOk X.prog X.w X.K X.mg X.base CX0 k f fd ps (spD X.K R)) (hr : Room (k + 1) X.A) (hm : X.mg x = some (.ref Cl)) (hb : Binds X.K fd ps dsv) (ha : PA X (e :: es) (tA X.K W wr)) (hd : Vals dvs dsv := by exact .nil) (hdd : ∀ F, RepL X.K F dvs dd := by exact fun _ => .nil) (hg : Gl X x := by rfl)
    (hdb : (x == ("__debug__" : Str)) = false := by decide) (he : starEach (e :: es) X.env = (false, eval e X.env) :: starEach es X.env := by rfl) (hpl : (backTo pos (starEach es X.env)).any (·.1) = false := by rfl) :
    PE X (.Call (.Name x p) (e :: es) [] pos) (tE X.K W (wMakeF Cl R dd wr)) := PE.imp (pe_make (E := E0) M G hr hg hm hb hd pass0 ha hdb he hpl) fun σ H Q ⟨F, C, ρ, P, PX, hs, en, xr, w, k⟩ =>
  ⟨F, C, ρ, _, PX, hs, en, xr, w, fun vs F1 H1 ds C1 e1 h1 r q => fun z dx hz hdx ne => by
    obtain ⟨c0, h2⟩ := h1.inst (Cl := Cl) hz hdx ne
    exact ⟨F1, _, .ptr z :: (ds ++ dd), _, h2, .cons (.ptr z) (r.append (hdd F1)), q z c0, frz_kont (k.mono e1)⟩⟩
end

/-! ### attributes -/
/-- the attribute f of an instance of the class at Cl -/
def fldOf (Cl : Addr) (f : String) (o : D) (C : Cells) : Option D := match o with
  | .ins c fs => if c = Cl then fs.lookup f else none
  | .ptr p => match C p with
    | some (.ins c fs) => if c = Cl then fs.lookup f else none
    | _ => none
  | _ => none
def wFld (Cl : Addr) (f : String) (o : DE) (ρ : DEnv) (C : Cells) (P : DK) (PX : DX) : Prop := o ρ C (fun x C1 => match fldOf Cl f x C1 with
  | some d => P d C1
  | none => False) PX
def wFldSet (Cl : Addr) (f : String) (o v : DE) (E : DEnds) (ρ : DEnv) (C : Cells) : Prop := v ρ C (fun d C1 => o ρ C1 (fun x C2 => match x with
  | .ptr p => match C2 p with
    | some (.ins c fs) => c = Cl ∧ fs.length < 1000 ∧ E.nx ρ (cput C2 p (.ins Cl (dput f d fs)))
    | _ => False
  | _ => False) E.ex) E.ex
section
variable {X : Cx} {W : WX} {K : PySem.W.Frag} {Cl : Addr} {f : String} {o value : Expr} {wa wv : DE} {pos pos' : Pos}
theorem fld_of {F H : Hp} {C : Cells} {v : V} {x d : D} (hs : Hs K F C H) (r : Rep K F v x) (h : fldOf Cl f x C = some d) : ∃ a dx gs u, v = .ref a ∧ H a = some (.ins Cl dx gs) ∧ gs.lookup (Str.ofString f) = some u ∧ Rep K F u d := by
  cases r <;> first | (simp [fldOf] at h; done) | skip
  · rename_i a c dx gs fs hf rf
    simp only [fldOf] at h
    split at h
    · rename_i e
      subst e
      obtain ⟨u, hu, ru⟩ := rf.lookup h
      exact ⟨a, dx, gs, u, rfl, hs.ex _ _ hf, hu, ru⟩
    · cases h
  · rename_i a
    simp only [fldOf] at h
    split at h
    · rename_i c fs hc
      split at h
      · rename_i e
        subst e
        obtain ⟨_, dx, gs, hg, rf⟩ := hs.cell a _ hc
        obtain ⟨u, hu, ru⟩ := rf.lookup h
        exact ⟨a, dx, gs, u, rfl, hg, hu, ru⟩
      · cases h
    · cases h
theorem d_fld (c : Cls X.K Cl) (n : NoAttr X.K Cl (Str.ofString f)) (he : PE X o (tE X.K W wa)) (hb : attributeBase o (Str.ofString f) X.env (eval o X.env) = eval o X.env := by rfl) : PE X (.Attribute o (Str.ofString f) pos) (tE X.K W (wFld Cl f wa)) :=
  PE.imp (pe_fld he hb) fun σ H Q ⟨F, C, ρ, P, PX, hs, en, xr, w, k⟩ => ⟨F, C, ρ, _, PX, hs, en, xr, w, fun v F1 H1 d C1 e1 h1 r q => by
    revert q
    dsimp only
    split
    · rename_i u hu
      intro q
      obtain ⟨a, dx, gs, u', rfl, ha, hl, ru⟩ := fld_of h1 r hu
      exact ⟨a, Cl, dx, gs, u', rfl, ha, c, n, hl, k u' F1 H1 u C1 e1 h1 ru q⟩
    · exact fun z => z.elim⟩
theorem ds_fld (c : Cls X.K Cl) (n : NoAttr X.K Cl (Str.ofString f)) (ho : PE X o (tE X.K W wa)) (hv : PE X value (tE X.K W wv)) (hs : swapsWith value (some (.Attribute o (Str.ofString f) pos')) pos.line X.env = pure false := by rfl) :
    PS X (.Assign [.Attribute o (Str.ofString f) pos'] value pos) (tS X.K W (wFldSet Cl f wa wv)) := PS.imp (ps_fld ho hv hs) fun Dn σ H ⟨F, C, ρ, DE, hs, en, xr, w, er⟩ =>
  ⟨F, C, ρ, _, _, hs, en, xr, w, fun y F1 H1 d C1 e1 h1 ry q => ⟨F1, C1, ρ, _, _, h1, en.mono e1, xr.mono e1, q, fun v F2 H2 x C2 e2 h2 rx q2 => by
    cases rx <;> first | exact q2.elim | skip
    rename_i p
    revert q2
    show (match C2 p with | some (.ins c fs) => _ | _ => False) → _
    split
    · rename_i cl fs hc
      rintro ⟨rfl, hl, q2⟩
      obtain ⟨f0, dx, gs, hg, rf⟩ := h2.cell p _ hc
      have h3 := h2.put (o := .ins cl dx (putF (Str.ofString f) y gs)) (c := .ins cl (dput f d fs)) f0 ⟨dx, _, upd_same, rf.put (ry.mono e2)⟩
      exact ⟨p, cl, dx, gs, rfl, hg, c, n, by rw [rf.length]; exact hl, er.nx σ F2 _ ρ _ (e1.trans e2) h3 (en.mono (e1.trans e2)) q2⟩
    · exact fun z => z.elim⟩⟩
end

/-! ### a def's body keeps its promise -/
def endsD (P : DK) : DEnds := { nx := fun _ C' => ∃ C2, Sub C2 C' ∧ P .non C2, rt := fun d C' => ∃ C2, Sub C2 C' ∧ P d C2, bk := fun _ _ => False, ct := fun _ _ => False, ex := fun _ _ _ _ => False }
def endsX (P : DK) (PX : XC) : DEnds := { nx := fun _ C' => ∃ C2, Sub C2 C' ∧ P .non C2, rt := fun d C' => ∃ C2, Sub C2 C' ∧ P d C2, bk := fun _ _ => False, ct := fun _ _ => False, ex := fun cls fs _ C' => ∃ C2, Sub C2 C' ∧ PX cls fs C2 }
def startD (N : List Str) (ds : List D) : DEnv := ds.map some ++ List.replicate (N.length - ds.length) none
theorem start_ok {K : PySem.W.Frag} {F : Hp} {N : List Str} {vs : List V} {ds : List D} (r : RepL K F vs ds) : EnvR K F (L2.start N vs) (startD N ds) := by
  have hl := r.length
  refine ⟨by simp [L2.start, startD, hl], fun i d h => ?_⟩
  unfold startD at h
  unfold L2.start
  rcases Nat.lt_or_ge i ds.length with z | z
  · rw [List.getElem?_append_left (by simpa using z), List.getElem?_map] at h
    cases e : ds[i]? with
    | none => rw [e] at h; cases h
    | some d' =>
      rw [e] at h
      simp only [Option.map_some, Option.some.injEq] at h
      subst h
      obtain ⟨v, hv, rv⟩ := r.get e
      exact ⟨v, by rw [List.getElem?_append_left (by simpa [hl] using z), List.getElem?_map, hv]; rfl, rv⟩
  · rw [List.getElem?_append_right (by simpa using z)] at h
    have := List.mem_of_getElem? h
    simp at this
section
variable {P : Program} {w : World} {K : PySem.W.Frag} {mg : Str → Option Value} {base : Heap} {x qual : Str} {st : Stmt} {f : Addr} {fd : FuncData} {N ps : List Str} {k : Nat} {R : DSp} {RX : DSpX} {ws : DS}
abbrev W0 : WX := fun _ _ _ _ => False
theorem ok_D (F : Fun K x qual st f fd) (S : FnScope N ps (defScope st)) (len : ∀ ds C Pk, R ds C Pk → ds.length = ps.length)
    (hbody : ∀ (cdv : Value) (A : Around) (outer : List Env) (s : Shared) (H : Hp) (E : XK), Room k (A.deeper (envOfC qual (defScope st) s.heap.objs.size f cdv)) → PSs (cxOf CX0 P w K mg base N qual (defScope st) f cdv A outer s H E).nox (defBody st) (tS K W0 ws))
    (hw : ∀ ds C Pk, R ds C Pk → ws (endsD Pk) (startD N ds) C) : FnOk P w K mg base CX0 (k + 1) f fd ps (spD K R) := by
  refine F.ok S (fun vs H Q E ⟨F1, C, ds, Pk, hs, r, h, _⟩ => by rw [r.length]; exact len ds C Pk h) fun cdv A outer s H vs Q E hr ⟨F1, C, ds, Pk, hs, r, h, kk⟩ => ?_
  refine ⟨_, hbody cdv A outer s H E hr, F1, C, startD N ds, endsD Pk, hs, start_ok r, fun _ _ _ _ _ _ _ _ _ _ _ _ z => z.elim, hw ds C Pk h, ?_⟩
  exact ⟨fun σ F2 H2 ρ C2 e2 h2 n2 ⟨C3, s3, q⟩ => kk _ F2 H2 _ C3 e2 (h2.sub s3) .non q, fun v F2 H2 d C2 e2 h2 rv ⟨C3, s3, q⟩ => kk v F2 H2 d C3 e2 (h2.sub s3) rv q, fun _ _ _ _ _ _ _ _ z => z.elim, fun _ _ _ _ _ _ _ _ z => z.elim⟩
/-- what leaves this def -/
abbrev WD (E : XK) : WX := fun cls d _ H => E cls d H
theorem ok_DX (F : Fun K x qual st f fd) (S : FnScope N ps (defScope st)) (len : ∀ ds C Pk PX, RX ds C Pk PX → ds.length = ps.length)
    (hbody : ∀ (cdv : Value) (A : Around) (outer : List Env) (s : Shared) (H : Hp) (E : XK), Room k (A.deeper (envOfC qual (defScope st) s.heap.objs.size f cdv)) → Takes (cxOf (L2.CX P w) P w K mg base N qual (defScope st) f cdv A outer s H E) (WD E) →
      PSs (cxOf (L2.CX P w) P w K mg base N qual (defScope st) f cdv A outer s H E) (defBody st) (tS K (WD E) ws))
    (hw : ∀ ds C Pk PX, RX ds C Pk PX → ws (endsX Pk PX) (startD N ds) C) : FnOk P w K mg base (L2.CX P w) (k + 1) f fd ps (spX K RX) := by
  refine F.okX S (fun vs H Q E ⟨F1, C, ds, Pk, PX, hs, r, h, _⟩ => by rw [r.length]; exact len ds C Pk PX h) fun cdv A outer s H vs Q E hr ⟨F1, C, ds, Pk, PX, hs, r, h, kk, kx⟩ => ?_
  refine ⟨_, hbody cdv A outer s H E hr (takes_of rfl rfl rfl rfl), F1, C, startD N ds, endsX Pk PX, hs, start_ok r, fun cls d fs σ F2 H2 ρ C2 e2 h2 n2 rx ⟨C3, s3, q⟩ => kx cls d fs F2 H2 C3 e2 (h2.sub s3) rx q, hw ds C Pk PX h, ?_⟩
  exact ⟨fun σ F2 H2 ρ C2 e2 h2 n2 ⟨C3, s3, q⟩ => kk _ F2 H2 _ C3 e2 (h2.sub s3) .non q, fun v F2 H2 d C2 e2 h2 rv ⟨C3, s3, q⟩ => kk v F2 H2 d C3 e2 (h2.sub s3) rv q, fun _ _ _ _ _ _ _ _ z => z.elim, fun _ _ _ _ _ _ _ _ z => z.elim⟩
end
end DD

set_option Elab.async false
set_option linter.all false
set_option maxRecDepth 100000
set_option maxHeartbeats 4000000
/-! Readings over data: lists, tuples, built-ins, equality, comprehensions. -/
namespace DD
open PySem L2 PyProof.Rows

/-! ### sequences -/
def seqOf (x : D) (C : Cells) : Option (List D) := match x with
  | .lst ds => some ds
  | .ptr a => match C a with
    | some (.lst ds) => some ds
    | _ => none
  | _ => none
/-- a list or a tuple -/
def itsOf (x : D) (C : Cells) : Option (List D) := match x with
  | .tup ds => some ds
  | x => seqOf x C
section
variable {K : PySem.W.Frag} {F H : Hp} {C : Cells} {v : V} {x : D} {ds : List D}
theorem seq_of (hs : Hs K F C H) (r : Rep K F v x) (h : seqOf x C = some ds) : ∃ a xs, v = .ref a ∧ SqL K H a xs ∧ RepL K F xs ds := by
  cases r <;> first | (simp [seqOf] at h; done) | skip
  · rename_i a xs ds' hq hr
    simp only [seqOf, Option.some.injEq] at h
    subst h
    exact ⟨a, xs, rfl, ex_l hs.ex hq, hr⟩
  · rename_i a
    simp only [seqOf] at h
    split at h
    · rename_i ds' hc
      simp only [Option.some.injEq] at h
      subst h
      obtain ⟨_, xs, hx, r⟩ := hs.cell a _ hc
      exact ⟨a, xs, rfl, .of hx, r⟩
    · cases h
theorem its_of (hs : Hs K F C H) (r : Rep K F v x) (h : itsOf x C = some ds) : ∃ a xs, v = .ref a ∧ (SqL K H a xs ∨ SqT K H a xs) ∧ RepL K F xs ds := by
  have go : seqOf x C = some ds → ∃ a xs, v = .ref a ∧ (SqL K H a xs ∨ SqT K H a xs) ∧ RepL K F xs ds := fun h => by
    obtain ⟨a, xs, h1, h2, h3⟩ := seq_of hs r h
    exact ⟨a, xs, h1, .inl h2, h3⟩
  cases r <;> first
    | exact go h
    | (rename_i a xs ds' hq hr
       simp only [itsOf, Option.some.injEq] at h
       subst h
       exact ⟨a, xs, rfl, .inr (ex_t hs.ex hq), hr⟩)
theorem atI_rep {xs : List V} {d : D} {i : Int} (r : RepL K F xs ds) (h : atI ds i = some d) : ∃ u, atI xs i = some u ∧ Rep K F u d := by
  unfold atI at h ⊢
  rw [r.length]
  cases e : ixN ds.length i with
  | none => rw [e] at h; cases h
  | some j =>
    rw [e] at h
    exact r.get h
end
/-- len(x) -/
def lenOf (x : D) (C : Cells) : Option Nat := match x with
  | .str z => if z.length ≤ 100000 then some z.length else none
  | x => (itsOf x C).map (·.length)
def dLen (ds : List D) (C : Cells) (P : DK) : Prop := match ds with
  | [x] => match lenOf x C with
    | some n => P (.int n) C
    | none => False
  | _ => False
/-- x[i] -/
def itemOf (x : D) (C : Cells) (i : Int) : Option D := match x with
  | .str z => if z.length ≤ 100000 then (atI z.cps.toList i).map fun c => .str ⟨#[c]⟩ else none
  | x => (itsOf x C).bind fun ds => atI ds i
def dIx (x : D) (y : D) (C : Cells) (P : DK) : Prop := match y with
  | .int i => match itemOf x C i with
    | some d => P d C
    | none => False
  | _ => False
section
variable {K : PySem.W.Frag}
theorem RepL.one {F : Hp} {xs : List V} {x : D} (r : RepL K F xs [x]) : ∃ v, xs = [v] ∧ Rep K F v x := by
  cases r with
  | cons r1 r2 =>
    cases r2
    exact ⟨_, rfl, r1⟩
theorem s_len : SimA K (fun xs H Q => ∃ x n, xs = [x] ∧ LenV K x H n ∧ Q (.int n) H) dLen := fun F C H xs ds P Q hs r w k => by
  revert w
  unfold dLen
  split
  · rename_i x
    split
    · rename_i n hn
      intro w
      obtain ⟨v, rfl, r1⟩ := r.one
      refine ⟨v, n, rfl, ?_, k _ F H _ C (Ex.refl F) hs (.int _) w⟩
      have go : ∀ ds', itsOf x C = some ds' → n = ds'.length → LenV K v H n := fun ds' e en => by
        obtain ⟨a, xs, rfl, h2, h3⟩ := its_of hs r1 e
        show (∃ xs, SqL K H a xs ∧ n = xs.length) ∨ ∃ xs, SqT K H a xs ∧ n = xs.length
        rcases h2 with h2 | h2
        · exact .inl ⟨xs, h2, by rw [en, h3.length]⟩
        · exact .inr ⟨xs, h2, by rw [en, h3.length]⟩
      cases r1 <;> first
        | (simp only [lenOf, Option.map_eq_some_iff] at hn
           obtain ⟨ds', e1, e2⟩ := hn
           exact go ds' e1 e2.symm)
        | (simp only [lenOf] at hn
           split at hn
           · rename_i hz
             cases hn
             exact ⟨sz_of hz, rfl⟩
           · cases hn)
    · exact fun z => z.elim
  · exact fun z => z.elim
theorem s_ix : SimR K (rIx K) dIx := fun F C H x y dx dy P Q hs rx ry w k => by
  revert w
  unfold dIx
  split
  · rename_i i
    cases ry
    split
    · rename_i d hd
      intro w
      have go : ∀ ds', itsOf dx C = some ds' → atI ds' i = some d → rIx K x (.int i) H Q := fun ds' e en => by
        obtain ⟨a, xs, rfl, h2, h3⟩ := its_of hs rx e
        obtain ⟨u, hu, ru⟩ := atI_rep h3 en
        rcases h2 with h2 | h2
        · exact .inl ⟨a, xs, i, u, rfl, rfl, h2, hu, k u F H d C (Ex.refl F) hs ru w⟩
        · exact .inr (.inl ⟨a, xs, i, u, rfl, rfl, h2, hu, k u F H d C (Ex.refl F) hs ru w⟩)
      cases rx <;> first
        | (simp only [itemOf, Option.bind_eq_some_iff] at hd
           obtain ⟨ds', e1, e2⟩ := hd
           exact go ds' e1 e2)
        | (simp only [itemOf] at hd
           split at hd
           · rename_i hz
             rw [Option.map_eq_some_iff] at hd
             obtain ⟨c, hc, rfl⟩ := hd
             exact .inr (.inr ⟨_, i, c, rfl, rfl, sz_of hz, hc, k _ F H _ C (Ex.refl F) hs (.str _) w⟩)
           · cases hd)
    · exact fun z => z.elim
  · exact fun z => z.elim
end

/-! ### a list that changes -/
def wSetL (o i e : DE) (E : DEnds) (ρ : DEnv) (C : Cells) : Prop := e ρ C (fun d C1 => o ρ C1 (fun x C2 => i ρ C2 (fun y C3 => match x, y with
  | .ptr a, .int n => match C3 a with
    | some (.lst ds) => match ixN ds.length n with
      | some j => E.nx ρ (cput C3 a (.lst (ds.set j d)))
      | none => False
    | _ => False
  | _, _ => False) E.ex) E.ex) E.ex
/-- o[i] op= e -/
def wAugL (o i e : DE) (r : DR2) (E : DEnds) (ρ : DEnv) (C : Cells) : Prop := o ρ C (fun x C1 => i ρ C1 (fun y C2 => match x, y with
  | .ptr a, .int n => match C2 a with
    | some (.lst ds) => match atI ds n with
      | some d => e ρ C2 (fun z C3 => r d z C3 (fun u C4 => match C4 a with
        | some (.lst ds') => match ixN ds'.length n with
          | some j => E.nx ρ (cput C4 a (.lst (ds'.set j u)))
          | none => False
        | _ => False)) E.ex
      | none => False
    | _ => False
  | _, _ => False) E.ex) E.ex
abbrev DRM := D → List D → Cells → DK → Prop
def isSeq (x : D) (C : Cells) : Prop := (seqOf x C).isSome = true
/-- a list's method -/
def wBML (r : DRM) (o : DE) (a : DA) (ρ : DEnv) (C : Cells) (P : DK) (PX : DX) : Prop := o ρ C (fun x C1 => isSeq x C1 ∧ a ρ C1 (fun ds C2 => r x ds C2 P) PX) PX
def SimM (K : PySem.W.Frag) (r : V → List V → Hp → VK → Prop) (rd : DRM) : Prop := ∀ F C H x dx xs ds P Q, Hs K F C H → Rep K F x dx → RepL K F xs ds → rd dx ds C P → Kont K F P Q → r x xs H Q
def dAppend (x : D) (ds : List D) (C : Cells) (P : DK) : Prop := match x, ds with
  | .ptr a, [d] => match C a with
    | some (.lst xs) => xs.length < 100000 ∧ P .non (cput C a (.lst (xs ++ [d])))
    | _ => False
  | _, _ => False
def dPop (x : D) (ds : List D) (C : Cells) (P : DK) : Prop := match x, ds with
  | .ptr a, [] => match C a with
    | some (.lst xs) => match xs[xs.length - 1]? with
      | some d => P d (cput C a (.lst xs.dropLast))
      | none => False
    | _ => False
  | _, _ => False
section
variable {X : Cx} {W : WX} {K : PySem.W.Frag} {o i e : Expr} {es : List Expr} {wo wi we : DE} {wr : DA} {pos tpos apos : Pos}
theorem i_setL {F H : Hp} {C : Cells} {a : Addr} {ds : List D} {d : D} {v : V} {j : Nat} (hs : Hs K F C H) (hc : C a = some (.lst ds)) (rv : Rep K F v d) :
    ∃ xs, H a = some (.lst xs) ∧ xs.length = ds.length ∧ RepL K F xs ds ∧ Hs K F (cput C a (.lst (ds.set j d))) (upd H a (.lst (xs.set j v))) := by
  obtain ⟨f0, xs, hx, r⟩ := hs.cell a _ hc
  exact ⟨xs, hx, r.length, r, hs.put (c := .lst (ds.set j d)) f0 ⟨_, upd_same, r.set rv j⟩⟩
theorem ds_setL (ho : PE X o (tE X.K W wo)) (hi : PE X i (tE X.K W wi)) (he : PE X e (tE X.K W we))
    (ha : ∀ v, assign (.Subscript o i pos) X.env v = (do
      let ov ← holding [v] (eval o X.env)
      let iv ← holding [v, ov] (eval i X.env)
      standAt pos
      holding [v, ov, iv] (setItem ov iv v)
      release [v, ov, iv] []) := by intro _; rfl)
    (hs : swapsWithSole [.Subscript o i pos] e tpos.line X.env = pure false := by rfl) (hw : swappedStores [.Subscript o i pos] e X.env = pure none := by rfl)
    (h1 : (assignEach [.Subscript o i pos] X.env).map (·.2) = [assign (.Subscript o i pos) X.env] := by rfl) : PS X (.Assign [.Subscript o i pos] e tpos) (tS X.K W (wSetL wo wi we)) :=
  PS.imp (ps_asg he (pg_sub ho hi set_list ha) hs hw h1) fun Dn σ H ⟨F, C, ρ, DE, hs, en, xr, w, er⟩ =>
  ⟨F, C, ρ, _, _, hs, en, xr, w, fun v F1 H1 d C1 e1 h1 rv q => ⟨F1, C1, ρ, _, _, h1, en.mono e1, xr.mono e1, q, fun x F2 H2 dx C2 e2 h2 rx q2 => ⟨F2, C2, ρ, _, _, h2, en.mono (e1.trans e2), xr.mono (e1.trans e2), q2, fun y F3 H3 dy C3 e3 h3 ry q3 => by
    revert q3
    dsimp only
    split
    · rename_i a n
      cases ry
      cases rx
      split
      · rename_i ds hc
        split
        · rename_i j hj
          intro q3
          obtain ⟨xs, hx, hl, r, h4⟩ := i_setL (j := j) h3 hc (rv.mono (e2.trans e3))
          exact ⟨a, xs, n, j, rfl, rfl, hx, by rw [hl]; exact hj, er.nx σ F3 _ ρ _ ((e1.trans e2).trans e3) h4 (en.mono ((e1.trans e2).trans e3)) q3⟩
        · exact fun z => z.elim
      · exact fun z => z.elim
    · exact fun z => z.elim⟩⟩⟩
theorem get_list : PGet X (rIxL X.K) := by
  intro pins s σ H x y v u Q I rx ry h
  obtain ⟨p, xs, i, z, rfl, rfl, hq, he, q⟩ := h
  cases rx
  obtain ⟨t, rfl⟩ := ry
  obtain ⟨its, r, pl, hz⟩ := I.list hq
  obtain ⟨j, h1, h2, h3, h4, h5⟩ := atI_get he
  obtain ⟨w, ew, rw'⟩ := r.get h2
  have hl := r.length
  have hn := line63
  have fin : EP X pins σ Q w s := ⟨z, H, I, rw', q⟩
  by_cases h0 : 0 ≤ i
  · have hj : i.toNat = j := by
      rw [seqIndex_of h0 h5] at h1
      exact Option.some.inj h1
    exact wpAny_getItem_list (x := w) pl.isList h0 (by omega) (by rw [hj]; simpa using ew) fin
  · have hj : (i + (its.toArray.size : Int)).toNat = j := by
      rw [seqIndex_neg (by omega) h4] at h1
      rw [List.size_toArray, ← hl]
      exact Option.some.inj h1
    exact wpAny_getItem_list_neg (x := w) pl.isList (by omega) (by rw [List.size_toArray] <;> omega) (by omega) (by rw [hj]; simpa using ew) fin
theorem ds_augL {op : Operator} {ti : TIp} {rd : DR2} (ho : PE X o (tE X.K W wo)) (hi : PE X i (tE X.K W wi)) (he : PE X e (tE X.K W we)) (hp : PIp X op ti) (hr : SimR X.K ti rd)
    (ha : ∀ ov iv new, augStore i ov iv new = (do holding [new, ov, iv] (setItem ov iv new); release [new, ov, iv] []; pure .next) := by intros; rfl) : PS X (.AugAssign (.Subscript o i tpos) op e pos) (tS X.K W (wAugL wo wi we rd)) :=
  PS.imp (ps_augS ho hi get_list he hp set_list ha) fun Dn σ H ⟨F, C, ρ, DE, hs, en, xr, w, er⟩ =>
  ⟨F, C, ρ, _, _, hs, en, xr, w, fun x F1 H1 dx C1 e1 h1 rx q => ⟨F1, C1, ρ, _, _, h1, en.mono e1, xr.mono e1, q, fun y F2 H2 dy C2 e2 h2 ry q2 => by
    revert q2
    dsimp only
    split
    · rename_i a n
      cases ry
      cases rx
      split
      · rename_i ds hc
        split
        · rename_i d hd
          intro q2
          obtain ⟨f0, xs, hx, r⟩ := h2.cell a _ hc
          obtain ⟨u, hu, ru⟩ := atI_rep r hd
          refine ⟨a, xs, n, u, rfl, rfl, .of hx, hu, F2, C2, ρ, _, _, h2, en.mono (e1.trans e2), xr.mono (e1.trans e2), q2, fun z F3 H3 dz C3 e3 h3 rz q3 => hr F3 C3 H3 u z d dz _ _ h3 (ru.mono e3) rz q3 fun g F4 H4 dg C4 e4 h4 rg q4 => ?_⟩
          revert q4
          split
          · rename_i ds' hc'
            split
            · rename_i j hj
              intro q4
              obtain ⟨xs', hx', hl', r', h5⟩ := i_setL (j := j) h4 hc' rg
              have ee := ((e1.trans e2).trans e3).trans e4
              exact ⟨a, xs', n, j, rfl, rfl, hx', by rw [hl']; exact hj, er.nx σ F4 _ ρ _ ee h5 (en.mono ee) q4⟩
            · exact fun z => z.elim
          · exact fun z => z.elim
        · exact fun z => z.elim
      · exact fun z => z.elim
    · exact fun z => z.elim⟩⟩
theorem isSeq_ty {F H : Hp} {C : Cells} {v : V} {x : D} (hs : Hs K F C H) (r : Rep K F v x) (h : isSeq x C) : tyV K "list" v H := by
  unfold isSeq at h
  obtain ⟨ds, hd⟩ := Option.isSome_iff_exists.mp h
  obtain ⟨a, xs, rfl, h2, _⟩ := seq_of hs r hd
  exact .inl ⟨rfl, xs, h2⟩
theorem d_bmL {id : String} {name : Str} {r : V → List V → Hp → VK → Prop} {rd : DRM} (pa : PlainAttrs "list") (slot : Slot "list" name id) (hty : typeOf (.builtin id) = pure (.type "method_descriptor")) (hm : MtR X id r) (hr : SimM X.K r rd) (ho : PE X o (tE X.K W wo)) (ha : PA X (e :: es) (tA X.K W wr))
    (hbase : attributeBase o name X.env (eval o X.env) = eval o X.env := by rfl)
    (hfew : ((backTo pos (starEach (e :: es) X.env)).all (fun x => !x.1) && (backToKw pos (keywordEach [] X.env)).all (fun x => x.1.isSome)
      && decide ((e :: es).length + ([] : List Keyword).length + (if ([] : List Keyword).isEmpty then 0 else 1) < 30)) = true := by rfl)
    (hline : (apos.endLine == pos.line) = true := by rfl) (hs : starEach (e :: es) X.env = (false, eval e X.env) :: starEach es X.env := by rfl) (hplain : (backTo pos (starEach es X.env)).any (·.1) = false := by rfl) :
    PE X (.Call (.Attribute o name apos) (e :: es) [] pos) (tE X.K W (wBML rd wo wr)) :=
  PE.imp (pe_bm pa slot hty hm ho ha hbase hfew hline hs hplain) fun σ H Q ⟨F, C, ρ, P, PX, hs, en, xr, w, k⟩ => ⟨F, C, ρ, _, PX, hs, en, xr, w, fun v F1 H1 d C1 e1 h1 rv q => ⟨isSeq_ty h1 rv q.1, F1, C1, ρ, _, PX, h1, en.mono e1, xr.mono e1, q.2, fun vs F2 H2 ds C2 e2 h2 rl q2 => hr F2 C2 H2 v d vs ds P Q h2 (rv.mono e2) rl q2 (k.mono (e1.trans e2))⟩⟩
theorem d_bmL0 {id : String} {name : Str} {r : V → List V → Hp → VK → Prop} {rd : DRM} (pa : PlainAttrs "list") (slot : Slot "list" name id) (hty : typeOf (.builtin id) = pure (.type "method_descriptor")) (hm : MtR X id r) (hr : SimM X.K r rd) (ho : PE X o (tE X.K W wo))
    (hbase : attributeBase o name X.env (eval o X.env) = eval o X.env := by rfl) (hline : (apos.endLine == pos.line) = true := by rfl) : PE X (.Call (.Attribute o name apos) [] [] pos) (tE X.K W (wBML rd wo wNil)) :=
  PE.imp (pe_bm0 pa slot hty hm ho hbase hline) fun σ H Q ⟨F, C, ρ, P, PX, hs, en, xr, w, k⟩ => ⟨F, C, ρ, _, PX, hs, en, xr, w, fun v F1 H1 d C1 e1 h1 rv q => ⟨isSeq_ty h1 rv q.1, hr F1 C1 H1 v d [] [] P Q h1 rv .nil q.2 (k.mono e1)⟩⟩
theorem s_append : SimM K rAppend dAppend := fun F C H x dx xs ds P Q hs rx rl w k => by
  revert w
  unfold dAppend
  split
  · rename_i a d
    cases rx
    split
    · rename_i ys hc
      rintro ⟨hl, w⟩
      cases rl with
      | cons r1 r2 =>
        cases r2
        obtain ⟨f0, zs, hx, r⟩ := hs.cell a _ hc
        exact ⟨a, zs, _, rfl, rfl, hx, by rw [r.length]; exact sz_lt hl, k _ F _ _ _ (Ex.refl F) (hs.put (c := .lst (ys ++ [d])) f0 ⟨_, upd_same, r.append (.cons r1 .nil)⟩) .non w⟩
    · exact fun z => z.elim
  · exact fun z => z.elim
theorem s_pop : SimM K rPop dPop := fun F C H x dx xs ds P Q hs rx rl w k => by
  revert w
  unfold dPop
  split
  · rename_i a
    cases rx
    cases rl
    split
    · rename_i ys hc
      split
      · rename_i d hd
        intro w
        obtain ⟨f0, zs, hx, r⟩ := hs.cell a _ hc
        obtain ⟨u, hu, ru⟩ := r.get hd
        exact ⟨a, zs, u, rfl, rfl, hx, by rw [r.length]; exact hu, k _ F _ _ _ (Ex.refl F) (hs.put (c := .lst ys.dropLast) f0 ⟨_, upd_same, r.dropLast⟩) ru w⟩
      · exact fun z => z.elim
    · exact fun z => z.elim
  · exact fun z => z.elim
end
/-! ### + and * of lists, slices, list(..) -/
def dCat (x : D) (y : D) (C : Cells) (P : DK) : Prop := match seqOf x C, seqOf y C with
  | some xs, some ys => xs.length + ys.length ≤ 100000 ∧ P (.lst (xs ++ ys)) C
  | _, _ => False
def rCatS (K : PySem.W.Frag) : R2 := fun x y H Q => ∃ l b xs zs, x = .ref l ∧ y = .ref b ∧ SqL K H l xs ∧ SqL K H b zs ∧ xs.length + zs.length ≤ sizeLine ∧ ∀ p, H p = none → Q (.ref p) (upd H p (.lst (xs ++ zs)))
theorem op_catS {X : Cx} : OpR X (binaryOp .Add) (rCatS X.K) := by
  intro pins s σ H x y v u Q I rx ry h
  obtain ⟨l, b, xs, zs, rfl, rfl, hH, hB, hz, q⟩ := h
  cases rx
  cases ry
  obtain ⟨its, r, pl, _⟩ := I.list hH
  obtain ⟨its2, r2, pl2, _⟩ := I.list hB
  obtain ⟨⟨cls, dd, data, sl⟩, ho, hc, n, hd⟩ := id pl.isList
  obtain ⟨⟨cls2, dd2, data2, sl2⟩, ho2, hc2, n2, hd2⟩ := id pl2.isList
  simp only at hc hd hc2 hd2
  subst hc hd hc2 hd2
  have hl := r.length
  have hl2 := r2.length
  have e : its.toArray ++ its2.toArray = (its ++ its2).toArray := by simp
  refine concat_meets ⟨_, ho, rfl⟩ ⟨_, ho2, rfl⟩ noFill_list_add seq_list_add PySem.F.slot_list_add PySem.F.entry_list_add (PySem.F.args_list_add_2 _ _) (list_addW l b its.toArray its2.toArray n n2 dd dd2 sl sl2 (by rw [List.size_toArray, List.size_toArray]; omega)) ⟨ho, ho2, ?_⟩
  rw [e]
  exact ⟨.ref _, _, I.lnew (t' := s.toks) (r.append r2) (by rw [List.length_append]; omega), rfl, q _ I.fresh⟩
section
variable {X : Cx} {W : WX} {K : PySem.W.Frag}
theorem s_cat : SimR K (rCatS K) dCat := fun F C H x y dx dy P Q hs rx ry w k => by
  revert w
  unfold dCat
  split
  · rename_i xs ys h1 h2
    rintro ⟨hz, w⟩
    obtain ⟨a, us, rfl, hu, ru⟩ := seq_of hs rx h1
    obtain ⟨b, vs, rfl, hv, rv⟩ := seq_of hs ry h2
    refine ⟨a, b, us, vs, rfl, rfl, hu, hv, by rw [ru.length, rv.length]; exact sz_of hz, fun p hp => ?_⟩
    obtain ⟨e2, h3, r3⟩ := hs.newL (ru.append rv) hp
    exact k _ _ _ _ C e2 h3 r3 w
  · exact fun z => z.elim
/-- [e, ..] * n, the new list frozen, or a cell -/
def wRep (a : DA) (n : DE) (ρ : DEnv) (C : Cells) (P : DK) (PX : DX) : Prop := a ρ C (fun ds C1 => ds.length ≤ 100000 ∧ n ρ C1 (fun y C2 => match y with
  | .int k => (-(2 ^ 63) ≤ k ∧ k < 2 ^ 63 ∧ ds.length * k.toNat ≤ 100000) ∧ P (.lst (List.replicate k.toNat ds).flatten) C2
  | _ => False) PX) PX
def wRepC (a : DA) (n : DE) (ρ : DEnv) (C : Cells) (P : DK) (PX : DX) : Prop := a ρ C (fun ds C1 => ds.length ≤ 100000 ∧ n ρ C1 (fun y C2 => match y with
  | .int k => (-(2 ^ 63) ≤ k ∧ k < 2 ^ 63 ∧ ds.length * k.toNat ≤ 100000) ∧ ∀ p, C2 p = none → P (.ptr p) (cput C2 p (.lst (List.replicate k.toNat ds).flatten))
  | _ => False) PX) PX
theorem RepL.flat {F : Hp} {xs : List V} {ds : List D} (r : RepL K F xs ds) : ∀ n, RepL K F (List.replicate n xs).flatten (List.replicate n ds).flatten
  | 0 => .nil
  | n + 1 => by
    rw [List.replicate_succ, List.flatten_cons, List.replicate_succ, List.flatten_cons]
    exact r.append (RepL.flat r n)
theorem d_rep {es : List Expr} {b : Expr} {wr : DA} {wb : DE} {pos p2 : Pos} (ha : PA X es (tA X.K W wr)) (hb : PE X b (tE X.K W wb)) : PE X (.BinOp (.List es p2) .Mult b pos) (tE X.K W (wRep wr wb)) :=
  PE.imp (pe_op op_rep (pe_lst ha) hb) fun σ H Q ⟨F, C, ρ, P, PX, hs, en, xr, w, k⟩ => by
  refine ⟨F, C, ρ, _, PX, hs, en, xr, w, fun vs F1 H1 ds C1 e1 h1 r q => ?_⟩
  obtain ⟨hz, q⟩ := q
  refine ⟨by rw [r.length]; exact sz_of hz, fun p hp => ?_⟩
  obtain ⟨e2, h2, r2⟩ := h1.newL r hp
  refine ⟨_, C1, ρ, _, PX, h2, en.mono (e1.trans e2), xr.mono (e1.trans e2), q, fun u F3 H3 dy C3 e3 h3 ry q3 => ?_⟩
  revert q3
  dsimp only
  split
  · rename_i n
    rintro ⟨⟨b1, b2, b3⟩, q3⟩
    cases ry
    refine ⟨p, n, vs, rfl, rfl, h3.ex _ _ (e3 _ _ upd_same), b1, b2, by rw [r.length]; exact sz_of b3, fun l hl => ?_⟩
    obtain ⟨e4, h4, r4⟩ := h3.newL ((r.mono (e2.trans e3)).flat n.toNat) hl
    exact k _ _ _ _ C3 (((e1.trans e2).trans e3).trans e4) h4 r4 q3
  · exact fun z => z.elim
theorem d_repC {es : List Expr} {b : Expr} {wr : DA} {wb : DE} {pos p2 : Pos} (ha : PA X es (tA X.K W wr)) (hb : PE X b (tE X.K W wb)) : PE X (.BinOp (.List es p2) .Mult b pos) (tE X.K W (wRepC wr wb)) :=
  PE.imp (pe_op op_rep (pe_lst ha) hb) fun σ H Q ⟨F, C, ρ, P, PX, hs, en, xr, w, k⟩ => by
  refine ⟨F, C, ρ, _, PX, hs, en, xr, w, fun vs F1 H1 ds C1 e1 h1 r q => ?_⟩
  obtain ⟨hz, q⟩ := q
  refine ⟨by rw [r.length]; exact sz_of hz, fun p hp => ?_⟩
  obtain ⟨e2, h2, r2⟩ := h1.newL r hp
  refine ⟨_, C1, ρ, _, PX, h2, en.mono (e1.trans e2), xr.mono (e1.trans e2), q, fun u F3 H3 dy C3 e3 h3 ry q3 => ?_⟩
  revert q3
  dsimp only
  split
  · rename_i n
    rintro ⟨⟨b1, b2, b3⟩, q3⟩
    cases ry
    refine ⟨p, n, vs, rfl, rfl, h3.ex _ _ (e3 _ _ upd_same), b1, b2, by rw [r.length]; exact sz_of b3, fun l hl => ?_⟩
    obtain ⟨c0, h4⟩ := h3.newC ((r.mono (e2.trans e3)).flat n.toNat) hl
    exact k _ _ _ _ _ ((e1.trans e2).trans e3) h4 (.ptr l) (q3 l c0)
  · exact fun z => z.elim
end
/-! ### slices -/
abbrev DO := DEnv → Cells → (Option Int → Cells → Prop) → DX → Prop
def wNoPart (_ : DEnv) (C : Cells) (P : Option Int → Cells → Prop) (_ : DX) : Prop := P none C
def wPart (e : DE) (ρ : DEnv) (C : Cells) (P : Option Int → Cells → Prop) (PX : DX) : Prop := e ρ C (fun d C1 => match d with | .int i => P (some i) C1 | _ => False) PX
def tO (K : PySem.W.Frag) (W : WX) (w : DO) : TO := fun σ H Q => ∃ F C ρ P PX, Hs K F C H ∧ EnvR K F σ ρ ∧ ExR K F W PX ∧ w ρ C P PX ∧ ∀ o F' H' C', Ex F F' → Hs K F' C' H' → P o C' → Q o H'
theorem PO.imp {X : Cx} {e : Option Expr} {t t' : TO} (h : PO X e t) (i : ∀ σ H Q, t' σ H Q → t σ H Q) : PO X e t' := ⟨fun pins s σ H Q I w => h.run pins s σ H Q I (i σ H Q w)⟩
def cutD (xs : List D) (lo hi : Option Int) : List D := (xs.drop (HT.sIx xs.length 0 lo)).take (HT.sIx xs.length xs.length hi - HT.sIx xs.length 0 lo)
def wSl (e : DE) (lo hi : DO) (ρ : DEnv) (C : Cells) (P : DK) (PX : DX) : Prop := e ρ C (fun x C1 => lo ρ C1 (fun l C2 => hi ρ C2 (fun h C3 => match seqOf x C3 with
  | some ds => P (.lst (cutD ds l h)) C3
  | none => False) PX) PX) PX
section
variable {X : Cx} {W : WX} {K : PySem.W.Frag}
theorem do_none : PO X none (tO X.K W wNoPart) := PO.imp po_none fun σ H Q ⟨F, C, ρ, P, PX, hs, en, xr, w, k⟩ => k _ F H C (Ex.refl F) hs w
theorem do_some {e : Expr} {we : DE} (he : PE X e (tE X.K W we)) : PO X (some e) (tO X.K W (wPart we)) := PO.imp (po_some he) fun σ H Q ⟨F, C, ρ, P, PX, hs, en, xr, w, k⟩ =>
  ⟨F, C, ρ, _, PX, hs, en, xr, w, fun v F1 H1 d C1 e1 h1 r q => by
    cases r <;> first | exact q.elim | exact ⟨_, rfl, k _ F1 H1 C1 e1 h1 q⟩⟩
theorem RepL.cut {F : Hp} {xs : List V} {ds : List D} (r : RepL K F xs ds) (lo hi : Option Int) : RepL K F (cutV xs lo hi) (cutD ds lo hi) := by
  unfold cutV cutD
  rw [r.length]
  exact (r.drop _).take _
theorem d_sl {e : Expr} {lo hi : Option Expr} {we : DE} {wl wh : DO} {p2 pos : Pos} (he : PE X e (tE X.K W we)) (hl : PO X lo (tO X.K W wl)) (hh : PO X hi (tO X.K W wh)) : PE X (.Subscript e (.Slice lo hi none p2) pos) (tE X.K W (wSl we wl wh)) :=
  PE.imp (pe_slice sl_list he hl hh) fun σ H Q ⟨F, C, ρ, P, PX, hs, en, xr, w, k⟩ =>
  ⟨F, C, ρ, _, PX, hs, en, xr, w, fun v F1 H1 x C1 e1 h1 rv q => ⟨F1, C1, ρ, _, PX, h1, en.mono e1, xr.mono e1, q, fun l F2 H2 C2 e2 h2 q2 => ⟨F2, C2, ρ, _, PX, h2, en.mono (e1.trans e2), xr.mono (e1.trans e2), q2, fun h F3 H3 C3 e3 h3 q3 => by
    revert q3
    dsimp only
    split
    · rename_i ds hd
      intro q3
      obtain ⟨a, us, rfl, hu, ru⟩ := seq_of h3 (rv.mono (e2.trans e3)) hd
      refine ⟨a, us, rfl, hu, fun p hp => ?_⟩
      obtain ⟨e4, h4, r4⟩ := h3.newL (ru.cut l h) hp
      exact k _ _ _ _ C3 (((e1.trans e2).trans e3).trans e4) h4 r4 q3
    · exact fun z => z.elim⟩⟩⟩
end

/-! ### built-ins -/
/-- list(x): frozen, a cell -/
def dList (ds : List D) (C : Cells) (P : DK) : Prop := match ds with
  | [x] => match itsOf x C with
    | some xs => P (.lst xs) C
    | none => False
  | _ => False
def dListC (ds : List D) (C : Cells) (P : DK) : Prop := match ds with
  | [x] => match itsOf x C with
    | some xs => ∀ p, C p = none → P (.ptr p) (cput C p (.lst xs))
    | none => False
  | _ => False
def dTupleOf (ds : List D) (C : Cells) (P : DK) : Prop := match ds with
  | [x] => match itsOf x C with
    | some xs => P (.tup xs) C
    | none => False
  | _ => False
def dMax2 (ds : List D) (C : Cells) (P : DK) : Prop := match ds with
  | [.int i, .int j] => P (.int (max i j)) C
  | _ => False
def dMin2 (ds : List D) (C : Cells) (P : DK) : Prop := match ds with
  | [.int i, .int j] => P (.int (min i j)) C
  | _ => False
def dAbs (ds : List D) (C : Cells) (P : DK) : Prop := match ds with
  | [.int i] => P (.int i.natAbs) C
  | _ => False
def dInt (ds : List D) (C : Cells) (P : DK) : Prop := match ds with
  | [.int i] => P (.int i) C
  | [.bl b] => P (.int (if b then 1 else 0)) C
  | _ => False
/-- the whole numbers of a list -/
def IntsOf (x : D) (C : Cells) (ns : List Int) : Prop := seqOf x C = some (ns.map D.int)
def dSum (ds : List D) (C : Cells) (P : DK) : Prop := match ds with
  | [x] => ∃ ns, IntsOf x C ns ∧ P (.int ns.sum) C
  | _ => False
def maxI : List Int → Int
  | [] => 0
  | x :: r => r.foldl max x
def minI : List Int → Int
  | [] => 0
  | x :: r => r.foldl min x
def dMaxL (ds : List D) (C : Cells) (P : DK) : Prop := match ds with
  | [x] => ∃ ns, IntsOf x C ns ∧ ns ≠ [] ∧ P (.int (maxI ns)) C
  | _ => False
def dMinL (ds : List D) (C : Cells) (P : DK) : Prop := match ds with
  | [x] => ∃ ns, IntsOf x C ns ∧ ns ≠ [] ∧ P (.int (minI ns)) C
  | _ => False
def sortI (ns : List Int) : List Int := ns.mergeSort (fun a b => decide (a ≤ b))
def dSortI (ds : List D) (C : Cells) (P : DK) : Prop := match ds with
  | [x] => ∃ ns, IntsOf x C ns ∧ P (.lst ((sortI ns).map D.int)) C
  | _ => False
theorem foldl_max_spec : ∀ (r : List Int) (x : Int), (r.foldl max x = x ∨ r.foldl max x ∈ r) ∧ x ≤ r.foldl max x ∧ ∀ y ∈ r, y ≤ r.foldl max x
  | [], x => ⟨.inl rfl, Int.le_refl _, by simp⟩
  | z :: r, x => by
    obtain ⟨h1, h2, h3⟩ := foldl_max_spec r (max x z)
    simp only [List.foldl_cons]
    refine ⟨?_, by omega, fun y hy => ?_⟩
    · rcases h1 with h1 | h1
      · rcases Int.le_total x z with h | h
        · rw [h1, Int.max_eq_right h]; exact .inr List.mem_cons_self
        · rw [h1, Int.max_eq_left h]; exact .inl rfl
      · exact .inr (List.mem_cons_of_mem _ h1)
    · rcases List.mem_cons.mp hy with rfl | hy
      · omega
      · exact h3 y hy
theorem foldl_min_spec : ∀ (r : List Int) (x : Int), (r.foldl min x = x ∨ r.foldl min x ∈ r) ∧ r.foldl min x ≤ x ∧ ∀ y ∈ r, r.foldl min x ≤ y
  | [], x => ⟨.inl rfl, Int.le_refl _, by simp⟩
  | z :: r, x => by
    obtain ⟨h1, h2, h3⟩ := foldl_min_spec r (min x z)
    simp only [List.foldl_cons]
    refine ⟨?_, by omega, fun y hy => ?_⟩
    · rcases h1 with h1 | h1
      · rcases Int.le_total x z with h | h
        · rw [h1, Int.min_eq_left h]; exact .inl rfl
        · rw [h1, Int.min_eq_right h]; exact .inr List.mem_cons_self
      · exact .inr (List.mem_cons_of_mem _ h1)
    · rcases List.mem_cons.mp hy with rfl | hy
      · omega
      · exact h3 y hy
theorem maxI_spec : ∀ {ns : List Int}, ns ≠ [] → maxI ns ∈ ns ∧ ∀ y ∈ ns, y ≤ maxI ns
  | [], h => absurd rfl h
  | x :: r, _ => by
    obtain ⟨h1, h2, h3⟩ := foldl_max_spec r x
    refine ⟨?_, fun y hy => ?_⟩
    · show r.foldl max x ∈ x :: r
      rcases h1 with h1 | h1
      · rw [h1]; exact List.mem_cons_self
      · exact List.mem_cons_of_mem _ h1
    · show y ≤ r.foldl max x
      rcases List.mem_cons.mp hy with rfl | hy
      · exact h2
      · exact h3 y hy
theorem minI_spec : ∀ {ns : List Int}, ns ≠ [] → minI ns ∈ ns ∧ ∀ y ∈ ns, minI ns ≤ y
  | [], h => absurd rfl h
  | x :: r, _ => by
    obtain ⟨h1, h2, h3⟩ := foldl_min_spec r x
    refine ⟨?_, fun y hy => ?_⟩
    · show r.foldl min x ∈ x :: r
      rcases h1 with h1 | h1
      · rw [h1]; exact List.mem_cons_self
      · exact List.mem_cons_of_mem _ h1
    · show r.foldl min x ≤ y
      rcases List.mem_cons.mp hy with rfl | hy
      · exact h2
      · exact h3 y hy
theorem sortI_perm (ns : List Int) : (sortI ns).Perm ns := List.mergeSort_perm ns _
theorem sortI_pair (ns : List Int) : (sortI ns).Pairwise (· ≤ ·) := by
  have h := List.pairwise_mergeSort (le := fun a b : Int => decide (a ≤ b)) (by intro a b c; simp; omega) (by intro a b; simp; omega) ns
  exact h.imp (by intro a b; simp)
theorem sorted_unique : ∀ {xs ys : List Int}, xs.Perm ys → xs.Pairwise (· ≤ ·) → ys.Pairwise (· ≤ ·) → xs = ys := fun {xs ys} p h1 h2 =>
  p.eq_of_pairwise (fun a b _ _ h h' => by omega) h1 h2
section
variable {K : PySem.W.Frag}
theorem ints_of {F H : Hp} {C : Cells} {v : V} {x : D} {ns : List Int} (hs : Hs K F C H) (r : Rep K F v x) (h : IntsOf x C ns) : ∃ a, v = .ref a ∧ SqL K H a (ns.map V.int) := by
  obtain ⟨a, xs, rfl, h2, h3⟩ := seq_of hs r h
  rw [h3.of_ints] at h2
  exact ⟨a, rfl, h2⟩
theorem s_list : SimA K (fun xs H Q => ∃ p ys, xs = [.ref p] ∧ (SqL K H p ys ∨ SqT K H p ys) ∧ ∀ l, H l = none → Q (.ref l) (upd H l (.lst ys))) dList := fun F C H xs ds P Q hs r w k => by
  revert w
  unfold dList
  split
  · split
    · rename_i ys hy
      intro w
      cases r with
      | cons r1 r2 =>
        cases r2
        obtain ⟨a, us, rfl, h2, h3⟩ := its_of hs r1 hy
        refine ⟨a, us, rfl, h2, fun p hp => ?_⟩
        obtain ⟨e4, h4, r4⟩ := hs.newL h3 hp
        exact k _ _ _ _ C e4 h4 r4 w
    · exact fun z => z.elim
  · exact fun z => z.elim
theorem s_listC : SimA K (fun xs H Q => ∃ p ys, xs = [.ref p] ∧ (SqL K H p ys ∨ SqT K H p ys) ∧ ∀ l, H l = none → Q (.ref l) (upd H l (.lst ys))) dListC := fun F C H xs ds P Q hs r w k => by
  revert w
  unfold dListC
  split
  · split
    · rename_i ys hy
      intro w
      cases r with
      | cons r1 r2 =>
        cases r2
        obtain ⟨a, us, rfl, h2, h3⟩ := its_of hs r1 hy
        refine ⟨a, us, rfl, h2, fun p hp => ?_⟩
        obtain ⟨c0, h4⟩ := hs.newC h3 hp
        exact k _ _ _ _ _ (Ex.refl F) h4 (.ptr p) (w p c0)
    · exact fun z => z.elim
  · exact fun z => z.elim
theorem s_max2 : SimA K (fun xs H Q => ∃ i j, xs = [.int i, .int j] ∧ Q (.int (if j > i then j else i)) H) dMax2 := fun F C H xs ds P Q hs r w k => by
  revert w
  unfold dMax2
  split
  · rename_i i j
    intro w
    cases r with
    | cons r1 r2 =>
      cases r1
      cases r2 with
      | cons r3 r4 =>
        cases r3; cases r4
        refine ⟨i, j, rfl, k _ F H _ C (Ex.refl F) hs (.int _) ?_⟩
        rw [show (if j > i then j else i) = max i j by split <;> omega]
        exact w
  · exact fun z => z.elim
theorem s_min2 : SimA K (fun xs H Q => ∃ i j, xs = [.int i, .int j] ∧ Q (.int (if j < i then j else i)) H) dMin2 := fun F C H xs ds P Q hs r w k => by
  revert w
  unfold dMin2
  split
  · rename_i i j
    intro w
    cases r with
    | cons r1 r2 =>
      cases r1
      cases r2 with
      | cons r3 r4 =>
        cases r3; cases r4
        refine ⟨i, j, rfl, k _ F H _ C (Ex.refl F) hs (.int _) ?_⟩
        rw [show (if j < i then j else i) = min i j by split <;> omega]
        exact w
  · exact fun z => z.elim
theorem s_abs : SimA K (fun xs H Q => ∃ i, xs = [.int i] ∧ Q (.int (if i < 0 then -i else i)) H) dAbs := fun F C H xs ds P Q hs r w k => by
  revert w
  unfold dAbs
  split
  · rename_i i
    intro w
    cases r with
    | cons r1 r2 =>
      cases r1; cases r2
      refine ⟨i, rfl, k _ F H _ C (Ex.refl F) hs (.int _) ?_⟩
      rw [show (if i < 0 then -i else i) = (i.natAbs : Int) by split <;> omega]
      exact w
  · exact fun z => z.elim
theorem s_int : SimA K (fun xs H Q => (∃ i, xs = [.int i] ∧ Q (.int i) H) ∨ ∃ k, xs = [.bl k] ∧ Q (.int (if k then 1 else 0)) H) dInt := fun F C H xs ds P Q hs r w k => by
  revert w
  unfold dInt
  split
  · rename_i i
    intro w
    cases r with
    | cons r1 r2 =>
      cases r1; cases r2
      exact .inl ⟨i, rfl, k _ F H _ C (Ex.refl F) hs (.int _) w⟩
  · rename_i b
    intro w
    cases r with
    | cons r1 r2 =>
      cases r1; cases r2
      exact .inr ⟨b, rfl, k _ F H _ C (Ex.refl F) hs (.int _) w⟩
  · exact fun z => z.elim
theorem s_sum : SimA K (rSum K) dSum := fun F C H xs ds P Q hs r w k => by
  revert w
  unfold dSum
  split
  · rintro ⟨ns, hn, w⟩
    cases r with
    | cons r1 r2 =>
      cases r2
      obtain ⟨a, rfl, h2⟩ := ints_of hs r1 hn
      exact ⟨a, ns, rfl, h2, k _ F H _ C (Ex.refl F) hs (.int _) w⟩
  · exact fun z => z.elim
theorem s_maxL : SimA K (rMax K) dMaxL := fun F C H xs ds P Q hs r w k => by
  revert w
  unfold dMaxL
  split
  · rintro ⟨ns, hn, hne, w⟩
    cases r with
    | cons r1 r2 =>
      cases r2
      obtain ⟨a, rfl, h2⟩ := ints_of hs r1 hn
      refine ⟨a, ns, rfl, h2, List.length_pos_iff.mpr hne, fun m hm hle => ?_⟩
      obtain ⟨g1, g2⟩ := maxI_spec hne
      rw [show m = maxI ns from Int.le_antisymm (g2 m hm) (hle _ g1)]
      exact k _ F H _ C (Ex.refl F) hs (.int _) w
  · exact fun z => z.elim
theorem s_minL : SimA K (rMin K) dMinL := fun F C H xs ds P Q hs r w k => by
  revert w
  unfold dMinL
  split
  · rintro ⟨ns, hn, hne, w⟩
    cases r with
    | cons r1 r2 =>
      cases r2
      obtain ⟨a, rfl, h2⟩ := ints_of hs r1 hn
      refine ⟨a, ns, rfl, h2, List.length_pos_iff.mpr hne, fun m hm hle => ?_⟩
      obtain ⟨g1, g2⟩ := minI_spec hne
      rw [show m = minI ns from Int.le_antisymm (hle _ g1) (g2 m hm)]
      exact k _ F H _ C (Ex.refl F) hs (.int _) w
  · exact fun z => z.elim
theorem s_sortI : SimA K (rSortedI K) dSortI := fun F C H xs ds P Q hs r w k => by
  revert w
  unfold dSortI
  split
  · rintro ⟨ns, hn, w⟩
    cases r with
    | cons r1 r2 =>
      cases r2
      obtain ⟨a, rfl, h2⟩ := ints_of hs r1 hn
      refine ⟨a, ns, rfl, h2, fun ns' p hp hr hf => ?_⟩
      have e : ns' = sortI ns := sorted_unique (hp.trans (sortI_perm ns).symm) hr (sortI_pair ns)
      subst e
      obtain ⟨e4, h4, r4⟩ := hs.newL (RepL.ints _) hf
      exact k _ _ _ _ C e4 h4 r4 w
  · exact fun z => z.elim
end
end DD

set_option Elab.async false
set_option linter.all false
set_option maxRecDepth 100000
set_option maxHeartbeats 4000000
/-! Readings over data: == of nested data, in, comprehensions. -/
namespace DD
open PySem L2 PyProof.Rows

mutual
def D.py : D → PyData
  | .non => .none
  | .bl b => .bool b
  | .int i => .int i
  | .str x => .str x
  | .tup xs => .tuple (pys xs)
  | .lst xs => .list (pys xs)
  | .ins _ _ => .dict []
  | .ptr _ => .dict []
  | .dK _ => .dict []
  | .dT _ => .dict []
def pys : List D → List PyData
  | [] => []
  | d :: r => d.py :: pys r
end
/-- data of a depth, of nothing but None, bools, ints, texts, lists, tuples -/
inductive Dat : Nat → D → Prop where
  | non {n} : Dat n .non
  | bl {n} (b : Bool) : Dat n (.bl b)
  | int {n} (i : Int) : Dat n (.int i)
  | str {n} {x : Str} (h : PyData.canLay0 (.str x) = true) : Dat n (.str x)
  | tup {n} {ds : List D} (h : ∀ d, d ∈ ds → Dat n d) : Dat (n + 1) (.tup ds)
  | lst {n} {ds : List D} (h : ∀ d, d ∈ ds → Dat n d) : Dat (n + 1) (.lst ds)
theorem dat_mono : ∀ {n m : Nat} {d : D}, Dat n d → n ≤ m → Dat m d
  | _, _, _, .non, _ => .non
  | _, _, _, .bl b, _ => .bl b
  | _, _, _, .int i, _ => .int i
  | _, _, _, .str h, _ => .str h
  | n + 1, m, _, .tup h, l => by
    obtain ⟨k, rfl⟩ : ∃ k, m = k + 1 := ⟨m - 1, by omega⟩
    exact .tup fun d hd => dat_mono (h d hd) (by omega)
  | n + 1, m, _, .lst h, l => by
    obtain ⟨k, rfl⟩ : ∃ k, m = k + 1 := ⟨m - 1, by omega⟩
    exact .lst fun d hd => dat_mono (h d hd) (by omega)
theorem pys_lay {n : Nat} : ∀ ds : List D, (∀ d, d ∈ ds → PyData.canLay0 d.py = true ∧ d.py.depth ≤ n) → PyData.canLayAll0 (pys ds) = true ∧ PyData.depthAll (pys ds) ≤ n
  | [], _ => by simp [pys, PyData.canLayAll0, PyData.depthAll]
  | d :: r, h => by
    obtain ⟨h1, h2⟩ := h d List.mem_cons_self
    obtain ⟨h3, h4⟩ := pys_lay r fun e he => h e (List.mem_cons_of_mem _ he)
    refine ⟨by simp [pys, PyData.canLayAll0, h1, h3], ?_⟩
    simp only [pys, PyData.depthAll]
    omega
theorem dat_lay : ∀ {n : Nat} {d : D}, Dat n d → PyData.canLay0 d.py = true ∧ d.py.depth ≤ n
  | _, _, .non => by simp [D.py, PyData.canLay0, PyData.depth]
  | _, _, .bl b => by simp [D.py, PyData.canLay0, PyData.depth]
  | _, _, .int i => by simp [D.py, PyData.canLay0, PyData.depth]
  | _, _, .str h => ⟨h, by simp [D.py, PyData.depth]⟩
  | n + 1, _, .tup (ds := ds) h => by
    obtain ⟨h1, h2⟩ := pys_lay (n := n) ds fun d hd => dat_lay (h d hd)
    exact ⟨by simp only [D.py, PyData.canLay0, h1], by simp only [D.py, PyData.depth]; omega⟩
  | n + 1, _, .lst (ds := ds) h => by
    obtain ⟨h1, h2⟩ := pys_lay (n := n) ds fun d hd => dat_lay (h d hd)
    exact ⟨by simp only [D.py, PyData.canLay0, h1], by simp only [D.py, PyData.depth]; omega⟩
theorem dat_shaped {n : Nat} {d : D} (h : Dat n d) (hn : n ≤ 60) : SeqAt.shaped d.py = true := by
  obtain ⟨h1, h2⟩ := dat_lay h
  unfold SeqAt.shaped
  rw [h1, decide_eq_true (by omega)]
  rfl
/-- == of data -/
def D.eqb (x y : D) : Bool := PyData.eqv x.py y.py
theorem eqb_self {n : Nat} {d : D} (h : Dat n d) : d.eqb d = true := SeqAt.eqv_refl _ (dat_lay h).1
/-- a list that is a cell, as data -/
def D.res (C : Cells) : D → D
  | .ptr a => match C a with
    | some (.lst ds) => .lst ds
    | _ => .ptr a
  | d => d
def dEqD (neg : Bool) (x : D) (y : D) (C : Cells) (P : DK) : Prop := ∃ n, n ≤ 60 ∧ Dat n (x.res C) ∧ Dat n (y.res C) ∧ P (.bl (neg ^^ (x.res C).eqb (y.res C))) C
section
variable {K : PySem.W.Frag} {F H : Hp} {C : Cells}
theorem dpAll_of {n : Nat} : ∀ {ds : List D} {xs : List V}, (∀ d, d ∈ ds → ∀ v, Rep K F v d → Dp K H v d.py) → RepL K F xs ds → DpAll K H xs (pys ds)
  | [], _, _, .nil => by simp only [pys]; exact .nil
  | d :: r, _, h, .cons h1 h2 => by
    simp only [pys]
    exact .cons (h d List.mem_cons_self _ h1) (dpAll_of (n := n) (fun e he => h e (List.mem_cons_of_mem _ he)) h2)
theorem rep_dp (ex : Ex F H) : ∀ {n : Nat} {d : D}, Dat n d → ∀ v, Rep K F v d → Dp K H v d.py
  | _, _, .non, v, r => by cases r; exact .non
  | _, _, .bl b, v, r => by cases r; exact .bl b
  | _, _, .int i, v, r => by cases r; exact .int i
  | _, _, .str h, v, r => by cases r; exact .str _
  | n + 1, _, .tup h, v, r => by
    cases r with
    | tup hq hr => exact .tup (ex_t ex hq) (dpAll_of (n := n) (fun d hd v r => rep_dp ex (h d hd) v r) hr)
  | n + 1, _, .lst h, v, r => by
    cases r with
    | lst hq hr => exact .lst (ex_l ex hq) (dpAll_of (n := n) (fun d hd v r => rep_dp ex (h d hd) v r) hr)
theorem res_dp (hs : Hs K F C H) {n : Nat} {v : V} {x : D} (r : Rep K F v x) (h : Dat n (x.res C)) : Dp K H v (x.res C).py := by
  cases x with
  | ptr a =>
    cases r
    revert h
    show Dat n (match C a with | some (.lst ds) => .lst ds | _ => .ptr a) → Dp K H (.ref a) (D.py (match C a with | some (.lst ds) => .lst ds | _ => .ptr a))
    split
    · rename_i ds hc
      intro h
      obtain ⟨_, xs, hx, r⟩ := hs.cell a _ hc
      cases h with
      | lst h =>
        rename_i m
        exact .lst (.of hx) (dpAll_of (n := m) (fun d hd v r => rep_dp hs.ex (h d hd) v r) r)
    · intro h; cases h
  | _ => exact rep_dp hs.ex h v r
theorem s_eqD : SimR K (rEqD K) (dEqD false) := fun F C H x y dx dy P Q hs rx ry w k => by
  obtain ⟨n, hn, h1, h2, w⟩ := w
  refine ⟨_, _, res_dp hs rx h1, res_dp hs ry h2, dat_shaped h1 hn, dat_shaped h2 hn, ?_⟩
  rw [Bool.false_xor] at w
  exact k _ F H _ C (Ex.refl F) hs (.bl _) w
theorem s_neD : SimR K (rNeD K) (dEqD true) := fun F C H x y dx dy P Q hs rx ry w k => by
  obtain ⟨n, hn, h1, h2, w⟩ := w
  refine ⟨_, _, res_dp hs rx h1, res_dp hs ry h2, dat_shaped h1 hn, dat_shaped h2 hn, ?_⟩
  rw [Bool.true_xor] at w
  exact k _ F H _ C (Ex.refl F) hs (.bl _) w
end

/-! ### x in xs, of flat things -/
def toV : D → V
  | .non => .non
  | .bl b => .bl b
  | .int i => .int i
  | .str x => .str x
  | _ => .non
def flatD : D → Bool
  | .non => true
  | .bl _ => true
  | .int _ => true
  | .str _ => true
  | _ => false
/-- x is one of the items -/
def inD (x : D) (ds : List D) : Bool := ds.any fun y => eqV (toV y) (toV x)
def dIn (neg : Bool) (x : D) (y : D) (C : Cells) (P : DK) : Prop := match itsOf y C with
  | some ds => flatD x = true ∧ ds.all flatD = true ∧ P (.bl (neg ^^ inD x ds)) C
  | none => False
section
variable {K : PySem.W.Frag} {F H : Hp} {C : Cells}
theorem flat_rep {v : V} {x : D} (r : Rep K F v x) (h : flatD x = true) : v = toV x ∧ flatV v = true := by
  cases r <;> first | exact ⟨rfl, rfl⟩ | cases h
theorem flat_reps : ∀ {xs : List V} {ds : List D}, RepL K F xs ds → ds.all flatD = true → xs = ds.map toV ∧ xs.all flatV = true
  | _, _, .nil, _ => ⟨rfl, rfl⟩
  | _, _, .cons h r, a => by
    simp only [List.all_cons, Bool.and_eq_true] at a
    obtain ⟨e1, f1⟩ := flat_rep h a.1
    obtain ⟨e2, f2⟩ := flat_reps r a.2
    exact ⟨by rw [e1, e2]; rfl, by rw [List.all_cons, f1, f2]; rfl⟩
theorem s_inS {neg : Bool} : SimR K (rIn K neg) (dIn neg) := fun F C H x y dx dy P Q hs rx ry w k => by
  revert w
  unfold dIn
  split
  · rename_i ds hd
    rintro ⟨h1, h2, w⟩
    obtain ⟨a, xs, rfl, hq, hr⟩ := its_of hs ry hd
    obtain ⟨e1, f1⟩ := flat_rep rx h1
    obtain ⟨e2, f2⟩ := flat_reps hr h2
    refine ⟨a, xs, rfl, hq, f1, f2, ?_⟩
    have e : (if neg then !inV x xs else inV x xs) = (neg ^^ inD dx ds) := by
      rw [e1, e2]
      unfold inV inD
      rw [List.any_map]
      cases neg <;> simp [Function.comp_def]
    rw [e]
    exact k _ F H _ C (Ex.refl F) hs (.bl _) w
  · exact fun z => z.elim
end

/-! ### list comprehensions -/
def dwipe (ρ : DEnv) : List Nat → DEnv
  | [] => ρ
  | v :: vs => (dwipe ρ vs).set v none
abbrev noX : DX := fun _ _ _ _ => False
def wYes (_ : DEnv) (C : Cells) (P : Bool → Cells → Prop) (_ : DX) : Prop := P true C
def LcG (J : DIt) (t : Tgt) (wt : DT) (we : DE) (vs : List Nat) (ρ : DEnv) (C1 : Cells) (P : DK) : Prop := ∀ Dl, C1 Dl = none → ∃ Inv : Nat → Cells → Prop, Inv 0 (cput C1 Dl (.lst [])) ∧
  (∀ i C', Inv i C' → J.still C') ∧
  (∀ i d C', J.items[i]? = some d → Inv i C' → match t.dg d (dwipe ρ vs) with
    | some ρ2 => wt ρ2 C' (fun b C2 => if b = true then we ρ2 C2 (fun y C3 => match C3 Dl with
        | some (.lst acc) => acc.length < 100000 ∧ Inv (i + 1) (cput C3 Dl (.lst (acc ++ [y])))
        | _ => False) noX else Inv (i + 1) C2) noX
    | none => False) ∧
  (∀ C', Inv J.items.length C' → match C' Dl with
    | some (.lst acc) => ∃ C4, Sub C4 C' ∧ C4 Dl = none ∧ P (.lst acc) C4
    | _ => False)
def wLc (wi : DI) (t : Tgt) (wt : DT) (we : DE) (vs : List Nat) (ρ : DEnv) (C : Cells) (P : DK) (PX : DX) : Prop := wi ρ C (fun J C1 => LcG J t wt we vs ρ C1 P) PX
theorem EnvR.wipe {K : PySem.W.Frag} {F : Hp} {σ : L2.St} {ρ : DEnv} (h : EnvR K F σ ρ) : ∀ vs, EnvR K F (L2.wipe σ vs) (dwipe ρ vs)
  | [] => h
  | v :: vs => by
    obtain ⟨h1, h2⟩ := EnvR.wipe h vs
    refine ⟨by show ((L2.wipe σ vs).set v none).length = ((dwipe ρ vs).set v none).length; rw [List.length_set, List.length_set]; exact h1, fun i d q => ?_⟩
    have q' : ((dwipe ρ vs).set v none)[i]? = some (some d) := q
    by_cases e : v = i
    · subst e
      rw [List.getElem?_set] at q'
      simp only [if_true] at q'
      split at q' <;> cases q'
    · rw [List.getElem?_set_ne e] at q'
      obtain ⟨w, hw, rw'⟩ := h2 i d q'
      refine ⟨w, ?_, rw'⟩
      show ((L2.wipe σ vs).set v none)[i]? = some (some w)
      rw [List.getElem?_set_ne e]
      exact hw
section
variable {X : Cx} {W : WX} {K : PySem.W.Frag}
theorem i_lc {wi : DI} {t : Tgt} {wt : DT} {we : DE} {vs : List Nat} (ht : ∀ i ∈ t.slots, i ∈ vs) {σ : L2.St} {H : Hp} {Q : VK} (h : tE K W (wLc wi t wt we vs) σ H Q) : tLc (tI K W wi) (t.tg K) (tT K W0 wt) (tE K W0 we) vs σ H Q := by
  obtain ⟨F, C, ρ, P, PX, hs, en, xr, w, k⟩ := h
  refine ⟨F, C, ρ, _, PX, hs, en, xr, w, fun J F1 H1 Jd C1 e1 h1 ir q => fun Dl hD => ?_⟩
  obtain ⟨c0, h2⟩ := h1.newC (xs := []) (ds := []) .nil hD
  obtain ⟨Inv, i0, st, turn, done⟩ := q Dl c0
  refine ⟨fun i m H' => m = Jd.items.length - i ∧ i ≤ Jd.items.length ∧ ∃ F' C', Ex F1 F' ∧ Hs K F' C' H' ∧ Inv i C', ⟨_, rfl, Nat.zero_le _, F1, _, Ex.refl _, h2, i0⟩, ?_⟩
  rintro i m H' ⟨rfl, hl, F', C', e', h', p⟩
  obtain ⟨go, stop⟩ := ir F' H' C' e' h' (st i C' p)
  by_cases hi : i = Jd.items.length
  · subst hi
    have z := done C' p
    revert z
    split
    · rename_i acc hc
      rintro ⟨C4, s4, n4, z⟩
      obtain ⟨F5, e5, h5, r5⟩ := frz_go h' hc s4 n4
      exact .inl ⟨stop, k _ F5 H' _ C4 ((e1.trans e').trans e5) h5 r5 z⟩
    · exact fun z => z.elim
  · have hlt : i < Jd.items.length := by omega
    have hd : Jd.items[i]? = some Jd.items[i] := List.getElem?_eq_getElem hlt
    obtain ⟨g1, g2⟩ := go i _ hd
    have q := turn i _ C' hd p
    refine .inr ⟨g1, fun H2 => ∃ F2 C2, Ex F' F2 ∧ Hs K F2 C2 H2 ∧ Inv (i + 1) C2, ?_, ?_⟩
    · rintro H2 ⟨F2, C2, e2, h2, p2⟩
      exact ⟨_, by omega, rfl, hlt, F2, C2, e'.trans e2, h2, p2⟩
    · intro x H2 hy
      obtain ⟨F2, e2, h2, rx⟩ := g2 x H2 hy
      revert q
      split
      · rename_i ρ2 hdg
        intro q
        refine tg_ok t h2.ex rx (((en.mono (e1.trans e')).wipe vs).mono e2) hdg fun σ2 en2 hw => ?_
        refine ⟨by rw [hw vs ht, wipe_wipe], ?_⟩
        refine ⟨F2, C', ρ2, _, noX, h2, en2, fun _ _ _ _ _ _ _ _ _ _ _ _ z => z.elim, q, fun b F3 H3 C3 e3 h3 q3 => ?_⟩
        cases b with
        | false =>
          rw [if_neg Bool.false_ne_true] at q3
          rw [if_neg Bool.false_ne_true]
          exact ⟨F3, C3, e2.trans e3, h3, q3⟩
        | true =>
          rw [if_pos rfl] at q3
          rw [if_pos rfl]
          refine ⟨F3, C3, ρ2, _, noX, h3, en2.mono e3, fun _ _ _ _ _ _ _ _ _ _ _ _ z => z.elim, q3, fun y F4 H4 dy C4 e4 h4 ry q4 => ?_⟩
          revert q4
          dsimp only
          split
          · rename_i acc hc
            rintro ⟨hz, q4⟩
            obtain ⟨f0, us, hu, ru⟩ := h4.cell Dl _ hc
            exact ⟨us, hu, by rw [ru.length]; exact sz_lt hz, F4, _, (e2.trans e3).trans e4, h4.put (c := .lst (acc ++ [dy])) f0 ⟨_, upd_same, ru.append (.cons ry .nil)⟩, q4⟩
          · exact fun z => z.elim
      · exact fun z => z.elim
theorem dts_nil : PTs X [] (tT X.K W wYes) := ⟨fun pins s σ H Q I ⟨F, C, ρ, P, PX, hs, en, xr, w, k⟩ => pts_nil.run pins s σ H Q I (k _ F H C (Ex.refl F) hs w)⟩
theorem dts_one {c : Expr} {t : DT} (h : PT X c (tT X.K W t)) : PTs X [c] (tT X.K W t) := pts_one h
theorem d_lc {elt tg iter : Expr} {ifs : List Expr} {scope : Scope} {own : List (Str × Nat)} {pos : Pos} {wi : DI} {t : Tgt} {wt : DT} {we : DE} (hc : X.calm = true) (hN : X.N.Nodup) (hi : PI X tg iter (tI X.K W wi)) (ok : BlkOk X.N X.env.scope scope own) (hsl : ∀ i ∈ t.slots, i ∈ own.map (·.2))
    (hg : ∀ (s : Shared) (H : Hp) (C : Addr) (cl : List (Str × Addr)) (fp : List Addr), PG (X.blk s H scope (compEnvC scope cl C X.env) fp) tg (t.tg X.K)) (ht : ∀ (s : Shared) (H : Hp) (C : Addr) (cl : List (Str × Addr)) (fp : List Addr), PTs (X.blk s H scope (compEnvC scope cl C X.env) fp) ifs (tT X.K W0 wt))
    (he : ∀ (s : Shared) (H : Hp) (C : Addr) (cl : List (Str × Addr)) (fp : List Addr), PE (X.blk s H scope (compEnvC scope cl C X.env) fp) elt (tE X.K W0 we)) (hs : ∀ x, foldedSetIterable iter X.env x = pure x := by intro _; rfl) :
    PE X (.ListComp elt [⟨tg, iter, ifs, 0⟩] scope pos) (tE X.K W (wLc wi t wt we (own.map (·.2)))) := PE.imp (pe_lc hc hN hi ok hg ht he hs) fun _ _ _ => i_lc hsl
theorem ds_setLc (i : Nat) {y : Str} {py : Pos} {elt tg iter : Expr} {ifs : List Expr} {scope : Scope} {own : List (Str × Nat)} {pos spos : Pos} {wi : DI} {t : Tgt} {wt : DT} {we : DE} (hc : X.calm = true) (hN : X.N.Nodup) (hy : X.N[i]? = some y) (hyl : X.env.scope.names.lookup y = some .local)
    (hsw : swapsWith (.ListComp elt [⟨tg, iter, ifs, 0⟩] scope pos) (some (.Name y py)) spos.line X.env = pure true) (hi : PI X tg iter (tI X.K W wi)) (ok : BlkOk X.N X.env.scope scope own) (hsl : ∀ i ∈ t.slots, i ∈ own.map (·.2))
    (hg : ∀ (s : Shared) (H : Hp) (C : Addr) (cl : List (Str × Addr)) (fp : List Addr), PG (X.blk s H scope (compEnvC scope cl C X.env) fp) tg (t.tg X.K)) (ht : ∀ (s : Shared) (H : Hp) (C : Addr) (cl : List (Str × Addr)) (fp : List Addr), PTs (X.blk s H scope (compEnvC scope cl C X.env) fp) ifs (tT X.K W0 wt))
    (he : ∀ (s : Shared) (H : Hp) (C : Addr) (cl : List (Str × Addr)) (fp : List Addr), PE (X.blk s H scope (compEnvC scope cl C X.env) fp) elt (tE X.K W0 we)) (hs : ∀ x, foldedSetIterable iter X.env x = pure x := by intro _; rfl) :
    PS X (.Assign [.Name y py] (.ListComp elt [⟨tg, iter, ifs, 0⟩] scope pos) spos) (tS X.K W (wSet i (wLc wi t wt we (own.map (·.2))))) := PS.imp (ps_setLc hc hN hy hyl hsw hi ok hg ht he hs) fun Dn σ H ⟨F, C, ρ, DE, hs, en, xr, w, er⟩ => by
  have z : tE X.K W (wLc wi t wt we (own.map (·.2))) σ H (fun x H1 => Dn.nx (σ.set i (some x)) H1) := ⟨F, C, ρ, _, _, hs, en, xr, w, fun v F1 H1 d C1 e1 h1 r q => er.nx _ F1 H1 _ C1 e1 h1 ((en.mono e1).set r) q⟩
  exact i_lc hsl z
end
/-- a comprehension that changes nothing -/
theorem lc_pure {t : Tgt} {wt : DT} {we : DE} {vs : List Nat} {J : DIt} {C1 : Cells} {ρ : DEnv} {P : DK} (f : D → Option D) (hf : ∀ C', Sub C1 C' → J.still C') (hn : J.items.length ≤ 100000)
    (h : ∀ (i : Nat) d C' (Q : Option D → Cells → Prop), J.items[i]? = some d → Sub C1 C' → Q (f d) C' → match t.dg d (dwipe ρ vs) with
      | some ρ2 => wt ρ2 C' (fun b C2 => if b = true then we ρ2 C2 (fun y C3 => Q (some y) C3) noX else Q none C2) noX
      | none => False)
    (hP : P (.lst (J.items.filterMap f)) C1) : LcG J t wt we vs ρ C1 P := by
  intro Dl hD
  refine ⟨fun i C' => C' = cput C1 Dl (.lst ((J.items.take i).filterMap f)), by simp, fun i C' e => hf C' (by rw [e]; exact Sub.new hD), fun i d C' hd e => ?_, fun C' e => ?_⟩
  · have ht : J.items.take (i + 1) = J.items.take i ++ [d] := by rw [List.take_succ, hd]; rfl
    refine h i d C' (fun o C3 => match o with
      | some y => match C3 Dl with
        | some (.lst acc) => acc.length < 100000 ∧ cput C3 Dl (.lst (acc ++ [y])) = cput C1 Dl (.lst ((J.items.take (i + 1)).filterMap f))
        | _ => False
      | none => C3 = cput C1 Dl (.lst ((J.items.take (i + 1)).filterMap f))) hd (by rw [e]; exact Sub.new hD) ?_
    split
    · rename_i y hy
      rw [e, cput_same]
      refine ⟨?_, ?_⟩
      · have := List.length_filterMap_le f (J.items.take i)
        have hlt : i < J.items.length := (List.getElem?_eq_some_iff.mp hd).1
        rw [List.length_take] at this
        omega
      · rw [cput_cput, ht, List.filterMap_append]
        simp [hy]
    · rename_i hy
      rw [e, ht, List.filterMap_append]
      simp [hy]
  · rw [e, cput_same, List.take_length]
    exact ⟨C1, Sub.new hD, hD, hP⟩
end DD

set_option Elab.async false
set_option linter.all false
set_option maxRecDepth 100000
set_option maxHeartbeats 4000000
/-! Readings over data: constants of the module, further operators, the law's end, what loops ask. -/
namespace DD
open PySem L2 PyProof.Rows
section
variable {X : Cx} {W : WX} {K : PySem.W.Frag}
/-- a module's whole number -/
theorem d_kint {x : Str} {i : Int} {pos : Pos} (h : ∃ t, X.mg x = some (.int i t)) (hg : Gl X x := by rfl) (hd : (x == ("__debug__" : Str)) = false := by decide) : PE X (.Name x pos) (tE X.K W (wC (.int i))) := by
  obtain ⟨t, h⟩ := h
  exact d_glob (v := .int i) hg h ⟨t, rfl⟩ (fun _ => .int i) hd
/-- // by a divisor below 2 ^ 64 -/
abbrev dDivW : DR2 := dI (fun _ j => 0 < j ∧ j < 18446744073709551616) fun i j => .int (i / j)
theorem s_divW : SimR K (rI CDivW fun i j => .int (i / j)) dDivW := fun F C H x y dx dy P Q hs rx ry w k => by
  cases rx <;> cases ry <;> first
    | exact w.elim
    | exact ⟨_, _, rfl, rfl, wide_div (b := 64) w.1.1 (by have := w.1; omega) (by decide) (by decide), k _ F H _ C (Ex.refl F) hs (.int _) w.2⟩
def dPow : DR2 := dI CPow fun i j => .int (i ^ j.toNat)
theorem s_pow : SimR K (rI CPow fun i j => .int (i ^ j.toNat)) dPow := simI fun _ _ _ => .int _
theorem s_tupleOf : SimA K (fun xs H Q => ∃ p ys, xs = [.ref p] ∧ ((SqL K H p ys ∧ ∀ l, H l = none → Q (.ref l) (upd H l (.tup ys))) ∨ (SqT K H p ys ∧ Q (.ref p) H))) dTupleOf := fun F C H xs ds P Q hs r w k => by
  revert w
  unfold dTupleOf
  split
  · split
    · rename_i ys hy
      intro w
      obtain ⟨v, rfl, r1⟩ := r.one
      obtain ⟨a, us, rfl, h2, h3⟩ := its_of hs r1 hy
      rcases h2 with h2 | h2
      · refine ⟨a, us, rfl, .inl ⟨h2, fun p hp => ?_⟩⟩
        obtain ⟨e4, h4, r4⟩ := hs.newT h3 hp
        exact k _ _ _ _ C e4 h4 r4 w
      · refine ⟨a, us, rfl, .inr ⟨h2, ?_⟩⟩
        obtain ⟨e4, h4⟩ : ∃ F2 : Hp, Ex F F2 ∧ Hs K F2 C H ∧ SqT K F2 a us := by
          rcases h2 with (h2 | ⟨o, h2⟩) | h2
          · cases hf : F a with
            | some u =>
              have := hs.ex _ _ hf
              rw [h2] at this
              cases this
              exact ⟨F, Ex.refl _, hs, .inl (.inl hf)⟩
            | none =>
              have c0 : C a = none := by
                cases hc : C a with
                | none => rfl
                | some c =>
                  obtain ⟨_, rc⟩ := hs.cell a c hc
                  cases c <;> (obtain ⟨_, z⟩ := rc.some; first | (obtain ⟨_, q, _⟩ := rc; rw [h2] at q; cases q) | (obtain ⟨_, _, q, _⟩ := rc; rw [h2] at q; cases q))
              refine ⟨upd F a (.tup us), Ex.new hf, ⟨fun b u e => ?_, fun b c e => ?_⟩, .inl (.inl upd_same)⟩
              · by_cases z : b = a
                · subst z; rw [upd_same] at e; cases e; exact h2
                · rw [upd_ne z] at e; exact hs.ex b u e
              · have z : b ≠ a := cell_ne e c0
                obtain ⟨f1, rc⟩ := hs.cell b c e
                exact ⟨by rw [upd_ne z]; exact f1, rc.ex (Ex.new hf)⟩
          · cases hf : F a with
            | some u =>
              have := hs.ex _ _ hf
              rw [h2] at this
              cases this
              exact ⟨F, Ex.refl _, hs, .inl (.inr ⟨o, hf⟩)⟩
            | none =>
              have c0 : C a = none := by
                cases hc : C a with
                | none => rfl
                | some c =>
                  obtain ⟨_, rc⟩ := hs.cell a c hc
                  cases c <;> (obtain ⟨_, z⟩ := rc.some; first | (obtain ⟨_, q, _⟩ := rc; rw [h2] at q; cases q) | (obtain ⟨_, _, q, _⟩ := rc; rw [h2] at q; cases q))
              refine ⟨upd F a (.frz o (.tup us)), Ex.new hf, ⟨fun b u e => ?_, fun b c e => ?_⟩, .inl (.inr ⟨o, upd_same⟩)⟩
              · by_cases z : b = a
                · subst z; rw [upd_same] at e; cases e; exact h2
                · rw [upd_ne z] at e; exact hs.ex b u e
              · have z : b ≠ a := cell_ne e c0
                obtain ⟨f1, rc⟩ := hs.cell b c e
                exact ⟨by rw [upd_ne z]; exact f1, rc.ex (Ex.new hf)⟩
          · exact ⟨F, Ex.refl _, hs, .inr h2⟩
        exact k _ e4 H _ C h4.1 h4.2.1 (.tup h4.2.2 (h3.mono h4.1)) w
    · exact fun z => z.elim
  · exact fun z => z.elim
/-- a, b = e1, e2 -/
def wPar (i j : Nat) (a : DA) (E : DEnds) (ρ : DEnv) (C : Cells) : Prop := a ρ C (fun ds C1 => match ds with
  | [x, y] => E.nx ((ρ.set i (some x)).set j (some y)) C1
  | _ => False) E.ex
theorem ds_par {i j : Nat} {x y : Str} {a b : Expr} {wr : DA} {px py pt pos : Pos} {kt k2 pt2} (hc : X.calm = true) (hN : X.N.Nodup) (hi : X.N[i]? = some x) (hj : X.N[j]? = some y) (hij : i ≠ j)
    (hx : X.env.scope.names.lookup x = some .local) (hy : X.env.scope.names.lookup y = some .local) (ha : PA X [a, b] (tA X.K W wr))
    (hw : swappedStores [.Tuple [.Name x px, .Name y py] kt pt] (.Tuple [a, b] k2 pt2) X.env = pure (some [x, y]))
    (hs : swapsWithSole [.Tuple [.Name x px, .Name y py] kt pt] (.Tuple [a, b] k2 pt2) pos.line X.env = pure false := by rfl) :
    PS X (.Assign [.Tuple [.Name x px, .Name y py] kt pt] (.Tuple [a, b] k2 pt2) pos) (tS X.K W (wPar i j wr)) := PS.imp (ps_par hc hN hi hj hij hx hy ha hw hs) fun Dn σ H ⟨F, C, ρ, DE, hs, en, xr, w, er⟩ =>
  ⟨F, C, ρ, _, _, hs, en, xr, w, fun vs F1 H1 ds C1 e1 h1 r q => by
    revert q
    dsimp only
    split
    · intro q
      cases r with
      | cons r1 r2 =>
        cases r2 with
        | cons r2 r3 =>
          cases r3
          exact ⟨_, _, rfl, er.nx _ F1 H1 _ C1 e1 h1 (((en.mono e1).set r1).set r2) q⟩
    · exact fun z => z.elim⟩
end

/-! ### the law's own promise -/
def spLawD (K : PySem.W.Frag) : Sp := fun vs H Q _ => ∃ (a : Addr) (ns : List Int), vs = [.ref a] ∧ SqL K H a (ns.map V.int) ∧ ns.length ≤ 63 ∧ ∀ H', Q (.bl true) H'
theorem spLaw_imp {K : PySem.W.Frag} (R : DSp) (go : ∀ (ns : List Int) (P : DK), ns.length ≤ 63 → (∀ C', P (.bl true) C') → R [.lst (ns.map D.int)] (fun _ => none) P) : ∀ vs H Q E, spLawD K vs H Q E → spD K R vs H Q E :=
  fun vs H Q E ⟨a, ns, hv, hs, hl, k⟩ => by
    subst hv
    refine ⟨H, fun _ => none, [.lst (ns.map D.int)], fun d _ => d = .bl true, ⟨Ex.refl H, fun _ _ e => by cases e⟩, .cons (.lst hs (RepL.ints ns)) .nil, go ns _ hl fun _ => rfl, fun v F' H' d C' _ _ r q => ?_⟩
    subst q
    cases r
    exact k H'
end DD

set_option Elab.async false
set_option linter.all false
set_option maxRecDepth 100000
set_option maxHeartbeats 4000000
/-! Readings over data: sorted(..) of data of any kind. -/
namespace DD
open PySem L2 PyProof.Rows PySem.W
def rSortedD (K : PySem.W.Frag) : List V → Hp → VK → Prop := fun vs H Q => ∃ (a : Addr) (xs : List V) (ps : List PyData), vs = [V.ref a] ∧ SqL K H a xs ∧ DpAll K H xs ps ∧ AllAlike ps ∧ Sortable ps ∧ (∀ d ∈ ps, d.depth ≤ 60) ∧
  ∀ p, H p = none → Q (.ref p) (upd H p (.lst (((xs.zip ps).mergeSort (dataLe false Prod.snd)).map Prod.fst)))
theorem dpAll_len {K : PySem.W.Frag} {H : Hp} : ∀ {xs : List V} {ps : List PyData}, DpAll K H xs ps → xs.length = ps.length
  | _, _, .nil => rfl
  | _, _, .cons _ r => congrArg (· + 1) (dpAll_len r)
theorem each_zip {xs : List V} {ps : List PyData} {vs : List Value} : ∀ {xs : List V} {ps : List PyData} {vs : List Value}, Vals xs vs → xs.length = ps.length → EachIs (fun v (b : V × PyData) => RelV b.1 v) vs (xs.zip ps)
  | _, [], _, .nil, _ => .nil
  | _, p :: ps, _, .cons r t, h => .cons r (each_zip (xs := xs) (ps := ps) (vs := vs) t (by simpa using h))
theorem each_reads {X : Cx} {pins : List (Addr × Obj)} {σ : L2.St} {H : Hp} {s : Shared} (I : Inv X pins σ H s) : ∀ {xs : List V} {ps : List PyData} {vs : List Value}, Vals xs vs → DpAll X.K H xs ps → EachIs (fun v (b : V × PyData) => ∃ as, Reads s.heap v b.2 as) vs (xs.zip ps)
  | _, _, _, .nil, .nil => .nil
  | _, _, _, .cons r t, .cons d e => .cons (Dp.reads I _ _ _ d r) (each_reads I t e)
theorem each_vals {bs : List (V × PyData)} {vs : List Value} : ∀ {bs : List (V × PyData)} {vs : List Value}, EachIs (fun v (b : V × PyData) => RelV b.1 v) vs bs → Vals (bs.map Prod.fst) vs
  | _, _, .nil => .nil
  | _, _, .cons r t => .cons r (each_vals (bs := bs) (vs := vs) t)
theorem zip_snd {xs : List V} {ps : List PyData} (h : xs.length = ps.length) : (xs.zip ps).map Prod.snd = ps := List.map_snd_zip (by omega)
theorem cr_sortedD {X : Cx} (hu : X.A.units + 64 < cLine) : CallR X (.builtin "sorted") (rSortedD X.K) := by
  intro pins s σ H vs us Q I r h
  obtain ⟨a, xs, ps, rfl, hs, hd, hal, hk, hdep, q⟩ := h
  obtain ⟨its, rv, hl, hz⟩ := I.list hs
  rw [Vals.ref1 r]
  have hlen := dpAll_len hd
  have hb : (xs.zip ps).length = xs.length := by rw [List.length_zip]; omega
  refine sorted_data (bs := xs.zip ps) (enc := Prod.snd) (R := fun v b => RelV b.1 v) hl.isList (each_zip (xs := xs) (ps := ps) (vs := its) rv hlen) (each_reads I rv hd) (by rw [zip_snd hlen]; exact hal) (by rw [zip_snd hlen]; exact hk) (by rw [hb]; exact hz) (fun b hb => ?_) fun out h1 h2 => ?_
  · have := hdep b.2 (by rw [← zip_snd hlen]; exact List.mem_map_of_mem hb)
    omega
  · obtain ⟨ep, he'⟩ := PyProof.Rows.sortedAll_at s.heap its out.toArray
    have k1 := each_vals (bs := []) (vs := []) h2
    have hlen2 : (((xs.zip ps).mergeSort (dataLe false Prod.snd)).map Prod.fst).length ≤ sizeLine := by
      rw [List.length_map, List.length_mergeSort, hb]; exact hz
    exact ⟨.ref _, upd H (s.heap.objs.size + 1) (.lst (((xs.zip ps).mergeSort (dataLe false Prod.snd)).map Prod.fst)), I.laid (t' := s.toks) (fun _ _ => PyProof.Rows.sortedAll_old) (Nat.le_succ _) ⟨hlen2, out, ep, k1, he'⟩, rfl, q _ (I.hok.fresh (Nat.le_succ _))⟩
/-- sorted(x), data of one kind -/
def leD : D → D → Bool := dataLe false D.py
structure SortsD (ds : List D) : Prop where
  dat : ∃ n, n ≤ 60 ∧ ∀ d ∈ ds, Dat n d
  alike : AllAlike (ds.map D.py)
  ok : Sortable (ds.map D.py)
def dSortD (ds : List D) (C : Cells) (P : DK) : Prop := match ds with
  | [x] => match itsOf x C with
    | some xs => SortsD xs ∧ seqOf x C = some xs ∧ P (.lst (xs.mergeSort leD)) C
    | none => False
  | _ => False
section
variable {K : PySem.W.Frag}
theorem pys_map : ∀ ds : List D, pys ds = ds.map D.py
  | [] => by simp [pys]
  | d :: r => by simp [pys, pys_map r]
theorem RepL.of_zip {F : Hp} : ∀ {L : List (V × D)}, (∀ p ∈ L, Rep K F p.1 p.2) → RepL K F (L.map Prod.fst) (L.map Prod.snd)
  | [], _ => .nil
  | p :: r, h => .cons (h p List.mem_cons_self) (RepL.of_zip fun q hq => h q (List.mem_cons_of_mem _ hq))
theorem RepL.zip_mem {F : Hp} : ∀ {xs : List V} {ds : List D}, RepL K F xs ds → ∀ p ∈ xs.zip ds, Rep K F p.1 p.2
  | _, _, .nil, p, hp => by simp at hp
  | _, _, .cons h r, p, hp => by
    simp only [List.zip_cons_cons, List.mem_cons] at hp
    rcases hp with rfl | hp
    · exact h
    · exact RepL.zip_mem r p hp
theorem RepL.sort {F : Hp} {xs : List V} {ds : List D} (r : RepL K F xs ds) : RepL K F (((xs.zip (pys ds)).mergeSort (dataLe false Prod.snd)).map Prod.fst) (ds.mergeSort leD) := by
  have hl := r.length
  have e1 : xs.zip (pys ds) = (xs.zip ds).map (fun p => (p.1, p.2.py)) := by rw [pys_map, List.zip_map_right]; congr
  have e2 : (((xs.zip ds).map (fun p => (p.1, p.2.py))).mergeSort (dataLe false Prod.snd)) = ((xs.zip ds).mergeSort (fun p q => leD p.2 q.2)).map (fun p => (p.1, p.2.py)) :=
    (List.map_mergeSort (r := fun p q : V × D => leD p.2 q.2) (s := dataLe false Prod.snd) (f := fun p : V × D => (p.1, p.2.py)) (fun a _ b _ => rfl)).symm
  have e3 : ds.mergeSort leD = ((xs.zip ds).mergeSort (fun p q => leD p.2 q.2)).map Prod.snd := by
    have e4 : ds = (xs.zip ds).map Prod.snd := (List.map_snd_zip (by omega)).symm
    conv => lhs; rw [e4]
    exact (List.map_mergeSort (r := fun p q : V × D => leD p.2 q.2) (s := leD) (f := Prod.snd) (fun a _ b _ => rfl)).symm
  rw [e1, e2, e3, List.map_map]
  exact RepL.of_zip (L := (xs.zip ds).mergeSort (fun p q => leD p.2 q.2)) fun p hp => r.zip_mem p (List.mem_mergeSort.mp hp)
theorem s_sortD : SimA K (rSortedD K) dSortD := fun F C H xs ds P Q hs r w k => by
  revert w
  unfold dSortD
  split
  · rename_i x
    split
    · rename_i ys hy
      rintro ⟨⟨⟨n, hn, hd⟩, hal, hok⟩, hsq, w⟩
      obtain ⟨v, rfl, r1⟩ := r.one
      obtain ⟨a, us, rfl, h2, h3⟩ := seq_of hs r1 hsq
      refine ⟨a, us, pys ys, rfl, h2, dpAll_of (n := n) (fun d hd' v r => rep_dp hs.ex (hd d hd') v r) h3, by rw [pys_map]; exact hal, by rw [pys_map]; exact hok, fun d hd' => ?_, fun p hp => ?_⟩
      · rw [pys_map, List.mem_map] at hd'
        obtain ⟨e, he, rfl⟩ := hd'
        have := (dat_lay (hd e he)).2
        omega
      · obtain ⟨e4, h4, r4⟩ := hs.newL h3.sort hp
        exact k _ _ _ _ C e4 h4 r4 w
    · exact fun z => z.elim
  · exact fun z => z.elim
end

/-! ### pairs of whole numbers -/
def pairD (p : Int × Int) : D := .tup [.int p.1, .int p.2]
def lePair (p q : Int × Int) : Bool := decide (p.1 < q.1 ∨ (p.1 = q.1 ∧ p.2 ≤ q.2))
theorem leD_pair (p q : Int × Int) : leD (pairD p) (pairD q) = lePair p q := by
  have := congrFun (congrFun (dataLe_ii (fun p : Int × Int => p.1) (fun p => p.2)) p) q
  exact this
theorem sorts_pairs (ps : List (Int × Int)) : SortsD (ps.map pairD) := by
  refine ⟨⟨1, by decide, fun d hd => ?_⟩, ?_, ?_⟩
  · obtain ⟨p, _, rfl⟩ := List.mem_map.mp hd
    exact .tup fun e he => by
      simp only [List.mem_cons, List.not_mem_nil, or_false] at he
      rcases he with rfl | rfl <;> exact .int _
  · rw [List.map_map]
    exact AllAlike.of fun b b' => by simp [pairD, D.py, pys, alike, alikeAll]
  · rw [List.map_map]
    exact Sortable.tuples fun b => ⟨.int b.1, [.int b.2], by simp [pairD, D.py, pys]⟩
theorem sort_pairs (ps : List (Int × Int)) : (ps.map pairD).mergeSort leD = (ps.mergeSort lePair).map pairD :=
  (List.map_mergeSort (fun a _ b _ => (leD_pair a b).symm)).symm
theorem lePair_sorted (ps : List (Int × Int)) : (ps.mergeSort lePair).Pairwise fun p q => p.1 < q.1 ∨ (p.1 = q.1 ∧ p.2 ≤ q.2) := by
  have h := List.pairwise_mergeSort (le := lePair) (by intro a b c; simp [lePair]; omega) (by intro a b; simp [lePair]; omega) ps
  exact h.imp (by intro a b; simp [lePair])
end DD

set_option Elab.async false
set_option linter.all false
set_option maxRecDepth 100000
set_option maxHeartbeats 4000000
/-! Tools for readings over data: loops, places. -/
namespace DD
open PySem L2

theorem for_rng {lo : Int} {n i : Nat} {b : DS} {E : DEnds} {ρ : DEnv} {C : Cells} (Inv : Nat → DEnv → Cells → Prop) (h0 : Inv 0 ρ C)
    (hs : ∀ (k : Nat) ρ' C', k < n → Inv k ρ' C' → b { nx := Inv (k + 1), ct := Inv (k + 1), bk := E.nx, rt := E.rt, ex := E.ex } (ρ'.set i (some (.int (lo + (k : Int))))) C')
    (hd : ∀ ρ' C', Inv n ρ' C' → E.nx ρ' C') : ForG ⟨rngD lo n, frozen⟩ (.name i) b E ρ C := by
  refine ⟨Inv, h0, fun _ _ _ _ => trivial, fun k d ρ' C' hk hI => ?_, fun ρ' C' hI => hd ρ' C' (by have e := rngD_len lo n; simp only [e] at hI; exact hI)⟩
  obtain ⟨hk2, rfl⟩ := rngD_get hk
  simp only [Tgt.dg]
  exact hs k ρ' C' hk2 hI
theorem for_items {ds : List D} {t : Tgt} {b : DS} {E : DEnds} {ρ : DEnv} {C : Cells} (Inv : Nat → DEnv → Cells → Prop) (h0 : Inv 0 ρ C)
    (hs : ∀ (k : Nat) d ρ' C', ds[k]? = some d → Inv k ρ' C' → match t.dg d ρ' with
      | some ρ2 => b { nx := Inv (k + 1), ct := Inv (k + 1), bk := E.nx, rt := E.rt, ex := E.ex } ρ2 C'
      | none => False)
    (hd : ∀ ρ' C', Inv ds.length ρ' C' → E.nx ρ' C') : ForG ⟨ds, frozen⟩ t b E ρ C := ⟨Inv, h0, fun _ _ _ _ => trivial, hs, hd⟩
theorem for_map {α : Type} {L : List α} {enc : α → D} {t : Tgt} {b : DS} {E : DEnds} {ρ : DEnv} {C : Cells} (Inv : Nat → DEnv → Cells → Prop) (h0 : Inv 0 ρ C)
    (hs : ∀ (k : Nat) a ρ' C', L[k]? = some a → Inv k ρ' C' → match t.dg (enc a) ρ' with
      | some ρ2 => b { nx := Inv (k + 1), ct := Inv (k + 1), bk := E.nx, rt := E.rt, ex := E.ex } ρ2 C'
      | none => False)
    (hd : ∀ ρ' C', Inv L.length ρ' C' → E.nx ρ' C') : ForG ⟨L.map enc, frozen⟩ t b E ρ C := by
  refine for_items Inv h0 (fun k d ρ' C' hk hI => ?_) (fun ρ' C' hI => hd ρ' C' (by rw [List.length_map] at hI; exact hI))
  rw [List.getElem?_map] at hk
  cases hL : L[k]? with
  | none => rw [hL] at hk; cases hk
  | some a =>
    rw [hL] at hk
    simp only [Option.map_some, Option.some.injEq] at hk
    subst hk
    exact hs k a ρ' C' hL hI
/-- a loop over a list that is a cell and stays as it is -/
theorem for_cell {α : Type} {L : List α} {enc : α → D} {a : Addr} {t : Tgt} {b : DS} {E : DEnds} {ρ : DEnv} {C : Cells} (Inv : Nat → DEnv → Cells → Prop) (h0 : Inv 0 ρ C) (hst : ∀ k ρ' C', Inv k ρ' C' → C' a = some (.lst (L.map enc)))
    (hs : ∀ (k : Nat) x ρ' C', L[k]? = some x → Inv k ρ' C' → match t.dg (enc x) ρ' with
      | some ρ2 => b { nx := Inv (k + 1), ct := Inv (k + 1), bk := E.nx, rt := E.rt, ex := E.ex } ρ2 C'
      | none => False)
    (hd : ∀ ρ' C', Inv L.length ρ' C' → E.nx ρ' C') : ForG ⟨L.map enc, fun C' => C' a = some (.lst (L.map enc))⟩ t b E ρ C := by
  refine ⟨Inv, h0, hst, (fun k d ρ' C' hk hI => ?_), (fun ρ' C' hI => hd ρ' C' (by simp only [List.length_map] at hI; exact hI))⟩
  simp only [List.getElem?_map] at hk
  cases hL : L[k]? with
  | none => rw [hL] at hk; cases hk
  | some a =>
    rw [hL] at hk
    simp only [Option.map_some, Option.some.injEq] at hk
    subst hk
    exact hs k a ρ' C' hL hI
/-- a comprehension over a range that changes nothing -/
theorem lc_rng {lo : Int} {n i : Nat} {wt : DT} {we : DE} {vs : List Nat} {C1 : Cells} {ρ : DEnv} {P : DK} (f : Int → Option D) (hn : n ≤ 100000)
    (h : ∀ (k : Nat) C' (Q : Option D → Cells → Prop), k < n → Sub C1 C' → Q (f (lo + (k : Int))) C' →
      wt ((dwipe ρ vs).set i (some (.int (lo + (k : Int))))) C' (fun b C2 => if b = true then we ((dwipe ρ vs).set i (some (.int (lo + (k : Int))))) C2 (fun y C3 => Q (some y) C3) noX else Q none C2) noX)
    (hP : P (.lst ((List.range n).filterMap fun (k : Nat) => f (lo + (k : Int)))) C1) : LcG ⟨rngD lo n, frozen⟩ (.name i) wt we vs ρ C1 P := by
  refine lc_pure (fun d => match d with | .int z => f z | _ => none) (fun _ _ => trivial) (by simpa [rngD_len] using hn) (fun k d C' Q hk hs hq => ?_) ?_
  · obtain ⟨hk2, rfl⟩ := rngD_get hk
    simp only [Tgt.dg]
    exact h k C' Q hk2 hs hq
  · have e : (rngD lo n).filterMap (fun d => match d with | .int z => f z | _ => none) = (List.range n).filterMap fun (k : Nat) => f (lo + (k : Int)) := by
      unfold rngD
      rw [List.filterMap_map]
      rfl
    show P (.lst ((rngD lo n).filterMap (fun d => match d with | .int z => f z | _ => none))) C1
    rw [e]
    exact hP
theorem lc_map {α : Type} {L : List α} {enc : α → D} {st : Cells → Prop} {t : Tgt} {wt : DT} {we : DE} {vs : List Nat} {C1 : Cells} {ρ : DEnv} {P : DK} (f : α → Option D) (hf : ∀ C', Sub C1 C' → st C') (hn : L.length ≤ 100000)
    (h : ∀ (k : Nat) a C' (Q : Option D → Cells → Prop), L[k]? = some a → Sub C1 C' → Q (f a) C' → match t.dg (enc a) (dwipe ρ vs) with
      | some ρ2 => wt ρ2 C' (fun b C2 => if b = true then we ρ2 C2 (fun y C3 => Q (some y) C3) noX else Q none C2) noX
      | none => False)
    (hP : P (.lst (L.filterMap f)) C1) : LcG ⟨L.map enc, st⟩ t wt we vs ρ C1 P := by
  intro Dl hD
  refine ⟨fun i C' => C' = cput C1 Dl (.lst ((L.take i).filterMap f)), by simp, fun i C' e => hf C' (by rw [e]; exact Sub.new hD), fun i d C' hd e => ?_, fun C' e => ?_⟩
  · simp only [List.getElem?_map] at hd
    cases hL : L[i]? with
    | none => rw [hL] at hd; cases hd
    | some a =>
      rw [hL] at hd
      simp only [Option.map_some, Option.some.injEq] at hd
      subst hd
      have ht : L.take (i + 1) = L.take i ++ [a] := by rw [List.take_succ, hL]; rfl
      refine h i a C' (fun o C3 => match o with
        | some y => match C3 Dl with
          | some (.lst acc) => acc.length < 100000 ∧ cput C3 Dl (.lst (acc ++ [y])) = cput C1 Dl (.lst ((L.take (i + 1)).filterMap f))
          | _ => False
        | none => C3 = cput C1 Dl (.lst ((L.take (i + 1)).filterMap f))) hL (by rw [e]; exact Sub.new hD) ?_
      split
      · rename_i y hy
        rw [e, cput_same]
        refine ⟨?_, ?_⟩
        · have := List.length_filterMap_le f (L.take i)
          have hlt : i < L.length := (List.getElem?_eq_some_iff.mp hL).1
          rw [List.length_take] at this
          omega
        · rw [cput_cput, ht, List.filterMap_append]
          simp [hy]
      · rename_i hy
        rw [e, ht, List.filterMap_append]
        simp [hy]
  · simp only [List.length_map, List.take_length] at e
    rw [e, cput_same]
    exact ⟨C1, Sub.new hD, hD, hP⟩
theorem atI_nat' {α : Type} (xs : List α) (j : Nat) : atI xs (j : Int) = xs[j]? := by
  unfold atI ixN
  rw [if_pos (by omega)]
  by_cases h : (j : Int) < xs.length
  · rw [if_pos h]
    simp
  · rw [if_neg h]
    rw [List.getElem?_eq_none (by omega)]
    rfl
theorem atI_at {α : Type} {xs : List α} {i : Int} (h0 : 0 ≤ i) : atI xs i = xs[i.toNat]? := by
  obtain ⟨j, rfl⟩ := Int.eq_ofNat_of_zero_le h0
  rw [atI_nat']
  simp
theorem atI_zero {α : Type} (x : α) (xs : List α) : atI (x :: xs) 0 = some x := by
  rw [atI_at (by omega)]; rfl
theorem ixN_at {n : Nat} {i : Int} (h0 : 0 ≤ i) (h1 : i < n) : ixN n i = some i.toNat := by
  unfold ixN
  rw [if_pos h0, if_pos h1]
theorem ixN_nat {n j : Nat} (h1 : j < n) : ixN n (j : Int) = some j := by
  rw [ixN_at (by omega) (by omega)]; simp
theorem sub_put {C : Cells} {p : Addr} {c : Cell} (h : C p = none) : Sub C (cput C p c) := Sub.new h
theorem seq_hide {a b : DS} {E : DEnds} {ρ : DEnv} {C : Cells} (h : ∀ E', { E with nx := fun ρ' C' => b E ρ' C' } = E' → a E' ρ C) : wSeqL a b E ρ C := h _ rfl
theorem while_hide {t : DT} {b : DS} {E : DEnds} {ρ : DEnv} {C : Cells} (h : ∀ b', b = b' → wWhile t b' E ρ C) : wWhile t b E ρ C := h _ rfl
section
variable {C : Cells} {a Cl : Addr} {ds : List D} {fs : List (String × D)} {f : String} {i : Int}
theorem seqOf_lst : seqOf (.lst ds) C = some ds := rfl
theorem seqOf_ptr : seqOf (.ptr a) C = match C a with | some (.lst ds) => some ds | _ => none := rfl
theorem itsOf_lst : itsOf (.lst ds) C = some ds := rfl
theorem itsOf_tup : itsOf (.tup ds) C = some ds := rfl
theorem itsOf_ptr : itsOf (.ptr a) C = match C a with | some (.lst ds) => some ds | _ => none := rfl
theorem lenOf_lst : lenOf (.lst ds) C = some ds.length := rfl
theorem lenOf_tup : lenOf (.tup ds) C = some ds.length := rfl
theorem lenOf_ptr : lenOf (.ptr a) C = match C a with | some (.lst ds) => some ds.length | _ => none := by
  show Option.map List.length (itsOf (.ptr a) C) = _
  rw [itsOf_ptr]
  split <;> simp_all
theorem lenOf_str {z : Str} (h : z.length ≤ 100000) : lenOf (.str z) C = some z.length := by simp only [lenOf, if_pos h]
theorem itemOf_lst : itemOf (.lst ds) C i = atI ds i := rfl
theorem itemOf_tup : itemOf (.tup ds) C i = atI ds i := rfl
theorem itemOf_ptr : itemOf (.ptr a) C i = match C a with | some (.lst ds) => atI ds i | _ => none := by
  show (itsOf (.ptr a) C).bind (fun ds => atI ds i) = _
  rw [itsOf_ptr]
  split <;> simp_all
theorem itemOf_str {z : Str} (h : z.length ≤ 100000) : itemOf (.str z) C i = (atI z.cps.toList i).map fun c => .str ⟨#[c]⟩ := by simp only [itemOf, if_pos h]
theorem isSeq_ptr : isSeq (.ptr a) C = match C a with | some (.lst _) => True | _ => False := by
  show ((seqOf (.ptr a) C).isSome = true) = _
  rw [seqOf_ptr]
  split <;> simp_all
theorem isSeq_lst : isSeq (.lst ds) C := rfl
theorem fldOf_ins : fldOf Cl f (.ins Cl fs) C = fs.lookup f := by simp only [fldOf, if_true]
theorem fldOf_ptr : fldOf Cl f (.ptr a) C = match C a with | some (.ins c fs) => if c = Cl then fs.lookup f else none | _ => none := rfl
theorem isIns_ins : isIns Cl f (.ins Cl fs) C = (fs.lookup f = none) := by simp only [isIns, true_and]
theorem isIns_ptr : isIns Cl f (.ptr a) C = match C a with | some (.ins c fs) => c = Cl ∧ fs.lookup f = none | _ => False := rfl
theorem res_lst : D.res C (.lst ds) = .lst ds := rfl
theorem res_tup : D.res C (.tup ds) = .tup ds := rfl
theorem res_ptr : D.res C (.ptr a) = match C a with | some (.lst ds) => .lst ds | _ => .ptr a := rfl
end
/-- a product that is no wide one -/
theorem cmul_l {i j : Int} (h : -(2 ^ 64) < i) (h' : i < 2 ^ 64) : CMul i j := .inl ⟨h, h'⟩
theorem cmul_r {i j : Int} (h : -(2 ^ 64) < j) (h' : j < 2 ^ 64) : CMul i j := .inr ⟨h, h'⟩
theorem mod_lo (a : Int) {m : Int} (h : 0 < m) : 0 ≤ a % m := Int.emod_nonneg _ (by omega)
theorem mod_hi (a : Int) {m : Int} (h : 0 < m) : a % m < m := Int.emod_lt_of_pos _ h
end DD

set_option Elab.async false
set_option linter.all false
set_option maxRecDepth 100000
set_option maxHeartbeats 4000000
/-! Tools for readings over data: cells taken away, == of lists, comprehensions over places. -/
namespace DD
open PySem L2
/-- without the cell at p -/
def crem (C : Cells) (p : Addr) : Cells := fun a => if a = p then none else C a
theorem crem_sub (C : Cells) (p : Addr) : Sub (crem C p) C := fun a c h => by
  unfold crem at h
  split at h
  · cases h
  · exact h
theorem crem_same {C : Cells} {p : Addr} : crem C p p = none := by unfold crem; rw [if_pos rfl]
theorem crem_ne {C : Cells} {p a : Addr} (h : a ≠ p) : crem C p a = C a := by unfold crem; rw [if_neg h]
theorem eqv_lists {α : Type} {enc : α → D} [DecidableEq α] (h : ∀ a b, (enc a).eqb (enc b) = decide (a = b)) : ∀ xs ys : List α, PyData.eqvAll (pys (xs.map enc)) (pys (ys.map enc)) = decide (xs = ys)
  | [], [] => by simp [pys, PyData.eqvAll]
  | [], y :: ys => by simp [pys, PyData.eqvAll]
  | x :: xs, [] => by simp [pys, PyData.eqvAll]
  | x :: xs, y :: ys => by
    have e := h x y
    unfold D.eqb at e
    simp only [List.map_cons, pys, PyData.eqvAll, e, eqv_lists h xs ys, List.cons.injEq]
    by_cases h1 : x = y <;> by_cases h2 : xs = ys <;> simp [h1, h2]
theorem eqb_lst {α : Type} {enc : α → D} [DecidableEq α] (h : ∀ a b, (enc a).eqb (enc b) = decide (a = b)) (xs ys : List α) : (D.lst (xs.map enc)).eqb (.lst (ys.map enc)) = decide (xs = ys) := by
  show PyData.eqv (D.lst (xs.map enc)).py (D.lst (ys.map enc)).py = _
  simp only [D.py, PyData.eqv]
  exact eqv_lists h xs ys
theorem eqb_tup {α : Type} {enc : α → D} [DecidableEq α] (h : ∀ a b, (enc a).eqb (enc b) = decide (a = b)) (xs ys : List α) : (D.tup (xs.map enc)).eqb (.tup (ys.map enc)) = decide (xs = ys) := by
  show PyData.eqv (D.tup (xs.map enc)).py (D.tup (ys.map enc)).py = _
  simp only [D.py, PyData.eqv]
  exact eqv_lists h xs ys
theorem eqb_int (a b : Int) : (D.int a).eqb (.int b) = decide (a = b) := by simp [D.eqb, D.py, PyData.eqv]; rfl
theorem eqb_str (a b : Str) : (D.str a).eqb (.str b) = decide (a = b) := by simp [D.eqb, D.py, PyData.eqv]; rfl
theorem eqb_ints (xs ys : List Int) : (D.lst (xs.map D.int)).eqb (.lst (ys.map D.int)) = decide (xs = ys) := eqb_lst eqb_int xs ys
theorem eqb_pair (p q : Int × Int) : (pairD p).eqb (pairD q) = decide (p = q) := by
  have e : (pairD p).eqb (pairD q) = decide ([p.1, p.2] = [q.1, q.2]) := eqb_tup eqb_int [p.1, p.2] [q.1, q.2]
  rw [e]
  cases p; cases q
  simp
theorem eqb_lst_nil {α : Type} (enc : α → D) : ∀ xs : List α, (D.lst (xs.map enc)).eqb (.lst []) = xs.isEmpty
  | [] => by simp [D.eqb, D.py, pys, PyData.eqv, PyData.eqvAll]
  | x :: xs => by simp [D.eqb, D.py, pys, PyData.eqv, PyData.eqvAll]
theorem dat_lst {α : Type} {enc : α → D} {n : Nat} (h : ∀ a, Dat n (enc a)) (xs : List α) : Dat (n + 1) (.lst (xs.map enc)) := .lst fun d hd => by
  obtain ⟨a, _, rfl⟩ := List.mem_map.mp hd
  exact h a
theorem dat_tup {α : Type} {enc : α → D} {n : Nat} (h : ∀ a, Dat n (enc a)) (xs : List α) : Dat (n + 1) (.tup (xs.map enc)) := .tup fun d hd => by
  obtain ⟨a, _, rfl⟩ := List.mem_map.mp hd
  exact h a
theorem dat_ints {n : Nat} (xs : List Int) : Dat (n + 1) (.lst (xs.map D.int)) := dat_lst (fun _ => .int _) xs
theorem dat_nil {n : Nat} : Dat (n + 1) (.lst []) := .lst fun d hd => by cases hd
theorem dat_pair {n : Nat} (p : Int × Int) : Dat (n + 1) (pairD p) := dat_tup (enc := D.int) (fun _ => .int _) [p.1, p.2]
/-- == of two lists of ints -/
theorem range_filterMap {α β : Type} (L : List α) (g : α → Option β) : (List.range L.length).filterMap (fun k => (L[k]?).bind g) = L.filterMap g := by
  suffices h : ∀ n, n ≤ L.length → (List.range n).filterMap (fun k => (L[k]?).bind g) = (L.take n).filterMap g by
    rw [h L.length (Nat.le_refl _), List.take_length]
  intro n
  induction n with
  | zero => intro _; rfl
  | succ n ih =>
    intro hn
    rw [List.range_succ, List.filterMap_append, ih (by omega), List.take_succ, List.filterMap_append]
    have e : L[n]? = some L[n] := List.getElem?_eq_getElem (by omega)
    simp only [e, List.filterMap_cons, List.filterMap_nil, Option.bind_some, Option.toList_some]
theorem take_snoc {α : Type} {L : List α} {k : Nat} {e : α} (h : L[k]? = some e) : L.take (k + 1) = L.take k ++ [e] := by
  rw [List.take_succ, h]; rfl
theorem filterMap_map {α β γ : Type} (L : List α) (g : α → Option β) (f : β → γ) : L.filterMap (fun a => (g a).map f) = (L.filterMap g).map f := by
  rw [List.map_filterMap]
theorem ints_ptr {C : Cells} {a : Addr} {ns : List Int} (h : C a = some (.lst (ns.map D.int))) : IntsOf (.ptr a) C ns := by simp only [IntsOf, seqOf, h]
theorem ints_lst {C : Cells} {ns : List Int} : IntsOf (.lst (ns.map D.int)) C ns := rfl
/-- the first of a sorted list -/
theorem sortI_head {l : List Int} (h : l ≠ []) : ∃ r, sortI l = minI l :: r := by
  obtain ⟨h1, h2⟩ := minI_spec h
  have hp := sortI_perm l
  have hs := sortI_pair l
  cases e : sortI l with
  | nil =>
    rw [e] at hp
    exact absurd hp.symm.eq_nil h
  | cons x r =>
    refine ⟨r, ?_⟩
    rw [e] at hp hs
    have hx : x ∈ l := hp.mem_iff.mp List.mem_cons_self
    have hm : minI l ∈ x :: r := hp.mem_iff.mpr h1
    have hle := h2 x hx
    rcases List.mem_cons.mp hm with q | q
    · rw [q]
    · have := (List.pairwise_cons.mp hs).1 _ q
      rw [show x = minI l by omega]
end DD

set_option Elab.async false
set_option linter.all false
set_option maxRecDepth 100000
set_option maxHeartbeats 4000000
/-! More: range with a step, the last of a list, cuts. -/
namespace DD
open PySem L2

def rngC (lo c : Int) (n : Nat) : List D := (List.range n).map fun (k : Nat) => D.int (lo + (k : Int) * c)
theorem rngC_len (lo c : Int) (n : Nat) : (rngC lo c n).length = n := by simp [rngC]
theorem rngC_get {lo c : Int} {n i : Nat} {d : D} (h : (rngC lo c n)[i]? = some d) : i < n ∧ d = .int (lo + (i : Int) * c) := by
  unfold rngC at h
  rw [List.getElem?_map] at h
  rcases Nat.lt_or_ge i n with z | z
  · rw [List.getElem?_range z] at h
    exact ⟨z, (Option.some.inj h).symm⟩
  · rw [List.getElem?_eq_none (by simpa using z)] at h; cases h
def wRng3 (a : DA) (ρ : DEnv) (C : Cells) (P : DIt → Cells → Prop) (PX : DX) : Prop := a ρ C (fun ds C1 => match ds with
  | [.int i, .int j, .int c] => ∃ n, RgC i j c n ∧ P ⟨rngC i c n, frozen⟩ C1
  | _ => False) PX
theorem itr_rngC {K : PySem.W.Frag} {F : Hp} {lo c : Int} {n : Nat} : ItR K F (Itc lo c n) ⟨rngC lo c n, frozen⟩ := fun F' H C e hs _ => by
  refine ⟨fun i d hd => ?_, by show n ≤ (rngC lo c n).length; rw [rngC_len]; exact Nat.le_refl _⟩
  obtain ⟨hi, rfl⟩ := rngC_get hd
  refine ⟨hi, fun x H' y => ?_⟩
  obtain ⟨rfl, rfl⟩ := y
  exact ⟨F', Ex.refl _, hs, .int _⟩
theorem di_rng3 {X : Cx} {W : WX} {tg : Expr} {wr : DA} {pos : Pos} {a b c : Expr} {p : Pos} (hg : Gl X "range") (hm : X.mg "range" = none) (ha : PA X [a, b, c] (tA X.K W wr))
    (hs : starEach [a, b, c] X.env = (false, eval a X.env) :: starEach [b, c] X.env := by rfl) (hpl : (backTo pos (starEach [b, c] X.env)).any (·.1) = false := by rfl) :
    PI X tg (.Call (.Name "range" p) [a, b, c] [] pos) (tI X.K W (wRng3 wr)) :=
  PI.imp (pi_range3 hg hm ha hs hpl) fun σ H R ⟨F, C, ρ, P, PX, hs, en, xr, w, k⟩ => ⟨F, C, ρ, _, PX, hs, en, xr, w, fun v F1 H1 d C1 e1 h1 r q => by
    revert q
    dsimp only
    split
    · rintro ⟨n, hn, q⟩
      rename_i i j c
      cases r with
      | cons r1 r2 =>
        cases r1
        cases r2 with
        | cons r2 r3 =>
          cases r2
          cases r3 with
          | cons r3 r4 =>
            cases r3; cases r4
            exact ⟨i, j, c, n, rfl, hn, k _ F1 H1 _ C1 e1 h1 itr_rngC q⟩
    · exact fun z => z.elim⟩
theorem for_rngC {lo c : Int} {n i : Nat} {b : DS} {E : DEnds} {ρ : DEnv} {C : Cells} (Inv : Nat → DEnv → Cells → Prop) (h0 : Inv 0 ρ C)
    (hs : ∀ (k : Nat) ρ' C', k < n → Inv k ρ' C' → b { nx := Inv (k + 1), ct := Inv (k + 1), bk := E.nx, rt := E.rt, ex := E.ex } (ρ'.set i (some (.int (lo + (k : Int) * c)))) C')
    (hd : ∀ ρ' C', Inv n ρ' C' → E.nx ρ' C') : ForG ⟨rngC lo c n, frozen⟩ (.name i) b E ρ C := by
  refine ⟨Inv, h0, fun _ _ _ _ => trivial, fun k d ρ' C' hk hI => ?_, fun ρ' C' hI => hd ρ' C' (by have e := rngC_len lo c n; simp only [e] at hI; exact hI)⟩
  obtain ⟨hk2, rfl⟩ := rngC_get hk
  simp only [Tgt.dg]
  exact hs k ρ' C' hk2 hI
theorem rgC_two {n : Nat} (h : n ≤ 1000000) : RgC 0 (n : Int) 2 ((n + 1) / 2) := by
  have e : Builtin.Range.rangeSize 0 (n : Int) 2 = (((n + 1) / 2 : Nat) : Int) := by
    unfold Builtin.Range.rangeSize
    split <;> omega
  refine ⟨by decide, by decide, ?_, e⟩
  unfold Builtin.Range.small
  rw [e]
  have e1 : ((2 : Int) > 0) = True := by simp
  have e2 : Builtin.Range.rangeFitsLong 2 = true := by decide
  have e3 : Builtin.Range.rangeFitsLong 0 = true := by decide
  have e4 : ∀ i : Int, 0 ≤ i → i ≤ 3000000 → Builtin.Range.rangeFitsLong i = true := fun i h1 h2 => by
    simp only [Builtin.Range.rangeFitsLong, Bool.and_eq_true, decide_eq_true_eq]; omega
  rw [e2, e3, e4 _ (by omega) (by omega)]
  simp only [Bool.and_eq_true, Bool.or_eq_true, decide_eq_true_eq, beq_iff_eq, e1, if_true, true_and]
  exact ⟨e4 _ (by omega) (by omega), .inr (e4 _ (by omega) (by omega))⟩

theorem atI_getLast {α : Type} (xs : List α) : atI xs (-1) = xs.getLast? := by
  unfold atI ixN
  rcases List.eq_nil_or_concat xs with h | ⟨r, x, h⟩
  · subst h; rfl
  · subst h
    simp only [List.concat_eq_append, List.length_append, List.length_singleton]
    rw [if_neg (by decide), if_pos (by omega)]
    have : (-1 + ((r.length + 1 : Nat) : Int)).toNat = r.length := by omega
    simp only [Option.bind_some, this]
    simp
theorem atI_snoc {α : Type} (xs : List α) (x : α) : atI (xs ++ [x]) (-1) = some x := by rw [atI_getLast, List.getLast?_concat]
theorem atI_succ {α : Type} (xs : List α) (j : Nat) : atI xs ((j : Int) + 1) = xs[j + 1]? := atI_nat' xs (j + 1)
theorem cut_init (xs : List D) : cutD xs none (some (-1)) = xs.dropLast := by
  unfold cutD
  simp only [HT.sIx, List.drop_zero, Nat.sub_zero]
  rw [if_pos (by decide), List.dropLast_eq_take]
  congr 1
  omega
theorem cut_from (xs : List D) (k : Nat) : cutD xs (some (k : Int)) none = xs.drop k := by
  unfold cutD
  simp only [HT.sIx_nat, HT.sIx_none]
  rw [List.take_of_length_le (by rw [List.length_drop]; omega)]
  rcases Nat.le_total k xs.length with h | h
  · rw [Nat.min_eq_left h]
  · rw [Nat.min_eq_right h, List.drop_eq_nil_of_le (Nat.le_refl _), List.drop_eq_nil_of_le h]
theorem cut_to (xs : List D) (k : Nat) : cutD xs none (some (k : Int)) = xs.take k := by
  unfold cutD
  simp only [HT.sIx_nat, HT.sIx_none, List.drop_zero, Nat.sub_zero]
  rcases Nat.le_total k xs.length with h | h
  · rw [Nat.min_eq_left h]
  · rw [Nat.min_eq_right h, List.take_of_length_le (Nat.le_refl _), List.take_of_length_le h]
end DD

set_option Elab.async false
set_option linter.all false
set_option maxRecDepth 100000
set_option maxHeartbeats 4000000
namespace Law
open PySem L2 DD
local macro_rules | `(tactic| walk_at "dd") => `(tactic| simp only [wFor, wLc, wYes, wSeq, wSet, wNext, wBreak, wCont, wDrop, wRet, wRetN, wIfS, wRetF, wFrz, wAsg, wAug, wPar, wVar, wC, wNil, wCons, wOp, wUn, wCB, wTest, wAnd, wOr, wNot, wIf, wAndV, wOrV, wNotV, wChain, wTup, wLst, wLstC, wItL, wItT, wRng1, wRng2, wRng3,
  dI, dI0, dU, dEqv, dIsN, dLen, dIx, dMax2, dMin2, dAbs, dInt, dList, dListC, dTupleOf, wCall, wCallX, wMeth, wMethX, wMake, wMakeF, wMakeX, wMakeXF, frzP, wFld, wFldSet, wSetL, wAugL, wBML, dAppend, dPop, dCat, wRep, wRepC, wNoPart, wPart, wSl,
  endsD, endsX, startD, dput, Tgt.dg, dgs, dwipe, List.map_cons, List.map_nil, List.cons_append, List.nil_append, List.append_nil, List.length_cons, List.length_nil, List.replicate_succ, List.replicate_zero, List.getElem?_cons_zero, List.getElem?_cons_succ, List.getElem?_nil, List.set_cons_zero, List.set_cons_succ, List.set_nil, List.lookup,
  Nat.reduceAdd, Nat.reduceSub, Nat.reduceLeDiff, Option.map_some, Option.map_none, Option.bind_some, Option.bind_none, Option.isSome_some, Bool.false_xor, Bool.true_xor, Bool.not_true, Bool.not_false, decide_true, decide_false, decide_eq_true_eq, decide_eq_false_iff_not, Bool.not_eq_true, Bool.false_eq_true, reduceCtorEq, if_true, if_false, ite_true, ite_false, true_and, and_true, String.reduceBEq, String.reduceEq, cput_same, cput_cput, reduceIte, ↓reduceIte, atI_zero, atI_nat', atI_succ, atI_snoc, seqOf_lst, seqOf_ptr, itsOf_lst, itsOf_tup, itsOf_ptr, lenOf_lst, lenOf_tup, lenOf_ptr, itemOf_lst, itemOf_tup, itemOf_ptr, isSeq_ptr, isSeq_lst, fldOf_ins, fldOf_ptr, isIns_ins, isIns_ptr, dEqD, res_lst, res_tup, res_ptr, dIn, List.getElem?_map, List.length_map, Int.zero_add, *])
abbrev prg : PySem.Program := PySem.Challenge.pw_copperhouse_k17_trees_of_checks
def topS (i : Nat) : Stmt := prg.main.body.getD i (.Pass ⟨0, 0, 0, 0⟩)
abbrev s_law_state : Stmt := topS 15
abbrev s_law_digit : Stmt := topS 16
abbrev s_octets_check : Stmt := topS 4
abbrev s_law_four : Stmt := topS 17
abbrev s_law_level : Stmt := topS 18
abbrev s_law_levels : Stmt := topS 19
abbrev s_law_cell : Stmt := topS 14
abbrev s_check_octets : Stmt := topS 1
abbrev s_joined_check : Stmt := topS 6
abbrev s_next_level : Stmt := topS 7
abbrev s_levels_of : Stmt := topS 8
abbrev s_path_of : Stmt := topS 10
abbrev s_root_of : Stmt := topS 9
abbrev s_root_by : Stmt := topS 11
abbrev s_is_proof : Stmt := topS 12
abbrev s_law_path : Stmt := topS 20
abbrev s_law : Stmt := topS 21
theorem sc_law_state : FnScope ["cell", "k", "prime", "first", "second", "third", "fourth"] ["cell", "k"] (defScope s_law_state) := ⟨rfl, rfl, rfl, by decide +kernel, rfl, by decide +kernel, by decide +kernel⟩
theorem sc_law_digit : FnScope ["state", "many", "digit"] ["state", "many"] (defScope s_law_digit) := ⟨rfl, rfl, rfl, by decide +kernel, rfl, by decide +kernel, by decide +kernel⟩
theorem sc_octets_check : FnScope ["octets", "low", "high", "octet"] ["octets"] (defScope s_octets_check) := ⟨rfl, rfl, rfl, by decide +kernel, rfl, by decide +kernel, by decide +kernel⟩
theorem sc_law_four : FnScope ["check"] ["check"] (defScope s_law_four) := ⟨rfl, rfl, rfl, by decide +kernel, rfl, by decide +kernel, by decide +kernel⟩
theorem sc_law_level : FnScope ["checks", "level", "k"] ["checks"] (defScope s_law_level) := ⟨rfl, rfl, rfl, by decide +kernel, rfl, by decide +kernel, by decide +kernel⟩
theorem sc_law_levels : FnScope ["checks", "levels", "spare"] ["checks"] (defScope s_law_levels) := ⟨rfl, rfl, rfl, by decide +kernel, rfl, by decide +kernel, by decide +kernel⟩
theorem sc_law_cell : FnScope ["script", "k"] ["script", "k"] (defScope s_law_cell) := ⟨rfl, rfl, rfl, by decide +kernel, rfl, by decide +kernel, by decide +kernel⟩
theorem sc_check_octets : FnScope ["check"] ["check"] (defScope s_check_octets) := ⟨rfl, rfl, rfl, by decide +kernel, rfl, by decide +kernel, by decide +kernel⟩
theorem sc_joined_check : FnScope ["left", "right"] ["left", "right"] (defScope s_joined_check) := ⟨rfl, rfl, rfl, by decide +kernel, rfl, by decide +kernel, by decide +kernel⟩
theorem sc_next_level : FnScope ["checks", "level", "place"] ["checks"] (defScope s_next_level) := ⟨rfl, rfl, rfl, by decide +kernel, rfl, by decide +kernel, by decide +kernel⟩
theorem sc_levels_of : FnScope ["checks", "levels"] ["checks"] (defScope s_levels_of) := ⟨rfl, rfl, rfl, by decide +kernel, rfl, by decide +kernel, by decide +kernel⟩
theorem sc_path_of : FnScope ["checks", "place", "path", "level"] ["checks", "place"] (defScope s_path_of) := ⟨rfl, rfl, rfl, by decide +kernel, rfl, by decide +kernel, by decide +kernel⟩
theorem sc_root_of : FnScope ["checks", "top"] ["checks"] (defScope s_root_of) := ⟨rfl, rfl, rfl, by decide +kernel, rfl, by decide +kernel, by decide +kernel⟩
theorem sc_root_by : FnScope ["check", "path", "side", "other"] ["check", "path"] (defScope s_root_by) := ⟨rfl, rfl, rfl, by decide +kernel, rfl, by decide +kernel, by decide +kernel⟩
theorem sc_is_proof : FnScope ["check", "path", "root"] ["check", "path", "root"] (defScope s_is_proof) := ⟨rfl, rfl, rfl, by decide +kernel, rfl, by decide +kernel, by decide +kernel⟩
theorem sc_law_path : FnScope ["levels", "place", "path", "spot", "k"] ["levels", "place"] (defScope s_law_path) := ⟨rfl, rfl, rfl, by decide +kernel, rfl, by decide +kernel, by decide +kernel⟩
theorem sc_law : FnScope ["script", "k", "state", "seed", "checks", "levels", "root", "place", "path", "turned"] ["script"] (defScope s_law) := ⟨rfl, rfl, rfl, by decide +kernel, rfl, by decide +kernel, by decide +kernel⟩
/-- where things stand -/
structure Ad where
  a_law_state : Addr
  d_law_state : FuncData
  a_law_digit : Addr
  d_law_digit : FuncData
  a_octets_check : Addr
  d_octets_check : FuncData
  a_law_four : Addr
  d_law_four : FuncData
  a_law_level : Addr
  d_law_level : FuncData
  a_law_levels : Addr
  d_law_levels : FuncData
  a_law_cell : Addr
  d_law_cell : FuncData
  a_check_octets : Addr
  d_check_octets : FuncData
  a_joined_check : Addr
  d_joined_check : FuncData
  a_next_level : Addr
  d_next_level : FuncData
  a_levels_of : Addr
  d_levels_of : FuncData
  a_path_of : Addr
  d_path_of : FuncData
  a_root_of : Addr
  d_root_of : FuncData
  a_root_by : Addr
  d_root_by : FuncData
  a_is_proof : Addr
  d_is_proof : FuncData
  a_law_path : Addr
  d_law_path : FuncData
  a_law : Addr
  d_law : FuncData
structure Txt (K : PySem.W.Frag) (mg : Str → Option Value) (A : Ad) : Prop where
  F_law_state : Fun K "_law_state" "_law_state" s_law_state A.a_law_state A.d_law_state
  b_law_state : Binds K A.d_law_state ["cell", "k"] []
  g_law_state : mg "_law_state" = some (.ref A.a_law_state)
  F_law_digit : Fun K "_law_digit" "_law_digit" s_law_digit A.a_law_digit A.d_law_digit
  b_law_digit : Binds K A.d_law_digit ["state", "many"] []
  g_law_digit : mg "_law_digit" = some (.ref A.a_law_digit)
  F_octets_check : Fun K "octets_check" "octets_check" s_octets_check A.a_octets_check A.d_octets_check
  b_octets_check : Binds K A.d_octets_check ["octets"] []
  g_octets_check : mg "octets_check" = some (.ref A.a_octets_check)
  F_law_four : Fun K "_law_four" "_law_four" s_law_four A.a_law_four A.d_law_four
  b_law_four : Binds K A.d_law_four ["check"] []
  g_law_four : mg "_law_four" = some (.ref A.a_law_four)
  F_law_level : Fun K "_law_level" "_law_level" s_law_level A.a_law_level A.d_law_level
  b_law_level : Binds K A.d_law_level ["checks"] []
  g_law_level : mg "_law_level" = some (.ref A.a_law_level)
  F_law_levels : Fun K "_law_levels" "_law_levels" s_law_levels A.a_law_levels A.d_law_levels
  b_law_levels : Binds K A.d_law_levels ["checks"] []
  g_law_levels : mg "_law_levels" = some (.ref A.a_law_levels)
  F_law_cell : Fun K "_law_cell" "_law_cell" s_law_cell A.a_law_cell A.d_law_cell
  b_law_cell : Binds K A.d_law_cell ["script", "k"] []
  g_law_cell : mg "_law_cell" = some (.ref A.a_law_cell)
  F_check_octets : Fun K "check_octets" "check_octets" s_check_octets A.a_check_octets A.d_check_octets
  b_check_octets : Binds K A.d_check_octets ["check"] []
  g_check_octets : mg "check_octets" = some (.ref A.a_check_octets)
  F_joined_check : Fun K "joined_check" "joined_check" s_joined_check A.a_joined_check A.d_joined_check
  b_joined_check : Binds K A.d_joined_check ["left", "right"] []
  g_joined_check : mg "joined_check" = some (.ref A.a_joined_check)
  F_next_level : Fun K "next_level" "next_level" s_next_level A.a_next_level A.d_next_level
  b_next_level : Binds K A.d_next_level ["checks"] []
  g_next_level : mg "next_level" = some (.ref A.a_next_level)
  F_levels_of : Fun K "levels_of" "levels_of" s_levels_of A.a_levels_of A.d_levels_of
  b_levels_of : Binds K A.d_levels_of ["checks"] []
  g_levels_of : mg "levels_of" = some (.ref A.a_levels_of)
  F_path_of : Fun K "path_of" "path_of" s_path_of A.a_path_of A.d_path_of
  b_path_of : Binds K A.d_path_of ["checks", "place"] []
  g_path_of : mg "path_of" = some (.ref A.a_path_of)
  F_root_of : Fun K "root_of" "root_of" s_root_of A.a_root_of A.d_root_of
  b_root_of : Binds K A.d_root_of ["checks"] []
  g_root_of : mg "root_of" = some (.ref A.a_root_of)
  F_root_by : Fun K "root_by" "root_by" s_root_by A.a_root_by A.d_root_by
  b_root_by : Binds K A.d_root_by ["check", "path"] []
  g_root_by : mg "root_by" = some (.ref A.a_root_by)
  F_is_proof : Fun K "is_proof" "is_proof" s_is_proof A.a_is_proof A.d_is_proof
  b_is_proof : Binds K A.d_is_proof ["check", "path", "root"] []
  g_is_proof : mg "is_proof" = some (.ref A.a_is_proof)
  F_law_path : Fun K "_law_path" "_law_path" s_law_path A.a_law_path A.d_law_path
  b_law_path : Binds K A.d_law_path ["levels", "place"] []
  g_law_path : mg "_law_path" = some (.ref A.a_law_path)
  F_law : Fun K "law" "law" s_law A.a_law A.d_law
  b_law : Binds K A.d_law ["script"] []
  g_law : mg "law" = some (.ref A.a_law)
  z_int : mg "int" = none
  z_len : mg "len" = none
  z_list : mg "list" = none
  z_min : mg "min" = none
  z_range : mg "range" = none
  k_BASE : ∃ t, mg "BASE" = some (.int 65521 t)
section
variable {P : Program} {w : World} {K : PySem.W.Frag} {mg : Str → Option Value} {base : Heap} {A : Ad}
/-! plain -/
def four (c : Int) : List Int := [c / 16777216, c / 65536 % 256, c / 256 % 256, c % 256]
def octP (os : List Int) : Int × Int := os.foldl (fun s o => ((s.1 + o) % 65521, (s.2 + (s.1 + o) % 65521) % 65521)) (1, 0)
def octF (os : List Int) : Int := 65536 * (octP os).2 + (octP os).1
theorem octP_snoc (os : List Int) (o : Int) : octP (os ++ [o]) = (((octP os).1 + o) % 65521, ((octP os).2 + ((octP os).1 + o) % 65521) % 65521) := by
  unfold octP; rw [List.foldl_append]; rfl
theorem octP_low (os : List Int) (o : Int) : (octP (os ++ [o])).1 = (1 + (os.sum + o)) % 65521 := by
  suffices h : ∀ os : List Int, (octP os).1 % 65521 = (1 + os.sum) % 65521 by
    rw [octP_snoc]
    have := h os
    simp only
    omega
  intro os
  suffices h : ∀ (os : List Int) (s : Int × Int), (os.foldl (fun s o => ((s.1 + o) % 65521, (s.2 + (s.1 + o) % 65521) % 65521)) s).1 % 65521 = (s.1 + os.sum) % 65521 from h os (1, 0)
  intro os
  induction os with
  | nil => intro s; simp
  | cons o r ih =>
    intro s
    rw [List.foldl_cons, ih, List.sum_cons]
    simp only
    omega
def joinF (a b : Int) : Int := octF (four a ++ four b)
def nxt : List Int → List Int
  | a :: b :: r => joinF a b :: nxt r
  | [a] => [a]
  | [] => []
theorem nxt_len : ∀ cs : List Int, (nxt cs).length = (cs.length + 1) / 2
  | [] => rfl
  | [_] => by simp [nxt]
  | a :: b :: r => by
    have := nxt_len r
    simp only [nxt, List.length_cons, this]
    omega
theorem nxt_get : ∀ (cs : List Int) (k : Nat) (a : Int), cs[2 * k]? = some a → (nxt cs)[k]? = some (match cs[2 * k + 1]? with | some b => joinF a b | none => a)
  | [], k, a, h => by simp at h
  | [x], 0, a, h => by simp at h; subst h; rfl
  | [x], k + 1, a, h => by simp [Nat.mul_add] at h
  | x :: y :: r, 0, a, h => by simp at h; subst h; rfl
  | x :: y :: r, k + 1, a, h => by
    have h' : r[2 * k]? = some a := by simpa [Nat.mul_add] using h
    have := nxt_get r k a h'
    simp only [nxt, List.getElem?_cons_succ, this]
    simp [Nat.mul_add]
theorem nxt_pairs : ∀ cs : List Int, (List.range (cs.length / 2)).map (fun k => joinF (cs.getD (2 * k) 0) (cs.getD (2 * k + 1) 0)) ++ cs.drop (cs.length - cs.length % 2) = nxt cs
  | [] => rfl
  | [_] => by simp [nxt]
  | a :: b :: r => by
    have ih := nxt_pairs r
    have e1 : (a :: b :: r).length / 2 = r.length / 2 + 1 := by simp only [List.length_cons]; omega
    have e2 : (a :: b :: r).length - (a :: b :: r).length % 2 = (r.length - r.length % 2) + 2 := by simp only [List.length_cons]; omega
    rw [e1, e2, List.range_succ_eq_map, List.map_cons, List.map_map]
    simp only [nxt, List.cons_append, List.drop_succ_cons, ← ih]
    rfl
def lvl (cs : List Int) : List (List Int) := if h : 1 < cs.length then cs :: lvl (nxt cs) else [cs]
termination_by cs.length
decreasing_by rw [nxt_len]; omega
theorem lvl_go {cs : List Int} (h : 1 < cs.length) : lvl cs = cs :: lvl (nxt cs) := by rw [lvl, dif_pos h]
theorem lvl_end {cs : List Int} (h : ¬ 1 < cs.length) : lvl cs = [cs] := by rw [lvl, dif_neg h]
theorem lvl_ne (cs : List Int) : lvl cs ≠ [] := by rw [lvl]; split <;> simp
theorem lvl_len (cs : List Int) : (lvl cs).length ≤ cs.length + 1 := by
  induction h : cs.length using Nat.strongRecOn generalizing cs with
  | _ n ih =>
    by_cases g : 1 < cs.length
    · rw [lvl_go g, List.length_cons]
      have := ih (nxt cs).length (by rw [nxt_len]; omega) (nxt cs) rfl
      rw [nxt_len] at this
      omega
    · rw [lvl_end g]; simp
/-- where a path turns: the other stands to the left? -/
def stepP (lv : List Int) (s : Nat) : List (Bool × Int) := if s % 2 = 1 then [(true, lv.getD (s - 1) 0)] else if s + 1 < lv.length then [(false, lv.getD (s + 1) 0)] else []
def pathF : List (List Int) → Nat → List (Bool × Int)
  | [], _ => []
  | lv :: r, s => stepP lv s ++ pathF r (s / 2)
theorem lvl_first (cs : List Int) : (lvl cs)[0]? = some cs := by rw [lvl]; split <;> rfl
theorem lvl_step : ∀ (k : Nat) (cs l l' : List Int), (lvl cs)[k]? = some l → (lvl cs)[k + 1]? = some l' → l' = nxt l
  | 0, cs, l, l', h1, h2 => by
    rw [lvl_first] at h1
    cases h1
    by_cases g : 1 < cs.length
    · rw [lvl_go g, List.getElem?_cons_succ, lvl_first] at h2
      exact (Option.some.inj h2).symm
    · rw [lvl_end g] at h2; simp at h2
  | k + 1, cs, l, l', h1, h2 => by
    by_cases g : 1 < cs.length
    · rw [lvl_go g, List.getElem?_cons_succ] at h1 h2
      exact lvl_step k (nxt cs) l l' h1 h2
    · rw [lvl_end g] at h2; simp at h2
theorem drop_lvl {cs l : List Int} {k : Nat} (h : (lvl cs).dropLast[k]? = some l) : (lvl cs)[k]? = some l ∧ (lvl cs)[k + 1]? = some (nxt l) ∧ k + 1 < (lvl cs).length := by
  obtain ⟨hk, _⟩ := List.getElem?_eq_some_iff.mp h
  rw [List.length_dropLast] at hk
  rw [List.dropLast_eq_take, List.getElem?_take, if_pos (by omega)] at h
  have h2 : (lvl cs)[k + 1]? = some ((lvl cs)[k + 1]'(by omega)) := List.getElem?_eq_getElem _
  have := lvl_step k cs l _ h h2
  exact ⟨h, this ▸ h2, by omega⟩
theorem path_turn {L : List (List Int)} {l : List Int} {k : Nat} (s : Nat) (h : L[k]? = some l) : pathF (L.drop k) s = stepP l s ++ pathF (L.drop (k + 1)) (s / 2) := by
  obtain ⟨hk, rfl⟩ := List.getElem?_eq_some_iff.mp h
  rw [List.drop_eq_getElem_cons hk]
  rfl
def rootBy (c : Int) (p : List (Bool × Int)) : Int := p.foldl (fun c e => if e.1 then joinF e.2 c else joinF c e.2) c
def rootF (cs : List Int) : Int := match (lvl cs).getLast? with | some (r :: _) => r | _ => 0
theorem step_up {cs : List Int} {p : Nat} (h1 : 1 < cs.length) (hp : p < cs.length) : rootBy (cs.getD p 0) (stepP cs p) = (nxt cs).getD (p / 2) 0 := by
  have g (i : Nat) (hi : i < cs.length) : cs[i]? = some (cs.getD i 0) := by rw [List.getD_eq_getElem?_getD, List.getElem?_eq_getElem hi]; rfl
  unfold stepP
  split
  · rename_i e
    have := nxt_get cs (p / 2) _ (g (2 * (p / 2)) (by omega))
    rw [g (2 * (p / 2) + 1) (by omega)] at this
    rw [List.getD_eq_getElem?_getD (l := nxt cs), this]
    have a1 : 2 * (p / 2) = p - 1 := by omega
    have a2 : 2 * (p / 2) + 1 = p := by omega
    rw [a2, a1]
    rfl
  · rename_i e
    have a1 : 2 * (p / 2) = p := by omega
    have := nxt_get cs (p / 2) _ (g (2 * (p / 2)) (by omega))
    rw [a1] at this
    rw [List.getD_eq_getElem?_getD (l := nxt cs), this]
    split
    · rename_i h; rw [g (p + 1) h]; rfl
    · rename_i h; rw [List.getElem?_eq_none (by omega)]; rfl
theorem root_ok (cs : List Int) : ∀ p : Nat, p < cs.length → rootBy (cs.getD p 0) (pathF (lvl cs).dropLast p) = rootF cs := by
  induction h : cs.length using Nat.strongRecOn generalizing cs with
  | _ n ih =>
    intro p hp
    by_cases g : 1 < cs.length
    · have hn : (nxt cs).length < n := by rw [nxt_len]; omega
      have := ih (nxt cs).length hn (nxt cs) rfl (p / 2) (by rw [nxt_len]; omega)
      have er : rootF cs = rootF (nxt cs) := by
        unfold rootF
        rw [lvl_go g, List.getLast?_cons, List.getLast?_eq_getLast (lvl_ne _)]
        rfl
      rw [er, ← this, lvl_go g, List.dropLast_cons_of_ne_nil (lvl_ne _)]
      show rootBy _ (stepP cs p ++ pathF _ (p / 2)) = _
      rw [← step_up g (by omega)]
      unfold rootBy
      rw [List.foldl_append]
    · have e : cs.length = 1 := by omega
      obtain ⟨a, rfl⟩ := List.length_eq_one_iff.mp e
      have : p = 0 := by simp at h; omega
      subst this
      rw [rootF, lvl_end g]
      rfl
theorem lvl_last (cs : List Int) (h0 : cs ≠ []) : ∃ y, (lvl cs).getLast? = some [y] := by
  induction h : cs.length using Nat.strongRecOn generalizing cs with
  | _ n ih =>
    by_cases g : 1 < cs.length
    · have hn : (nxt cs).length < n := by rw [nxt_len]; omega
      have hne : nxt cs ≠ [] := fun e => by
        have := nxt_len cs
        rw [e] at this
        simp only [List.length_nil] at this
        omega
      obtain ⟨y, hy⟩ := ih _ hn (nxt cs) hne rfl
      refine ⟨y, ?_⟩
      rw [lvl_go g, List.getLast?_cons, hy]
      rfl
    · have e : cs.length = 1 := by
        have := List.length_pos_iff.mpr h0
        omega
      obtain ⟨a, rfl⟩ := List.length_eq_one_iff.mp e
      exact ⟨a, by rw [lvl_end g]; rfl⟩
theorem octF_sum {a b : List Int} {x y : Int} (h : octF (a ++ [x]) = octF (b ++ [y])) : (a.sum + x - (b.sum + y)) % 65521 = 0 := by
  have e1 := octP_low a x
  have e2 := octP_low b y
  unfold octF at h
  omega
theorem turned_ne (c o d : Int) (h0 : 0 ≤ d) (h9 : d < 9) (s : Bool) : rootBy (c / 256 * 256 + (c + 1 + d) % 256) [(s, o)] ≠ rootBy c [(s, o)] := by
  intro h
  have e1 : ∀ t : Int, 0 ≤ t → t < 256 → four (c / 256 * 256 + t) = [c / 16777216, c / 65536 % 256, c / 256 % 256, t] := fun t h1 h2 => by
    unfold four
    congr 1
    · omega
    congr 1
    · omega
    congr 1
    · omega
    congr 1
    omega
  cases s with
  | true =>
    have h' : joinF o (c / 256 * 256 + (c + 1 + d) % 256) = joinF o c := h
    unfold joinF at h'
    rw [e1 _ (by omega) (by omega)] at h'
    have := octF_sum (a := four o ++ [c / 16777216, c / 65536 % 256, c / 256 % 256]) (b := four o ++ [c / 16777216, c / 65536 % 256, c / 256 % 256]) (x := (c + 1 + d) % 256) (y := c % 256) h'
    omega
  | false =>
    have h' : joinF (c / 256 * 256 + (c + 1 + d) % 256) o = joinF c o := h
    unfold joinF at h'
    rw [e1 _ (by omega) (by omega)] at h'
    have := octF_sum (a := [c / 16777216, c / 65536 % 256, c / 256 % 256, (c + 1 + d) % 256, o / 16777216, o / 65536 % 256, o / 256 % 256]) (b := four c ++ [o / 16777216, o / 65536 % 256, o / 256 % 256]) (x := o % 256) (y := o % 256) h'
    simp only [four, List.sum_cons, List.sum_nil, List.cons_append, List.nil_append] at this
    omega
def ilD (l : List Int) : D := .lst (l.map D.int)
def lvlD (cs : List Int) : List D := (lvl cs).map ilD
def sideD (e : Bool × Int) : D := .tup [.str (if e.1 then "left" else "right"), .int e.2]
def pathD (p : List (Bool × Int)) : D := .lst (p.map sideD)
def R_law_state (A : Ad) : DSp := fun ds C P => ∃ (c k : Int), ds = [.int c, .int k] ∧ 0 ≤ k ∧ k ≤ 100 ∧ ∀ p s, 0 ≤ s → C p = none → P (.ptr p) (cput C p (.lst [.int s]))
theorem len_law_state (A : Ad) : ∀ ds C P, R_law_state A ds C P → ds.length = 2 := by rintro _ _ _ ⟨c, k, rfl, _⟩; rfl
theorem ok_law_state (T : Txt K mg A) : FnOk P w K mg base CX0 1 A.a_law_state A.d_law_state ["cell", "k"] (spD K (R_law_state A)) :=
  ok_D T.F_law_state sc_law_state (len_law_state A) (fun cdv Ar outer s H E hr =>
    ds_cons (ds_set 2 sc_law_state.nd (d_int))
    (ds_cons (ds_set 3 sc_law_state.nd (d_op op_mod s_mod (d_callTy call_int1 s_int (by rfl) T.z_int (by decide +kernel) (d_cons (d_op op_add s_add (d_op op_add s_add (d_op op_mul s_mul (d_op op_mod s_mod (d_callTy call_int1 s_int (by rfl) T.z_int (by decide +kernel) (d_cons (d_var 0) (d_nil))) (d_var 2)) (d_int)) (d_op op_mul s_mul (d_op op_add s_add (d_var 1) (d_int)) (d_int))) (d_int)) (d_nil))) (d_var 2)))
    (ds_cons (ds_set 4 sc_law_state.nd (d_op op_mod s_mod (d_callTy call_int1 s_int (by rfl) T.z_int (by decide +kernel) (d_cons (d_op op_add s_add (d_op op_add s_add (d_op op_mul s_mul (d_var 3) (d_var 3)) (d_op op_mul s_mul (d_int) (d_var 3))) (d_var 1)) (d_nil))) (d_var 2)))
    (ds_cons (ds_set 5 sc_law_state.nd (d_op op_mod s_mod (d_callTy call_int1 s_int (by rfl) T.z_int (by decide +kernel) (d_cons (d_op op_add s_add (d_op op_add s_add (d_op op_mul s_mul (d_var 4) (d_int)) (d_op op_mul s_mul (d_var 3) (d_int))) (d_int)) (d_nil))) (d_var 2)))
    (ds_cons (ds_set 6 sc_law_state.nd (d_op op_mod s_mod (d_callTy call_int1 s_int (by rfl) T.z_int (by decide +kernel) (d_cons (d_op op_add s_add (d_op op_mul s_mul (d_var 5) (d_var 5)) (d_var 4)) (d_nil))) (d_var 2)))
    (ds_one (ds_ret (d_lstC (d_cons (d_op op_add s_add (d_op op_mul s_mul (d_op op_add s_add (d_op op_mul s_mul (d_op op_add s_add (d_op op_mul s_mul (d_var 6) (d_var 2)) (d_var 5)) (d_var 2)) (d_var 4)) (d_var 2)) (d_var 3)) (d_nil)))))))))) (fun ds C Pk h => by
    obtain ⟨c, k, rfl, h0, h1, q⟩ := h
    walk_at "dd"
    have e1 := mod_lo c (m := 2305843009213693951) (by decide)
    have e2 := mod_hi c (m := 2305843009213693951) (by decide)
    generalize c % 2305843009213693951 = x1 at *
    have f1 := mod_lo (x1 * 6364136223 + (k + 1) * 104729 + 77) (m := 2305843009213693951) (by decide)
    have f2 := mod_hi (x1 * 6364136223 + (k + 1) * 104729 + 77) (m := 2305843009213693951) (by decide)
    generalize (x1 * 6364136223 + (k + 1) * 104729 + 77) % 2305843009213693951 = x2 at *
    have g1 := mod_lo (x2 * x2 + 1013 * x2 + k) (m := 2305843009213693951) (by decide)
    have g2 := mod_hi (x2 * x2 + 1013 * x2 + k) (m := 2305843009213693951) (by decide)
    generalize (x2 * x2 + 1013 * x2 + k) % 2305843009213693951 = x3 at *
    have i1 := mod_lo (x3 * 48271 + x2 * 31 + 9) (m := 2305843009213693951) (by decide)
    have i2 := mod_hi (x3 * 48271 + x2 * 31 + 9) (m := 2305843009213693951) (by decide)
    generalize (x3 * 48271 + x2 * 31 + 9) % 2305843009213693951 = x4 at *
    have j1 := mod_lo (x4 * x4 + x3) (m := 2305843009213693951) (by decide)
    have j2 := mod_hi (x4 * x4 + x3) (m := 2305843009213693951) (by decide)
    generalize (x4 * x4 + x3) % 2305843009213693951 = x5 at *
    refine ⟨by decide, cmul_l (by omega) (by omega), cmul_l (by omega) (by omega), by decide, cmul_l (by omega) (by omega), cmul_l (by omega) (by omega), by decide, cmul_l (by omega) (by omega), cmul_l (by omega) (by omega), by decide, cmul_l (by omega) (by omega), by decide,
      cmul_l (by omega) (by omega), cmul_r (by omega) (by omega), cmul_r (by omega) (by omega), fun p hp => ⟨_, Sub.refl _, q p _ ?_ hp⟩⟩
    omega)

def R_law_digit (A : Ad) : DSp := fun ds C P => ∃ p s m, ds = [.ptr p, .int m] ∧ C p = some (.lst [.int s]) ∧ 0 ≤ s ∧ 0 < m ∧ m < 18446744073709551616 ∧ ∀ d s', 0 ≤ d → d < m → 0 ≤ s' → P (.int d) (cput C p (.lst [.int s']))
theorem len_law_digit (A : Ad) : ∀ ds C P, R_law_digit A ds C P → ds.length = 2 := by rintro _ _ _ ⟨p, s, m, rfl, _⟩; rfl
theorem ok_law_digit (T : Txt K mg A) : FnOk P w K mg base CX0 1 A.a_law_digit A.d_law_digit ["state", "many"] (spD K (R_law_digit A)) :=
  ok_D T.F_law_digit sc_law_digit (len_law_digit A) (fun cdv Ar outer s H E hr =>
    ds_cons (ds_set 2 sc_law_digit.nd (d_op op_mod s_mod (d_callTy call_int1 s_int (by rfl) T.z_int (by decide +kernel) (d_cons (d_ix ix_seq s_ix (d_var 0) (d_int)) (d_nil))) (d_var 1)))
    (ds_cons (ds_setL (d_var 0) (d_int) (d_op op_fdivW s_divW (d_ix ix_seq s_ix (d_var 0) (d_int)) (d_var 1)))
    (ds_one (ds_ret (d_var 2))))) (fun ds C Pk h => by
    obtain ⟨p, s, m, rfl, hp, hs, h0, h1, q⟩ := h
    walk_at "dd"
    rw [ixN_at (by omega) (by omega)]
    exact ⟨_, Sub.refl _, q _ _ (mod_lo s h0) (mod_hi s h0) (Int.ediv_nonneg hs (by omega))⟩)

def R_octets_check (A : Ad) : DSp := fun ds C P => ∃ os : List Int, ds = [.lst (os.map D.int)] ∧ P (.int (octF os)) C
theorem len_octets_check (A : Ad) : ∀ ds C P, R_octets_check A ds C P → ds.length = 1 := by rintro _ _ _ ⟨os, rfl, _⟩; rfl
theorem ok_octets_check (T : Txt K mg A) : FnOk P w K mg base CX0 1 A.a_octets_check A.d_octets_check ["octets"] (spD K (R_octets_check A)) :=
  ok_D T.F_octets_check sc_octets_check (len_octets_check A) (fun cdv Ar outer s H E hr =>
    ds_cons (ds_set 1 sc_octets_check.nd (d_int))
    (ds_cons (ds_set 2 sc_octets_check.nd (d_int))
    (ds_consL (ds_for PassesOwn.never rfl (di_list (d_var 0)) (dg_name 3 sc_octets_check.nd)
      (ds_cons (ds_set 1 sc_octets_check.nd (d_op op_mod s_mod (d_op op_add s_add (d_var 1) (d_var 3)) (d_kint T.k_BASE)))
      (ds_one (ds_set 2 sc_octets_check.nd (d_op op_mod s_mod (d_op op_add s_add (d_var 2) (d_var 1)) (d_kint T.k_BASE))))))
    (ds_one (ds_ret (d_op op_add s_add (d_op op_mul s_mul (d_int) (d_var 2)) (d_var 1))))))) (fun ds C Pk h => by
    obtain ⟨os, rfl, q⟩ := h
    walk_at "dd"
    refine seq_hide fun E' hE => ?_
    walk_at "dd"
    refine for_map (fun k ρ' C' => (∃ o, ρ' = [some (.lst (os.map D.int)), some (.int (octP (os.take k)).1), some (.int (octP (os.take k)).2), o]) ∧ C' = C) ⟨⟨_, rfl⟩, rfl⟩ ?_ ?_
    · rintro k o ρ' C' hk ⟨⟨_, rfl⟩, rfl⟩
      walk_at "dd"
      exact ⟨by decide, by decide, _, by rw [take_snoc hk, octP_snoc]⟩
    · rintro ρ' C' ⟨⟨_, rfl⟩, rfl⟩
      subst hE
      walk_at "dd"
      simp only [List.take_length]
      exact ⟨cmul_l (by decide) (by decide), _, Sub.refl _, q⟩)

def R_law_four (A : Ad) : DSp := fun ds C P => ∃ c : Int, ds = [.int c] ∧ P (.lst ((four c).map D.int)) C
theorem len_law_four (A : Ad) : ∀ ds C P, R_law_four A ds C P → ds.length = 1 := by rintro _ _ _ ⟨os, rfl, _⟩; rfl
theorem ok_law_four (T : Txt K mg A) : FnOk P w K mg base CX0 1 A.a_law_four A.d_law_four ["check"] (spD K (R_law_four A)) :=
  ok_D T.F_law_four sc_law_four (len_law_four A) (fun cdv Ar outer s H E hr =>
    ds_one (ds_ret (d_lst (d_cons (d_op op_fdivW s_divW (d_var 0) (d_int)) (d_cons (d_op op_mod s_mod (d_op op_fdivW s_divW (d_var 0) (d_int)) (d_int)) (d_cons (d_op op_mod s_mod (d_op op_fdivW s_divW (d_var 0) (d_int)) (d_int)) (d_cons (d_op op_mod s_mod (d_var 0) (d_int)) (d_nil)))))))) (fun ds C Pk h => by
    obtain ⟨c, rfl, q⟩ := h
    walk_at "dd"
    exact ⟨by decide, by decide, by decide, by decide, by decide, by decide, _, Sub.refl _, q⟩)

def R_law_level (A : Ad) : DSp := fun ds C P => ∃ cs : List Int, ds = [.lst (cs.map D.int)] ∧ cs.length ≤ 1000 ∧ P (.lst ((nxt cs).map D.int)) C
theorem len_law_level (A : Ad) : ∀ ds C P, R_law_level A ds C P → ds.length = 1 := by rintro _ _ _ ⟨a, rfl, _⟩; rfl
theorem ok_law_level (T : Txt K mg A) : FnOk P w K mg base CX0 2 A.a_law_level A.d_law_level ["checks"] (spD K (R_law_level A)) :=
  ok_D T.F_law_level sc_law_level (len_law_level A) (fun cdv Ar outer s H E hr =>
    ds_consL (ds_setLc 1 rfl sc_law_level.nd rfl rfl (sw_true rfl rfl rfl (by decide +kernel)) (di_rng1 (by rfl) T.z_range (d_cons (d_op op_fdivW s_divW (d_callB call_len s_len (by rfl) T.z_len (by decide +kernel) (d_cons (d_var 0) (d_nil))) (d_int)) (d_nil))) (blkOk_by (own := [("k", 2)]) (N := ["checks", "level", "k"]) (sc := defScope s_law_level) (by decide +kernel)) (by decide) (fun _ _ _ _ _ => dg_name 2 sc_law_level.nd) (fun _ _ _ _ _ => dts_nil) (fun _ _ _ _ _ => d_call (ok_octets_check T) (hr.mono (by decide)) T.g_octets_check T.F_octets_check.kp T.b_octets_check (d_cons (d_op op_catS s_cat (d_call (ok_law_four T) (hr.mono (by decide)) T.g_law_four T.F_law_four.kp T.b_law_four (d_cons (d_ix ix_seq s_ix (d_var 0) (d_op op_mul s_mul (d_int) (d_var 2))) (d_nil))) (d_call (ok_law_four T) (hr.mono (by decide)) T.g_law_four T.F_law_four.kp T.b_law_four (d_cons (d_ix ix_seq s_ix (d_var 0) (d_op op_add s_add (d_op op_mul s_mul (d_int) (d_var 2)) (d_int))) (d_nil)))) (d_nil))))
    (ds_one (ds_ret (d_op op_catS s_cat (d_var 1) (d_sl (d_var 0) (do_some (d_op op_sub s_sub (d_callB call_len s_len (by rfl) T.z_len (by decide +kernel) (d_cons (d_var 0) (d_nil))) (d_op op_mod s_mod (d_callB call_len s_len (by rfl) T.z_len (by decide +kernel) (d_cons (d_var 0) (d_nil))) (d_int)))) (do_none)))))) (fun ds C Pk h => by
    obtain ⟨cs, rfl, hl, q⟩ := h
    refine seq_hide fun E' hE => ?_
    walk_at "dd"
    refine ⟨by decide, by omega, lc_rng (fun z => some (.int (joinF (cs.getD (2 * z.toNat) 0) (cs.getD (2 * z.toNat + 1) 0)))) (by omega) (fun k C' Q hk hs hq => ?_) ?_⟩
    · have g (i : Nat) (hi : i < cs.length) : cs[i]? = some (cs.getD i 0) := by rw [List.getD_eq_getElem?_getD, List.getElem?_eq_getElem hi]; rfl
      have e1 : (2 : Int) * (k : Int) = ((2 * k : Nat) : Int) := by omega
      have hA := g (2 * k) (by omega)
      have hB := g (2 * k + 1) (by omega)
      simp only [Int.zero_add, Int.toNat_natCast] at hq
      generalize cs.getD (2 * k) 0 = a at *
      generalize cs.getD (2 * k + 1) 0 = b at *
      walk_at "dd"
      refine ⟨cmul_l (by decide) (by decide), a, rfl, cmul_l (by decide) (by decide), b, rfl, show 4 + 4 ≤ 100000 by decide, four a ++ four b, rfl, hq⟩
    · subst hE
      simp only [Int.zero_add, Int.toNat_natCast]
      have e : (List.filterMap (fun (k : Nat) => some (D.int (joinF (cs.getD (2 * k) 0) (cs.getD (2 * k + 1) 0)))) (List.range ((cs.length : Int) / 2).toNat)) = ((List.range (cs.length / 2)).map fun k => joinF (cs.getD (2 * k) 0) (cs.getD (2 * k + 1) 0)).map D.int := by
        rw [List.map_map, show ((cs.length : Int) / 2).toNat = cs.length / 2 by omega]
        exact congrFun (List.filterMap_eq_map (f := fun k => D.int (joinF (cs.getD (2 * k) 0) (cs.getD (2 * k + 1) 0)))) _
      rw [e]
      have e2 : (cs.length : Int) - (cs.length : Int) % 2 = ((cs.length - cs.length % 2 : Nat) : Int) := by omega
      walk_at "dd"
      simp only [cut_from]
      refine ⟨by decide, by simp only [List.length_range, List.length_drop, List.length_map]; omega, C, Sub.refl _, ?_⟩
      rw [← List.map_drop, ← List.map_append, nxt_pairs]
      exact q)

def R_law_levels (A : Ad) : DSp := fun ds C P => ∃ cs : List Int, ds = [.lst (cs.map D.int)] ∧ cs.length ≤ 41 ∧ P (.lst (lvlD cs)) C
theorem len_law_levels (A : Ad) : ∀ ds C P, R_law_levels A ds C P → ds.length = 1 := by rintro _ _ _ ⟨a, rfl, _⟩; rfl
theorem ok_law_levels (T : Txt K mg A) : FnOk P w K mg base CX0 3 A.a_law_levels A.d_law_levels ["checks"] (spD K (R_law_levels A)) :=
  ok_D T.F_law_levels sc_law_levels (len_law_levels A) (fun cdv Ar outer s H E hr =>
    ds_consL (ds_set 1 sc_law_levels.nd (d_lstC (d_cons (d_var 0) (d_nil))))
    (ds_consL (ds_for PassesOwn.never rfl (di_rng1 (by rfl) T.z_range (d_cons (d_int) (d_nil))) (dg_name 2 sc_law_levels.nd)
      (ds_one (ds_if (d_tcmp op_gt s_gt (d_callB call_len s_len (by rfl) T.z_len (by decide +kernel) (d_cons (d_ix ix_seq s_ix (d_var 1) (d_un un_neg s_neg (d_int))) (d_nil))) (d_int))
        (ds_one (ds_expr (d_bmL PySem.F.plainAttrs_list PySem.F.slot_list_append PySem.F.type_list_append mt_append s_append (d_var 1) (d_cons (d_call (ok_law_level T) (hr.mono (by decide)) T.g_law_level T.F_law_level.kp T.b_law_level (d_cons (d_ix ix_seq s_ix (d_var 1) (d_un un_neg s_neg (d_int))) (d_nil))) (d_nil)))))
        (ds_nil))))
    (ds_one (ds_retF (d_var 1))))) (fun ds C Pk h => by
    obtain ⟨cs, rfl, hl, q⟩ := h
    refine seq_hide fun E' hE => ?_
    walk_at "dd"
    intro p hp
    subst hE
    dsimp only
    refine seq_hide fun E' hE => ?_
    walk_at "dd"
    refine ⟨by decide, for_rng (fun k ρ' C' => ∃ o pre cur, ρ' = [some (.lst (cs.map D.int)), some (.ptr p), o] ∧ C' = cput C p (.lst (pre.map ilD ++ [ilD cur])) ∧ pre ++ lvl cur = lvl cs ∧ cur.length ≤ 1 + 41 / 2 ^ k) ⟨_, [], cs, rfl, rfl, rfl, by omega⟩ ?_ ?_⟩
    · rintro k ρ' C' hk ⟨o, pre, cur, rfl, rfl, hL, hc⟩
      have hc0 : cur.length ≤ 1000 := by have : 41 / 2 ^ k ≤ 41 := Nat.div_le_self _ _; omega
      have hk2 : 41 / 2 ^ (k + 1) = 41 / 2 ^ k / 2 := by rw [Nat.pow_succ, Nat.div_div_eq_div_mul]
      simp only [ilD]
      by_cases h1 : 1 < cur.length
      · have h2 : (cur.length : Int) > 1 := by omega
        walk_at "dd"
        refine ⟨cur, rfl, hc0, ?_⟩
        walk_at "dd"
        have hlen : (pre ++ lvl cur).length ≤ 1001 := by rw [hL]; have := lvl_len cs; omega
        refine ⟨by rw [List.length_append] at hlen; have := lvl_go h1; rw [this] at hlen; simp only [List.length_cons, List.length_append, List.length_map, List.length_nil] at *; omega, _, pre ++ [cur], nxt cur, rfl, ?_, ?_, ?_⟩
        · simp only [List.map_append, List.map_cons, List.map_nil, ilD]
        · rw [List.append_assoc, ← hL, lvl_go h1]; rfl
        · rw [nxt_len]; omega
      · have h2 : ¬ (cur.length : Int) > 1 := by omega
        walk_at "dd"
        exact ⟨_, pre, cur, rfl, rfl, hL, by omega⟩
    · rintro ρ' C' ⟨o, pre, cur, rfl, rfl, hL, hc⟩
      subst hE
      walk_at "dd"
      refine ⟨C, Sub.new hp, hp, C, Sub.refl _, ?_⟩
      rw [lvl_end (by have : 41 / 2 ^ 8 = 0 := by decide
                      have e8 : (8 : Int).toNat = 8 := rfl
                      rw [e8] at hc; omega)] at hL
      unfold lvlD at q
      rw [← hL, List.map_append] at q
      exact q)

def R_law_cell (A : Ad) : DSp := fun ds C P => ∃ (ns : List Int) (k : Int), ds = [.lst (ns.map D.int), .int k] ∧ ns.length ≤ 63 ∧ 0 ≤ k ∧ ∀ v, P (.int v) C
theorem len_law_cell (A : Ad) : ∀ ds C P, R_law_cell A ds C P → ds.length = 2 := by rintro _ _ _ ⟨ns, k, rfl, _⟩; rfl
theorem ok_law_cell (T : Txt K mg A) : FnOk P w K mg base CX0 1 A.a_law_cell A.d_law_cell ["script", "k"] (spD K (R_law_cell A)) :=
  ok_D T.F_law_cell sc_law_cell (len_law_cell A) (fun cdv Ar outer s H E hr =>
    ds_cons (ds_if (d_tcmp op_lt s_lt (d_var 1) (d_callB call_len s_len (by rfl) T.z_len (by decide +kernel) (d_cons (d_var 0) (d_nil))))
      (ds_one (ds_ret (d_ix ix_seq s_ix (d_var 0) (d_var 1))))
      (ds_nil))
    (ds_one (ds_ret (d_int)))) (fun ds C Pk h => by
    obtain ⟨ns, k, rfl, hl, hk, q⟩ := h
    walk_at "dd"
    split
    · rename_i hc
      rw [atI_at hk, List.getElem?_map, List.getElem?_eq_getElem (by omega)]
      exact ⟨C, Sub.refl _, q _⟩
    · exact ⟨C, Sub.refl _, q _⟩)

def R_check_octets (A : Ad) : DSp := fun ds C P => ∃ c : Int, ds = [.int c] ∧ P (.lst ((four c).map D.int)) C
theorem len_check_octets (A : Ad) : ∀ ds C P, R_check_octets A ds C P → ds.length = 1 := by rintro _ _ _ ⟨os, rfl, _⟩; rfl
theorem ok_check_octets (T : Txt K mg A) : FnOk P w K mg base CX0 1 A.a_check_octets A.d_check_octets ["check"] (spD K (R_check_octets A)) :=
  ok_D T.F_check_octets sc_check_octets (len_check_octets A) (fun cdv Ar outer s H E hr =>
    ds_one (ds_ret (d_lst (d_cons (d_op op_fdivW s_divW (d_var 0) (d_int)) (d_cons (d_op op_mod s_mod (d_op op_fdivW s_divW (d_var 0) (d_int)) (d_int)) (d_cons (d_op op_mod s_mod (d_op op_fdivW s_divW (d_var 0) (d_int)) (d_int)) (d_cons (d_op op_mod s_mod (d_var 0) (d_int)) (d_nil)))))))) (fun ds C Pk h => by
    obtain ⟨c, rfl, q⟩ := h
    walk_at "dd"
    exact ⟨by decide, by decide, by decide, by decide, by decide, by decide, _, Sub.refl _, q⟩)

def R_joined_check (A : Ad) : DSp := fun ds C P => ∃ a b : Int, ds = [.int a, .int b] ∧ P (.int (joinF a b)) C
theorem len_joined_check (A : Ad) : ∀ ds C P, R_joined_check A ds C P → ds.length = 2 := by rintro _ _ _ ⟨a, b, rfl, _⟩; rfl
theorem ok_joined_check (T : Txt K mg A) : FnOk P w K mg base CX0 2 A.a_joined_check A.d_joined_check ["left", "right"] (spD K (R_joined_check A)) :=
  ok_D T.F_joined_check sc_joined_check (len_joined_check A) (fun cdv Ar outer s H E hr =>
    ds_one (ds_ret (d_call (ok_octets_check T) (hr.mono (by decide)) T.g_octets_check T.F_octets_check.kp T.b_octets_check (d_cons (d_op op_catS s_cat (d_call (ok_check_octets T) (hr.mono (by decide)) T.g_check_octets T.F_check_octets.kp T.b_check_octets (d_cons (d_var 0) (d_nil))) (d_call (ok_check_octets T) (hr.mono (by decide)) T.g_check_octets T.F_check_octets.kp T.b_check_octets (d_cons (d_var 1) (d_nil)))) (d_nil))))) (fun ds C Pk h => by
    obtain ⟨a, b, rfl, q⟩ := h
    walk_at "dd"
    exact ⟨a, rfl, b, rfl, show 4 + 4 ≤ 100000 by decide, four a ++ four b, rfl, _, Sub.refl _, q⟩)

def R_next_level (A : Ad) : DSp := fun ds C P => ∃ cs : List Int, ds = [.lst (cs.map D.int)] ∧ cs.length ≤ 1000 ∧ P (.lst ((nxt cs).map D.int)) C
theorem len_next_level (A : Ad) : ∀ ds C P, R_next_level A ds C P → ds.length = 1 := by rintro _ _ _ ⟨a, rfl, _⟩; rfl
theorem ok_next_level (T : Txt K mg A) : FnOk P w K mg base CX0 3 A.a_next_level A.d_next_level ["checks"] (spD K (R_next_level A)) :=
  ok_D T.F_next_level sc_next_level (len_next_level A) (fun cdv Ar outer s H E hr =>
    ds_consL (ds_set 1 sc_next_level.nd (d_lstC (d_nil)))
    (ds_consL (ds_for PassesOwn.never rfl (di_rng3 (by rfl) T.z_range (d_cons (d_int) (d_cons (d_callB call_len s_len (by rfl) T.z_len (by decide +kernel) (d_cons (d_var 0) (d_nil))) (d_cons (d_int) (d_nil))))) (dg_name 2 sc_next_level.nd)
      (ds_one (ds_if (d_tcmp op_lt s_lt (d_op op_add s_add (d_var 2) (d_int)) (d_callB call_len s_len (by rfl) T.z_len (by decide +kernel) (d_cons (d_var 0) (d_nil))))
        (ds_one (ds_expr (d_bmL PySem.F.plainAttrs_list PySem.F.slot_list_append PySem.F.type_list_append mt_append s_append (d_var 1) (d_cons (d_call (ok_joined_check T) (hr.mono (by decide)) T.g_joined_check T.F_joined_check.kp T.b_joined_check (d_cons (d_ix ix_seq s_ix (d_var 0) (d_var 2)) (d_cons (d_ix ix_seq s_ix (d_var 0) (d_op op_add s_add (d_var 2) (d_int))) (d_nil)))) (d_nil)))))
        (ds_one (ds_expr (d_bmL PySem.F.plainAttrs_list PySem.F.slot_list_append PySem.F.type_list_append mt_append s_append (d_var 1) (d_cons (d_ix ix_seq s_ix (d_var 0) (d_var 2)) (d_nil))))))))
    (ds_one (ds_retF (d_var 1))))) (fun ds C Pk h => by
    obtain ⟨cs, rfl, hl, q⟩ := h
    refine seq_hide fun E' hE => ?_
    walk_at "dd"
    intro p hp
    subst hE
    dsimp only
    refine seq_hide fun E' hE => ?_
    walk_at "dd"
    refine ⟨_, rgC_two (by omega), for_rngC (fun k ρ' C' => (∃ o, ρ' = [some (.lst (cs.map D.int)), some (.ptr p), o]) ∧ C' = cput C p (.lst (((nxt cs).take k).map D.int))) ⟨⟨_, rfl⟩, rfl⟩ ?_ ?_⟩
    · rintro k ρ' C' hk ⟨⟨_, rfl⟩, rfl⟩
      have e : (0 : Int) + (k : Int) * 2 = ((2 * k : Nat) : Int) := by omega
      rw [e]
      have hA : cs[2 * k]? = some (cs[2 * k]'(by omega)) := List.getElem?_eq_getElem _
      generalize cs[2 * k]'(by omega) = a at hA
      have hN := nxt_get cs k a hA
      by_cases h2 : 2 * k + 1 < cs.length
      · have hB : cs[2 * k + 1]? = some cs[2 * k + 1] := List.getElem?_eq_getElem h2
        generalize cs[2 * k + 1] = b at hB
        have hc : ((2 * k : Nat) : Int) + 1 < (cs.length : Int) := by omega
        rw [hB] at hN
        walk_at "dd"
        refine ⟨a, b, rfl, ?_⟩
        walk_at "dd"
        refine ⟨by rw [List.length_take, nxt_len]; omega, ⟨_, rfl⟩, ?_⟩
        rw [take_snoc hN, List.map_append]
        rfl
      · have hB : cs[2 * k + 1]? = none := List.getElem?_eq_none (by omega)
        have hc : ¬ ((2 * k : Nat) : Int) + 1 < (cs.length : Int) := by omega
        rw [hB] at hN
        walk_at "dd"
        refine ⟨by rw [List.length_take, nxt_len]; omega, ⟨_, rfl⟩, ?_⟩
        rw [take_snoc hN, List.map_append]
        rfl
    · rintro ρ' C' ⟨⟨_, rfl⟩, rfl⟩
      subst hE
      walk_at "dd"
      rw [List.take_of_length_le (by rw [nxt_len]; exact Nat.le_refl _)]
      exact ⟨C, Sub.new hp, hp, C, Sub.refl _, q⟩)

def R_levels_of (A : Ad) : DSp := fun ds C P => ∃ cs : List Int, ds = [.lst (cs.map D.int)] ∧ cs.length ≤ 1000 ∧ P (.lst (lvlD cs)) C
theorem len_levels_of (A : Ad) : ∀ ds C P, R_levels_of A ds C P → ds.length = 1 := by rintro _ _ _ ⟨a, rfl, _⟩; rfl
theorem ok_levels_of (T : Txt K mg A) : FnOk P w K mg base CX0 4 A.a_levels_of A.d_levels_of ["checks"] (spD K (R_levels_of A)) :=
  ok_D T.F_levels_of sc_levels_of (len_levels_of A) (fun cdv Ar outer s H E hr =>
    ds_consL (ds_set 1 sc_levels_of.nd (d_lstC (d_cons (d_callTy call_list_of s_list (by rfl) T.z_list (by decide +kernel) (d_cons (d_var 0) (d_nil))) (d_nil))))
    (ds_consL (ds_while PassesOwn.never (d_tcmp op_gt s_gt (d_callB call_len s_len (by rfl) T.z_len (by decide +kernel) (d_cons (d_ix ix_seq s_ix (d_var 1) (d_un un_neg s_neg (d_int))) (d_nil))) (d_int))
      (ds_one (ds_expr (d_bmL PySem.F.plainAttrs_list PySem.F.slot_list_append PySem.F.type_list_append mt_append s_append (d_var 1) (d_cons (d_call (ok_next_level T) (hr.mono (by decide)) T.g_next_level T.F_next_level.kp T.b_next_level (d_cons (d_ix ix_seq s_ix (d_var 1) (d_un un_neg s_neg (d_int))) (d_nil))) (d_nil))))))
    (ds_one (ds_retF (d_var 1))))) (fun ds C Pk h => by
    obtain ⟨cs, rfl, hl, q⟩ := h
    refine seq_hide fun E' hE => ?_
    walk_at "dd"
    intro p hp
    subst hE
    dsimp only
    refine seq_hide fun E' hE => ?_
    refine while_hide fun b' hb => ?_
    refine ⟨fun m ρ' C' => ∃ pre cur, ρ' = [some (.lst (cs.map D.int)), some (.ptr p)] ∧ C' = cput C p (.lst (pre.map ilD ++ [ilD cur])) ∧ pre ++ lvl cur = lvl cs ∧ cur.length ≤ m ∧ cur.length ≤ 1000, ⟨cs.length, [], cs, rfl, rfl, rfl, Nat.le_refl _, hl⟩, ?_⟩
    rintro m ρ' C' ⟨pre, cur, rfl, rfl, hL, hm, hc⟩
    simp only [ilD]
    walk_at "dd"
    by_cases h1 : 1 < cur.length
    · have h2 : (cur.length : Int) > 1 := by omega
      subst hb
      walk_at "dd"
      refine ⟨cur, rfl, hc, ?_⟩
      walk_at "dd"
      have hlen : (pre ++ lvl cur).length ≤ 1001 := by rw [hL]; have := lvl_len cs; omega
      refine ⟨by rw [List.length_append] at hlen; have := lvl_go h1; rw [this] at hlen; simp only [List.length_cons, List.length_append, List.length_map, List.length_nil] at *; omega, m - 1, by omega, pre ++ [cur], nxt cur, ?_, ?_, ?_, ?_⟩
      · simp only [List.map_append, List.map_cons, List.map_nil, ilD]
      · rw [List.append_assoc, ← hL, lvl_go h1]; rfl
      · rw [nxt_len]; omega
      · rw [nxt_len]; omega
    · have h2 : ¬ (cur.length : Int) > 1 := by omega
      subst hE
      walk_at "dd"
      refine ⟨C, Sub.new hp, hp, C, Sub.refl _, ?_⟩
      rw [lvl_end h1] at hL
      unfold lvlD at q
      rw [← hL, List.map_append] at q
      exact q)

def R_path_of (A : Ad) : DSp := fun ds C P => ∃ (cs : List Int) (p : Nat), ds = [.lst (cs.map D.int), .int (p : Int)] ∧ p < cs.length ∧ cs.length ≤ 1000 ∧ P (pathD (pathF (lvl cs).dropLast p)) C
theorem len_path_of (A : Ad) : ∀ ds C P, R_path_of A ds C P → ds.length = 2 := by rintro _ _ _ ⟨a, p, rfl, _⟩; rfl
theorem ok_path_of (T : Txt K mg A) : FnOk P w K mg base CX0 5 A.a_path_of A.d_path_of ["checks", "place"] (spD K (R_path_of A)) :=
  ok_D T.F_path_of sc_path_of (len_path_of A) (fun cdv Ar outer s H E hr =>
    ds_consL (ds_set 2 sc_path_of.nd (d_lstC (d_nil)))
    (ds_consL (ds_for PassesOwn.never rfl (di_list (d_sl (d_call (ok_levels_of T) (hr.mono (by decide)) T.g_levels_of T.F_levels_of.kp T.b_levels_of (d_cons (d_var 0) (d_nil))) (do_none) (do_some (d_un un_neg s_neg (d_int))))) (dg_name 3 sc_path_of.nd)
      (ds_cons (ds_if (d_tcmp op_eq s_eq (d_op op_mod s_mod (d_var 1) (d_int)) (d_int))
        (ds_one (ds_expr (d_bmL PySem.F.plainAttrs_list PySem.F.slot_list_append PySem.F.type_list_append mt_append s_append (d_var 2) (d_cons (d_tup (d_cons (d_str) (d_cons (d_ix ix_seq s_ix (d_var 3) (d_op op_sub s_sub (d_var 1) (d_int))) (d_nil)))) (d_nil)))))
        (ds_one (ds_if (d_tcmp op_lt s_lt (d_op op_add s_add (d_var 1) (d_int)) (d_callB call_len s_len (by rfl) T.z_len (by decide +kernel) (d_cons (d_var 3) (d_nil))))
          (ds_one (ds_expr (d_bmL PySem.F.plainAttrs_list PySem.F.slot_list_append PySem.F.type_list_append mt_append s_append (d_var 2) (d_cons (d_tup (d_cons (d_str) (d_cons (d_ix ix_seq s_ix (d_var 3) (d_op op_add s_add (d_var 1) (d_int))) (d_nil)))) (d_nil)))))
          (ds_nil))))
      (ds_one (ds_set 1 sc_path_of.nd (d_op op_fdivW s_divW (d_var 1) (d_int))))))
    (ds_one (ds_retF (d_var 2))))) (fun ds C Pk h => by
    obtain ⟨cs, p, rfl, hp, hl, q⟩ := h
    refine seq_hide fun E' hE => ?_
    walk_at "dd"
    intro pt hpt
    subst hE
    dsimp only
    refine seq_hide fun E' hE => ?_
    walk_at "dd"
    refine ⟨cs, rfl, hl, ?_⟩
    walk_at "dd"
    simp only [cut_init, lvlD, ← List.map_dropLast]
    refine for_map (fun k ρ' C' => ∃ o s pre, ρ' = [some (.lst (cs.map D.int)), some (.int ((s : Nat) : Int)), some (.ptr pt), o] ∧ C' = cput C pt (.lst (pre.map sideD)) ∧ pre ++ pathF ((lvl cs).dropLast.drop k) s = pathF (lvl cs).dropLast p ∧ pre.length ≤ k ∧ ∀ l, (lvl cs)[k]? = some l → s < l.length) ⟨_, p, [], rfl, rfl, rfl, Nat.le_refl _, fun l hl => ?_⟩ ?_ ?_
    · rw [lvl_first] at hl; cases hl; exact hp
    · rintro k lv ρ' C' hk ⟨o, s, pre, rfl, rfl, hL, hpre, hs⟩
      obtain ⟨hk1, hkn, hk3⟩ := drop_lvl hk
      have hs' := hs lv hk1
      have hkl := lvl_len cs
      have ht := path_turn s hk
      rw [ht] at hL
      have e2 : (s : Int) / 2 = ((s / 2 : Nat) : Int) := by omega
      simp only [ilD]
      by_cases h1 : s % 2 = 1
      · have c1 : (s : Int) % 2 = 1 := by omega
        have e1 : (s : Int) - 1 = ((s - 1 : Nat) : Int) := by omega
        have hg : lv[s - 1]? = some (lv.getD (s - 1) 0) := by rw [List.getD_eq_getElem?_getD, List.getElem?_eq_getElem (by omega)]; rfl
        have ep : stepP lv s = [(true, lv.getD (s - 1) 0)] := if_pos h1
        rw [ep] at hL
        walk_at "dd"
        refine ⟨by decide, by omega, by decide, _, s / 2, pre ++ [(true, lv.getD (s - 1) 0)], rfl, ?_, ?_, ?_, ?_⟩
        · rw [List.map_append]; rfl
        · rw [List.append_assoc]; exact hL
        · simp only [List.length_append, List.length_cons, List.length_nil]; omega
        · rintro l h; cases h; rw [nxt_len]; omega
      · have c1 : ¬ (s : Int) % 2 = 1 := by omega
        by_cases h2 : s + 1 < lv.length
        · have c2 : (s : Int) + 1 < (lv.length : Int) := by omega
          have hg : lv[s + 1]? = some (lv.getD (s + 1) 0) := by rw [List.getD_eq_getElem?_getD, List.getElem?_eq_getElem (by omega)]; rfl
          have ep : stepP lv s = [(false, lv.getD (s + 1) 0)] := by unfold stepP; rw [if_neg h1, if_pos h2]
          rw [ep] at hL
          walk_at "dd"
          refine ⟨by decide, by omega, by decide, _, s / 2, pre ++ [(false, lv.getD (s + 1) 0)], rfl, ?_, ?_, ?_, ?_⟩
          · rw [List.map_append]; rfl
          · rw [List.append_assoc]; exact hL
          · simp only [List.length_append, List.length_cons, List.length_nil]; omega
          · rintro l h; cases h; rw [nxt_len]; omega
        · have c2 : ¬ (s : Int) + 1 < (lv.length : Int) := by omega
          have ep : stepP lv s = [] := by unfold stepP; rw [if_neg h1, if_neg h2]
          rw [ep] at hL
          walk_at "dd"
          refine ⟨by decide, by decide, _, s / 2, pre, rfl, rfl, hL, by omega, ?_⟩
          rintro l h; cases h; rw [nxt_len]; omega
    · rintro ρ' C' ⟨o, s, pre, rfl, rfl, hL, hpre, hs⟩
      rw [List.drop_length] at hL
      subst hE
      walk_at "dd"
      have : pathF [] s = [] := rfl
      rw [this, List.append_nil] at hL
      rw [hL]
      exact ⟨C, Sub.new hpt, hpt, C, Sub.refl _, q⟩)

def R_root_of (A : Ad) : DSp := fun ds C P => ∃ cs : List Int, ds = [.lst (cs.map D.int)] ∧ cs.length ≤ 1000 ∧ P (.int (rootF cs)) C
theorem len_root_of (A : Ad) : ∀ ds C P, R_root_of A ds C P → ds.length = 1 := by rintro _ _ _ ⟨a, rfl, _⟩; rfl
theorem ok_root_of (T : Txt K mg A) : FnOk P w K mg base CX0 5 A.a_root_of A.d_root_of ["checks"] (spD K (R_root_of A)) :=
  ok_D T.F_root_of sc_root_of (len_root_of A) (fun cdv Ar outer s H E hr =>
    ds_consL (ds_set 1 sc_root_of.nd (d_ix ix_seq s_ix (d_call (ok_levels_of T) (hr.mono (by decide)) T.g_levels_of T.F_levels_of.kp T.b_levels_of (d_cons (d_var 0) (d_nil))) (d_un un_neg s_neg (d_int))))
    (ds_cons (ds_if (d_tcmp (op_eqD hr.units) s_eqD (d_var 1) (d_lst (d_nil)))
      (ds_one (ds_ret (d_int)))
      (ds_nil))
    (ds_one (ds_ret (d_ix ix_seq s_ix (d_var 1) (d_int)))))) (fun ds C Pk h => by
    obtain ⟨cs, rfl, hl, q⟩ := h
    refine seq_hide fun E' hE => ?_
    walk_at "dd"
    refine ⟨cs, rfl, hl, ?_⟩
    simp only [itemOf_lst, atI_getLast, lvlD, List.getLast?_map]
    unfold rootF at q
    cases hg : (lvl cs).getLast? with
    | none => exact absurd (List.getLast?_eq_none_iff.mp hg) (lvl_ne cs)
    | some l =>
      rw [hg] at q
      simp only [Option.map_some, ilD]
      subst hE
      walk_at "dd"
      refine ⟨1, by decide, dat_ints _, dat_nil, ?_⟩
      rw [eqb_lst_nil]
      cases l with
      | nil =>
        simp only [List.isEmpty_nil, Bool.false_xor, if_true]
        exact ⟨_, Sub.refl _, q⟩
      | cons x r =>
        simp only [List.isEmpty_cons, Bool.false_xor, Bool.false_eq_true, if_false]
        walk_at "dd"
        exact ⟨_, Sub.refl _, q⟩)

def R_root_by (A : Ad) : DSp := fun ds C P => ∃ c p, ds = [.int c, pathD p] ∧ P (.int (rootBy c p)) C
theorem len_root_by (A : Ad) : ∀ ds C P, R_root_by A ds C P → ds.length = 2 := by rintro _ _ _ ⟨a, p, rfl, _⟩; rfl
theorem ok_root_by (T : Txt K mg A) : FnOk P w K mg base CX0 3 A.a_root_by A.d_root_by ["check", "path"] (spD K (R_root_by A)) :=
  ok_D T.F_root_by sc_root_by (len_root_by A) (fun cdv Ar outer s H E hr =>
    ds_consL (ds_for PassesOwn.never rfl (di_list (d_var 1)) (dg_tup rfl (dgs_cons (dg_name 2 sc_root_by.nd) (dgs_cons (dg_name 3 sc_root_by.nd) (dgs_nil))))
      (ds_one (ds_if (d_tcmp op_eq s_eq (d_var 2) (d_str))
        (ds_one (ds_set 0 sc_root_by.nd (d_call (ok_joined_check T) (hr.mono (by decide)) T.g_joined_check T.F_joined_check.kp T.b_joined_check (d_cons (d_var 3) (d_cons (d_var 0) (d_nil))))))
        (ds_one (ds_set 0 sc_root_by.nd (d_call (ok_joined_check T) (hr.mono (by decide)) T.g_joined_check T.F_joined_check.kp T.b_joined_check (d_cons (d_var 0) (d_cons (d_var 3) (d_nil)))))))))
    (ds_one (ds_ret (d_var 0)))) (fun ds C Pk h => by
    obtain ⟨c, p, rfl, q⟩ := h
    refine seq_hide fun E' hE => ?_
    simp only [pathD]
    walk_at "dd"
    refine for_map (fun k ρ' C' => (∃ o1 o2, ρ' = [some (.int (rootBy c (p.take k))), some (pathD p), o1, o2]) ∧ C' = C) ⟨⟨_, _, rfl⟩, rfl⟩ ?_ ?_
    · rintro k ⟨s, o⟩ ρ' C' hk ⟨⟨_, _, rfl⟩, rfl⟩
      have hs : rootBy c (p.take (k + 1)) = if s then joinF o (rootBy c (p.take k)) else joinF (rootBy c (p.take k)) o := by
        rw [take_snoc hk]
        unfold rootBy
        rw [List.foldl_append]
        rfl
      simp only [sideD]
      cases s with
      | true =>
        walk_at "dd"
        rw [if_pos rfl] at hs
        refine ⟨_, _, rfl, ?_⟩
        rw [← hs]
        exact ⟨⟨_, _, rfl⟩, rfl⟩
      | false =>
        have hn : ¬ Str.ofString "right" = Str.ofString "left" := by decide +kernel
        walk_at "dd"
        rw [if_neg (by decide)] at hs
        refine ⟨_, _, rfl, ?_⟩
        rw [← hs]
        exact ⟨⟨_, _, rfl⟩, rfl⟩
    · rintro ρ' C' ⟨⟨_, _, rfl⟩, rfl⟩
      subst hE
      walk_at "dd"
      simp only [List.take_length]
      exact ⟨_, Sub.refl _, q⟩)

def R_is_proof (A : Ad) : DSp := fun ds C P => ∃ c p r, ds = [.int c, pathD p, .int r] ∧ P (.bl (decide (rootBy c p = r))) C
theorem len_is_proof (A : Ad) : ∀ ds C P, R_is_proof A ds C P → ds.length = 3 := by rintro _ _ _ ⟨a, p, r, rfl, _⟩; rfl
theorem ok_is_proof (T : Txt K mg A) : FnOk P w K mg base CX0 4 A.a_is_proof A.d_is_proof ["check", "path", "root"] (spD K (R_is_proof A)) :=
  ok_D T.F_is_proof sc_is_proof (len_is_proof A) (fun cdv Ar outer s H E hr =>
    ds_one (ds_ret (d_cmp op_eq s_eq (d_call (ok_root_by T) (hr.mono (by decide)) T.g_root_by T.F_root_by.kp T.b_root_by (d_cons (d_var 0) (d_cons (d_var 1) (d_nil)))) (d_var 2)))) (fun ds C Pk h => by
    obtain ⟨c, p, r, rfl, q⟩ := h
    walk_at "dd"
    refine ⟨c, p, rfl, ?_⟩
    walk_at "dd"
    exact ⟨_, Sub.refl _, q⟩)

def R_law_path (A : Ad) : DSp := fun ds C P => ∃ (cs : List Int) (p : Nat), ds = [.lst (lvlD cs), .int (p : Int)] ∧ p < cs.length ∧ cs.length ≤ 1000 ∧ P (pathD (pathF (lvl cs).dropLast p)) C
theorem len_law_path (A : Ad) : ∀ ds C P, R_law_path A ds C P → ds.length = 2 := by rintro _ _ _ ⟨a, p, rfl, _⟩; rfl
theorem ok_law_path (T : Txt K mg A) : FnOk P w K mg base CX0 1 A.a_law_path A.d_law_path ["levels", "place"] (spD K (R_law_path A)) :=
  ok_D T.F_law_path sc_law_path (len_law_path A) (fun cdv Ar outer s H E hr =>
    ds_consL (ds_set 2 sc_law_path.nd (d_lstC (d_nil)))
    (ds_cons (ds_set 3 sc_law_path.nd (d_var 1))
    (ds_consL (ds_for PassesOwn.never rfl (di_rng1 (by rfl) T.z_range (d_cons (d_op op_sub s_sub (d_callB call_len s_len (by rfl) T.z_len (by decide +kernel) (d_cons (d_var 0) (d_nil))) (d_int)) (d_nil))) (dg_name 4 sc_law_path.nd)
      (ds_cons (ds_if (d_tcmp op_eq s_eq (d_op op_mod s_mod (d_var 3) (d_int)) (d_int))
        (ds_one (ds_expr (d_bmL PySem.F.plainAttrs_list PySem.F.slot_list_append PySem.F.type_list_append mt_append s_append (d_var 2) (d_cons (d_tup (d_cons (d_str) (d_cons (d_ix ix_seq s_ix (d_ix ix_seq s_ix (d_var 0) (d_var 4)) (d_op op_sub s_sub (d_var 3) (d_int))) (d_nil)))) (d_nil)))))
        (ds_one (ds_if (d_tcmp op_lt s_lt (d_op op_add s_add (d_var 3) (d_int)) (d_callB call_len s_len (by rfl) T.z_len (by decide +kernel) (d_cons (d_ix ix_seq s_ix (d_var 0) (d_var 4)) (d_nil))))
          (ds_one (ds_expr (d_bmL PySem.F.plainAttrs_list PySem.F.slot_list_append PySem.F.type_list_append mt_append s_append (d_var 2) (d_cons (d_tup (d_cons (d_str) (d_cons (d_ix ix_seq s_ix (d_ix ix_seq s_ix (d_var 0) (d_var 4)) (d_op op_add s_add (d_var 3) (d_int))) (d_nil)))) (d_nil)))))
          (ds_nil))))
      (ds_one (ds_set 3 sc_law_path.nd (d_op op_fdivW s_divW (d_var 3) (d_int))))))
    (ds_one (ds_retF (d_var 2)))))) (fun ds C Pk h => by
    obtain ⟨cs, p, rfl, hp, hl, q⟩ := h
    have hkl := lvl_len cs
    have hil : ∀ l, ilD l = .lst (l.map D.int) := fun _ => rfl
    refine seq_hide fun E' hE => ?_
    walk_at "dd"
    intro pt hpt
    subst hE
    dsimp only
    walk_at "dd"
    refine seq_hide fun E' hE => ?_
    simp only [lvlD]
    walk_at "dd"
    refine ⟨by omega, for_rng (fun k ρ' C' => ∃ o s pre, ρ' = [some (.lst (lvlD cs)), some (.int (p : Int)), some (.ptr pt), some (.int ((s : Nat) : Int)), o] ∧ C' = cput C pt (.lst (pre.map sideD)) ∧ pre ++ pathF ((lvl cs).dropLast.drop k) s = pathF (lvl cs).dropLast p ∧ pre.length ≤ k ∧ ∀ l, (lvl cs)[k]? = some l → s < l.length) ⟨_, p, [], rfl, rfl, rfl, Nat.le_refl _, fun l hl => ?_⟩ ?_ ?_⟩
    · rw [lvl_first] at hl; cases hl; exact hp
    · rintro k ρ' C' hk' ⟨o, s, pre, rfl, rfl, hL, hpre, hs⟩
      have hk : (lvl cs).dropLast[k]? = some ((lvl cs).dropLast[k]'(by rw [List.length_dropLast]; omega)) := List.getElem?_eq_getElem _
      generalize (lvl cs).dropLast[k]'(by rw [List.length_dropLast]; omega) = lv at hk
      obtain ⟨hk1, hkn, hk3⟩ := drop_lvl hk
      have hs' := hs lv hk1
      have ht := path_turn s hk
      rw [ht] at hL
      have e2 : (s : Int) / 2 = ((s / 2 : Nat) : Int) := by omega
      simp only [lvlD]
      by_cases h1 : s % 2 = 1
      · have c1 : (s : Int) % 2 = 1 := by omega
        have e1 : (s : Int) - 1 = ((s - 1 : Nat) : Int) := by omega
        have hg : lv[s - 1]? = some (lv.getD (s - 1) 0) := by rw [List.getD_eq_getElem?_getD, List.getElem?_eq_getElem (by omega)]; rfl
        have ep : stepP lv s = [(true, lv.getD (s - 1) 0)] := if_pos h1
        rw [ep] at hL
        walk_at "dd"
        refine ⟨by decide, by omega, by decide, _, s / 2, pre ++ [(true, lv.getD (s - 1) 0)], rfl, ?_, ?_, ?_, ?_⟩
        · rw [List.map_append]; rfl
        · rw [List.append_assoc]; exact hL
        · simp only [List.length_append, List.length_cons, List.length_nil]; omega
        · rintro l h; cases h; rw [nxt_len]; omega
      · have c1 : ¬ (s : Int) % 2 = 1 := by omega
        by_cases h2 : s + 1 < lv.length
        · have c2 : (s : Int) + 1 < (lv.length : Int) := by omega
          have hg : lv[s + 1]? = some (lv.getD (s + 1) 0) := by rw [List.getD_eq_getElem?_getD, List.getElem?_eq_getElem (by omega)]; rfl
          have ep : stepP lv s = [(false, lv.getD (s + 1) 0)] := by unfold stepP; rw [if_neg h1, if_pos h2]
          rw [ep] at hL
          walk_at "dd"
          refine ⟨by decide, by omega, by decide, _, s / 2, pre ++ [(false, lv.getD (s + 1) 0)], rfl, ?_, ?_, ?_, ?_⟩
          · rw [List.map_append]; rfl
          · rw [List.append_assoc]; exact hL
          · simp only [List.length_append, List.length_cons, List.length_nil]; omega
          · rintro l h; cases h; rw [nxt_len]; omega
        · have c2 : ¬ (s : Int) + 1 < (lv.length : Int) := by omega
          have ep : stepP lv s = [] := by unfold stepP; rw [if_neg h1, if_neg h2]
          rw [ep] at hL
          walk_at "dd"
          refine ⟨by decide, by decide, _, s / 2, pre, rfl, rfl, hL, by omega, ?_⟩
          rintro l h; cases h; rw [nxt_len]; omega
    · rintro ρ' C' ⟨o, s, pre, rfl, rfl, hL, hpre, hs⟩
      rw [List.drop_eq_nil_of_le (by rw [List.length_dropLast]; omega)] at hL
      subst hE
      walk_at "dd"
      have : pathF [] s = [] := rfl
      rw [this, List.append_nil] at hL
      rw [hL]
      exact ⟨C, Sub.new hpt, hpt, C, Sub.refl _, q⟩)

def R_law (A : Ad) : DSp := fun ds C P => ∃ ns : List Int, ds = [.lst (ns.map D.int)] ∧ ns.length ≤ 63 ∧ ∀ C', P (.bl true) C'
theorem len_law (A : Ad) : ∀ ds C P, R_law A ds C P → ds.length = 1 := by rintro _ _ _ ⟨ns, rfl, _⟩; rfl
theorem law_go (A : Ad) : ∀ (ns : List Int) (P : DK), ns.length ≤ 63 → (∀ C', P (.bl true) C') → R_law A [.lst (ns.map D.int)] (fun _ => none) P := fun ns P hl k => ⟨ns, rfl, hl, k⟩

theorem ok_law (T : Txt K mg A) : FnOk P w K mg base CX0 6 A.a_law A.d_law ["script"] (spD K (R_law A)) :=
  ok_D T.F_law sc_law (len_law A) (fun cdv Ar outer s H E hr =>
    ds_consL (ds_for PassesOwn.never rfl (di_rng1 (by rfl) T.z_range (d_cons (d_callB (call_min2 rfl) s_min2 (by rfl) T.z_min (by decide +kernel) (d_cons (d_int) (d_cons (d_op op_add s_add (d_int) (d_callB call_len s_len (by rfl) T.z_len (by decide +kernel) (d_cons (d_var 0) (d_nil)))) (d_nil)))) (d_nil))) (dg_name 1 sc_law.nd)
      (ds_consL (ds_set 2 sc_law.nd (d_call (ok_law_state T) (hr.mono (by decide)) T.g_law_state T.F_law_state.kp T.b_law_state (d_cons (d_call (ok_law_cell T) (hr.mono (by decide)) T.g_law_cell T.F_law_cell.kp T.b_law_cell (d_cons (d_var 0) (d_cons (d_var 1) (d_nil)))) (d_cons (d_var 1) (d_nil)))))
      (ds_consL (ds_set 3 sc_law.nd (d_call (ok_law_digit T) (hr.mono (by decide)) T.g_law_digit T.F_law_digit.kp T.b_law_digit (d_cons (d_var 2) (d_cons (d_op op_pow s_pow (d_int) (d_int)) (d_nil)))))
      (ds_consL (ds_setLc 4 rfl sc_law.nd rfl rfl (sw_true rfl rfl rfl (by decide +kernel)) (di_rng1 (by rfl) T.z_range (d_cons (d_call (ok_law_digit T) (hr.mono (by decide)) T.g_law_digit T.F_law_digit.kp T.b_law_digit (d_cons (d_var 2) (d_cons (d_int) (d_nil)))) (d_nil))) (blkOk_by (own := [("place", 7)]) (N := ["script", "k", "state", "seed", "checks", "levels", "root", "place", "path", "turned"]) (sc := defScope s_law) (by decide +kernel)) (by decide) (fun _ _ _ _ _ => dg_name 7 sc_law.nd) (fun _ _ _ _ _ => dts_nil) (fun _ _ _ _ _ => d_op op_mod s_mod (d_callTy call_int1 s_int (by rfl) T.z_int (by decide +kernel) (d_cons (d_op op_add s_add (d_op op_mul s_mul (d_var 3) (d_op op_add s_add (d_var 7) (d_int))) (d_op op_mul s_mul (d_op op_mul s_mul (d_int) (d_var 7)) (d_var 7))) (d_nil))) (d_op op_pow s_pow (d_int) (d_int))))
      (ds_consL (ds_set 5 sc_law.nd (d_call (ok_law_levels T) (hr.mono (by decide)) T.g_law_levels T.F_law_levels.kp T.b_law_levels (d_cons (d_var 4) (d_nil))))
      (ds_cons (ds_set 6 sc_law.nd (d_int))
      (ds_consL (ds_if (d_tcmp (op_neD hr.units) s_neD (d_var 4) (d_lst (d_nil)))
        (ds_one (ds_set 6 sc_law.nd (d_ix ix_seq s_ix (d_ix ix_seq s_ix (d_var 5) (d_un un_neg s_neg (d_int))) (d_int))))
        (ds_nil))
      (ds_consL (ds_if ((d_or (d_tcmp (op_neD hr.units) s_neD (d_call (ok_levels_of T) (hr.mono (by decide)) T.g_levels_of T.F_levels_of.kp T.b_levels_of (d_cons (d_callTy call_list_of s_list (by rfl) T.z_list (by decide +kernel) (d_cons (d_var 4) (d_nil))) (d_nil))) (d_var 5)) (d_or (d_tcmp op_ne s_ne (d_call (ok_root_of T) (hr.mono (by decide)) T.g_root_of T.F_root_of.kp T.b_root_of (d_cons (d_var 4) (d_nil))) (d_var 6)) (d_or1 (d_tcmp (op_neD hr.units) s_neD (d_call (ok_next_level T) (hr.mono (by decide)) T.g_next_level T.F_next_level.kp T.b_next_level (d_cons (d_var 4) (d_nil))) (d_call (ok_law_level T) (hr.mono (by decide)) T.g_law_level T.F_law_level.kp T.b_law_level (d_cons (d_var 4) (d_nil))))))).pt)
        (ds_one (ds_ret (d_bl)))
        (ds_nil))
      (ds_consL (ds_for PassesOwn.never rfl (di_rng1 (by rfl) T.z_range (d_cons (d_callB call_len s_len (by rfl) T.z_len (by decide +kernel) (d_cons (d_var 4) (d_nil))) (d_nil))) (dg_name 7 sc_law.nd)
        (ds_consL (ds_set 8 sc_law.nd (d_call (ok_path_of T) (hr.mono (by decide)) T.g_path_of T.F_path_of.kp T.b_path_of (d_cons (d_var 4) (d_cons (d_var 7) (d_nil)))))
        (ds_consL (ds_if ((d_or (d_tcmp (op_neD hr.units) s_neD (d_var 8) (d_call (ok_law_path T) (hr.mono (by decide)) T.g_law_path T.F_law_path.kp T.b_law_path (d_cons (d_var 5) (d_cons (d_var 7) (d_nil))))) (d_or1 (d_not (d_tval (d_call (ok_is_proof T) (hr.mono (by decide)) T.g_is_proof T.F_is_proof.kp T.b_is_proof (d_cons (d_ix ix_seq s_ix (d_var 4) (d_var 7)) (d_cons (d_var 8) (d_cons (d_var 6) (d_nil))))))))).pt)
          (ds_one (ds_ret (d_bl)))
          (ds_nil))
        (ds_consL (ds_if (d_tcmp op_ne s_ne (d_call (ok_root_by T) (hr.mono (by decide)) T.g_root_by T.F_root_by.kp T.b_root_by (d_cons (d_ix ix_seq s_ix (d_var 4) (d_var 7)) (d_cons (d_var 8) (d_nil)))) (d_var 6))
          (ds_one (ds_ret (d_bl)))
          (ds_nil))
        (ds_consL (ds_set 9 sc_law.nd (d_op op_add s_add (d_op op_mul s_mul (d_op op_fdivW s_divW (d_ix ix_seq s_ix (d_var 4) (d_var 7)) (d_int)) (d_int)) (d_op op_mod s_mod (d_callTy call_int1 s_int (by rfl) T.z_int (by decide +kernel) (d_cons (d_op op_add s_add (d_op op_add s_add (d_ix ix_seq s_ix (d_var 4) (d_var 7)) (d_int)) (d_call (ok_law_digit T) (hr.mono (by decide)) T.g_law_digit T.F_law_digit.kp T.b_law_digit (d_cons (d_var 2) (d_cons (d_int) (d_nil))))) (d_nil))) (d_int))))
        (ds_one (ds_if ((d_and (d_tcmp op_eq s_eq (d_callB call_len s_len (by rfl) T.z_len (by decide +kernel) (d_cons (d_var 8) (d_nil))) (d_int)) (d_and1 (d_tval (d_call (ok_is_proof T) (hr.mono (by decide)) T.g_is_proof T.F_is_proof.kp T.b_is_proof (d_cons (d_var 9) (d_cons (d_var 8) (d_cons (d_var 6) (d_nil)))))))).pt)
          (ds_one (ds_ret (d_bl)))
          (ds_nil))))))))
      (ds_one (ds_if (d_tcmp op_ne s_ne (d_call (ok_joined_check T) (hr.mono (by decide)) T.g_joined_check T.F_joined_check.kp T.b_joined_check (d_cons (d_int) (d_cons (d_int) (d_nil)))) (d_call (ok_octets_check T) (hr.mono (by decide)) T.g_octets_check T.F_octets_check.kp T.b_octets_check (d_cons (d_lst (d_cons (d_int) (d_cons (d_int) (d_cons (d_int) (d_cons (d_int) (d_cons (d_int) (d_cons (d_int) (d_cons (d_int) (d_cons (d_int) (d_nil)))))))))) (d_nil))))
        (ds_one (ds_ret (d_bl)))
        (ds_nil))))))))))))
    (ds_one (ds_ret (d_bl)))) (fun ds C Pk h => by
    obtain ⟨ns, rfl, hl, q⟩ := h
    refine seq_hide fun E' hE => ?_
    walk_at "dd"
    refine ⟨by omega, for_rng (fun k ρ' C' => (∃ o1 o2 o3 o4 o5 o6 o7 o8 o9, ρ' = [some (.lst (ns.map D.int)), o1, o2, o3, o4, o5, o6, o7, o8, o9])) ⟨_, _, _, _, _, _, _, _, _, rfl⟩ ?_ ?_⟩
    · rintro k ρ' C1 hk ⟨o1, o2, o3, o4, o5, o6, o7, o8, o9, rfl⟩
      refine seq_hide fun E2 hE2 => ?_
      walk_at "dd"
      refine ⟨ns, (k : Int), rfl, hl, by omega, fun v => ⟨v, (k : Int), rfl, by omega, by omega, fun p s hs hp => ?_⟩⟩
      subst hE2
      dsimp only [List.set_cons_succ, List.set_cons_zero]
      generalize hC : cput C1 p (.lst [.int s]) = C2
      have h1 : C2 p = some (.lst [.int s]) := by rw [← hC, cput_same]
      clear hC hp
      refine seq_hide fun E2 hE2 => ?_
      walk_at "dd"
      refine ⟨⟨by decide, by decide, by decide⟩, p, s, 2147483648, rfl, h1, hs, by decide, by decide, fun seed s2 hd0 hd9 hs2 => ?_⟩
      subst hE2
      dsimp only [List.set_cons_succ, List.set_cons_zero]
      have h2 : cput C2 p (.lst [.int s2]) p = some (.lst [.int s2]) := cput_same
      generalize cput C2 p (.lst [.int s2]) = C3 at h2 ⊢
      refine seq_hide fun E2 hE2 => ?_
      walk_at "dd"
      refine ⟨p, s2, 41, rfl, h2, hs2, by decide, by decide, fun m s3 hm0 hm9 hs3 => ?_⟩
      have h3 : cput C3 p (.lst [.int s3]) p = some (.lst [.int s3]) := cput_same
      generalize cput C3 p (.lst [.int s3]) = C4 at h3 ⊢
      walk_at "dd"
      refine ⟨by omega, lc_rng (fun z => some (.int ((seed * (z + 3) + 77 * z * z) % 4294967296))) (by omega) (fun k C' Q hk hs hq => ?_) ?_⟩
      · simp only [Int.zero_add] at hq
        walk_at "dd"
        exact ⟨cmul_l (by omega) (by omega), cmul_l (by omega) (by omega), cmul_r (by omega) (by omega), ⟨by decide, by decide, by decide⟩, show (0 : Int) < 4294967296 by decide, hq⟩
      · have e : (List.filterMap (fun (k : Nat) => some (D.int ((seed * ((0 : Int) + (k : Int) + 3) + 77 * ((0 : Int) + (k : Int)) * ((0 : Int) + (k : Int))) % 4294967296))) (List.range m.toNat)) = ((List.range m.toNat).map fun (k : Nat) => (seed * ((0 : Int) + (k : Int) + 3) + 77 * ((0 : Int) + (k : Int)) * ((0 : Int) + (k : Int))) % 4294967296).map D.int := by
          rw [List.map_map]
          exact congrFun (List.filterMap_eq_map (f := fun (k : Nat) => D.int ((seed * ((0 : Int) + (k : Int) + 3) + 77 * ((0 : Int) + (k : Int)) * ((0 : Int) + (k : Int))) % 4294967296))) _
        rw [e]
        have hcl : ((List.range m.toNat).map fun (k : Nat) => (seed * ((0 : Int) + (k : Int) + 3) + 77 * ((0 : Int) + (k : Int)) * ((0 : Int) + (k : Int))) % 4294967296).length ≤ 41 := by
          rw [List.length_map, List.length_range]; omega
        generalize ((List.range m.toNat).map fun (k : Nat) => (seed * ((0 : Int) + (k : Int) + 3) + 77 * ((0 : Int) + (k : Int)) * ((0 : Int) + (k : Int))) % 4294967296) = cs at hcl
        clear e
        subst hE2
        dsimp only [List.set_cons_succ, List.set_cons_zero]
        refine seq_hide fun E2 hE2 => ?_
        walk_at "dd"
        refine ⟨cs, rfl, hcl, ?_⟩
        subst hE2
        dsimp only [List.set_cons_succ, List.set_cons_zero]
        refine seq_hide fun E2 hE2 => ?_
        walk_at "dd"
        subst hE2
        dsimp only [List.set_cons_succ, List.set_cons_zero]
        refine seq_hide fun E2 hE2 => ?_
        walk_at "dd"
        have hroot : E2.nx [some (.lst (ns.map D.int)), some (.int (k : Int)), some (.ptr p), some (.int seed), some (.lst (cs.map D.int)), some (.lst (lvlD cs)), some (.int (rootF cs)), o7, o8, o9] C4 := by
          subst hE2
          dsimp only
          refine seq_hide fun E3 hE3 => ?_
          walk_at "dd"
          have dl : Dat 2 (.lst (lvlD cs)) := dat_lst (fun l => dat_ints l) _
          have el := eqb_self dl
          refine ⟨cs, rfl, by omega, 2, by decide, dl, dl, ?_⟩
          simp only [res_lst, el, Bool.not_true, Bool.false_eq_true, if_false]
          refine ⟨cs, rfl, by omega, ?_⟩
          walk_at "dd"
          refine ⟨cs, rfl, by omega, cs, rfl, by omega, 1, by decide, dat_ints _, dat_ints _, ?_⟩
          simp only [res_lst, eqb_self (dat_ints (n := 0) (nxt cs)), Bool.not_true, Bool.false_eq_true, if_false]
          subst hE3
          dsimp only
          refine seq_hide fun E3 hE3 => ?_
          walk_at "dd"
          refine ⟨by omega, for_rng (fun j ρ' C' => ∃ s' y7 y8 y9, C' p = some (.lst [.int s']) ∧ 0 ≤ s' ∧ ρ' = [some (.lst (ns.map D.int)), some (.int (k : Int)), some (.ptr p), some (.int seed), some (.lst (cs.map D.int)), some (.lst (lvlD cs)), some (.int (rootF cs)), y7, y8, y9]) ⟨s3, _, _, _, h3, hs3, rfl⟩ ?_ ?_⟩
          · rintro j ρ' C5 hj ⟨s5, y7, y8, y9, h5, hs5, rfl⟩
            have hj' : j < cs.length := by omega
            have hC : cs[j]? = some (cs.getD j 0) := by rw [List.getD_eq_getElem?_getD, List.getElem?_eq_getElem hj']; rfl
            have hr := root_ok cs j hj'
            generalize cs.getD j 0 = c at hC hr
            generalize hP : pathF (lvl cs).dropLast j = pth at hr
            have dpt : Dat 2 (pathD pth) := dat_lst (fun e => .tup fun d hd => by
              simp only [List.mem_cons, List.not_mem_nil, or_false] at hd
              rcases hd with rfl | rfl
              · exact .str (by split <;> decide +kernel)
              · exact .int _) _
            have ept := eqb_self dpt
            refine seq_hide fun E4 hE4 => ?_
            walk_at "dd"
            refine ⟨cs, j, rfl, hj', by omega, ?_⟩
            rw [hP]
            subst hE4
            dsimp only [List.set_cons_succ, List.set_cons_zero]
            refine seq_hide fun E4 hE4 => ?_
            walk_at "dd"
            refine ⟨cs, j, rfl, hj', by omega, ?_⟩
            rw [hP]
            have rp : ∀ C, D.res C (pathD pth) = pathD pth := fun _ => rfl
            refine ⟨2, by decide, dpt, dpt, ?_⟩
            simp only [rp, ept, Bool.not_true, Bool.false_eq_true, if_false]
            refine ⟨c, pth, rootF cs, rfl, ?_⟩
            walk_at "dd"
            subst hE4
            dsimp only
            refine seq_hide fun E4 hE4 => ?_
            walk_at "dd"
            refine ⟨c, pth, rfl, ?_⟩
            walk_at "dd"
            subst hE4
            dsimp only
            refine seq_hide fun E4 hE4 => ?_
            walk_at "dd"
            refine ⟨by decide, cmul_r (by decide) (by decide), p, s5, 9, rfl, h5, hs5, by decide, by decide, fun d s6 hd1 hd2 hs6 => ?_⟩
            walk_at "dd"
            have h6 : cput C5 p (.lst [.int s6]) p = some (.lst [.int s6]) := cput_same
            generalize cput C5 p (.lst [.int s6]) = C6 at h6 ⊢
            refine ⟨by decide, ?_⟩
            subst hE4
            have go : ∃ s' y7 y8 y9, C6 p = some (.lst [.int s']) ∧ 0 ≤ s' ∧ [some (.lst (ns.map D.int)), some (.int (k : Int)), some (.ptr p), some (.int seed), some (.lst (cs.map D.int)), some (.lst (lvlD cs)), some (.int (rootF cs)), some (.int (j : Int)), some (pathD pth), some (.int (c / 256 * 256 + (c + 1 + d) % 256))] = [some (.lst (ns.map D.int)), some (.int (k : Int)), some (.ptr p), some (.int seed), some (.lst (cs.map D.int)), some (.lst (lvlD cs)), some (.int (rootF cs)), y7, y8, y9] := ⟨s6, _, _, _, h6, hs6, rfl⟩
            have hlp : lenOf (pathD pth) C6 = some pth.length := by simp only [pathD, lenOf_lst, List.length_map]
            by_cases hp1 : pth.length = 1
            · have hp2 : (pth.length : Int) = 1 := by omega
              have hne : decide (rootBy (c / 256 * 256 + (c + 1 + d) % 256) pth = rootF cs) = false := by
                rw [decide_eq_false_iff_not, ← hr]
                obtain ⟨⟨sd, o⟩, rfl⟩ := List.length_eq_one_iff.mp hp1
                exact turned_ne c o d hd1 hd2 sd
              walk_at "dd"
              refine ⟨_, pth, rootF cs, rfl, ?_⟩
              simp only [hne, Bool.false_eq_true, if_false]
              exact go
            · have hp2 : ¬ (pth.length : Int) = 1 := by omega
              walk_at "dd"
              exact ⟨s6, _, _, _, rfl, hs6, rfl⟩
          · rintro ρ' C5 ⟨s5, y7, y8, y9, h5, hs5, rfl⟩
            subst hE3
            walk_at "dd"
            refine ⟨5, 6, rfl, [0, 0, 0, 5, 0, 0, 0, 6], rfl, ?_⟩
            have ej : joinF 5 6 = octF [0, 0, 0, 5, 0, 0, 0, 6] := rfl
            walk_at "dd"
            exact ⟨_, _, _, _, _, _, _, _, _, rfl⟩
        refine ⟨1, by decide, dat_ints _, dat_nil, ?_⟩
        rw [eqb_lst_nil]
        cases cs with
        | nil =>
          have e : rootF [] = 0 := by unfold rootF; rw [lvl_end (by decide)]; rfl
          rw [e] at hroot
          exact hroot
        | cons x r =>
          simp only [List.isEmpty_cons, Bool.not_false, if_true]
          simp only [lvlD, atI_getLast, List.getLast?_map]
          unfold rootF at hroot
          obtain ⟨y, hy⟩ := lvl_last (x :: r) (by simp)
          rw [hy] at hroot ⊢
          exact hroot
    · rintro ρ' C1 ⟨o1, o2, o3, o4, o5, o6, o7, o8, o9, rfl⟩
      subst hE
      walk_at "dd"
      exact ⟨C1, Sub.refl _⟩)

end
/-! ### what the top has written, the head -/
theorem all_mk {l : PySem.W.OpenLaw} {w : World} {K : PySem.W.Frag} {h : Heap} {mg : Str → Option Value} {fa : Addr} (X : K.In h) (G : h.Ns mainGlobals mg) (hfa : mg "law" = some (.ref fa))
    {t_BASE : Tok}
    {f_law_state : Addr} {od_law_state an_law_state : Option Addr} {sl_law_state : Array (Option Value)} {oc_law_state kV_law_state dc_law_state pm_law_state cd_law_state ct_law_state : Value}
    {f_law_digit : Addr} {od_law_digit an_law_digit : Option Addr} {sl_law_digit : Array (Option Value)} {oc_law_digit kV_law_digit dc_law_digit pm_law_digit cd_law_digit ct_law_digit : Value}
    {f_octets_check : Addr} {od_octets_check an_octets_check : Option Addr} {sl_octets_check : Array (Option Value)} {oc_octets_check kV_octets_check dc_octets_check pm_octets_check cd_octets_check ct_octets_check : Value}
    {f_law_four : Addr} {od_law_four an_law_four : Option Addr} {sl_law_four : Array (Option Value)} {oc_law_four kV_law_four dc_law_four pm_law_four cd_law_four ct_law_four : Value}
    {f_law_level : Addr} {od_law_level an_law_level : Option Addr} {sl_law_level : Array (Option Value)} {oc_law_level kV_law_level dc_law_level pm_law_level cd_law_level ct_law_level : Value}
    {f_law_levels : Addr} {od_law_levels an_law_levels : Option Addr} {sl_law_levels : Array (Option Value)} {oc_law_levels kV_law_levels dc_law_levels pm_law_levels cd_law_levels ct_law_levels : Value}
    {f_law_cell : Addr} {od_law_cell an_law_cell : Option Addr} {sl_law_cell : Array (Option Value)} {oc_law_cell kV_law_cell dc_law_cell pm_law_cell cd_law_cell ct_law_cell : Value}
    {f_check_octets : Addr} {od_check_octets an_check_octets : Option Addr} {sl_check_octets : Array (Option Value)} {oc_check_octets kV_check_octets dc_check_octets pm_check_octets cd_check_octets ct_check_octets : Value}
    {f_joined_check : Addr} {od_joined_check an_joined_check : Option Addr} {sl_joined_check : Array (Option Value)} {oc_joined_check kV_joined_check dc_joined_check pm_joined_check cd_joined_check ct_joined_check : Value}
    {f_next_level : Addr} {od_next_level an_next_level : Option Addr} {sl_next_level : Array (Option Value)} {oc_next_level kV_next_level dc_next_level pm_next_level cd_next_level ct_next_level : Value}
    {f_levels_of : Addr} {od_levels_of an_levels_of : Option Addr} {sl_levels_of : Array (Option Value)} {oc_levels_of kV_levels_of dc_levels_of pm_levels_of cd_levels_of ct_levels_of : Value}
    {f_path_of : Addr} {od_path_of an_path_of : Option Addr} {sl_path_of : Array (Option Value)} {oc_path_of kV_path_of dc_path_of pm_path_of cd_path_of ct_path_of : Value}
    {f_root_of : Addr} {od_root_of an_root_of : Option Addr} {sl_root_of : Array (Option Value)} {oc_root_of kV_root_of dc_root_of pm_root_of cd_root_of ct_root_of : Value}
    {f_root_by : Addr} {od_root_by an_root_by : Option Addr} {sl_root_by : Array (Option Value)} {oc_root_by kV_root_by dc_root_by pm_root_by cd_root_by ct_root_by : Value}
    {f_is_proof : Addr} {od_is_proof an_is_proof : Option Addr} {sl_is_proof : Array (Option Value)} {oc_is_proof kV_is_proof dc_is_proof pm_is_proof cd_is_proof ct_is_proof : Value}
    {f_law_path : Addr} {od_law_path an_law_path : Option Addr} {sl_law_path : Array (Option Value)} {oc_law_path kV_law_path dc_law_path pm_law_path cd_law_path ct_law_path : Value}
    {f_law : Addr} {od_law an_law : Option Addr} {sl_law : Array (Option Value)} {oc_law kV_law dc_law pm_law cd_law ct_law : Value}
    (z_int : PySem.W.nsIn K mainGlobals "int" = some none)
    (z_len : PySem.W.nsIn K mainGlobals "len" = some none)
    (z_list : PySem.W.nsIn K mainGlobals "list" = some none)
    (z_min : PySem.W.nsIn K mainGlobals "min" = some none)
    (z_range : PySem.W.nsIn K mainGlobals "range" = some none)
    (kk_BASE : PySem.W.nsIn K mainGlobals "BASE" = some (some (.int 65521 t_BASE)))
    (a_law_state : PySem.W.nsIn K mainGlobals "_law_state" = some (some (.ref f_law_state)))
    (l_law_state : K.lookup f_law_state = some ⟨oc_law_state, od_law_state, .func (PySem.W.fnOf "_law_state" "_law_state" (defArgs s_law_state) (defBody s_law_state) (defScope s_law_state) .none kV_law_state dc_law_state pm_law_state an_law_state cd_law_state ct_law_state), sl_law_state⟩)
    (c_law_state : PySem.W.codeIn K cd_law_state "_law_state" = true)
    (k_law_state : PySem.W.keepIn K (.ref f_law_state) = true)
    (a_law_digit : PySem.W.nsIn K mainGlobals "_law_digit" = some (some (.ref f_law_digit)))
    (l_law_digit : K.lookup f_law_digit = some ⟨oc_law_digit, od_law_digit, .func (PySem.W.fnOf "_law_digit" "_law_digit" (defArgs s_law_digit) (defBody s_law_digit) (defScope s_law_digit) .none kV_law_digit dc_law_digit pm_law_digit an_law_digit cd_law_digit ct_law_digit), sl_law_digit⟩)
    (c_law_digit : PySem.W.codeIn K cd_law_digit "_law_digit" = true)
    (k_law_digit : PySem.W.keepIn K (.ref f_law_digit) = true)
    (a_octets_check : PySem.W.nsIn K mainGlobals "octets_check" = some (some (.ref f_octets_check)))
    (l_octets_check : K.lookup f_octets_check = some ⟨oc_octets_check, od_octets_check, .func (PySem.W.fnOf "octets_check" "octets_check" (defArgs s_octets_check) (defBody s_octets_check) (defScope s_octets_check) .none kV_octets_check dc_octets_check pm_octets_check an_octets_check cd_octets_check ct_octets_check), sl_octets_check⟩)
    (c_octets_check : PySem.W.codeIn K cd_octets_check "octets_check" = true)
    (k_octets_check : PySem.W.keepIn K (.ref f_octets_check) = true)
    (a_law_four : PySem.W.nsIn K mainGlobals "_law_four" = some (some (.ref f_law_four)))
    (l_law_four : K.lookup f_law_four = some ⟨oc_law_four, od_law_four, .func (PySem.W.fnOf "_law_four" "_law_four" (defArgs s_law_four) (defBody s_law_four) (defScope s_law_four) .none kV_law_four dc_law_four pm_law_four an_law_four cd_law_four ct_law_four), sl_law_four⟩)
    (c_law_four : PySem.W.codeIn K cd_law_four "_law_four" = true)
    (k_law_four : PySem.W.keepIn K (.ref f_law_four) = true)
    (a_law_level : PySem.W.nsIn K mainGlobals "_law_level" = some (some (.ref f_law_level)))
    (l_law_level : K.lookup f_law_level = some ⟨oc_law_level, od_law_level, .func (PySem.W.fnOf "_law_level" "_law_level" (defArgs s_law_level) (defBody s_law_level) (defScope s_law_level) .none kV_law_level dc_law_level pm_law_level an_law_level cd_law_level ct_law_level), sl_law_level⟩)
    (c_law_level : PySem.W.codeIn K cd_law_level "_law_level" = true)
    (k_law_level : PySem.W.keepIn K (.ref f_law_level) = true)
    (a_law_levels : PySem.W.nsIn K mainGlobals "_law_levels" = some (some (.ref f_law_levels)))
    (l_law_levels : K.lookup f_law_levels = some ⟨oc_law_levels, od_law_levels, .func (PySem.W.fnOf "_law_levels" "_law_levels" (defArgs s_law_levels) (defBody s_law_levels) (defScope s_law_levels) .none kV_law_levels dc_law_levels pm_law_levels an_law_levels cd_law_levels ct_law_levels), sl_law_levels⟩)
    (c_law_levels : PySem.W.codeIn K cd_law_levels "_law_levels" = true)
    (k_law_levels : PySem.W.keepIn K (.ref f_law_levels) = true)
    (a_law_cell : PySem.W.nsIn K mainGlobals "_law_cell" = some (some (.ref f_law_cell)))
    (l_law_cell : K.lookup f_law_cell = some ⟨oc_law_cell, od_law_cell, .func (PySem.W.fnOf "_law_cell" "_law_cell" (defArgs s_law_cell) (defBody s_law_cell) (defScope s_law_cell) .none kV_law_cell dc_law_cell pm_law_cell an_law_cell cd_law_cell ct_law_cell), sl_law_cell⟩)
    (c_law_cell : PySem.W.codeIn K cd_law_cell "_law_cell" = true)
    (k_law_cell : PySem.W.keepIn K (.ref f_law_cell) = true)
    (a_check_octets : PySem.W.nsIn K mainGlobals "check_octets" = some (some (.ref f_check_octets)))
    (l_check_octets : K.lookup f_check_octets = some ⟨oc_check_octets, od_check_octets, .func (PySem.W.fnOf "check_octets" "check_octets" (defArgs s_check_octets) (defBody s_check_octets) (defScope s_check_octets) .none kV_check_octets dc_check_octets pm_check_octets an_check_octets cd_check_octets ct_check_octets), sl_check_octets⟩)
    (c_check_octets : PySem.W.codeIn K cd_check_octets "check_octets" = true)
    (k_check_octets : PySem.W.keepIn K (.ref f_check_octets) = true)
    (a_joined_check : PySem.W.nsIn K mainGlobals "joined_check" = some (some (.ref f_joined_check)))
    (l_joined_check : K.lookup f_joined_check = some ⟨oc_joined_check, od_joined_check, .func (PySem.W.fnOf "joined_check" "joined_check" (defArgs s_joined_check) (defBody s_joined_check) (defScope s_joined_check) .none kV_joined_check dc_joined_check pm_joined_check an_joined_check cd_joined_check ct_joined_check), sl_joined_check⟩)
    (c_joined_check : PySem.W.codeIn K cd_joined_check "joined_check" = true)
    (k_joined_check : PySem.W.keepIn K (.ref f_joined_check) = true)
    (a_next_level : PySem.W.nsIn K mainGlobals "next_level" = some (some (.ref f_next_level)))
    (l_next_level : K.lookup f_next_level = some ⟨oc_next_level, od_next_level, .func (PySem.W.fnOf "next_level" "next_level" (defArgs s_next_level) (defBody s_next_level) (defScope s_next_level) .none kV_next_level dc_next_level pm_next_level an_next_level cd_next_level ct_next_level), sl_next_level⟩)
    (c_next_level : PySem.W.codeIn K cd_next_level "next_level" = true)
    (k_next_level : PySem.W.keepIn K (.ref f_next_level) = true)
    (a_levels_of : PySem.W.nsIn K mainGlobals "levels_of" = some (some (.ref f_levels_of)))
    (l_levels_of : K.lookup f_levels_of = some ⟨oc_levels_of, od_levels_of, .func (PySem.W.fnOf "levels_of" "levels_of" (defArgs s_levels_of) (defBody s_levels_of) (defScope s_levels_of) .none kV_levels_of dc_levels_of pm_levels_of an_levels_of cd_levels_of ct_levels_of), sl_levels_of⟩)
    (c_levels_of : PySem.W.codeIn K cd_levels_of "levels_of" = true)
    (k_levels_of : PySem.W.keepIn K (.ref f_levels_of) = true)
    (a_path_of : PySem.W.nsIn K mainGlobals "path_of" = some (some (.ref f_path_of)))
    (l_path_of : K.lookup f_path_of = some ⟨oc_path_of, od_path_of, .func (PySem.W.fnOf "path_of" "path_of" (defArgs s_path_of) (defBody s_path_of) (defScope s_path_of) .none kV_path_of dc_path_of pm_path_of an_path_of cd_path_of ct_path_of), sl_path_of⟩)
    (c_path_of : PySem.W.codeIn K cd_path_of "path_of" = true)
    (k_path_of : PySem.W.keepIn K (.ref f_path_of) = true)
    (a_root_of : PySem.W.nsIn K mainGlobals "root_of" = some (some (.ref f_root_of)))
    (l_root_of : K.lookup f_root_of = some ⟨oc_root_of, od_root_of, .func (PySem.W.fnOf "root_of" "root_of" (defArgs s_root_of) (defBody s_root_of) (defScope s_root_of) .none kV_root_of dc_root_of pm_root_of an_root_of cd_root_of ct_root_of), sl_root_of⟩)
    (c_root_of : PySem.W.codeIn K cd_root_of "root_of" = true)
    (k_root_of : PySem.W.keepIn K (.ref f_root_of) = true)
    (a_root_by : PySem.W.nsIn K mainGlobals "root_by" = some (some (.ref f_root_by)))
    (l_root_by : K.lookup f_root_by = some ⟨oc_root_by, od_root_by, .func (PySem.W.fnOf "root_by" "root_by" (defArgs s_root_by) (defBody s_root_by) (defScope s_root_by) .none kV_root_by dc_root_by pm_root_by an_root_by cd_root_by ct_root_by), sl_root_by⟩)
    (c_root_by : PySem.W.codeIn K cd_root_by "root_by" = true)
    (k_root_by : PySem.W.keepIn K (.ref f_root_by) = true)
    (a_is_proof : PySem.W.nsIn K mainGlobals "is_proof" = some (some (.ref f_is_proof)))
    (l_is_proof : K.lookup f_is_proof = some ⟨oc_is_proof, od_is_proof, .func (PySem.W.fnOf "is_proof" "is_proof" (defArgs s_is_proof) (defBody s_is_proof) (defScope s_is_proof) .none kV_is_proof dc_is_proof pm_is_proof an_is_proof cd_is_proof ct_is_proof), sl_is_proof⟩)
    (c_is_proof : PySem.W.codeIn K cd_is_proof "is_proof" = true)
    (k_is_proof : PySem.W.keepIn K (.ref f_is_proof) = true)
    (a_law_path : PySem.W.nsIn K mainGlobals "_law_path" = some (some (.ref f_law_path)))
    (l_law_path : K.lookup f_law_path = some ⟨oc_law_path, od_law_path, .func (PySem.W.fnOf "_law_path" "_law_path" (defArgs s_law_path) (defBody s_law_path) (defScope s_law_path) .none kV_law_path dc_law_path pm_law_path an_law_path cd_law_path ct_law_path), sl_law_path⟩)
    (c_law_path : PySem.W.codeIn K cd_law_path "_law_path" = true)
    (k_law_path : PySem.W.keepIn K (.ref f_law_path) = true)
    (a_law : PySem.W.nsIn K mainGlobals "law" = some (some (.ref f_law)))
    (l_law : K.lookup f_law = some ⟨oc_law, od_law, .func (PySem.W.fnOf "law" "law" (defArgs s_law) (defBody s_law) (defScope s_law) .none kV_law dc_law pm_law an_law cd_law ct_law), sl_law⟩)
    (c_law : PySem.W.codeIn K cd_law "law" = true)
    (k_law : PySem.W.keepIn K (.ref f_law) = true)
    : ∃ (A : Ad) (fd : FuncData), (∀ (s : Shared) (v : Value), BindsTo s fd ⟨[v], []⟩ [("script", v)]) ∧ ∀ base : Heap, K.In base → base.Ns mainGlobals mg → FnOk l.prog w K mg base CX0 6 fa fd ["script"] (spD K (R_law A)) := by
  have e := hfa.symm.trans (PySem.W.mg_of X G a_law)
  cases e
  have F_law_state := fun_mk (st := s_law_state) l_law_state c_law_state k_law_state
  have b_law_state := F_law_state.binds (ps := ["cell", "k"]) fun _ _ _ _ _ _ us hl => match us, hl with | [_, _], _ => rfl
  have F_law_digit := fun_mk (st := s_law_digit) l_law_digit c_law_digit k_law_digit
  have b_law_digit := F_law_digit.binds (ps := ["state", "many"]) fun _ _ _ _ _ _ us hl => match us, hl with | [_, _], _ => rfl
  have F_octets_check := fun_mk (st := s_octets_check) l_octets_check c_octets_check k_octets_check
  have b_octets_check := F_octets_check.binds (ps := ["octets"]) fun _ _ _ _ _ _ us hl => match us, hl with | [_], _ => rfl
  have F_law_four := fun_mk (st := s_law_four) l_law_four c_law_four k_law_four
  have b_law_four := F_law_four.binds (ps := ["check"]) fun _ _ _ _ _ _ us hl => match us, hl with | [_], _ => rfl
  have F_law_level := fun_mk (st := s_law_level) l_law_level c_law_level k_law_level
  have b_law_level := F_law_level.binds (ps := ["checks"]) fun _ _ _ _ _ _ us hl => match us, hl with | [_], _ => rfl
  have F_law_levels := fun_mk (st := s_law_levels) l_law_levels c_law_levels k_law_levels
  have b_law_levels := F_law_levels.binds (ps := ["checks"]) fun _ _ _ _ _ _ us hl => match us, hl with | [_], _ => rfl
  have F_law_cell := fun_mk (st := s_law_cell) l_law_cell c_law_cell k_law_cell
  have b_law_cell := F_law_cell.binds (ps := ["script", "k"]) fun _ _ _ _ _ _ us hl => match us, hl with | [_, _], _ => rfl
  have F_check_octets := fun_mk (st := s_check_octets) l_check_octets c_check_octets k_check_octets
  have b_check_octets := F_check_octets.binds (ps := ["check"]) fun _ _ _ _ _ _ us hl => match us, hl with | [_], _ => rfl
  have F_joined_check := fun_mk (st := s_joined_check) l_joined_check c_joined_check k_joined_check
  have b_joined_check := F_joined_check.binds (ps := ["left", "right"]) fun _ _ _ _ _ _ us hl => match us, hl with | [_, _], _ => rfl
  have F_next_level := fun_mk (st := s_next_level) l_next_level c_next_level k_next_level
  have b_next_level := F_next_level.binds (ps := ["checks"]) fun _ _ _ _ _ _ us hl => match us, hl with | [_], _ => rfl
  have F_levels_of := fun_mk (st := s_levels_of) l_levels_of c_levels_of k_levels_of
  have b_levels_of := F_levels_of.binds (ps := ["checks"]) fun _ _ _ _ _ _ us hl => match us, hl with | [_], _ => rfl
  have F_path_of := fun_mk (st := s_path_of) l_path_of c_path_of k_path_of
  have b_path_of := F_path_of.binds (ps := ["checks", "place"]) fun _ _ _ _ _ _ us hl => match us, hl with | [_, _], _ => rfl
  have F_root_of := fun_mk (st := s_root_of) l_root_of c_root_of k_root_of
  have b_root_of := F_root_of.binds (ps := ["checks"]) fun _ _ _ _ _ _ us hl => match us, hl with | [_], _ => rfl
  have F_root_by := fun_mk (st := s_root_by) l_root_by c_root_by k_root_by
  have b_root_by := F_root_by.binds (ps := ["check", "path"]) fun _ _ _ _ _ _ us hl => match us, hl with | [_, _], _ => rfl
  have F_is_proof := fun_mk (st := s_is_proof) l_is_proof c_is_proof k_is_proof
  have b_is_proof := F_is_proof.binds (ps := ["check", "path", "root"]) fun _ _ _ _ _ _ us hl => match us, hl with | [_, _, _], _ => rfl
  have F_law_path := fun_mk (st := s_law_path) l_law_path c_law_path k_law_path
  have b_law_path := F_law_path.binds (ps := ["levels", "place"]) fun _ _ _ _ _ _ us hl => match us, hl with | [_, _], _ => rfl
  have F_law := fun_mk (st := s_law) l_law c_law k_law
  have b_law := F_law.binds (ps := ["script"]) fun _ _ _ _ _ _ us hl => match us, hl with | [_], _ => rfl
  let A : Ad := { a_law_state := f_law_state, d_law_state := PySem.W.fnOf "_law_state" "_law_state" (defArgs s_law_state) (defBody s_law_state) (defScope s_law_state) .none kV_law_state dc_law_state pm_law_state an_law_state cd_law_state ct_law_state, a_law_digit := f_law_digit, d_law_digit := PySem.W.fnOf "_law_digit" "_law_digit" (defArgs s_law_digit) (defBody s_law_digit) (defScope s_law_digit) .none kV_law_digit dc_law_digit pm_law_digit an_law_digit cd_law_digit ct_law_digit, a_octets_check := f_octets_check, d_octets_check := PySem.W.fnOf "octets_check" "octets_check" (defArgs s_octets_check) (defBody s_octets_check) (defScope s_octets_check) .none kV_octets_check dc_octets_check pm_octets_check an_octets_check cd_octets_check ct_octets_check, a_law_four := f_law_four, d_law_four := PySem.W.fnOf "_law_four" "_law_four" (defArgs s_law_four) (defBody s_law_four) (defScope s_law_four) .none kV_law_four dc_law_four pm_law_four an_law_four cd_law_four ct_law_four, a_law_level := f_law_level, d_law_level := PySem.W.fnOf "_law_level" "_law_level" (defArgs s_law_level) (defBody s_law_level) (defScope s_law_level) .none kV_law_level dc_law_level pm_law_level an_law_level cd_law_level ct_law_level, a_law_levels := f_law_levels, d_law_levels := PySem.W.fnOf "_law_levels" "_law_levels" (defArgs s_law_levels) (defBody s_law_levels) (defScope s_law_levels) .none kV_law_levels dc_law_levels pm_law_levels an_law_levels cd_law_levels ct_law_levels, a_law_cell := f_law_cell, d_law_cell := PySem.W.fnOf "_law_cell" "_law_cell" (defArgs s_law_cell) (defBody s_law_cell) (defScope s_law_cell) .none kV_law_cell dc_law_cell pm_law_cell an_law_cell cd_law_cell ct_law_cell, a_check_octets := f_check_octets, d_check_octets := PySem.W.fnOf "check_octets" "check_octets" (defArgs s_check_octets) (defBody s_check_octets) (defScope s_check_octets) .none kV_check_octets dc_check_octets pm_check_octets an_check_octets cd_check_octets ct_check_octets, a_joined_check := f_joined_check, d_joined_check := PySem.W.fnOf "joined_check" "joined_check" (defArgs s_joined_check) (defBody s_joined_check) (defScope s_joined_check) .none kV_joined_check dc_joined_check pm_joined_check an_joined_check cd_joined_check ct_joined_check, a_next_level := f_next_level, d_next_level := PySem.W.fnOf "next_level" "next_level" (defArgs s_next_level) (defBody s_next_level) (defScope s_next_level) .none kV_next_level dc_next_level pm_next_level an_next_level cd_next_level ct_next_level, a_levels_of := f_levels_of, d_levels_of := PySem.W.fnOf "levels_of" "levels_of" (defArgs s_levels_of) (defBody s_levels_of) (defScope s_levels_of) .none kV_levels_of dc_levels_of pm_levels_of an_levels_of cd_levels_of ct_levels_of, a_path_of := f_path_of, d_path_of := PySem.W.fnOf "path_of" "path_of" (defArgs s_path_of) (defBody s_path_of) (defScope s_path_of) .none kV_path_of dc_path_of pm_path_of an_path_of cd_path_of ct_path_of, a_root_of := f_root_of, d_root_of := PySem.W.fnOf "root_of" "root_of" (defArgs s_root_of) (defBody s_root_of) (defScope s_root_of) .none kV_root_of dc_root_of pm_root_of an_root_of cd_root_of ct_root_of, a_root_by := f_root_by, d_root_by := PySem.W.fnOf "root_by" "root_by" (defArgs s_root_by) (defBody s_root_by) (defScope s_root_by) .none kV_root_by dc_root_by pm_root_by an_root_by cd_root_by ct_root_by, a_is_proof := f_is_proof, d_is_proof := PySem.W.fnOf "is_proof" "is_proof" (defArgs s_is_proof) (defBody s_is_proof) (defScope s_is_proof) .none kV_is_proof dc_is_proof pm_is_proof an_is_proof cd_is_proof ct_is_proof, a_law_path := f_law_path, d_law_path := PySem.W.fnOf "_law_path" "_law_path" (defArgs s_law_path) (defBody s_law_path) (defScope s_law_path) .none kV_law_path dc_law_path pm_law_path an_law_path cd_law_path ct_law_path, a_law := fa, d_law := PySem.W.fnOf "law" "law" (defArgs s_law) (defBody s_law) (defScope s_law) .none kV_law dc_law pm_law an_law cd_law ct_law }
  have T : Txt K mg A := { F_law_state := F_law_state, b_law_state := b_law_state, g_law_state := PySem.W.mg_of X G a_law_state, F_law_digit := F_law_digit, b_law_digit := b_law_digit, g_law_digit := PySem.W.mg_of X G a_law_digit, F_octets_check := F_octets_check, b_octets_check := b_octets_check, g_octets_check := PySem.W.mg_of X G a_octets_check, F_law_four := F_law_four, b_law_four := b_law_four, g_law_four := PySem.W.mg_of X G a_law_four, F_law_level := F_law_level, b_law_level := b_law_level, g_law_level := PySem.W.mg_of X G a_law_level, F_law_levels := F_law_levels, b_law_levels := b_law_levels, g_law_levels := PySem.W.mg_of X G a_law_levels, F_law_cell := F_law_cell, b_law_cell := b_law_cell, g_law_cell := PySem.W.mg_of X G a_law_cell, F_check_octets := F_check_octets, b_check_octets := b_check_octets, g_check_octets := PySem.W.mg_of X G a_check_octets, F_joined_check := F_joined_check, b_joined_check := b_joined_check, g_joined_check := PySem.W.mg_of X G a_joined_check, F_next_level := F_next_level, b_next_level := b_next_level, g_next_level := PySem.W.mg_of X G a_next_level, F_levels_of := F_levels_of, b_levels_of := b_levels_of, g_levels_of := PySem.W.mg_of X G a_levels_of, F_path_of := F_path_of, b_path_of := b_path_of, g_path_of := PySem.W.mg_of X G a_path_of, F_root_of := F_root_of, b_root_of := b_root_of, g_root_of := PySem.W.mg_of X G a_root_of, F_root_by := F_root_by, b_root_by := b_root_by, g_root_by := PySem.W.mg_of X G a_root_by, F_is_proof := F_is_proof, b_is_proof := b_is_proof, g_is_proof := PySem.W.mg_of X G a_is_proof, F_law_path := F_law_path, b_law_path := b_law_path, g_law_path := PySem.W.mg_of X G a_law_path, F_law := F_law, b_law := b_law, g_law := PySem.W.mg_of X G a_law, z_int := PySem.W.mg_none_of X G z_int, z_len := PySem.W.mg_none_of X G z_len, z_list := PySem.W.mg_none_of X G z_list, z_min := PySem.W.mg_none_of X G z_min, z_range := PySem.W.mg_none_of X G z_range, k_BASE := ⟨_, PySem.W.mg_of X G kk_BASE⟩ }
  exact ⟨A, A.d_law, fun s v => .of_eq rfl, fun base _ _ => ok_law T⟩
theorem walk {l : PySem.W.OpenLaw} {q : Program} {loose : List Str} {XP : (Str → Option Value) → Heap → Prop} {YP : World → Heap → Prop} {d : DefRec} {K : Params → PySem.W.Frag} (hn : l.most = some 63) (hdf : d.params.defaults = [])
    (hY : ∀ (w : World) (h : Heap), YP w h → (K w.params).In h)
    (F : ∀ (w : World) (mg : Str → Option Value) (fa : Addr) (h : Heap), (K w.params).In h → h.Ns mainGlobals mg → mg d.name = some (.ref fa) →
      ∃ (A : Ad) (fd : FuncData), (∀ (s : Shared) (u : Value), BindsTo s fd ⟨[u], []⟩ [("script", u)]) ∧ ∀ base : Heap, (K w.params).In base → base.Ns mainGlobals mg → FnOk l.prog w (K w.params) mg base CX0 6 fa fd ["script"] (spD (K w.params) (R_law A))) :
    PySem.W.WalkO q loose XP YP l.row.toRowW d [] (fun f vs => PySem.call f vs) :=
  L2.walk_of (n := 63) (k := 6) (x := "script") (CX := fun _ => CX0) (sp := fun w => spLawD (K w.params)) hn (by decide) hdf ⟨rfl, by decide, by decide⟩ hY (fun w mg fa h KX G hm => by
    obtain ⟨A, fd, b, G⟩ := F w mg fa h KX G hm
    exact ⟨fd, b, fun base h1 h2 => (G base h1 h2).imp (spLaw_imp (R_law A) (law_go A))⟩) (fun _ _ a ns hl _ hS => ⟨a, ns, rfl, hS, hl, fun _ => rfl⟩) fun _ _ _ _ _ z => z
end Law

open PySem PySem.W PyProof.Rows in
set_option maxRecDepth 100000 in
set_option maxHeartbeats 0 in
theorem PySem.Challenge.cw_copperhouse_k17_trees_of_checks_holds : PySem.Challenge.rw_copperhouse_k17_trees_of_checks.Holds := by
  w_on; o_law; k_head; (case hw => w_witness2)
  k_fill
  refine Law.walk (l := PySem.Challenge.rw_copperhouse_k17_trees_of_checks) rfl rfl (fun w h Y => PySem.W.kIn_of Y) ?F
  case F =>
    intro w mg fa h KX G hmg
    refine' Law.all_mk KX G hmg ?z_int ?z_len ?z_list ?z_min ?z_range ?kk_BASE ?a_law_state ?l_law_state ?c_law_state ?k_law_state ?a_law_digit ?l_law_digit ?c_law_digit ?k_law_digit ?a_octets_check ?l_octets_check ?c_octets_check ?k_octets_check ?a_law_four ?l_law_four ?c_law_four ?k_law_four ?a_law_level ?l_law_level ?c_law_level ?k_law_level ?a_law_levels ?l_law_levels ?c_law_levels ?k_law_levels ?a_law_cell ?l_law_cell ?c_law_cell ?k_law_cell ?a_check_octets ?l_check_octets ?c_check_octets ?k_check_octets ?a_joined_check ?l_joined_check ?c_joined_check ?k_joined_check ?a_next_level ?l_next_level ?c_next_level ?k_next_level ?a_levels_of ?l_levels_of ?c_levels_of ?k_levels_of ?a_path_of ?l_path_of ?c_path_of ?k_path_of ?a_root_of ?l_root_of ?c_root_of ?k_root_of ?a_root_by ?l_root_by ?c_root_by ?k_root_by ?a_is_proof ?l_is_proof ?c_is_proof ?k_is_proof ?a_law_path ?l_law_path ?c_law_path ?k_law_path ?a_law ?l_law ?c_law ?k_law
    (case z_int => k_is)
    (case z_len => k_is)
    (case z_list => k_is)
    (case z_min => k_is)
    (case z_range => k_is)
    (case kk_BASE => k_is)
    (case a_law_state => k_is)
    (case l_law_state => k_is)
    (case c_law_state => k_is)
    (case k_law_state => k_is)
    (case a_law_digit => k_is)
    (case l_law_digit => k_is)
    (case c_law_digit => k_is)
    (case k_law_digit => k_is)
    (case a_octets_check => k_is)
    (case l_octets_check => k_is)
    (case c_octets_check => k_is)
    (case k_octets_check => k_is)
    (case a_law_four => k_is)
    (case l_law_four => k_is)
    (case c_law_four => k_is)
    (case k_law_four => k_is)
    (case a_law_level => k_is)
    (case l_law_level => k_is)
    (case c_law_level => k_is)
    (case k_law_level => k_is)
    (case a_law_levels => k_is)
    (case l_law_levels => k_is)
    (case c_law_levels => k_is)
    (case k_law_levels => k_is)
    (case a_law_cell => k_is)
    (case l_law_cell => k_is)
    (case c_law_cell => k_is)
    (case k_law_cell => k_is)
    (case a_check_octets => k_is)
    (case l_check_octets => k_is)
    (case c_check_octets => k_is)
    (case k_check_octets => k_is)
    (case a_joined_check => k_is)
    (case l_joined_check => k_is)
    (case c_joined_check => k_is)
    (case k_joined_check => k_is)
    (case a_next_level => k_is)
    (case l_next_level => k_is)
    (case c_next_level => k_is)
    (case k_next_level => k_is)
    (case a_levels_of => k_is)
    (case l_levels_of => k_is)
    (case c_levels_of => k_is)
    (case k_levels_of => k_is)
    (case a_path_of => k_is)
    (case l_path_of => k_is)
    (case c_path_of => k_is)
    (case k_path_of => k_is)
    (case a_root_of => k_is)
    (case l_root_of => k_is)
    (case c_root_of => k_is)
    (case k_root_of => k_is)
    (case a_root_by => k_is)
    (case l_root_by => k_is)
    (case c_root_by => k_is)
    (case k_root_by => k_is)
    (case a_is_proof => k_is)
    (case l_is_proof => k_is)
    (case c_is_proof => k_is)
    (case k_is_proof => k_is)
    (case a_law_path => k_is)
    (case l_law_path => k_is)
    (case c_law_path => k_is)
    (case k_law_path => k_is)
    (case a_law => k_is)
    (case l_law => k_is)
    (case c_law => k_is)
    (case k_law => k_is)
