import PyProof.Rows.All
import Wide.All
import OpenK.AllK
import Wide.FinOn
import HandS.ForMost
import HandS.Exc
import HandS.TryOnly
import HandS.ExcOwn
import HandS.WordsExc
import HandS.CallSlots
import HandS.Wide
import HandS.SortInts
import PyProof.Rows.SeqMore
import KE.SortData
import HandS.TupAny
import PySem.Challenge.RW_copperhouse_k20_how_many_places

set_option Elab.async false
set_option linter.all false
set_option maxRecDepth 100000
set_option maxHeartbeats 4000000
/-! A layer of plain data over the hand layer: values as trees (D), what may still change as cells, readings that speak of these alone. -/
namespace DD
open PySem L2

/-! ### data -/
inductive D where
  | non | bl (b : Bool) | int (i : Int) | str (x : Str)
  | tup (xs : List D) | lst (xs : List D) | ins (C : Addr) (fs : List (String × D)) | ptr (a : Addr)
  | dK (kvs : List (L2.Key × D)) | dT (kvs : List (List L2.Key × D))
instance : Inhabited D := ⟨.non⟩
inductive Cell where
  | lst (xs : List D) | ins (C : Addr) (fs : List (String × D)) | dK (kvs : List (L2.Key × D)) | dT (kvs : List (List L2.Key × D))
abbrev Cells := Addr → Option Cell
abbrev DEnv := List (Option D)
def cput (C : Cells) (a : Addr) (c : Cell) : Cells := fun b => if b = a then some c else C b
theorem cput_same {C : Cells} {a : Addr} {c : Cell} : cput C a c a = some c := by unfold cput; rw [if_pos rfl]
theorem cput_ne {C : Cells} {a b : Addr} {c : Cell} (h : b ≠ a) : cput C a c b = C b := by unfold cput; rw [if_neg h]
theorem cput_cput {C : Cells} {a : Addr} {c d : Cell} : cput (cput C a c) a d = cput C a d := by
  funext b; unfold cput; split <;> rfl
/-- nothing more is claimed -/
def Sub (C C' : Cells) : Prop := ∀ a c, C a = some c → C' a = some c
theorem Sub.refl (C : Cells) : Sub C C := fun _ _ h => h
theorem Sub.trans {A B C : Cells} (h : Sub A B) (g : Sub B C) : Sub A C := fun a c e => g a c (h a c e)
theorem Sub.new {C : Cells} {a : Addr} {c : Cell} (h : C a = none) : Sub C (cput C a c) := fun b d e => by
  by_cases q : b = a
  · rw [q, h] at e; cases e
  · rw [cput_ne q]; exact e
theorem Sub.put {C C' : Cells} {a : Addr} {c : Cell} (s : Sub C C') (h : C a = none) : Sub C (cput C' a c) := fun b d e => by
  by_cases q : b = a
  · rw [q, h] at e; cases e
  · rw [cput_ne q]; exact s b d e
theorem cell_ne {C : Cells} {a b : Addr} {c : Cell} (h : C a = some c) (g : C b = none) : a ≠ b := fun e => by
  rw [e, g] at h; cases h
theorem cell_ne' {C : Cells} {a b : Addr} {c : Cell} (h : C a = some c) (g : C b = none) : b ≠ a := fun e => cell_ne h g e.symm

/-! ### heaps: what is known stays -/
def Ex (H H' : Hp) : Prop := ∀ a o, H a = some o → H' a = some o
theorem Ex.refl (H : Hp) : Ex H H := fun _ _ h => h
theorem Ex.trans {H H1 H2 : Hp} (a : Ex H H1) (b : Ex H1 H2) : Ex H H2 := fun x o h => b x o (a x o h)
theorem Ex.new {H : Hp} {p : Addr} {o : HO} (h : H p = none) : Ex H (upd H p o) := fun a u e => by
  rw [upd_ne (ne_of_none e h)]
  exact e
theorem Ex.mut {H H' : Hp} {p : Addr} {o : HO} (e : Ex H H') (h : H p = none) : Ex H (upd H' p o) := fun a u ha => by
  rw [upd_ne (ne_of_none ha h)]
  exact e a u ha
theorem Ex.free {H H' : Hp} {p : Addr} (e : Ex H H') (h : H' p = none) : H p = none := by
  cases h1 : H p with
  | none => rfl
  | some o =>
    rw [e p o h1] at h
    cases h
theorem ex_rd {H H' : Hp} {a : Addr} {u : HO} (e : Ex H H') (h : Rd H a u) : Rd H' a u := by
  rcases h with h | ⟨o, h⟩
  · exact Or.inl (e a _ h)
  · exact Or.inr ⟨o, e a _ h⟩
theorem ex_l {K : PySem.W.Frag} {H H' : Hp} {a : Addr} {xs : List V} (e : Ex H H') (h : SqL K H a xs) : SqL K H' a xs := by
  rcases h with h | h
  · exact Or.inl (ex_rd e h)
  · exact Or.inr h
theorem ex_t {K : PySem.W.Frag} {H H' : Hp} {a : Addr} {xs : List V} (e : Ex H H') (h : SqT K H a xs) : SqT K H' a xs := by
  rcases h with h | h
  · exact Or.inl (ex_rd e h)
  · exact Or.inr h

/-! ### what a value stands for -/
mutual
inductive Rep (K : PySem.W.Frag) (F : Hp) : V → D → Prop
  | non : Rep K F .non .non
  | bl (b : Bool) : Rep K F (.bl b) (.bl b)
  | int (i : Int) : Rep K F (.int i) (.int i)
  | str (x : Str) : Rep K F (.str x) (.str x)
  | tup {a : Addr} {xs : List V} {ds : List D} : SqT K F a xs → RepL K F xs ds → Rep K F (.ref a) (.tup ds)
  | lst {a : Addr} {xs : List V} {ds : List D} : SqL K F a xs → RepL K F xs ds → Rep K F (.ref a) (.lst ds)
  | ins {a C dx : Addr} {gs : List (Str × V)} {fs : List (String × D)} : F a = some (.ins C dx gs) → RepF K F gs fs → Rep K F (.ref a) (.ins C fs)
  | ptr (a : Addr) : Rep K F (.ref a) (.ptr a)
  | dK {a : Addr} {vs : List (L2.Key × V)} {kvs : List (L2.Key × D)} : F a = some (.dK vs) → RepK K F vs kvs → Rep K F (.ref a) (.dK kvs)
  | dT {a : Addr} {vs : List (List L2.Key × V)} {kvs : List (List L2.Key × D)} : F a = some (.dT vs) → RepT K F vs kvs → Rep K F (.ref a) (.dT kvs)
inductive RepL (K : PySem.W.Frag) (F : Hp) : List V → List D → Prop
  | nil : RepL K F [] []
  | cons {v : V} {vs : List V} {d : D} {ds : List D} : Rep K F v d → RepL K F vs ds → RepL K F (v :: vs) (d :: ds)
inductive RepF (K : PySem.W.Frag) (F : Hp) : List (Str × V) → List (String × D) → Prop
  | nil : RepF K F [] []
  | cons {f : String} {v : V} {vs : List (Str × V)} {d : D} {ds : List (String × D)} : Rep K F v d → RepF K F vs ds → RepF K F ((Str.ofString f, v) :: vs) ((f, d) :: ds)
inductive RepK (K : PySem.W.Frag) (F : Hp) : List (L2.Key × V) → List (L2.Key × D) → Prop
  | nil : RepK K F [] []
  | cons {k : L2.Key} {v : V} {vs : List (L2.Key × V)} {d : D} {ds : List (L2.Key × D)} : Rep K F v d → RepK K F vs ds → RepK K F ((k, v) :: vs) ((k, d) :: ds)
inductive RepT (K : PySem.W.Frag) (F : Hp) : List (List L2.Key × V) → List (List L2.Key × D) → Prop
  | nil : RepT K F [] []
  | cons {k : List L2.Key} {v : V} {vs : List (List L2.Key × V)} {d : D} {ds : List (List L2.Key × D)} : Rep K F v d → RepT K F vs ds → RepT K F ((k, v) :: vs) ((k, d) :: ds)
end
mutual
theorem Rep.mono {K : PySem.W.Frag} {F F' : Hp} (e : Ex F F') : ∀ {v : V} {d : D}, Rep K F v d → Rep K F' v d
  | _, _, .non => .non
  | _, _, .bl b => .bl b
  | _, _, .int i => .int i
  | _, _, .str x => .str x
  | _, _, .tup h r => .tup (ex_t e h) (RepL.mono e r)
  | _, _, .lst h r => .lst (ex_l e h) (RepL.mono e r)
  | _, _, .ins h r => .ins (e _ _ h) (RepF.mono e r)
  | _, _, .ptr a => .ptr a
  | _, _, .dK h r => .dK (e _ _ h) (RepK.mono e r)
  | _, _, .dT h r => .dT (e _ _ h) (RepT.mono e r)
theorem RepL.mono {K : PySem.W.Frag} {F F' : Hp} (e : Ex F F') : ∀ {v : List V} {d : List D}, RepL K F v d → RepL K F' v d
  | _, _, .nil => .nil
  | _, _, .cons h r => .cons (Rep.mono e h) (RepL.mono e r)
theorem RepF.mono {K : PySem.W.Frag} {F F' : Hp} (e : Ex F F') : ∀ {v : List (Str × V)} {d : List (String × D)}, RepF K F v d → RepF K F' v d
  | _, _, .nil => .nil
  | _, _, .cons h r => .cons (Rep.mono e h) (RepF.mono e r)
theorem RepK.mono {K : PySem.W.Frag} {F F' : Hp} (e : Ex F F') : ∀ {v : List (L2.Key × V)} {d : List (L2.Key × D)}, RepK K F v d → RepK K F' v d
  | _, _, .nil => .nil
  | _, _, .cons h r => .cons (Rep.mono e h) (RepK.mono e r)
theorem RepT.mono {K : PySem.W.Frag} {F F' : Hp} (e : Ex F F') : ∀ {v : List (List L2.Key × V)} {d : List (List L2.Key × D)}, RepT K F v d → RepT K F' v d
  | _, _, .nil => .nil
  | _, _, .cons h r => .cons (Rep.mono e h) (RepT.mono e r)
end
section
variable {K : PySem.W.Frag} {F : Hp}
theorem RepL.length : ∀ {xs : List V} {ds : List D}, RepL K F xs ds → xs.length = ds.length
  | _, _, .nil => rfl
  | _, _, .cons _ r => congrArg (· + 1) r.length
theorem RepL.get : ∀ {xs : List V} {ds : List D} {i : Nat} {d : D}, RepL K F xs ds → ds[i]? = some d → ∃ v, xs[i]? = some v ∧ Rep K F v d
  | _, _, _, _, .nil, e => by simp at e
  | _, _, 0, _, .cons h _, e => by simp at e; subst e; exact ⟨_, rfl, h⟩
  | _, _, i + 1, _, .cons _ r, e => by
    obtain ⟨v, h1, h2⟩ := RepL.get (i := i) r (by simpa using e)
    exact ⟨v, by simpa using h1, h2⟩
theorem RepL.getV : ∀ {xs : List V} {ds : List D} {i : Nat} {v : V}, RepL K F xs ds → xs[i]? = some v → ∃ d, ds[i]? = some d ∧ Rep K F v d
  | _, _, _, _, .nil, e => by simp at e
  | _, _, 0, _, .cons h _, e => by simp at e; subst e; exact ⟨_, rfl, h⟩
  | _, _, i + 1, _, .cons _ r, e => by
    obtain ⟨d, h1, h2⟩ := RepL.getV (i := i) r (by simpa using e)
    exact ⟨d, by simpa using h1, h2⟩
theorem RepL.append : ∀ {xs ys : List V} {ds es : List D}, RepL K F xs ds → RepL K F ys es → RepL K F (xs ++ ys) (ds ++ es)
  | _, _, _, _, .nil, s => s
  | _, _, _, _, .cons h r, s => .cons h (RepL.append r s)
theorem RepL.set {v : V} {d : D} (h : Rep K F v d) : ∀ {xs : List V} {ds : List D} (i : Nat), RepL K F xs ds → RepL K F (xs.set i v) (ds.set i d)
  | _, _, _, .nil => .nil
  | _, _, 0, .cons _ r => .cons h r
  | _, _, i + 1, .cons q r => .cons q (RepL.set h i r)
theorem RepL.drop : ∀ {xs : List V} {ds : List D} (n : Nat), RepL K F xs ds → RepL K F (xs.drop n) (ds.drop n)
  | _, _, 0, r => r
  | _, _, _ + 1, .nil => .nil
  | _, _, n + 1, .cons _ r => RepL.drop n r
theorem RepL.take : ∀ {xs : List V} {ds : List D} (n : Nat), RepL K F xs ds → RepL K F (xs.take n) (ds.take n)
  | _, _, 0, _ => .nil
  | _, _, _ + 1, .nil => .nil
  | _, _, n + 1, .cons h r => .cons h (RepL.take n r)
theorem RepL.dropLast {xs : List V} {ds : List D} (h : RepL K F xs ds) : RepL K F xs.dropLast ds.dropLast := by
  rw [List.dropLast_eq_take, List.dropLast_eq_take, h.length]
  exact h.take _
theorem RepL.reverse : ∀ {xs : List V} {ds : List D}, RepL K F xs ds → RepL K F xs.reverse ds.reverse
  | _, _, .nil => .nil
  | _, _, .cons h r => by
    rw [List.reverse_cons, List.reverse_cons]
    exact r.reverse.append (.cons h .nil)
theorem RepL.ints : ∀ ns : List Int, RepL K F (ns.map V.int) (ns.map D.int)
  | [] => .nil
  | n :: r => .cons (.int n) (RepL.ints r)
theorem RepL.of_ints : ∀ {ns : List Int} {xs : List V}, RepL K F xs (ns.map D.int) → xs = ns.map V.int
  | [], _, .nil => rfl
  | n :: r, _, .cons h t => by
    cases h
    rw [RepL.of_ints t] <;> rfl
theorem RepL.of_strs : ∀ {ns : List Str} {xs : List V}, RepL K F xs (ns.map D.str) → xs = ns.map V.str
  | [], _, .nil => rfl
  | n :: r, _, .cons h t => by
    cases h
    rw [RepL.of_strs t] <;> rfl
theorem RepL.rep {v : V} {d : D} (h : Rep K F v d) : ∀ n, RepL K F (List.replicate n v) (List.replicate n d)
  | 0 => .nil
  | n + 1 => .cons h (RepL.rep h n)
end
theorem ofString_inj {a b : String} (h : Str.ofString a = Str.ofString b) : a = b := by
  rw [Str.ofString_eq_toList, Str.ofString_eq_toList] at h
  have h2 : a.toList.map Char.toNat = b.toList.map Char.toNat := by
    have := congrArg Str.cps h
    simpa using congrArg Array.toList this
  have inj : ∀ l m : List Char, l.map Char.toNat = m.map Char.toNat → l = m := by
    intro l
    induction l with
    | nil => intro m e; cases m with
      | nil => rfl
      | cons _ _ => simp at e
    | cons c r ih => intro m e; cases m with
      | nil => simp at e
      | cons d s =>
        simp only [List.map_cons, List.cons.injEq] at e
        have q : c = d := by
          have := e.1
          exact Char.ext (UInt32.toNat_inj.mp this)
        rw [q, ih s e.2]
  have h3 := inj _ _ h2
  have := congrArg String.ofList h3
  simpa using this
theorem ofString_eq_iff {a b : String} : (Str.ofString a = Str.ofString b) = (a = b) := propext ⟨ofString_inj, fun h => by rw [h]⟩
section
variable {K : PySem.W.Frag} {F : Hp}
theorem RepF.length : ∀ {xs : List (Str × V)} {ds : List (String × D)}, RepF K F xs ds → xs.length = ds.length
  | _, _, .nil => rfl
  | _, _, .cons _ r => congrArg (· + 1) r.length
theorem RepF.lookup {f : String} : ∀ {xs : List (Str × V)} {ds : List (String × D)} {d : D}, RepF K F xs ds → ds.lookup f = some d → ∃ v, xs.lookup (Str.ofString f) = some v ∧ Rep K F v d
  | _, _, _, .nil, e => by simp at e
  | _, _, d, .cons (f := g) h r, e => by
    by_cases q : f = g
    · subst q
      simp only [List.lookup, beq_self_eq_true] at e ⊢
      cases e
      exact ⟨_, rfl, h⟩
    · have b1 : (f == g) = false := beq_eq_false_iff_ne.mpr q
      have b2 : (Str.ofString f == Str.ofString g) = false := beq_eq_false_iff_ne.mpr fun e => q (ofString_inj e)
      simp only [List.lookup, b1, b2] at e ⊢
      exact RepF.lookup r e
theorem RepF.lookup_none {f : String} : ∀ {xs : List (Str × V)} {ds : List (String × D)}, RepF K F xs ds → ds.lookup f = none → xs.lookup (Str.ofString f) = none
  | _, _, .nil, _ => rfl
  | _, _, .cons (f := g) h r, e => by
    by_cases q : f = g
    · subst q
      simp only [List.lookup, beq_self_eq_true] at e
      cases e
    · have b1 : (f == g) = false := beq_eq_false_iff_ne.mpr q
      have b2 : (Str.ofString f == Str.ofString g) = false := beq_eq_false_iff_ne.mpr fun e => q (ofString_inj e)
      simp only [List.lookup, b1, b2] at e ⊢
      exact RepF.lookup_none r e
end
/-- an attribute stored -/
def dput (f : String) (v : D) : List (String × D) → List (String × D)
  | [] => [(f, v)]
  | (g, x) :: r => if g = f then (g, v) :: r else (g, x) :: dput f v r
theorem RepF.put {K : PySem.W.Frag} {F : Hp} {f : String} {v : V} {d : D} (h : Rep K F v d) : ∀ {xs : List (Str × V)} {ds : List (String × D)}, RepF K F xs ds → RepF K F (putF (Str.ofString f) v xs) (dput f d ds)
  | _, _, .nil => .cons h .nil
  | _, _, .cons (f := g) q r => by
    by_cases e : g = f
    · subst e
      simp only [putF, dput, if_true]
      exact .cons h r
    · have e2 : ¬ Str.ofString g = Str.ofString f := fun z => e (ofString_inj z)
      simp only [putF, dput, if_neg e, if_neg e2]
      exact .cons q (RepF.put h r)

/-! ### the state: frozen heap F, cells C, heap H; slots -/
def RepC (K : PySem.W.Frag) (F H : Hp) (a : Addr) : Cell → Prop
  | .lst ds => ∃ xs, H a = some (.lst xs) ∧ RepL K F xs ds
  | .ins C fs => ∃ dx gs, H a = some (.ins C dx gs) ∧ RepF K F gs fs
  | .dK kvs => ∃ vs, H a = some (.dK vs) ∧ RepK K F vs kvs
  | .dT kvs => ∃ vs, H a = some (.dT vs) ∧ RepT K F vs kvs
structure Hs (K : PySem.W.Frag) (F : Hp) (C : Cells) (H : Hp) : Prop where
  ex : Ex F H
  cell : ∀ a c, C a = some c → F a = none ∧ RepC K F H a c
def EnvR (K : PySem.W.Frag) (F : Hp) (σ : L2.St) (ρ : DEnv) : Prop := σ.length = ρ.length ∧ ∀ (i : Nat) (d : D), ρ[i]? = some (some d) → ∃ v, σ[i]? = some (some v) ∧ Rep K F v d
section
variable {K : PySem.W.Frag} {F F' H H' : Hp} {C C' : Cells} {σ : L2.St} {ρ : DEnv} {a : Addr} {c : Cell}
theorem RepC.ex (e : Ex F F') {H : Hp} : ∀ {c : Cell}, RepC K F H a c → RepC K F' H a c
  | .lst _, ⟨xs, h, r⟩ => ⟨xs, h, r.mono e⟩
  | .ins _ _, ⟨dx, gs, h, r⟩ => ⟨dx, gs, h, r.mono e⟩
  | .dK _, ⟨vs, h, r⟩ => ⟨vs, h, r.mono e⟩
  | .dT _, ⟨vs, h, r⟩ => ⟨vs, h, r.mono e⟩
theorem RepC.at (h : H' a = H a) : ∀ {c : Cell}, RepC K F H a c → RepC K F H' a c
  | .lst _, ⟨xs, q, r⟩ => ⟨xs, h.trans q, r⟩
  | .ins _ _, ⟨dx, gs, q, r⟩ => ⟨dx, gs, h.trans q, r⟩
  | .dK _, ⟨vs, q, r⟩ => ⟨vs, h.trans q, r⟩
  | .dT _, ⟨vs, q, r⟩ => ⟨vs, h.trans q, r⟩
theorem RepC.some : ∀ {c : Cell}, RepC K F H a c → ∃ o, H a = Option.some o
  | .lst _, ⟨_, h, _⟩ => ⟨_, h⟩
  | .ins _ _, ⟨_, _, h, _⟩ => ⟨_, h⟩
  | .dK _, ⟨_, h, _⟩ => ⟨_, h⟩
  | .dT _, ⟨_, h, _⟩ => ⟨_, h⟩
theorem Hs.sub (h : Hs K F C H) (s : Sub C' C) : Hs K F C' H := ⟨h.ex, fun a c e => h.cell a c (s a c e)⟩
theorem Hs.fresh (h : Hs K F C H) {p : Addr} (hp : H p = none) : F p = none ∧ C p = none := by
  refine ⟨h.ex.free hp, ?_⟩
  cases e : C p with
  | none => rfl
  | some c =>
    obtain ⟨_, r⟩ := h.cell p c e
    obtain ⟨o, q⟩ := r.some
    rw [hp] at q; cases q
/-- a new frozen object -/
theorem Hs.lay (h : Hs K F C H) {p : Addr} {o : HO} (hp : H p = none) : Ex F (upd F p o) ∧ Hs K (upd F p o) C (upd H p o) := by
  obtain ⟨f0, c0⟩ := h.fresh hp
  refine ⟨Ex.new f0, fun a u e => ?_, fun a c e => ?_⟩
  · by_cases q : a = p
    · subst q; rw [upd_same] at e ⊢; exact e
    · rw [upd_ne q] at e ⊢; exact h.ex a u e
  · have q : a ≠ p := cell_ne e c0
    obtain ⟨f1, r⟩ := h.cell a c e
    exact ⟨by rw [upd_ne q]; exact f1, (r.ex (Ex.new f0)).at (upd_ne q)⟩
/-- a new cell, or a cell that changes -/
theorem Hs.put (h : Hs K F C H) {p : Addr} {o : HO} {c : Cell} (hp : F p = none) (hc : RepC K F (upd H p o) p c) : Hs K F (cput C p c) (upd H p o) := by
  refine ⟨h.ex.mut hp, fun a d e => ?_⟩
  by_cases q : a = p
  · subst q
    rw [cput_same] at e; cases e
    exact ⟨hp, hc⟩
  · rw [cput_ne q] at e
    obtain ⟨f1, r⟩ := h.cell a d e
    exact ⟨f1, r.at (upd_ne q)⟩
/-- a cell that is not to change any more -/
theorem Hs.freeze (h : Hs K F C H) {p : Addr} {c : Cell} (e : C p = some c) (hs : Sub C' C) (hn : C' p = none) : ∃ o, H p = some o ∧ Ex F (upd F p o) ∧ Hs K (upd F p o) C' H ∧ upd F p o p = some o ∧ RepC K F H p c := by
  obtain ⟨f0, r⟩ := h.cell p c e
  obtain ⟨o, ho⟩ := r.some
  refine ⟨o, ho, Ex.new f0, ⟨fun a u q => ?_, fun a d q => ?_⟩, upd_same, r⟩
  · by_cases z : a = p
    · subst z; rw [upd_same] at q; cases q; exact ho
    · rw [upd_ne z] at q; exact h.ex a u q
  · have z : a ≠ p := cell_ne q hn
    obtain ⟨f1, r1⟩ := h.cell a d (hs a d q)
    exact ⟨by rw [upd_ne z]; exact f1, r1.ex (Ex.new f0)⟩
theorem EnvR.mono (e : Ex F F') (h : EnvR K F σ ρ) : EnvR K F' σ ρ := ⟨h.1, fun i d q => by
  obtain ⟨v, h1, h2⟩ := h.2 i d q
  exact ⟨v, h1, h2.mono e⟩⟩
theorem EnvR.set {v : V} {d : D} {i : Nat} (h : EnvR K F σ ρ) (r : Rep K F v d) : EnvR K F (σ.set i (some v)) (ρ.set i (some d)) := by
  refine ⟨by rw [List.length_set, List.length_set]; exact h.1, fun j u q => ?_⟩
  by_cases e : i = j
  · subst e
    have hl : i < ρ.length := by
      rcases Nat.lt_or_ge i ρ.length with z | z
      · exact z
      · rw [List.getElem?_eq_none (by rw [List.length_set]; exact z)] at q; cases q
    rw [List.getElem?_set_self hl] at q
    cases q
    exact ⟨v, by rw [List.getElem?_set_self (by rw [h.1]; exact hl)], r⟩
  · rw [List.getElem?_set_ne e] at q
    obtain ⟨w, h1, h2⟩ := h.2 j u q
    exact ⟨w, by rw [List.getElem?_set_ne e]; exact h1, h2⟩
/-- slots may be forgotten -/
def Fgt (ρ ρ' : DEnv) : Prop := ρ.length = ρ'.length ∧ ∀ (i : Nat) (d : D), ρ'[i]? = some (some d) → ρ[i]? = some (some d)
theorem EnvR.fgt {ρ' : DEnv} (h : EnvR K F σ ρ) (f : Fgt ρ ρ') : EnvR K F σ ρ' := ⟨h.1.trans f.1, fun i d q => h.2 i d (f.2 i d q)⟩
end
end DD

set_option Elab.async false
set_option linter.all false
set_option maxRecDepth 100000
set_option maxHeartbeats 4000000
/-! Readings over data: expressions, tests, arguments. -/
namespace DD
open PySem L2 PyProof.Rows

abbrev DK := D → Cells → Prop
abbrev DX := Value → List (String × D) → DEnv → Cells → Prop
abbrev DE := DEnv → Cells → DK → DX → Prop
abbrev DA := DEnv → Cells → (List D → Cells → Prop) → DX → Prop
abbrev DT := DEnv → Cells → (Bool → Cells → Prop) → DX → Prop
structure DEnds where
  nx : DEnv → Cells → Prop
  rt : DK
  bk : DEnv → Cells → Prop
  ct : DEnv → Cells → Prop
  ex : DX
abbrev DS := DEnds → DEnv → Cells → Prop
abbrev DR2 := D → D → Cells → DK → Prop
abbrev DR1 := D → Cells → DK → Prop
abbrev DRA := List D → Cells → DK → Prop

/-- an exception's own fields -/
def XRep (K : PySem.W.Frag) (F H : Hp) (d : Option Addr) (fs : List (String × D)) : Prop := fs = [] ∨ ∃ dd gs, d = some dd ∧ H dd = some (.xd gs) ∧ RepF K F gs fs
def ExR (K : PySem.W.Frag) (F : Hp) (W : WX) (PX : DX) : Prop :=
  ∀ cls d fs σ F' H ρ C, Ex F F' → Hs K F' C H → EnvR K F' σ ρ → XRep K F' H d fs → PX cls fs ρ C → W cls d σ H
theorem ExR.mono {K : PySem.W.Frag} {F F' : Hp} {W : WX} {PX : DX} (e : Ex F F') (h : ExR K F W PX) : ExR K F' W PX :=
  fun cls d fs σ F1 H ρ C e1 => h cls d fs σ F1 H ρ C (e.trans e1)
/-- what is wanted of a value, of arguments, of a truth -/
def Kont (K : PySem.W.Frag) (F : Hp) (P : DK) (Q : VK) : Prop := ∀ v F' H' d C', Ex F F' → Hs K F' C' H' → Rep K F' v d → P d C' → Q v H'
def KontA (K : PySem.W.Frag) (F : Hp) (P : List D → Cells → Prop) (Q : List V → Hp → Prop) : Prop := ∀ vs F' H' ds C', Ex F F' → Hs K F' C' H' → RepL K F' vs ds → P ds C' → Q vs H'
def KontT (K : PySem.W.Frag) (F : Hp) (P : Bool → Cells → Prop) (Q : Bool → Hp → Prop) : Prop := ∀ b F' H' C', Ex F F' → Hs K F' C' H' → P b C' → Q b H'
theorem Kont.mono {K : PySem.W.Frag} {F F' : Hp} {P : DK} {Q : VK} (e : Ex F F') (h : Kont K F P Q) : Kont K F' P Q := fun v F1 H1 d C1 e1 => h v F1 H1 d C1 (e.trans e1)
theorem KontA.mono {K : PySem.W.Frag} {F F' : Hp} {P : List D → Cells → Prop} {Q : List V → Hp → Prop} (e : Ex F F') (h : KontA K F P Q) : KontA K F' P Q := fun v F1 H1 d C1 e1 => h v F1 H1 d C1 (e.trans e1)
theorem KontT.mono {K : PySem.W.Frag} {F F' : Hp} {P : Bool → Cells → Prop} {Q : Bool → Hp → Prop} (e : Ex F F') (h : KontT K F P Q) : KontT K F' P Q := fun v F1 H1 C1 e1 => h v F1 H1 C1 (e.trans e1)

def tE (K : PySem.W.Frag) (W : WX) (w : DE) : TE := fun σ H Q => ∃ F C ρ P PX, Hs K F C H ∧ EnvR K F σ ρ ∧ ExR K F W PX ∧ w ρ C P PX ∧ Kont K F P Q
def tA (K : PySem.W.Frag) (W : WX) (w : DA) : TA := fun σ H Q => ∃ F C ρ P PX, Hs K F C H ∧ EnvR K F σ ρ ∧ ExR K F W PX ∧ w ρ C P PX ∧ KontA K F P Q
def tT (K : PySem.W.Frag) (W : WX) (w : DT) : TT := fun σ H Q => ∃ F C ρ P PX, Hs K F C H ∧ EnvR K F σ ρ ∧ ExR K F W PX ∧ w ρ C P PX ∧ KontT K F P Q

/-! ### weaker readings -/
section
variable {X : Cx}
theorem PE.imp {e : Expr} {t t' : TE} (h : PE X e t) (i : ∀ σ H Q, t' σ H Q → t σ H Q) : PE X e t' := ⟨fun pins s σ H Q I w => h.run pins s σ H Q I (i σ H Q w)⟩
theorem PT.imp {e : Expr} {t t' : TT} (h : PT X e t) (i : ∀ σ H Q, t' σ H Q → t σ H Q) : PT X e t' := ⟨fun pins s σ H Q I w => h.run pins s σ H Q I (i σ H Q w)⟩
theorem PW.imp {e : Expr} {t t' : TT} (h : PW X e t) (i : ∀ σ H Q, t' σ H Q → t σ H Q) : PW X e t' := ⟨fun wh pins s σ H Q I w => h.run wh pins s σ H Q I (i σ H Q w)⟩
theorem PA.imp {e : List Expr} {t t' : TA} (h : PA X e t) (i : ∀ σ H Q, t' σ H Q → t σ H Q) : PA X e t' := ⟨fun pos pins s σ H Q I w => h.run pos pins s σ H Q I (i σ H Q w)⟩
theorem PS.imp {e : Stmt} {t t' : TS} (h : PS X e t) (i : ∀ D σ H, t' D σ H → t D σ H) : PS X e t' := ⟨fun pins s σ H D I w => h.run pins s σ H D I (i D σ H w)⟩
theorem PSs.imp {e : List Stmt} {t t' : TS} (h : PSs X e t) (i : ∀ D σ H, t' D σ H → t D σ H) : PSs X e t' := ⟨fun pins s σ H D I w => h.run pins s σ H D I (i D σ H w)⟩
end

/-! ### names, constants, arguments -/
def wVar (i : Nat) (ρ : DEnv) (C : Cells) (P : DK) (_ : DX) : Prop := match (ρ[i]? : Option (Option D)) with | some (some d) => P d C | _ => False
def wC (d : D) (_ : DEnv) (C : Cells) (P : DK) (_ : DX) : Prop := P d C
def wNil (_ : DEnv) (C : Cells) (P : List D → Cells → Prop) (_ : DX) : Prop := P [] C
def wCons (a : DE) (r : DA) (ρ : DEnv) (C : Cells) (P : List D → Cells → Prop) (PX : DX) : Prop := a ρ C (fun d C1 => r ρ C1 (fun ds C2 => P (d :: ds) C2) PX) PX
section
variable {X : Cx} {W : WX} {K : PySem.W.Frag}
theorem i_var {i : Nat} {σ : L2.St} {H : Hp} {Q : VK} (h : tE K W (wVar i) σ H Q) : tVar i σ H Q := by
  obtain ⟨F, C, ρ, P, PX, hs, en, xr, w, k⟩ := h
  unfold wVar at w
  split at w
  · rename_i d q
    obtain ⟨v, h1, r⟩ := en.2 i d q
    exact ⟨v, h1, k v F H d C (Ex.refl F) hs r w⟩
  · exact w.elim
theorem d_var (i : Nat) {x : Str} {pos : Pos} (hN : X.N[i]? = some x := by rfl) (hv : Vis X.env.scope x := by first | exact Or.inl rfl | exact Or.inr (Or.inl rfl) | exact Or.inr (Or.inr rfl)) (hd : (x == ("__debug__" : Str)) = false := by decide)
    (hcd : (x == ("__classdict__" : Str)) = false := by decide) : PE X (.Name x pos) (tE X.K W (wVar i)) := PE.imp (pe_var hN hv hd hcd) fun _ _ _ => i_var
theorem i_c {v : V} {d : D} (r : ∀ F, Rep K F v d) {σ : L2.St} {H : Hp} {Q : VK} (h : tE K W (wC d) σ H Q) : tC v σ H Q := by
  obtain ⟨F, C, ρ, P, PX, hs, en, xr, w, k⟩ := h
  exact k v F H d C (Ex.refl F) hs (r F) w
theorem d_int {i j pos} : PE X (.Constant (.int i) j pos) (tE X.K W (wC (.int i))) := PE.imp pe_int fun _ _ _ => i_c fun _ => .int i
theorem d_bl {b j pos} : PE X (.Constant (.bool b) j pos) (tE X.K W (wC (.bl b))) := PE.imp pe_bl fun _ _ _ => i_c fun _ => .bl b
theorem d_non {j pos} : PE X (.Constant .none j pos) (tE X.K W (wC .non)) := PE.imp pe_non fun _ _ _ => i_c fun _ => .non
theorem d_str {x j pos} : PE X (.Constant (.str x) j pos) (tE X.K W (wC (.str x))) := PE.imp pe_str fun _ _ _ => i_c fun _ => .str x
/-- a module's name -/
theorem d_glob {x : Str} {v : V} {d : D} {u : Value} {pos : Pos} (hg : Gl X x) (hm : X.mg x = some u) (r : RelV v u) (hr : ∀ F, Rep X.K F v d) (hd : (x == ("__debug__" : Str)) = false := by decide) : PE X (.Name x pos) (tE X.K W (wC d)) :=
  PE.imp (pe_glob hg hm r hd) fun _ _ _ => i_c hr
theorem d_nil : PA X [] (tA X.K W wNil) := PA.imp pa_nil fun σ H Q ⟨F, C, ρ, P, PX, hs, en, xr, w, k⟩ => k [] F H [] C (Ex.refl F) hs .nil w
theorem i_cons {wa : DE} {wr : DA} {σ : L2.St} {H : Hp} {Q : List V → Hp → Prop} (h : tA K W (wCons wa wr) σ H Q) : tCons (tE K W wa) (tA K W wr) σ H Q := by
  obtain ⟨F, C, ρ, P, PX, hs, en, xr, w, k⟩ := h
  exact ⟨F, C, ρ, _, PX, hs, en, xr, w, fun v F1 H1 d C1 e1 h1 rd q => ⟨F1, C1, ρ, _, PX, h1, en.mono e1, xr.mono e1, q, fun vs F2 H2 ds C2 e2 h2 rl q2 => k (v :: vs) F2 H2 (d :: ds) C2 (e1.trans e2) h2 (.cons (rd.mono e2) rl) q2⟩⟩
theorem d_cons {e : Expr} {es : List Expr} {wa : DE} {wr : DA} (ha : PE X e (tE X.K W wa)) (hr : PA X es (tA X.K W wr)) (hs : starEach (e :: es) X.env = (false, eval e X.env) :: starEach es X.env := by rfl) : PA X (e :: es) (tA X.K W (wCons wa wr)) :=
  PA.imp (pa_cons ha hr hs) fun _ _ _ => i_cons
end

/-! ### operators -/
/-- an operation on two values, its reading on data -/
def SimR (K : PySem.W.Frag) (r : R2) (rd : DR2) : Prop := ∀ F C H x y dx dy P Q, Hs K F C H → Rep K F x dx → Rep K F y dy → rd dx dy C P → Kont K F P Q → r x y H Q
def Sim1 (K : PySem.W.Frag) (r : V → Hp → VK → Prop) (rd : DR1) : Prop := ∀ F C H x dx P Q, Hs K F C H → Rep K F x dx → rd dx C P → Kont K F P Q → r x H Q
def SimA (K : PySem.W.Frag) (r : List V → Hp → VK → Prop) (rd : DRA) : Prop := ∀ F C H xs ds P Q, Hs K F C H → RepL K F xs ds → rd ds C P → Kont K F P Q → r xs H Q
def wOp (r : DR2) (a b : DE) (ρ : DEnv) (C : Cells) (P : DK) (PX : DX) : Prop := a ρ C (fun x C1 => b ρ C1 (fun y C2 => r x y C2 P) PX) PX
def wUn (r : DR1) (a : DE) (ρ : DEnv) (C : Cells) (P : DK) (PX : DX) : Prop := a ρ C (fun x C1 => r x C1 P) PX
def wCB (r : DRA) (a : DA) (ρ : DEnv) (C : Cells) (P : DK) (PX : DX) : Prop := a ρ C (fun xs C1 => r xs C1 P) PX
section
variable {X : Cx} {W : WX} {K : PySem.W.Frag} {a b : Expr} {wa wb : DE} {pos : Pos}
theorem i_op {r : R2} {rd : DR2} (hr : SimR K r rd) {σ : L2.St} {H : Hp} {Q : VK} (h : tE K W (wOp rd wa wb) σ H Q) : tOp r (tE K W wa) (tE K W wb) σ H Q := by
  obtain ⟨F, C, ρ, P, PX, hs, en, xr, w, k⟩ := h
  exact ⟨F, C, ρ, _, PX, hs, en, xr, w, fun v F1 H1 d C1 e1 h1 rd1 q => ⟨F1, C1, ρ, _, PX, h1, en.mono e1, xr.mono e1, q, fun u F2 H2 du C2 e2 h2 ru q2 => hr F2 C2 H2 v u d du P Q h2 (rd1.mono e2) ru q2 (k.mono (e1.trans e2))⟩⟩
theorem i_un {r : V → Hp → VK → Prop} {rd : DR1} (hr : Sim1 K r rd) {σ : L2.St} {H : Hp} {Q : VK} (h : tE K W (wUn rd wa) σ H Q) : tUn r (tE K W wa) σ H Q := by
  obtain ⟨F, C, ρ, P, PX, hs, en, xr, w, k⟩ := h
  exact ⟨F, C, ρ, _, PX, hs, en, xr, w, fun v F1 H1 d C1 e1 h1 rd1 q => hr F1 C1 H1 v d P Q h1 rd1 q (k.mono e1)⟩
theorem i_cb {r : List V → Hp → VK → Prop} {rd : DRA} {wr : DA} (hr : SimA K r rd) {σ : L2.St} {H : Hp} {Q : VK} (h : tE K W (wCB rd wr) σ H Q) : tCB r (tA K W wr) σ H Q := by
  obtain ⟨F, C, ρ, P, PX, hs, en, xr, w, k⟩ := h
  exact ⟨F, C, ρ, _, PX, hs, en, xr, w, fun v F1 H1 d C1 e1 h1 rd1 q => hr F1 C1 H1 v d P Q h1 rd1 q (k.mono e1)⟩
/-- e1 op e2 -/
theorem d_op {op : Operator} {r : R2} {rd : DR2} (ho : OpR X (binaryOp op) r) (hr : SimR X.K r rd) (ha : PE X a (tE X.K W wa)) (hb : PE X b (tE X.K W wb)) : PE X (.BinOp a op b pos) (tE X.K W (wOp rd wa wb)) :=
  PE.imp (pe_op ho ha hb) fun _ _ _ => i_op hr
theorem d_un {op : UnaryOp} {r : V → Hp → VK → Prop} {rd : DR1} (ho : UnR X (unaryOp op) r) (hr : Sim1 X.K r rd) (ha : PE X a (tE X.K W wa)) : PE X (.UnaryOp op a pos) (tE X.K W (wUn rd wa)) :=
  PE.imp (pe_un ho ha) fun _ _ _ => i_un hr
/-- e1 < e2 and the like, as a value -/
theorem d_cmp {op : CmpOp} {r : R2} {rd : DR2} (ho : OpR X (compareOp op) r) (hr : SimR X.K r rd) (ha : PE X a (tE X.K W wa)) (hb : PE X b (tE X.K W wb)) (hm : behindInMarks op b = false := by first | exact nobehind _ (by decide) (by decide) | rfl) :
    PE X (.Compare a [op] [b] pos) (tE X.K W (wOp rd wa wb)) := PE.imp (pe_cmpR ho ha hb hm) fun _ _ _ => i_op hr
/-- a subscript -/
theorem d_ix {r : R2} {rd : DR2} (ho : IxR X r) (hr : SimR X.K r rd) (ha : PE X a (tE X.K W wa)) (hb : PE X b (tE X.K W wb)) (hs : PlainIx b := by exact fun _ _ => rfl) : PE X (.Subscript a b pos) (tE X.K W (wOp rd wa wb)) :=
  PE.imp (pe_ix ho ha hb hs) fun _ _ _ => i_op hr
/-- a built-in function by its name -/
theorem d_callB {r : List V → Hp → VK → Prop} {rd : DRA} {id : String} {x : Str} {p : Pos} {e : Expr} {es : List Expr} {wr : DA} (hc : CallR X (.builtin id) r) (hr : SimA X.K r rd) (hg : Gl X x) (hm : X.mg x = none) (hv : bootBuiltins x = some (.builtin id)) (ha : PA X (e :: es) (tA X.K W wr)) (hn : x ≠ "__name__" := by decide) (hdb : (x == ("__debug__" : Str)) = false := by decide)
    (he : starEach (e :: es) X.env = (false, eval e X.env) :: starEach es X.env := by rfl) (hpl : (backTo pos (starEach es X.env)).any (·.1) = false := by rfl) : PE X (.Call (.Name x p) (e :: es) [] pos) (tE X.K W (wCB rd wr)) :=
  PE.imp (pe_callB hc hg hm hv ha hn hdb he hpl) fun _ _ _ => i_cb hr
theorem d_callTy {r : List V → Hp → VK → Prop} {rd : DRA} {T : String} {x : Str} {p : Pos} {e : Expr} {es : List Expr} {wr : DA} (hc : CallR X (.type T) r) (hr : SimA X.K r rd) (hg : Gl X x) (hm : X.mg x = none) (hv : bootBuiltins x = some (.type T)) (ha : PA X (e :: es) (tA X.K W wr)) (hn : x ≠ "__name__" := by decide) (hdb : (x == ("__debug__" : Str)) = false := by decide)
    (he : starEach (e :: es) X.env = (false, eval e X.env) :: starEach es X.env := by rfl) (hpl : (backTo pos (starEach es X.env)).any (·.1) = false := by rfl) : PE X (.Call (.Name x p) (e :: es) [] pos) (tE X.K W (wCB rd wr)) :=
  PE.imp (pe_callTy hc hg hm hv ha hn hdb he hpl) fun _ _ _ => i_cb hr
end

/-! ### whole numbers -/
def dI (c : Int → Int → Prop) (g : Int → Int → D) (x : D) (y : D) (C : Cells) (P : DK) : Prop := match x, y with | .int i, .int j => c i j ∧ P (g i j) C | _, _ => False
def dI0 (g : Int → Int → D) (x : D) (y : D) (C : Cells) (P : DK) : Prop := match x, y with | .int i, .int j => P (g i j) C | _, _ => False
def dU (g : Int → D) (x : D) (C : Cells) (P : DK) : Prop := match x with | .int i => P (g i) C | _ => False
section
variable {K : PySem.W.Frag}
theorem simI {c : Int → Int → Prop} {g : Int → Int → V} {gd : Int → Int → D} (h : ∀ i j F, Rep K F (g i j) (gd i j)) : SimR K (rI c g) (dI c gd) := fun F C H x y dx dy P Q hs rx ry w k => by
  cases rx <;> cases ry <;> first | exact w.elim | exact ⟨_, _, rfl, rfl, w.1, k _ F H _ C (Ex.refl F) hs (h _ _ F) w.2⟩
theorem simI0 {g : Int → Int → V} {gd : Int → Int → D} (h : ∀ i j F, Rep K F (g i j) (gd i j)) : SimR K (rI0 g) (dI0 gd) := fun F C H x y dx dy P Q hs rx ry w k => by
  cases rx <;> cases ry <;> first | exact w.elim | exact ⟨_, _, rfl, rfl, k _ F H _ C (Ex.refl F) hs (h _ _ F) w⟩
theorem simU {g : Int → V} {gd : Int → D} (h : ∀ i F, Rep K F (g i) (gd i)) : Sim1 K (rU g) (dU gd) := fun F C H x dx P Q hs rx w k => by
  cases rx <;> first | exact w.elim | exact ⟨_, rfl, k _ F H _ C (Ex.refl F) hs (h _ F) w⟩
abbrev dAdd : DR2 := dI0 fun i j => .int (i + j)
abbrev dSub : DR2 := dI0 fun i j => .int (i - j)
abbrev dMul : DR2 := dI CMul fun i j => .int (i * j)
abbrev dDiv : DR2 := dI CDiv fun i j => .int (i / j)
abbrev dMod : DR2 := dI (fun _ j => 0 < j) fun i j => .int (i % j)
abbrev dLt : DR2 := dI0 fun i j => .bl (decide (i < j))
abbrev dLe : DR2 := dI0 fun i j => .bl (decide (i ≤ j))
abbrev dGt : DR2 := dI0 fun i j => .bl (decide (j < i))
abbrev dGe : DR2 := dI0 fun i j => .bl (decide (j ≤ i))
theorem s_add : SimR K (rI0 fun i j => .int (i + j)) dAdd := simI0 fun _ _ _ => .int _
theorem s_sub : SimR K (rI0 fun i j => .int (i - j)) dSub := simI0 fun _ _ _ => .int _
theorem s_mul : SimR K (rI CMul fun i j => .int (i * j)) dMul := simI fun _ _ _ => .int _
theorem s_div : SimR K (rI CDiv fun i j => .int (i / j)) dDiv := simI fun _ _ _ => .int _
theorem s_mod : SimR K (rI (fun _ j => 0 < j) fun i j => .int (i % j)) dMod := simI fun _ _ _ => .int _
theorem s_lt : SimR K (rI0 fun i j => .bl (decide (i < j))) dLt := simI0 fun _ _ _ => .bl _
theorem s_le : SimR K (rI0 fun i j => .bl (decide (i ≤ j))) dLe := simI0 fun _ _ _ => .bl _
theorem s_gt : SimR K (rI0 fun i j => .bl (decide (j < i))) dGt := simI0 fun _ _ _ => .bl _
theorem s_ge : SimR K (rI0 fun i j => .bl (decide (j ≤ i))) dGe := simI0 fun _ _ _ => .bl _
abbrev dNeg : DR1 := dU fun i => .int (-i)
theorem s_neg : Sim1 K (rU fun i => .int (-i)) dNeg := simU fun _ _ => .int _
end

/-! ### == of scalars, is None -/
def dEqv (neg : Bool) (x : D) (y : D) (C : Cells) (P : DK) : Prop := match x, y with
  | .int i, .int j => P (.bl (neg ^^ decide (i = j))) C
  | .str i, .str j => P (.bl (neg ^^ decide (i = j))) C
  | .bl i, .bl j => P (.bl (neg ^^ decide (i = j))) C
  | .non, .non => P (.bl (neg ^^ true)) C
  | .non, .int _ => P (.bl (neg ^^ false)) C
  | .int _, .non => P (.bl (neg ^^ false)) C
  | .non, .str _ => P (.bl (neg ^^ false)) C
  | .str _, .non => P (.bl (neg ^^ false)) C
  | .non, .bl _ => P (.bl (neg ^^ false)) C
  | .bl _, .non => P (.bl (neg ^^ false)) C
  | .int _, .str _ => P (.bl (neg ^^ false)) C
  | .str _, .int _ => P (.bl (neg ^^ false)) C
  | _, _ => False
abbrev dEq := dEqv false
abbrev dNe := dEqv true
def dIsN (neg : Bool) (x : D) (y : D) (C : Cells) (P : DK) : Prop := match y with
  | .non => match x with
    | .non => P (.bl (neg ^^ true)) C
    | _ => P (.bl (neg ^^ false)) C
  | _ => False
section
variable {K : PySem.W.Frag}
theorem s_eq : SimR K rEq dEq := fun F C H x y dx dy P Q hs rx ry w k => by
  cases rx <;> cases ry <;> first
    | exact w.elim
    | (refine ⟨rfl, ?_⟩
       have z := k _ F H _ C (Ex.refl F) hs (.bl _) w
       simp only [reduceCtorEq, V.int.injEq, V.str.injEq, V.bl.injEq, decide_true, decide_false, Bool.false_xor] at z ⊢
       exact z)
theorem s_ne : SimR K rNe dNe := fun F C H x y dx dy P Q hs rx ry w k => by
  cases rx <;> cases ry <;> first
    | exact w.elim
    | (refine ⟨rfl, ?_⟩
       have z := k _ F H _ C (Ex.refl F) hs (.bl _) w
       simp only [reduceCtorEq, V.int.injEq, V.str.injEq, V.bl.injEq, decide_true, decide_false, Bool.true_xor] at z ⊢
       exact z)
theorem s_isN : SimR K (fun x y H Q => y = .non ∧ Q (.bl (decide (x = .non))) H) (dIsN false) := fun F C H x y dx dy P Q hs rx ry w k => by
  cases ry <;> first
    | exact w.elim
    | (refine ⟨rfl, ?_⟩
       cases rx <;>
       (have z := k _ F H _ C (Ex.refl F) hs (.bl _) w
        simp only [reduceCtorEq, decide_true, decide_false, Bool.false_xor] at z ⊢
        exact z))
theorem s_notN : SimR K (fun x y H Q => y = .non ∧ Q (.bl (!decide (x = .non))) H) (dIsN true) := fun F C H x y dx dy P Q hs rx ry w k => by
  cases ry <;> first
    | exact w.elim
    | (refine ⟨rfl, ?_⟩
       cases rx <;>
       (have z := k _ F H _ C (Ex.refl F) hs (.bl _) w
        simp only [reduceCtorEq, decide_true, decide_false, Bool.true_xor] at z ⊢
        exact z))
end

/-! ### tests -/
def wTest (e : DE) (ρ : DEnv) (C : Cells) (P : Bool → Cells → Prop) (PX : DX) : Prop := e ρ C (fun x C1 => match x with | .bl k => P k C1 | _ => False) PX
def wAnd (t u : DT) (ρ : DEnv) (C : Cells) (P : Bool → Cells → Prop) (PX : DX) : Prop := t ρ C (fun b C1 => if b = true then u ρ C1 P PX else P false C1) PX
def wOr (t u : DT) (ρ : DEnv) (C : Cells) (P : Bool → Cells → Prop) (PX : DX) : Prop := t ρ C (fun b C1 => if b = true then P true C1 else u ρ C1 P PX) PX
def wNot (t : DT) (ρ : DEnv) (C : Cells) (P : Bool → Cells → Prop) (PX : DX) : Prop := t ρ C (fun b C1 => P (!b) C1) PX
def wIf (t : DT) (a b : DE) (ρ : DEnv) (C : Cells) (P : DK) (PX : DX) : Prop := t ρ C (fun k C1 => if k = true then a ρ C1 P PX else b ρ C1 P PX) PX
section
variable {X : Cx} {W : WX} {K : PySem.W.Frag} {a b : Expr} {wa wb : DE} {pos : Pos} {t u : DT} {rest : List Expr}
theorem i_test {σ : L2.St} {H : Hp} {Q : Bool → Hp → Prop} (h : tT K W (wTest wa) σ H Q) : tE K W wa σ H fun x H' => ∃ k, x = .bl k ∧ Q k H' := by
  obtain ⟨F, C, ρ, P, PX, hs, en, xr, w, k⟩ := h
  refine ⟨F, C, ρ, _, PX, hs, en, xr, w, fun v F1 H1 d C1 e1 h1 r q => ?_⟩
  cases r <;> first | exact q.elim | exact ⟨_, rfl, k _ F1 H1 C1 e1 h1 q⟩
/-- a comparison as a test -/
theorem d_tcmp {op : CmpOp} {r : R2} {rd : DR2} (ho : OpR X (compareOp op) r) (hr : SimR X.K r rd) (ha : PE X a (tE X.K W wa)) (hb : PE X b (tE X.K W wb)) (hm : behindInMarks op b = false := by first | exact nobehind _ (by decide) (by decide) | rfl) :
    PT X (.Compare a [op] [b] pos) (tT X.K W (wTest (wOp rd wa wb))) := PT.imp (pt_cmpR ho ha hb hm) fun σ H Q h => by
  have z := i_test h
  obtain ⟨F, C, ρ, P, PX, hs, en, xr, w, k⟩ := z
  exact i_op hr ⟨F, C, ρ, P, PX, hs, en, xr, w, k⟩
/-- an expression that gives True or False, as a test -/
theorem d_tval {e : Expr} (h : PE X e (tE X.K W wa)) (he : ∀ whole, isTrue e X.env whole = (do let v ← whole; standAt e.pos; holding [v] (truthy v)) := by intro _; rfl) : PT X e (tT X.K W (wTest wa)) :=
  PT.imp (pt_val h he) fun _ _ _ => i_test
theorem i_and {σ : L2.St} {H : Hp} {Q : Bool → Hp → Prop} (h : tT K W (wAnd t u) σ H Q) : tAnd (tT K W t) (tT K W u) σ H Q := by
  obtain ⟨F, C, ρ, P, PX, hs, en, xr, w, k⟩ := h
  refine ⟨F, C, ρ, _, PX, hs, en, xr, w, fun b F1 H1 C1 e1 h1 q => ?_⟩
  cases b with
  | true =>
    rw [if_pos rfl] at q
    rw [if_pos rfl]
    exact ⟨F1, C1, ρ, P, PX, h1, en.mono e1, xr.mono e1, q, k.mono e1⟩
  | false =>
    rw [if_neg Bool.false_ne_true] at q
    rw [if_neg Bool.false_ne_true]
    exact k _ F1 H1 C1 e1 h1 q
theorem i_or {σ : L2.St} {H : Hp} {Q : Bool → Hp → Prop} (h : tT K W (wOr t u) σ H Q) : tOr (tT K W t) (tT K W u) σ H Q := by
  obtain ⟨F, C, ρ, P, PX, hs, en, xr, w, k⟩ := h
  refine ⟨F, C, ρ, _, PX, hs, en, xr, w, fun b F1 H1 C1 e1 h1 q => ?_⟩
  cases b with
  | false =>
    rw [if_neg Bool.false_ne_true] at q
    rw [if_neg Bool.false_ne_true]
    exact ⟨F1, C1, ρ, P, PX, h1, en.mono e1, xr.mono e1, q, k.mono e1⟩
  | true =>
    rw [if_pos rfl] at q
    rw [if_pos rfl]
    exact k _ F1 H1 C1 e1 h1 q
theorem d_and1 (ha : PT X a (tT X.K W t)) : PW X (.BoolOp .And [a] pos) (tT X.K W t) := pw_and1 ha
theorem d_or1 (ha : PT X a (tT X.K W t)) : PW X (.BoolOp .Or [a] pos) (tT X.K W t) := pw_or1 ha
theorem d_and (ha : PT X a (tT X.K W t)) (hb : PW X (.BoolOp .And (b :: rest) pos) (tT X.K W u)) : PW X (.BoolOp .And (a :: b :: rest) pos) (tT X.K W (wAnd t u)) := PW.imp (pw_and ha hb) fun _ _ _ => i_and
theorem d_or (ha : PT X a (tT X.K W t)) (hb : PW X (.BoolOp .Or (b :: rest) pos) (tT X.K W u)) : PW X (.BoolOp .Or (a :: b :: rest) pos) (tT X.K W (wOr t u)) := PW.imp (pw_or ha hb) fun _ _ _ => i_or
theorem d_not (ha : PT X a (tT X.K W t)) : PT X (.UnaryOp .Not a pos) (tT X.K W (wNot t)) := PT.imp (pt_not ha) fun σ H Q ⟨F, C, ρ, P, PX, hs, en, xr, w, k⟩ =>
  ⟨F, C, ρ, _, PX, hs, en, xr, w, fun b F1 H1 C1 e1 h1 q => k _ F1 H1 C1 e1 h1 q⟩
theorem d_ifE {c : Expr} (hc : PT X c (tT X.K W t)) (ha : PE X a (tE X.K W wa)) (hb : PE X b (tE X.K W wb)) : PE X (.IfExp c a b pos) (tE X.K W (wIf t wa wb)) := PE.imp (pe_ifExp hc ha hb) fun σ H Q ⟨F, C, ρ, P, PX, hs, en, xr, w, k⟩ =>
  ⟨F, C, ρ, _, PX, hs, en, xr, w, fun b F1 H1 C1 e1 h1 q => by
    cases b with
    | true =>
      rw [if_pos rfl] at q
      rw [if_pos rfl]
      exact ⟨F1, C1, ρ, P, PX, h1, en.mono e1, xr.mono e1, q, k.mono e1⟩
    | false =>
      rw [if_neg Bool.false_ne_true] at q
      rw [if_neg Bool.false_ne_true]
      exact ⟨F1, C1, ρ, P, PX, h1, en.mono e1, xr.mono e1, q, k.mono e1⟩⟩
/-- and, or, not as values of True and False -/
def wAndV (a b : DE) (ρ : DEnv) (C : Cells) (P : DK) (PX : DX) : Prop := a ρ C (fun x C1 => match x with | .bl k => if k = true then b ρ C1 P PX else P (.bl false) C1 | _ => False) PX
def wOrV (a b : DE) (ρ : DEnv) (C : Cells) (P : DK) (PX : DX) : Prop := a ρ C (fun x C1 => match x with | .bl k => if k = true then P (.bl true) C1 else b ρ C1 P PX | _ => False) PX
def wNotV (a : DE) (ρ : DEnv) (C : Cells) (P : DK) (PX : DX) : Prop := a ρ C (fun x C1 => match x with | .bl k => P (.bl (!k)) C1 | _ => False) PX
theorem d_one {op} (h : PE X a (tE X.K W wa)) : PE X (.BoolOp op [a] pos) (tE X.K W wa) := pe_one h
theorem d_andV (ha : PE X a (tE X.K W wa)) (hb : PE X (.BoolOp .And (b :: rest) pos) (tE X.K W wb)) : PE X (.BoolOp .And (a :: b :: rest) pos) (tE X.K W (wAndV wa wb)) := PE.imp (pe_and ha hb) fun σ H Q ⟨F, C, ρ, P, PX, hs, en, xr, w, k⟩ =>
  ⟨F, C, ρ, _, PX, hs, en, xr, w, fun v F1 H1 d C1 e1 h1 r q => by
    cases r <;> first | exact q.elim | skip
    rename_i b
    refine ⟨b, rfl, ?_⟩
    cases b with
    | true => exact ⟨F1, C1, ρ, P, PX, h1, en.mono e1, xr.mono e1, q, k.mono e1⟩
    | false => exact k _ F1 H1 _ C1 e1 h1 (.bl _) q⟩
theorem d_orV (ha : PE X a (tE X.K W wa)) (hb : PE X (.BoolOp .Or (b :: rest) pos) (tE X.K W wb)) : PE X (.BoolOp .Or (a :: b :: rest) pos) (tE X.K W (wOrV wa wb)) := PE.imp (pe_or ha hb) fun σ H Q ⟨F, C, ρ, P, PX, hs, en, xr, w, k⟩ =>
  ⟨F, C, ρ, _, PX, hs, en, xr, w, fun v F1 H1 d C1 e1 h1 r q => by
    cases r <;> first | exact q.elim | skip
    rename_i b
    refine ⟨b, rfl, ?_⟩
    cases b with
    | false => exact ⟨F1, C1, ρ, P, PX, h1, en.mono e1, xr.mono e1, q, k.mono e1⟩
    | true => exact k _ F1 H1 _ C1 e1 h1 (.bl _) q⟩
theorem d_notV (ha : PE X a (tE X.K W wa)) : PE X (.UnaryOp .Not a pos) (tE X.K W (wNotV wa)) := PE.imp (pe_not ha) fun σ H Q ⟨F, C, ρ, P, PX, hs, en, xr, w, k⟩ =>
  ⟨F, C, ρ, _, PX, hs, en, xr, w, fun v F1 H1 d C1 e1 h1 r q => by
    cases r <;> first | exact q.elim | skip
    exact ⟨_, rfl, k _ F1 H1 _ C1 e1 h1 (.bl _) q⟩⟩
end
/-- a < b < c -/
def wChain (r r' : DR2) (a b c : DE) (ρ : DEnv) (C : Cells) (P : DK) (PX : DX) : Prop := a ρ C (fun x C1 => b ρ C1 (fun y C2 => r x y C2 fun z C3 => match z with
  | .bl k => if k = true then c ρ C3 (fun u C4 => r' y u C4 P) PX else P (.bl false) C3
  | _ => False) PX) PX

/-! ### displays -/
def wTup (a : DA) (ρ : DEnv) (C : Cells) (P : DK) (PX : DX) : Prop := a ρ C (fun ds C1 => ds.length ≤ 100000 ∧ P (.tup ds) C1) PX
def wLst (a : DA) (ρ : DEnv) (C : Cells) (P : DK) (PX : DX) : Prop := a ρ C (fun ds C1 => ds.length ≤ 100000 ∧ P (.lst ds) C1) PX
/-- a list that is still to change -/
def wLstC (a : DA) (ρ : DEnv) (C : Cells) (P : DK) (PX : DX) : Prop := a ρ C (fun ds C1 => ds.length ≤ 100000 ∧ ∀ p, C1 p = none → P (.ptr p) (cput C1 p (.lst ds))) PX
theorem sz_of {n : Nat} (h : n ≤ 100000) : n ≤ sizeLine := Nat.le_trans h (by decide)
theorem sz_lt {n : Nat} (h : n < 100000) : n < sizeLine := Nat.lt_of_lt_of_le h (by decide)
section
variable {X : Cx} {W : WX} {K : PySem.W.Frag} {es : List Expr} {wr : DA} {pos : Pos}
theorem Hs.newL {F : Hp} {C : Cells} {H : Hp} {xs : List V} {ds : List D} (h : Hs K F C H) (r : RepL K F xs ds) {p : Addr} (hp : H p = none) : Ex F (upd F p (.lst xs)) ∧ Hs K (upd F p (.lst xs)) C (upd H p (.lst xs)) ∧ Rep K (upd F p (.lst xs)) (.ref p) (.lst ds) := by
  obtain ⟨e, h2⟩ := h.lay (o := .lst xs) hp
  exact ⟨e, h2, .lst (.of upd_same) (r.mono e)⟩
theorem Hs.newT {F : Hp} {C : Cells} {H : Hp} {xs : List V} {ds : List D} (h : Hs K F C H) (r : RepL K F xs ds) {p : Addr} (hp : H p = none) : Ex F (upd F p (.tup xs)) ∧ Hs K (upd F p (.tup xs)) C (upd H p (.tup xs)) ∧ Rep K (upd F p (.tup xs)) (.ref p) (.tup ds) := by
  obtain ⟨e, h2⟩ := h.lay (o := .tup xs) hp
  exact ⟨e, h2, .tup (.of upd_same) (r.mono e)⟩
theorem Hs.newC {F : Hp} {C : Cells} {H : Hp} {xs : List V} {ds : List D} (h : Hs K F C H) (r : RepL K F xs ds) {p : Addr} (hp : H p = none) : C p = none ∧ Hs K F (cput C p (.lst ds)) (upd H p (.lst xs)) :=
  ⟨(h.fresh hp).2, h.put (h.fresh hp).1 ⟨xs, upd_same, r⟩⟩
theorem d_tup {x1} (h : PA X es (tA X.K W wr)) : PE X (.Tuple es x1 pos) (tE X.K W (wTup wr)) := PE.imp (pe_tup h) fun σ H Q ⟨F, C, ρ, P, PX, hs, en, xr, w, k⟩ =>
  ⟨F, C, ρ, _, PX, hs, en, xr, w, fun vs F1 H1 ds C1 e1 h1 r q => ⟨by rw [r.length]; exact sz_of q.1, fun p hp => by
    obtain ⟨e2, h2, r2⟩ := h1.newT r hp
    exact k _ _ _ _ C1 (e1.trans e2) h2 r2 q.2⟩⟩
theorem d_lst (h : PA X es (tA X.K W wr)) : PE X (.List es pos) (tE X.K W (wLst wr)) := PE.imp (pe_lst h) fun σ H Q ⟨F, C, ρ, P, PX, hs, en, xr, w, k⟩ =>
  ⟨F, C, ρ, _, PX, hs, en, xr, w, fun vs F1 H1 ds C1 e1 h1 r q => ⟨by rw [r.length]; exact sz_of q.1, fun p hp => by
    obtain ⟨e2, h2, r2⟩ := h1.newL r hp
    exact k _ _ _ _ C1 (e1.trans e2) h2 r2 q.2⟩⟩
theorem d_lstC (h : PA X es (tA X.K W wr)) : PE X (.List es pos) (tE X.K W (wLstC wr)) := PE.imp (pe_lst h) fun σ H Q ⟨F, C, ρ, P, PX, hs, en, xr, w, k⟩ =>
  ⟨F, C, ρ, _, PX, hs, en, xr, w, fun vs F1 H1 ds C1 e1 h1 r q => ⟨by rw [r.length]; exact sz_of q.1, fun p hp => by
    obtain ⟨c0, h2⟩ := h1.newC r hp
    exact k _ _ _ _ _ e1 h2 (.ptr p) (q.2 p c0)⟩⟩
theorem d_chain {op op' : CmpOp} {r r' : R2} {rd rd' : DR2} {a b c : Expr} {wa wb wc : DE} (ho : OpR X (compareOp op) r) (hr : SimR X.K r rd) (ho' : OpR X (compareOp op') r') (hr' : SimR X.K r' rd')
    (h : PE X (.Compare a [op, op'] [b, c] pos) (tChain r r' (tE X.K W wa) (tE X.K W wb) (tE X.K W wc))) : PE X (.Compare a [op, op'] [b, c] pos) (tE X.K W (wChain rd rd' wa wb wc)) := PE.imp h fun σ H Q ⟨F, C, ρ, P, PX, hs, en, xr, w, k⟩ =>
  ⟨F, C, ρ, _, PX, hs, en, xr, w, fun v F1 H1 d C1 e1 h1 rd1 q => ⟨F1, C1, ρ, _, PX, h1, en.mono e1, xr.mono e1, q, fun u F2 H2 du C2 e2 h2 ru q2 => hr F2 C2 H2 v u d du _ _ h2 (rd1.mono e2) ru q2 fun z F3 H3 dz C3 e3 h3 rz q3 => by
    cases rz <;> first | exact q3.elim | skip
    rename_i b
    refine ⟨b, rfl, ?_⟩
    cases b with
    | true => exact ⟨F3, C3, ρ, _, PX, h3, en.mono ((e1.trans e2).trans e3), xr.mono ((e1.trans e2).trans e3), q3, fun u4 F4 H4 d4 C4 e4 h4 r4 q4 => hr' F4 C4 H4 u u4 du d4 P Q h4 (ru.mono (e3.trans e4)) r4 q4 (k.mono (((e1.trans e2).trans e3).trans e4))⟩
    | false => exact k _ F3 H3 _ C3 ((e1.trans e2).trans e3) h3 (.bl _) q3⟩⟩
end
end DD

set_option Elab.async false
set_option linter.all false
set_option maxRecDepth 100000
set_option maxHeartbeats 4000000
/-! Readings over data: statements, targets, loops. -/
namespace DD
open PySem L2 PyProof.Rows

section
variable {X : Cx} {W : WX} {K : PySem.W.Frag}
theorem i_chain {r r' : R2} {rd rd' : DR2} {wa wb wc : DE} (hr : SimR K r rd) (hr' : SimR K r' rd') {σ : L2.St} {H : Hp} {Q : VK} (h : tE K W (wChain rd rd' wa wb wc) σ H Q) : tChain r r' (tE K W wa) (tE K W wb) (tE K W wc) σ H Q := by
  obtain ⟨F, C, ρ, P, PX, hs, en, xr, w, k⟩ := h
  exact ⟨F, C, ρ, _, PX, hs, en, xr, w, fun v F1 H1 d C1 e1 h1 rd1 q => ⟨F1, C1, ρ, _, PX, h1, en.mono e1, xr.mono e1, q, fun u F2 H2 du C2 e2 h2 ru q2 => hr F2 C2 H2 v u d du _ _ h2 (rd1.mono e2) ru q2 fun z F3 H3 dz C3 e3 h3 rz q3 => by
    cases rz <;> first | exact q3.elim | skip
    rename_i b
    refine ⟨b, rfl, ?_⟩
    cases b with
    | true => exact ⟨F3, C3, ρ, _, PX, h3, en.mono ((e1.trans e2).trans e3), xr.mono ((e1.trans e2).trans e3), q3, fun u4 F4 H4 d4 C4 e4 h4 r4 q4 => hr' F4 C4 H4 u u4 du d4 P Q h4 (ru.mono (e3.trans e4)) r4 q4 (k.mono (((e1.trans e2).trans e3).trans e4))⟩
    | false => exact k _ F3 H3 _ C3 ((e1.trans e2).trans e3) h3 (.bl _) q3⟩⟩
theorem d_chainE {op op' : CmpOp} {r r' : R2} {rd rd' : DR2} {a b c : Expr} {wa wb wc : DE} {pos : Pos} (ho : OpR X (compareOp op) r) (hr : SimR X.K r rd) (ho' : OpR X (compareOp op') r') (hr' : SimR X.K r' rd') (ha : PE X a (tE X.K W wa)) (hb : PE X b (tE X.K W wb)) (hc : PE X c (tE X.K W wc))
    (hm : lastMarks [op, op'] [b, c] = false := by with_unfolding_all rfl) : PE X (.Compare a [op, op'] [b, c] pos) (tE X.K W (wChain rd rd' wa wb wc)) := PE.imp (pe_chain ho ho' ha hb hc hm) fun _ _ _ => i_chain hr hr'
theorem d_chainT {op op' : CmpOp} {r r' : R2} {rd rd' : DR2} {a b c : Expr} {wa wb wc : DE} {pos : Pos} (ho : OpR X (compareOp op) r) (hr : SimR X.K r rd) (ho' : OpR X (compareOp op') r') (hr' : SimR X.K r' rd') (ha : PE X a (tE X.K W wa)) (hb : PE X b (tE X.K W wb)) (hc : PE X c (tE X.K W wc))
    (hm : lastMarks [op, op'] [b, c] = false := by with_unfolding_all rfl) : PT X (.Compare a [op, op'] [b, c] pos) (tT X.K W (wTest (wChain rd rd' wa wb wc))) := PT.imp (pt_chain ho ho' ha hb hc hm) fun σ H Q h => by
  obtain ⟨F, C, ρ, P, PX, hs, en, xr, w, k⟩ := i_test h
  exact i_chain hr hr' ⟨F, C, ρ, P, PX, hs, en, xr, w, k⟩
end

/-! ### statements -/
def KontS (K : PySem.W.Frag) (F : Hp) (P : DEnv → Cells → Prop) (Q : L2.St → Hp → Prop) : Prop := ∀ σ F' H ρ C, Ex F F' → Hs K F' C H → EnvR K F' σ ρ → P ρ C → Q σ H
theorem KontS.mono {K : PySem.W.Frag} {F F' : Hp} {P : DEnv → Cells → Prop} {Q : L2.St → Hp → Prop} (e : Ex F F') (h : KontS K F P Q) : KontS K F' P Q := fun σ F1 H ρ C e1 => h σ F1 H ρ C (e.trans e1)
structure EndsR (K : PySem.W.Frag) (F : Hp) (DE : DEnds) (D : Ends) : Prop where
  nx : KontS K F DE.nx D.nx
  rt : Kont K F DE.rt D.rt
  bk : KontS K F DE.bk D.bk
  ct : KontS K F DE.ct D.ct
theorem EndsR.mono {K : PySem.W.Frag} {F F' : Hp} {DE : DEnds} {D : Ends} (e : Ex F F') (h : EndsR K F DE D) : EndsR K F' DE D := ⟨h.nx.mono e, h.rt.mono e, h.bk.mono e, h.ct.mono e⟩
def tS (K : PySem.W.Frag) (W : WX) (w : DS) : TS := fun D σ H => ∃ F C ρ DE, Hs K F C H ∧ EnvR K F σ ρ ∧ ExR K F W DE.ex ∧ w DE ρ C ∧ EndsR K F DE D

def wNext (E : DEnds) (ρ : DEnv) (C : Cells) : Prop := E.nx ρ C
def wSeq (a b : DS) (E : DEnds) (ρ : DEnv) (C : Cells) : Prop := a { E with nx := fun ρ' C' => b E ρ' C' } ρ C
/-- the same, a place to stop at -/
def wSeqL (a b : DS) (E : DEnds) (ρ : DEnv) (C : Cells) : Prop := a { E with nx := fun ρ' C' => b E ρ' C' } ρ C
def wBreak (E : DEnds) (ρ : DEnv) (C : Cells) : Prop := E.bk ρ C
def wCont (E : DEnds) (ρ : DEnv) (C : Cells) : Prop := E.ct ρ C
def wDrop (e : DE) (E : DEnds) (ρ : DEnv) (C : Cells) : Prop := e ρ C (fun _ C1 => E.nx ρ C1) E.ex
def wRet (e : DE) (E : DEnds) (ρ : DEnv) (C : Cells) : Prop := e ρ C E.rt E.ex
def wRetN (E : DEnds) (_ : DEnv) (C : Cells) : Prop := E.rt .non C
def wIfS (t : DT) (a b : DS) (E : DEnds) (ρ : DEnv) (C : Cells) : Prop := t ρ C (fun k C1 => if k = true then a E ρ C1 else b E ρ C1) E.ex
/-- a list that was built, handed back: it does not change any more -/
def wRetF (e : DE) (E : DEnds) (ρ : DEnv) (C : Cells) : Prop := e ρ C (fun d C1 => match d with
  | .ptr p => match C1 p with
    | some (.lst ds) => ∃ C2, Sub C2 C1 ∧ C2 p = none ∧ E.rt (.lst ds) C2
    | some (.dK kvs) => ∃ C2, Sub C2 C1 ∧ C2 p = none ∧ E.rt (.dK kvs) C2
    | some (.dT kvs) => ∃ C2, Sub C2 C1 ∧ C2 p = none ∧ E.rt (.dT kvs) C2
    | some (.ins Cl fs) => ∃ C2, Sub C2 C1 ∧ C2 p = none ∧ E.rt (.ins Cl fs) C2
    | none => False
  | d => E.rt d C1) E.ex
/-- a cell that does not change any more: what the name at i holds is data from here on -/
def wFrz (i : Nat) (E : DEnds) (ρ : DEnv) (C : Cells) : Prop := match (ρ[i]? : Option (Option D)) with
  | some (some (.ptr p)) => match C p with
    | some (.lst ds) => ∃ C2, Sub C2 C ∧ C2 p = none ∧ E.nx (ρ.set i (some (.lst ds))) C2
    | some (.dK kvs) => ∃ C2, Sub C2 C ∧ C2 p = none ∧ E.nx (ρ.set i (some (.dK kvs))) C2
    | some (.dT kvs) => ∃ C2, Sub C2 C ∧ C2 p = none ∧ E.nx (ρ.set i (some (.dT kvs))) C2
    | some (.ins Cl fs) => ∃ C2, Sub C2 C ∧ C2 p = none ∧ E.nx (ρ.set i (some (.ins Cl fs))) C2
    | none => False
  | _ => False
/-- a cell's content as data -/
def Cell.toD : Cell → D
  | .lst ds => .lst ds
  | .ins C fs => .ins C fs
  | .dK kvs => .dK kvs
  | .dT kvs => .dT kvs
section
variable {X : Cx} {W : WX} {K : PySem.W.Frag} {st : Stmt} {rest : List Stmt} {a b : DS} {e : Expr} {we : DE} {t : DT} {pos : Pos}
theorem ds_nil : PSs X [] (tS X.K W wNext) := PSs.imp pss_nil fun D σ H ⟨F, C, ρ, DE, hs, en, xr, w, er⟩ => er.nx σ F H ρ C (Ex.refl F) hs en w
theorem ds_cons (h1 : PS X st (tS X.K W a)) (h2 : PSs X rest (tS X.K W b)) : PSs X (st :: rest) (tS X.K W (wSeq a b)) := PSs.imp (pss_cons h1 h2) fun D σ H ⟨F, C, ρ, DE, hs, en, xr, w, er⟩ =>
  ⟨F, C, ρ, { DE with nx := fun ρ' C' => b DE ρ' C' }, hs, en, xr, w, ⟨fun σ1 F1 H1 ρ1 C1 e1 h1 n1 q => ⟨F1, C1, ρ1, DE, h1, n1, xr.mono e1, q, er.mono e1⟩, er.rt, er.bk, er.ct⟩⟩
theorem ds_consL (h1 : PS X st (tS X.K W a)) (h2 : PSs X rest (tS X.K W b)) : PSs X (st :: rest) (tS X.K W (wSeqL a b)) := ds_cons h1 h2
theorem ds_one (h1 : PS X st (tS X.K W a)) : PSs X [st] (tS X.K W a) := pss_one h1
theorem ds_pass : PS X (.Pass pos) (tS X.K W wNext) := PS.imp ps_pass fun D σ H ⟨F, C, ρ, DE, hs, en, xr, w, er⟩ => er.nx σ F H ρ C (Ex.refl F) hs en w
theorem ds_break : PS X (.Break pos) (tS X.K W wBreak) := PS.imp ps_break fun D σ H ⟨F, C, ρ, DE, hs, en, xr, w, er⟩ => er.bk σ F H ρ C (Ex.refl F) hs en w
theorem ds_continue : PS X (.Continue pos) (tS X.K W wCont) := PS.imp ps_continue fun D σ H ⟨F, C, ρ, DE, hs, en, xr, w, er⟩ => er.ct σ F H ρ C (Ex.refl F) hs en w
theorem ds_doc {x j pos'} : PS X (.Expr (.Constant (.str x) j pos) pos') (tS X.K W wNext) := PS.imp ps_doc fun D σ H ⟨F, C, ρ, DE, hs, en, xr, w, er⟩ => er.nx σ F H ρ C (Ex.refl F) hs en w
theorem ds_expr (he : PE X e (tE X.K W we)) (hs : swapsWith e none pos.line X.env = pure false := by rfl) : PS X (.Expr e pos) (tS X.K W (wDrop we)) := PS.imp (ps_expr he hs) fun D σ H ⟨F, C, ρ, DE, hs, en, xr, w, er⟩ =>
  ⟨F, C, ρ, _, _, hs, en, xr, w, fun v F1 H1 d C1 e1 h1 r q => er.nx σ F1 H1 ρ C1 e1 h1 (en.mono e1) q⟩
theorem ds_ret (he : PE X e (tE X.K W we)) : PS X (.Return (some e) pos) (tS X.K W (wRet we)) := PS.imp (ps_ret he) fun D σ H ⟨F, C, ρ, DE, hs, en, xr, w, er⟩ => ⟨F, C, ρ, _, _, hs, en, xr, w, er.rt⟩
theorem ds_retN : PS X (.Return none pos) (tS X.K W wRetN) := PS.imp ps_retN fun D σ H ⟨F, C, ρ, DE, hs, en, xr, w, er⟩ => er.rt _ F H _ C (Ex.refl F) hs .non w
theorem frz_rep {F H : Hp} {p : Addr} {o : HO} : ∀ {c : Cell}, H p = some o → F p = some o → RepC K F H p c → Rep K F (.ref p) c.toD
  | .lst ds, h, f, ⟨xs, q, r⟩ => by rw [h] at q; cases q; exact .lst (.of f) r
  | .dK ds, h, f, ⟨xs, q, r⟩ => by rw [h] at q; cases q; exact .dK f r
  | .dT ds, h, f, ⟨xs, q, r⟩ => by rw [h] at q; cases q; exact .dT f r
  | .ins _ ds, h, f, ⟨dx, xs, q, r⟩ => by rw [h] at q; cases q; exact .ins f r
theorem frz_go {F H : Hp} {C C2 : Cells} {p : Addr} {c : Cell} (h : Hs K F C H) (e : C p = some c) (s : Sub C2 C) (n : C2 p = none) :
    ∃ F2, Ex F F2 ∧ Hs K F2 C2 H ∧ Rep K F2 (.ref p) c.toD := by
  obtain ⟨o, ho, ex, h2, f, r⟩ := h.freeze e s n
  exact ⟨_, ex, h2, frz_rep ho f (r.ex ex)⟩
theorem ds_retF (he : PE X e (tE X.K W we)) : PS X (.Return (some e) pos) (tS X.K W (wRetF we)) := PS.imp (ps_ret he) fun D σ H ⟨F, C, ρ, DE, hs, en, xr, w, er⟩ => ⟨F, C, ρ, _, _, hs, en, xr, w, fun v F1 H1 d C1 e1 h1 r q => by
    cases r <;> first
      | (exact er.rt _ F1 H1 _ C1 e1 h1 (by constructor <;> assumption) q)
      | (rename_i p
         revert q
         show (match C1 p with | some (.lst ds) => _ | some (.dK ds) => _ | some (.dT ds) => _ | some (.ins Cl ds) => _ | none => False) → _
         cases ec : C1 p with
         | none => exact fun z => z.elim
         | some c =>
           cases c <;>
           (rintro ⟨C2, s2, n2, q⟩
            obtain ⟨F2, e2, h2, r2⟩ := frz_go h1 ec s2 n2
            exact er.rt _ F2 H1 _ C2 (e1.trans e2) h2 r2 q))⟩
theorem ds_frz {w : DS} (h : PSs X rest (tS X.K W w)) (i : Nat) : PSs X rest (tS X.K W (wSeq (wFrz i) w)) := PSs.imp h fun Dn σ H ⟨F, C, ρ, DE, hs, en, xr, q, er⟩ => by
  revert q
  show (match (ρ[i]? : Option (Option D)) with | some (some (.ptr p)) => _ | _ => False) → _
  split
  · rename_i p hp
    obtain ⟨v, hv, rv⟩ := en.2 i _ hp
    cases rv
    show (match C p with | some (.lst ds) => _ | some (.dK ds) => _ | some (.dT ds) => _ | some (.ins Cl ds) => _ | none => False) → _
    cases ec : C p with
    | none => exact fun z => z.elim
    | some c =>
      cases c <;>
      (rintro ⟨C2, s2, n2, q⟩
       obtain ⟨F2, e2, h2, r2⟩ := frz_go hs ec s2 n2
       have en2 := (en.mono e2).set (i := i) r2
       have es : σ.set i (some (.ref p)) = σ := by
         refine List.ext_getElem? fun j => ?_
         by_cases ij : i = j
         · subst ij
           have hl : i < σ.length := by
             rcases Nat.lt_or_ge i σ.length with z | z
             · exact z
             · rw [List.getElem?_eq_none z] at hv; cases hv
           rw [List.getElem?_set_self hl, hv]
         · rw [List.getElem?_set_ne ij]
       rw [es] at en2
       exact ⟨F2, C2, _, DE, h2, en2, xr.mono e2, q, er.mono e2⟩)
  · exact fun z => z.elim
theorem ds_if {c : Expr} {p q : List Stmt} (hc : PT X c (tT X.K W t)) (ha : PSs X p (tS X.K W a)) (hb : PSs X q (tS X.K W b)) : PS X (.If c p q pos) (tS X.K W (wIfS t a b)) := PS.imp (ps_if hc ha hb) fun D σ H ⟨F, C, ρ, DE, hs, en, xr, w, er⟩ =>
  ⟨F, C, ρ, _, _, hs, en, xr, w, fun k F1 H1 C1 e1 h1 q => by
    cases k with
    | true =>
      rw [if_pos rfl] at q
      rw [if_pos rfl]
      exact ⟨F1, C1, ρ, DE, h1, en.mono e1, xr.mono e1, q, er.mono e1⟩
    | false =>
      rw [if_neg Bool.false_ne_true] at q
      rw [if_neg Bool.false_ne_true]
      exact ⟨F1, C1, ρ, DE, h1, en.mono e1, xr.mono e1, q, er.mono e1⟩⟩
end

/-! ### targets -/
inductive Tgt where
  | name (i : Nat)
  | tup (ts : List Tgt)
mutual
def Tgt.tg (K : PySem.W.Frag) : Tgt → TG
  | .name i => gName i
  | .tup ts => gTup K ts.length (tgs K ts)
def tgs (K : PySem.W.Frag) : List Tgt → TGs
  | [] => gNil
  | t :: r => gCons (t.tg K) (tgs K r)
end
mutual
def Tgt.dg : Tgt → D → DEnv → Option DEnv
  | .name i, d, ρ => some (ρ.set i (some d))
  | .tup ts, d, ρ => match d with
    | .tup ds => dgs ts ds ρ
    | _ => none
def dgs : List Tgt → List D → DEnv → Option DEnv
  | [], ds, ρ => match ds with
    | [] => some ρ
    | _ => none
  | t :: r, ds, ρ => match ds with
    | d :: ds => match t.dg d ρ with
      | some ρ' => dgs r ds ρ'
      | none => none
    | [] => none
end
mutual
def Tgt.slots : Tgt → List Nat
  | .name i => [i]
  | .tup ts => slotsAll ts
def slotsAll : List Tgt → List Nat
  | [] => []
  | t :: r => t.slots ++ slotsAll r
end
theorem wipe_at (σ : L2.St) : ∀ (vs : List Nat) (j : Nat), (wipe σ vs)[j]? = if j ∈ vs then (σ[j]?).map (fun _ => none) else σ[j]?
  | [], j => by simp [wipe]
  | v :: vs, j => by
    show ((wipe σ vs).set v none)[j]? = _
    rw [List.getElem?_set, wipe_at σ vs j, wipe_length]
    by_cases h : v = j
    · subst h
      rw [if_pos rfl, if_pos (List.mem_cons_self)]
      by_cases hl : v < σ.length
      · rw [if_pos hl, List.getElem?_eq_getElem hl]; rfl
      · rw [if_neg hl, List.getElem?_eq_none (by omega)]; rfl
    · rw [if_neg h]
      by_cases hm : j ∈ vs
      · rw [if_pos hm, if_pos (List.mem_cons_of_mem _ hm)]
      · rw [if_neg hm, if_neg (by simp only [List.mem_cons, not_or]; exact ⟨fun e => h e.symm, hm⟩)]
theorem wipe_set {σ : L2.St} {vs : List Nat} {i : Nat} {x : Option V} (h : i ∈ vs) : wipe (σ.set i x) vs = wipe σ vs := by
  refine List.ext_getElem? fun j => ?_
  rw [wipe_at, wipe_at]
  by_cases hj : j ∈ vs
  · rw [if_pos hj, if_pos hj, List.getElem?_set]
    by_cases e : i = j
    · subst e
      rw [if_pos rfl]
      by_cases hl : i < σ.length
      · rw [if_pos hl, List.getElem?_eq_getElem hl]; rfl
      · rw [if_neg hl, List.getElem?_eq_none (by omega)]
    · rw [if_neg e]
  · rw [if_neg hj, if_neg hj, List.getElem?_set_ne (fun e => hj (by rw [← e]; exact h))]
theorem wipe_wipe (σ : L2.St) (vs : List Nat) : wipe (wipe σ vs) vs = wipe σ vs := by
  refine List.ext_getElem? fun j => ?_
  rw [wipe_at, wipe_at]
  by_cases hj : j ∈ vs
  · rw [if_pos hj, if_pos hj]
    cases σ[j]? <;> rfl
  · rw [if_neg hj, if_neg hj]
section
variable {K : PySem.W.Frag} {F H : Hp}
mutual
theorem tg_ok {Q : L2.St → Hp → Prop} : ∀ (t : Tgt) {v : V} {d : D} {σ : L2.St} {ρ ρ' : DEnv}, Ex F H → Rep K F v d → EnvR K F σ ρ → t.dg d ρ = some ρ' → (∀ σ', EnvR K F σ' ρ' → (∀ vs, (∀ i ∈ t.slots, i ∈ vs) → wipe σ' vs = wipe σ vs) → Q σ' H) → (t.tg K) v σ H Q
  | .name i, v, d, σ, ρ, ρ', ex, r, en, h, k => by
    simp only [Tgt.dg, Option.some.injEq] at h
    subst h
    show Q (σ.set i (some v)) H
    exact k _ (en.set r) fun vs hv => wipe_set (hv i (by simp [Tgt.slots]))
  | .tup ts, v, d, σ, ρ, ρ', ex, r, en, h, k => by
    simp only [Tgt.dg] at h
    cases r <;> first | (simp at h; done) | skip
    rename_i a xs ds hq hr
    simp only at h
    simp only [Tgt.tg]
    refine ⟨a, xs, rfl, ex_t ex hq, ?_, tgs_ok ts ex hr en h (fun σ' e' hw => k σ' e' (by simpa only [Tgt.slots] using hw))⟩
    rw [hr.length]
    exact dgs_len ts h
theorem tgs_ok {Q : L2.St → Hp → Prop} : ∀ (ts : List Tgt) {vs : List V} {ds : List D} {σ : L2.St} {ρ ρ' : DEnv}, Ex F H → RepL K F vs ds → EnvR K F σ ρ → dgs ts ds ρ = some ρ' → (∀ σ', EnvR K F σ' ρ' → (∀ ws, (∀ i ∈ slotsAll ts, i ∈ ws) → wipe σ' ws = wipe σ ws) → Q σ' H) → (tgs K ts) vs σ H Q
  | [], vs, ds, σ, ρ, ρ', ex, r, en, h, k => by
    cases r with
    | nil =>
      simp only [dgs, Option.some.injEq] at h
      subst h
      simp only [tgs]
      exact ⟨rfl, k σ en fun _ _ => rfl⟩
    | cons _ _ => simp [dgs] at h
  | t :: rest, vs, ds, σ, ρ, ρ', ex, r, en, h, k => by
    cases r with
    | nil => simp [dgs] at h
    | cons r1 r2 =>
      simp only [dgs] at h
      split at h
      · rename_i ρ1 h1
        simp only [tgs]
        refine ⟨_, _, rfl, tg_ok t ex r1 en h1 fun σ1 en1 hw1 => tgs_ok rest ex r2 en1 h fun σ2 en2 hw2 => k σ2 en2 fun ws hin => ?_⟩
        simp only [slotsAll, List.mem_append] at hin
        rw [hw2 ws (fun i hi => hin i (.inr hi)), hw1 ws (fun i hi => hin i (.inl hi))]
      · cases h
theorem dgs_len : ∀ (ts : List Tgt) {ds : List D} {ρ ρ' : DEnv}, dgs ts ds ρ = some ρ' → ds.length = ts.length
  | [], ds, ρ, ρ', h => by
    cases ds with
    | nil => rfl
    | cons _ _ => simp [dgs] at h
  | t :: rest, ds, ρ, ρ', h => by
    cases ds with
    | nil => simp [dgs] at h
    | cons d ds =>
      simp only [dgs] at h
      split at h
      · exact congrArg (· + 1) (dgs_len rest h)
      · cases h
end
end
section
variable {X : Cx} {pos : Pos}
theorem dg_name {x : Str} (i : Nat) (hN : X.N.Nodup) (hi : X.N[i]? = some x := by rfl) (hx : Loc X.env.scope x := by first | exact Or.inl rfl | exact Or.inr rfl) (hf : X.fn x = true ∨ X.env.scope.names.lookup x = some .local := by first | exact .inl rfl | exact .inr rfl | assumption) : PG X (.Name x pos) (Tgt.tg X.K (.name i)) := by
  simp only [Tgt.tg]
  exact pg_name hN hi hx hf
theorem dgs_nil : PGs X [] (tgs X.K []) := by
  simp only [tgs]
  exact pgs_nil
theorem dgs_cons {e : Expr} {es : List Expr} {t : Tgt} {r : List Tgt} (h1 : PG X e (t.tg X.K)) (h2 : PGs X es (tgs X.K r))
    (hs : (assignEach (e :: es) X.env).map (·.2) = assign e X.env :: (assignEach es X.env).map (·.2) := by rfl) : PGs X (e :: es) (tgs X.K (t :: r)) := by
  simp only [tgs]
  exact pgs_cons h1 h2 hs
theorem dg_tup {es : List Expr} {k : Nat} {ts : List Tgt} (hc : X.calm = true) (h : PGs X es (tgs X.K ts))
    (hn : (assignEach es X.env).length = ts.length := by rfl) (hst : (assignEach es X.env).findIdx? (·.1) = none := by rfl) : PG X (.Tuple es k pos) (Tgt.tg X.K (.tup ts)) := by
  simp only [Tgt.tg]
  exact pg_tup hc h hn hst
end
/-- target = e -/
def wAsg (e : DE) (t : Tgt) (E : DEnds) (ρ : DEnv) (C : Cells) : Prop := e ρ C (fun d C1 => match t.dg d ρ with | some ρ' => E.nx ρ' C1 | none => False) E.ex
def wSet (i : Nat) (e : DE) (E : DEnds) (ρ : DEnv) (C : Cells) : Prop := e ρ C (fun d C1 => E.nx (ρ.set i (some d)) C1) E.ex
/-- name op= e -/
def wAug (i : Nat) (e : DE) (r : DR2) (E : DEnds) (ρ : DEnv) (C : Cells) : Prop := match (ρ[i]? : Option (Option D)) with
  | some (some x) => e ρ C (fun y C1 => r x y C1 (fun z C2 => E.nx (ρ.set i (some z)) C2)) E.ex
  | _ => False
section
variable {X : Cx} {W : WX} {K : PySem.W.Frag} {e : Expr} {we : DE} {pos : Pos}
theorem ds_asg {tg : Expr} {t : Tgt} (he : PE X e (tE X.K W we)) (hg : PG X tg (t.tg X.K)) (hs : swapsWithSole [tg] e pos.line X.env = pure false := by rfl) (hw : swappedStores [tg] e X.env = pure none := by rfl)
    (h1 : (assignEach [tg] X.env).map (·.2) = [assign tg X.env] := by rfl) : PS X (.Assign [tg] e pos) (tS X.K W (wAsg we t)) := PS.imp (ps_asg he hg hs hw h1) fun D σ H ⟨F, C, ρ, DE, hs, en, xr, w, er⟩ =>
  ⟨F, C, ρ, _, _, hs, en, xr, w, fun v F1 H1 d C1 e1 h1 r q => by
    revert q
    dsimp only
    split
    · rename_i ρ' hd
      exact fun q => tg_ok t h1.ex r (en.mono e1) hd fun σ' en' _ => er.nx σ' F1 H1 ρ' C1 e1 h1 en' q
    · exact fun z => z.elim⟩
/-- name = e -/
theorem ds_set (i : Nat) {x : Str} {pos' : Pos} (hN : X.N.Nodup) (he : PE X e (tE X.K W we)) (hi : X.N[i]? = some x := by rfl) (hx : Loc X.env.scope x := by first | exact Or.inl rfl | exact Or.inr rfl) (hs : swapsWith e (some (.Name x pos')) pos.line X.env = pure false := by rfl) (hf : X.fn x = true ∨ X.env.scope.names.lookup x = some .local := by first | exact .inl rfl | exact .inr rfl | assumption) :
    PS X (.Assign [.Name x pos'] e pos) (tS X.K W (wSet i we)) := PS.imp (ps_set hN hi hx he hs hf) fun D σ H ⟨F, C, ρ, DE, hs, en, xr, w, er⟩ =>
  ⟨F, C, ρ, _, _, hs, en, xr, w, fun v F1 H1 d C1 e1 h1 r q => er.nx _ F1 H1 _ C1 e1 h1 ((en.mono e1).set r) q⟩
theorem ds_aug (i : Nat) {x : Str} {op : Operator} {ti : TIp} {rd : DR2} {pos' : Pos} (hN : X.N.Nodup) (ho : PIp X op ti) (hr : SimR X.K ti rd) (he : PE X e (tE X.K W we)) (hi : X.N[i]? = some x := by rfl) (hx : Loc X.env.scope x := by first | exact Or.inl rfl | exact Or.inr rfl) (hf : X.fn x = true ∨ X.env.scope.names.lookup x = some .local := by first | exact .inl rfl | exact .inr rfl | assumption) :
    PS X (.AugAssign (.Name x pos') op e pos) (tS X.K W (wAug i we rd)) := PS.imp (ps_aug hN hi hx he ho hf) fun Dn σ H ⟨F, C, ρ, DE, hs, en, xr, w, er⟩ => by
  revert w
  show (match (ρ[i]? : Option (Option D)) with | some (some x) => _ | _ => False) → _
  split
  · rename_i x hx
    intro w
    obtain ⟨v, hv, rv⟩ := en.2 i _ hx
    exact ⟨v, hv, F, C, ρ, _, _, hs, en, xr, w, fun u F1 H1 d C1 e1 h1 r q => hr F1 C1 H1 v u x d _ _ h1 (rv.mono e1) r q fun z F2 H2 dz C2 e2 h2 rz q2 => er.nx _ F2 H2 _ C2 (e1.trans e2) h2 ((en.mono (e1.trans e2)).set rz) q2⟩
  · exact fun z => z.elim
theorem s_ipAdd : SimR K (ipI fun i j => i + j) dAdd := fun F C H x y dx dy P Q hs rx ry w k => by
  cases rx <;> cases ry <;> first | exact w.elim | exact ⟨_, _, rfl, rfl, k _ F H _ C (Ex.refl F) hs (.int _) w⟩
theorem s_ipSub : SimR K (ipI fun i j => i - j) dSub := fun F C H x y dx dy P Q hs rx ry w k => by
  cases rx <;> cases ry <;> first | exact w.elim | exact ⟨_, _, rfl, rfl, k _ F H _ C (Ex.refl F) hs (.int _) w⟩
end

/-! ### what is walked -/
structure DIt where
  items : List D
  still : Cells → Prop
abbrev DI := DEnv → Cells → (DIt → Cells → Prop) → DX → Prop
def ItR (K : PySem.W.Frag) (F : Hp) (J : It) (Jd : DIt) : Prop := ∀ F' H C, Ex F F' → Hs K F' C H → Jd.still C →
  (∀ (i : Nat) (d : D), Jd.items[i]? = some d → J.go i H ∧ ∀ x H', J.yld i H x H' → ∃ F'', Ex F' F'' ∧ Hs K F'' C H' ∧ Rep K F'' x d) ∧ J.stop Jd.items.length H
theorem ItR.mono {K : PySem.W.Frag} {F F' : Hp} {J : It} {Jd : DIt} (e : Ex F F') (h : ItR K F J Jd) : ItR K F' J Jd := fun F1 H C e1 => h F1 H C (e.trans e1)
def tI (K : PySem.W.Frag) (W : WX) (w : DI) : TI := fun σ H R => ∃ F C ρ P PX, Hs K F C H ∧ EnvR K F σ ρ ∧ ExR K F W PX ∧ w ρ C P PX ∧ ∀ J F' H' Jd C', Ex F F' → Hs K F' C' H' → ItR K F' J Jd → P Jd C' → R J H'
theorem PI.imp {X : Cx} {tg it : Expr} {t t' : TI} (h : PI X tg it t) (i : ∀ σ H R, t' σ H R → t σ H R) : PI X tg it t' := ⟨fun pins s σ H R I w => h.run pins s σ H R I (i σ H R w)⟩
def frozen : Cells → Prop := fun _ => True
/-- a list, frozen or a cell -/
def wItL (e : DE) (ρ : DEnv) (C : Cells) (P : DIt → Cells → Prop) (PX : DX) : Prop := e ρ C (fun d C1 => match d with
  | .lst ds => P ⟨ds, frozen⟩ C1
  | .ptr a => match C1 a with
    | some (.lst ds) => P ⟨ds, fun C' => C' a = some (.lst ds)⟩ C1
    | _ => False
  | _ => False) PX
def wItT (e : DE) (ρ : DEnv) (C : Cells) (P : DIt → Cells → Prop) (PX : DX) : Prop := e ρ C (fun d C1 => match d with
  | .tup ds => P ⟨ds, frozen⟩ C1
  | _ => False) PX
def rngD (lo : Int) (n : Nat) : List D := (List.range n).map fun (k : Nat) => D.int (lo + (k : Int))
def wRng1 (a : DA) (ρ : DEnv) (C : Cells) (P : DIt → Cells → Prop) (PX : DX) : Prop := a ρ C (fun ds C1 => match ds with
  | [.int j] => (-(2 ^ 62) ≤ j ∧ j < 2 ^ 62) ∧ P ⟨rngD 0 j.toNat, frozen⟩ C1
  | _ => False) PX
def wRng2 (a : DA) (ρ : DEnv) (C : Cells) (P : DIt → Cells → Prop) (PX : DX) : Prop := a ρ C (fun ds C1 => match ds with
  | [.int i, .int j] => (-(2 ^ 62) ≤ i ∧ i < 2 ^ 62 ∧ -(2 ^ 62) ≤ j ∧ j < 2 ^ 62) ∧ P ⟨rngD i (j - i).toNat, frozen⟩ C1
  | _ => False) PX
theorem rngD_len (lo : Int) (n : Nat) : (rngD lo n).length = n := by simp [rngD]
theorem rngD_get {lo : Int} {n i : Nat} {d : D} (h : (rngD lo n)[i]? = some d) : i < n ∧ d = .int (lo + (i : Int)) := by
  unfold rngD at h
  rw [List.getElem?_map] at h
  rcases Nat.lt_or_ge i n with z | z
  · rw [List.getElem?_range z] at h
    exact ⟨z, (Option.some.inj h).symm⟩
  · rw [List.getElem?_eq_none (by simpa using z)] at h; cases h
section
variable {X : Cx} {W : WX} {K : PySem.W.Frag} {e tg : Expr} {we : DE} {wr : DA} {pos : Pos}
theorem itr_lst {F : Hp} {a : Addr} {xs : List V} {ds : List D} (h : SqL K F a xs) (r : RepL K F xs ds) : ItR K F (Itl K a) ⟨ds, frozen⟩ := fun F' H C e hs _ => by
  have hH : SqL K H a xs := ex_l hs.ex (ex_l e h)
  refine ⟨fun i d hd => ?_, ⟨xs, hH, by rw [r.length]; exact Nat.le_refl _⟩⟩
  obtain ⟨v, hv, rv⟩ := r.get hd
  refine ⟨⟨xs, v, hH, hv⟩, fun x H' y => ?_⟩
  obtain ⟨rfl, y⟩ := y
  have := y xs hH
  rw [hv] at this
  cases this
  exact ⟨F', Ex.refl _, hs, rv.mono e⟩
theorem itr_cell {F : Hp} {a : Addr} {ds : List D} : ItR K F (Itl K a) ⟨ds, fun C' => C' a = some (.lst ds)⟩ := fun F' H C e hs hc => by
  obtain ⟨_, xs, hx, r⟩ := hs.cell a _ hc
  have hH : SqL K H a xs := .of hx
  refine ⟨fun i d hd => ?_, ⟨xs, hH, by rw [r.length]; exact Nat.le_refl _⟩⟩
  obtain ⟨v, hv, rv⟩ := r.get hd
  refine ⟨⟨xs, v, hH, hv⟩, fun x H' y => ?_⟩
  obtain ⟨rfl, y⟩ := y
  have := y xs hH
  rw [hv] at this
  cases this
  exact ⟨F', Ex.refl _, hs, rv⟩
theorem itr_tup {F : Hp} {a : Addr} {xs : List V} {ds : List D} (h : SqT K F a xs) (r : RepL K F xs ds) : ItR K F (Itt K a) ⟨ds, frozen⟩ := fun F' H C e hs _ => by
  have hH : SqT K H a xs := ex_t hs.ex (ex_t e h)
  refine ⟨fun i d hd => ?_, ⟨xs, hH, by rw [r.length]; exact Nat.le_refl _⟩⟩
  obtain ⟨v, hv, rv⟩ := r.get hd
  refine ⟨⟨xs, v, hH, hv⟩, fun x H' y => ?_⟩
  obtain ⟨rfl, y⟩ := y
  have := y xs hH
  rw [hv] at this
  cases this
  exact ⟨F', Ex.refl _, hs, rv.mono e⟩
theorem itr_rng {F : Hp} {lo : Int} {n : Nat} : ItR K F (Itr lo n) ⟨rngD lo n, frozen⟩ := fun F' H C e hs _ => by
  refine ⟨fun i d hd => ?_, by show n ≤ (rngD lo n).length; rw [rngD_len]; exact Nat.le_refl _⟩
  obtain ⟨hi, rfl⟩ := rngD_get hd
  refine ⟨hi, fun x H' y => ?_⟩
  obtain ⟨rfl, rfl⟩ := y
  exact ⟨F', Ex.refl _, hs, .int _⟩
theorem di_list (he : PE X e (tE X.K W we)) : PI X tg e (tI X.K W (wItL we)) := PI.imp (pi_list he) fun σ H R ⟨F, C, ρ, P, PX, hs, en, xr, w, k⟩ =>
  ⟨F, C, ρ, _, PX, hs, en, xr, w, fun v F1 H1 d C1 e1 h1 r q => by
    cases r <;> first | exact q.elim | skip
    · rename_i a xs ds hq hr
      exact ⟨a, rfl, ⟨xs, ex_l h1.ex hq⟩, k _ F1 H1 _ C1 e1 h1 (itr_lst hq hr) q⟩
    · rename_i a
      revert q
      dsimp only
      split
      · rename_i ds hc
        intro q
        obtain ⟨_, xs, hx, r⟩ := h1.cell a _ hc
        exact ⟨a, rfl, ⟨xs, .of hx⟩, k _ F1 H1 _ C1 e1 h1 itr_cell q⟩
      · exact fun z => z.elim⟩
theorem di_tup (he : PE X e (tE X.K W we)) : PI X tg e (tI X.K W (wItT we)) := PI.imp (pi_tup he) fun σ H R ⟨F, C, ρ, P, PX, hs, en, xr, w, k⟩ =>
  ⟨F, C, ρ, _, PX, hs, en, xr, w, fun v F1 H1 d C1 e1 h1 r q => by
    cases r <;> first | exact q.elim | skip
    rename_i a xs ds hq hr
    exact ⟨a, rfl, ⟨xs, ex_t h1.ex hq⟩, k _ F1 H1 _ C1 e1 h1 (itr_tup hq hr) q⟩⟩
theorem di_rng1 {a : Expr} {p : Pos} (hg : Gl X "range") (hm : X.mg "range" = none) (ha : PA X [a] (tA X.K W wr)) (hs : starEach [a] X.env = [(false, eval a X.env)] := by rfl) : PI X tg (.Call (.Name "range" p) [a] [] pos) (tI X.K W (wRng1 wr)) :=
  PI.imp (pi_range1 hg hm ha hs) fun σ H R ⟨F, C, ρ, P, PX, hs, en, xr, w, k⟩ => ⟨F, C, ρ, _, PX, hs, en, xr, w, fun v F1 H1 d C1 e1 h1 r q => by
    revert q
    dsimp only
    split
    · intro q
      rename_i j
      cases r with
      | cons r1 r2 =>
        cases r1; cases r2
        exact ⟨j, rfl, q.1.1, q.1.2, k _ F1 H1 _ C1 e1 h1 itr_rng q.2⟩
    · exact fun z => z.elim⟩
theorem di_rng2 {a b : Expr} {p : Pos} (hg : Gl X "range") (hm : X.mg "range" = none) (ha : PA X [a, b] (tA X.K W wr)) (hs : starEach [a, b] X.env = [(false, eval a X.env), (false, eval b X.env)] := by rfl) (hs2 : starEach [b] X.env = [(false, eval b X.env)] := by rfl) : PI X tg (.Call (.Name "range" p) [a, b] [] pos) (tI X.K W (wRng2 wr)) :=
  PI.imp (pi_range2 hg hm ha hs hs2) fun σ H R ⟨F, C, ρ, P, PX, hs, en, xr, w, k⟩ => ⟨F, C, ρ, _, PX, hs, en, xr, w, fun v F1 H1 d C1 e1 h1 r q => by
    revert q
    dsimp only
    split
    · intro q
      rename_i i j
      cases r with
      | cons r1 r2 =>
        cases r1
        cases r2 with
        | cons r2 r3 =>
          cases r2; cases r3
          exact ⟨i, j, rfl, q.1, k _ F1 H1 _ C1 e1 h1 itr_rng q.2⟩
    · exact fun z => z.elim⟩
end

/-! ### loops -/
def ForG (J : DIt) (t : Tgt) (b : DS) (E : DEnds) (ρ : DEnv) (C1 : Cells) : Prop := ∃ Inv : Nat → DEnv → Cells → Prop, Inv 0 ρ C1 ∧ (∀ i ρ' C', Inv i ρ' C' → J.still C') ∧
  (∀ i d ρ' C', J.items[i]? = some d → Inv i ρ' C' → match t.dg d ρ' with
    | some ρ2 => b { nx := Inv (i + 1), ct := Inv (i + 1), bk := E.nx, rt := E.rt, ex := E.ex } ρ2 C'
    | none => False) ∧
  (∀ ρ' C', Inv J.items.length ρ' C' → E.nx ρ' C')
def wFor (wi : DI) (t : Tgt) (b : DS) (E : DEnds) (ρ : DEnv) (C : Cells) : Prop := wi ρ C (fun J C1 => ForG J t b E ρ C1) E.ex
def wWhile (t : DT) (b : DS) (E : DEnds) (ρ : DEnv) (C : Cells) : Prop := ∃ Inv : Nat → DEnv → Cells → Prop, (∃ m, Inv m ρ C) ∧ ∀ m ρ' C', Inv m ρ' C' → t ρ' C' (fun k C1 => if k = true then
    b { nx := fun ρ2 C2 => ∃ m', m' < m ∧ Inv m' ρ2 C2, ct := fun ρ2 C2 => ∃ m', m' < m ∧ Inv m' ρ2 C2, bk := E.nx, rt := E.rt, ex := E.ex } ρ' C1 else E.nx ρ' C1) E.ex
section
variable {X : Cx} {W : WX} {wb : DS} {pos : Pos}
theorem ds_for {tg iter : Expr} {body : List Stmt} {wi : DI} {t : Tgt} (hp : PassesOwn (model X.prog X.w) X.A X.env X.xe) (hc : X.calm = true) (hi : PI X tg iter (tI X.K W wi)) (hg : PG X tg (t.tg X.K)) (hb : PSs X body (tS X.K W wb))
    (hs : ∀ x, foldedSetIterable iter X.env x = pure x := by intro _; rfl) : PS X (.For tg iter body [] pos) (tS X.K W (wFor wi t wb)) := PS.imp (ps_for hp hc hi hg hb hs) fun D σ H ⟨F, C, ρ, DE, hs, en, xr, w, er⟩ =>
  ⟨F, C, ρ, _, _, hs, en, xr, w, fun J F1 H1 Jd C1 e1 h1 ir q => by
    obtain ⟨Inv, i0, st, turn, done⟩ := q
    refine ⟨fun i m σ' H' => m = Jd.items.length - i ∧ i ≤ Jd.items.length ∧ ∃ F' ρ' C', Ex F1 F' ∧ Hs X.K F' C' H' ∧ EnvR X.K F' σ' ρ' ∧ Inv i ρ' C', ⟨_, rfl, Nat.zero_le _, F1, ρ, C1, Ex.refl _, h1, en.mono e1, i0⟩, ?_⟩
    rintro i m σ' H' ⟨rfl, hl, F', ρ', C', e', h', n', p⟩
    obtain ⟨go, stop⟩ := ir F' H' C' e' h' (st i ρ' C' p)
    by_cases hi : i = Jd.items.length
    · subst hi
      exact .inl ⟨stop, er.nx σ' F' H' ρ' C' (e1.trans e') h' n' (done ρ' C' p)⟩
    · have hlt : i < Jd.items.length := by omega
      have hd : Jd.items[i]? = some Jd.items[i] := List.getElem?_eq_getElem hlt
      obtain ⟨g1, g2⟩ := go i _ hd
      have q := turn i _ ρ' C' hd p
      refine .inr ⟨g1, fun σ2 H2 => ∃ F2 ρ2 C2, Ex F' F2 ∧ Hs X.K F2 C2 H2 ∧ EnvR X.K F2 σ2 ρ2 ∧ Inv (i + 1) ρ2 C2, ?_, ?_⟩
      · rintro σ2 H2 ⟨F2, ρ2, C2, e2, h2, n2, p2⟩
        exact ⟨_, by omega, rfl, hlt, F2, ρ2, C2, e'.trans e2, h2, n2, p2⟩
      · intro x H2 hy
        obtain ⟨F2, e2, h2, rx⟩ := g2 x H2 hy
        revert q
        split
        · rename_i ρ2 hdg
          intro q
          refine tg_ok t h2.ex rx (n'.mono e2) hdg fun σ2 en2 _ => ?_
          exact ⟨F2, C', ρ2, { nx := Inv (i + 1), ct := Inv (i + 1), bk := DE.nx, rt := DE.rt, ex := DE.ex }, h2, en2, xr.mono ((e1.trans e').trans e2), q, ⟨fun σ3 F3 H3 ρ3 C3 e3 h3 n3 p3 => ⟨F3, ρ3, C3, e2.trans e3, h3, n3, p3⟩, er.rt.mono ((e1.trans e').trans e2), er.nx.mono ((e1.trans e').trans e2), fun σ3 F3 H3 ρ3 C3 e3 h3 n3 p3 => ⟨F3, ρ3, C3, e2.trans e3, h3, n3, p3⟩⟩⟩
        · exact fun z => z.elim⟩
theorem ds_while {c : Expr} {body : List Stmt} {t : DT} (hp : PassesOwn (model X.prog X.w) X.A X.env X.xe) (hc : PT X c (tT X.K W t)) (hb : PSs X body (tS X.K W wb)) : PS X (.While c body [] pos) (tS X.K W (wWhile t wb)) := PS.imp (ps_while hp hc hb) fun D σ H ⟨F, C, ρ, DE, hs, en, xr, w, er⟩ => by
  obtain ⟨Inv, ⟨m0, i0⟩, turn⟩ := w
  refine ⟨fun m σ' H' => ∃ F' ρ' C', Ex F F' ∧ Hs X.K F' C' H' ∧ EnvR X.K F' σ' ρ' ∧ Inv m ρ' C', ⟨m0, F, ρ, C, Ex.refl _, hs, en, i0⟩, ?_⟩
  rintro m σ' H' ⟨F', ρ', C', e', h', n', p⟩
  refine ⟨F', C', ρ', _, _, h', n', xr.mono e', turn m ρ' C' p, fun k F1 H1 C1 e1 h1 q => ?_⟩
  cases k with
  | true =>
    rw [if_pos rfl] at q
    rw [if_pos rfl]
    refine ⟨fun σ2 H2 => ∃ m', m' < m ∧ ∃ F2 ρ2 C2, Ex F F2 ∧ Hs X.K F2 C2 H2 ∧ EnvR X.K F2 σ2 ρ2 ∧ Inv m' ρ2 C2, fun _ _ z => z, ?_⟩
    exact ⟨F1, C1, ρ', { nx := fun ρ2 C2 => ∃ m', m' < m ∧ Inv m' ρ2 C2, ct := fun ρ2 C2 => ∃ m', m' < m ∧ Inv m' ρ2 C2, bk := DE.nx, rt := DE.rt, ex := DE.ex }, h1, n'.mono e1, xr.mono (e'.trans e1), q, ⟨fun σ3 F3 H3 ρ3 C3 e3 h3 n3 ⟨m', hm, p3⟩ => ⟨m', hm, F3, ρ3, C3, (e'.trans e1).trans e3, h3, n3, p3⟩, er.rt.mono (e'.trans e1), er.nx.mono (e'.trans e1), fun σ3 F3 H3 ρ3 C3 e3 h3 n3 ⟨m', hm, p3⟩ => ⟨m', hm, F3, ρ3, C3, (e'.trans e1).trans e3, h3, n3, p3⟩⟩⟩
  | false =>
    rw [if_neg Bool.false_ne_true] at q
    rw [if_neg Bool.false_ne_true]
    exact er.nx σ' F1 H1 ρ' C1 (e'.trans e1) h1 (n'.mono e1) q
end
end DD

set_option Elab.async false
set_option linter.all false
set_option maxRecDepth 100000
set_option maxHeartbeats 4000000
/-! Readings over data: calls of defs, classes, attributes; a def keeps its promise. -/
namespace DD
open PySem L2 PyProof.Rows

abbrev DSp := List D → Cells → DK → Prop
abbrev XC := Value → List (String × D) → Cells → Prop
abbrev DSpX := List D → Cells → DK → XC → Prop
def KontX (K : PySem.W.Frag) (F : Hp) (PX : XC) (E : XK) : Prop := ∀ cls d fs F' H C, Ex F F' → Hs K F' C H → XRep K F' H d fs → PX cls fs C → E cls d H
/-- a promise over data; of a def that may raise -/
def spD (K : PySem.W.Frag) (R : DSp) : Sp := fun vs H Q _ => ∃ F C ds P, Hs K F C H ∧ RepL K F vs ds ∧ R ds C P ∧ Kont K F P Q
def spX (K : PySem.W.Frag) (R : DSpX) : Sp := fun vs H Q E => ∃ F C ds P PX, Hs K F C H ∧ RepL K F vs ds ∧ R ds C P PX ∧ Kont K F P Q ∧ KontX K F PX E

/-! ### calls -/
def wCall (R : DSp) (dd : List D) (a : DA) (ρ : DEnv) (C : Cells) (P : DK) (PX : DX) : Prop := a ρ C (fun ds C1 => R (ds ++ dd) C1 P) PX
def wCallX (R : DSpX) (dd : List D) (a : DA) (ρ : DEnv) (C : Cells) (P : DK) (PX : DX) : Prop := a ρ C (fun ds C1 => R (ds ++ dd) C1 P (fun cls fs C2 => PX cls fs ρ C2)) PX
/-- it is an instance of the class at Cl without an attribute of this name of its own -/
def isIns (Cl : Addr) (m : String) (o : D) (C : Cells) : Prop := match o with
  | .ins c fs => c = Cl ∧ fs.lookup m = none
  | .ptr p => match C p with
    | some (.ins c fs) => c = Cl ∧ fs.lookup m = none
    | _ => False
  | _ => False
def wMeth (Cl : Addr) (m : String) (R : DSp) (dd : List D) (o : DE) (a : DA) (ρ : DEnv) (C : Cells) (P : DK) (PX : DX) : Prop := o ρ C (fun x C1 => isIns Cl m x C1 ∧ a ρ C1 (fun ds C2 => R (x :: (ds ++ dd)) C2 P) PX) PX
def wMethX (Cl : Addr) (m : String) (R : DSpX) (dd : List D) (o : DE) (a : DA) (ρ : DEnv) (C : Cells) (P : DK) (PX : DX) : Prop := o ρ C (fun x C1 => isIns Cl m x C1 ∧ a ρ C1 (fun ds C2 => R (x :: (ds ++ dd)) C2 P (fun cls fs C3 => PX cls fs ρ C3)) PX) PX
/-- a new instance: a cell; one that does not change any more behind __init__ -/
def wMake (Cl : Addr) (R : DSp) (dd : List D) (a : DA) (ρ : DEnv) (C : Cells) (P : DK) (PX : DX) : Prop := a ρ C (fun ds C1 => ∀ p, C1 p = none → R (.ptr p :: (ds ++ dd)) (cput C1 p (.ins Cl [])) (fun r C2 => r = .non ∧ P (.ptr p) C2)) PX
def frzP (P : DK) (p : Addr) (C2 : Cells) : Prop := match C2 p with
  | some (.ins c fs) => ∃ C3, Sub C3 C2 ∧ C3 p = none ∧ P (.ins c fs) C3
  | _ => False
def wMakeF (Cl : Addr) (R : DSp) (dd : List D) (a : DA) (ρ : DEnv) (C : Cells) (P : DK) (PX : DX) : Prop := a ρ C (fun ds C1 => ∀ p, C1 p = none → R (.ptr p :: (ds ++ dd)) (cput C1 p (.ins Cl [])) (fun r C2 => r = .non ∧ frzP P p C2)) PX
def wMakeX (Cl : Addr) (R : DSpX) (dd : List D) (a : DA) (ρ : DEnv) (C : Cells) (P : DK) (PX : DX) : Prop := a ρ C (fun ds C1 => ∀ p, C1 p = none → R (.ptr p :: (ds ++ dd)) (cput C1 p (.ins Cl [])) (fun r C2 => r = .non ∧ P (.ptr p) C2) (fun cls fs C3 => PX cls fs ρ C3)) PX
def wMakeXF (Cl : Addr) (R : DSpX) (dd : List D) (a : DA) (ρ : DEnv) (C : Cells) (P : DK) (PX : DX) : Prop := a ρ C (fun ds C1 => ∀ p, C1 p = none → R (.ptr p :: (ds ++ dd)) (cput C1 p (.ins Cl [])) (fun r C2 => r = .non ∧ frzP P p C2) (fun cls fs C3 => PX cls fs ρ C3)) PX

section
variable {X : Cx} {W : WX} {K : PySem.W.Frag} {k : Nat} {f Cl : Addr} {fd : FuncData} {ps : List Str} {R : DSp} {RX : DSpX} {dvs : List V} {dd : List D} {dsv : List Value} {x m : Str} {p pos apos : Pos} {e o : Expr} {es : List Expr} {wa : DE} {wr : DA}
theorem KontX.of {F : Hp} {W : WX} {PX : DX} {σ : L2.St} {ρ : DEnv} (xr : ExR K F W PX) (en : EnvR K F σ ρ) : KontX K F (fun cls fs C2 => PX cls fs ρ C2) (WE W σ) :=
  fun cls d fs F' H C e hs r q => xr cls d fs σ F' H ρ C e hs (en.mono e) r q
theorem d_call (G : FnOk X.prog X.w X.K X.mg X.base CX0 k f fd ps (spD X.K R)) (hr : Room k X.A) (hm : X.mg x = some (.ref f)) (hk : PySem.W.keepIn X.K (.ref f) = true) (hb : Binds X.K fd ps dsv) (ha : PA X (e :: es) (tA X.K W wr)) (hd : Vals dvs dsv := by exact .nil) (hdd : ∀ F, RepL X.K F dvs dd := by exact fun _ => .nil) (hg : Gl X x := by rfl)
    (hdb : (x == ("__debug__" : Str)) = false := by decide) (he : starEach (e :: es) X.env = (false, eval e X.env) :: starEach es X.env := by rfl) (hpl : (backTo pos (starEach es X.env)).any (·.1) = false := by rfl) :
    PE X (.Call (.Name x p) (e :: es) [] pos) (tE X.K W (wCall R dd wr)) := PE.imp (pe_call (E := E0) G hr hg hm hk hb hd pass0 ha hdb he hpl) fun σ H Q ⟨F, C, ρ, P, PX, hs, en, xr, w, k⟩ =>
  ⟨F, C, ρ, _, PX, hs, en, xr, w, fun vs F1 H1 ds C1 e1 h1 r q => ⟨F1, C1, ds ++ dd, P, h1, r.append (hdd F1), q, k.mono e1⟩⟩
theorem d_call0 (G : FnOk X.prog X.w X.K X.mg X.base CX0 k f fd ps (spD X.K R)) (hr : Room k X.A) (hm : X.mg x = some (.ref f)) (hk : PySem.W.keepIn X.K (.ref f) = true) (hb : Binds X.K fd ps dsv) (hd : Vals dvs dsv := by exact .nil) (hdd : ∀ F, RepL X.K F dvs dd := by exact fun _ => .nil) (hg : Gl X x := by rfl)
    (hdb : (x == ("__debug__" : Str)) = false := by decide) : PE X (.Call (.Name x p) [] [] pos) (tE X.K W (wCall R dd wNil)) := PE.imp (pe_call0 (E := E0) G hr hg hm hk hb hd pass0 hdb) fun σ H Q ⟨F, C, ρ, P, PX, hs, en, xr, w, k⟩ =>
  ⟨F, C, dd, P, hs, by exact (hdd F), by exact w, k⟩
theorem d_callX (tk : Takes X W) (G : FnOk X.prog X.w X.K X.mg X.base (L2.CX X.prog X.w) k f fd ps (spX X.K RX)) (hr : Room k X.A) (hm : X.mg x = some (.ref f)) (hk : PySem.W.keepIn X.K (.ref f) = true) (hb : Binds X.K fd ps dsv) (ha : PA X (e :: es) (tA X.K W wr)) (hd : Vals dvs dsv := by exact .nil) (hdd : ∀ F, RepL X.K F dvs dd := by exact fun _ => .nil) (hg : Gl X x := by rfl)
    (hdb : (x == ("__debug__" : Str)) = false := by decide) (he : starEach (e :: es) X.env = (false, eval e X.env) :: starEach es X.env := by rfl) (hpl : (backTo pos (starEach es X.env)).any (·.1) = false := by rfl) :
    PE X (.Call (.Name x p) (e :: es) [] pos) (tE X.K W (wCallX RX dd wr)) := PE.imp (pe_callSD (E := WE W) G hr hg hm hk hb hd (fun σ => passAt tk σ) ha hdb he hpl) fun σ H Q ⟨F, C, ρ, P, PX, hs, en, xr, w, k⟩ =>
  ⟨F, C, ρ, _, PX, hs, en, xr, w, fun vs F1 H1 ds C1 e1 h1 r q => ⟨F1, C1, ds ++ dd, P, _, h1, r.append (hdd F1), q, k.mono e1, KontX.of (xr.mono e1) (en.mono e1)⟩⟩
theorem ins_of {F H : Hp} {C : Cells} {v : V} {d : D} (hs : Hs K F C H) (r : Rep K F v d) {mm : String} (h : isIns Cl mm d C) : ∃ a dx gs, v = .ref a ∧ H a = some (.ins Cl dx gs) ∧ gs.lookup (Str.ofString mm) = none := by
  cases r <;> first | exact h.elim | skip
  · rename_i a c dx gs fs hf rf
    obtain ⟨rfl, hl⟩ := h
    exact ⟨a, dx, gs, rfl, hs.ex _ _ hf, rf.lookup_none hl⟩
  · rename_i a
    revert h
    show (match C a with | some (.ins c fs) => _ | _ => False) → _
    split
    · rename_i c fs hc
      rintro ⟨rfl, hl⟩
      obtain ⟨_, dx, gs, hg, rf⟩ := hs.cell a _ hc
      exact ⟨a, dx, gs, rfl, hg, rf.lookup_none hl⟩
    · exact fun z => z.elim
theorem d_meth {mm : String} {pl : Sem Bool} (c : Cls X.K Cl) (hm : Meth X.K Cl (Str.ofString mm) f) (G : FnOk X.prog X.w X.K X.mg X.base CX0 k f fd ps (spD X.K R)) (hr : Room k X.A) (hb : Binds X.K fd ps dsv) (ho : PE X o (tE X.K W wa)) (ha : PA X (e :: es) (tA X.K W wr)) (hd : Vals dvs dsv := by exact .nil) (hdd : ∀ F, RepL X.K F dvs dd := by exact fun _ => .nil)
    (hst : starEach (e :: es) X.env = (false, eval e X.env) :: starEach es X.env := by rfl) (hpl : (backTo pos (starEach es X.env)).any (·.1) = false := by rfl)
    (ht : eval (.Call (.Attribute o (Str.ofString mm) apos) (e :: es) [] pos) X.env = (do
      let ov ← eval o X.env
      standAt apos.atName
      let (f, first) ← holding [ov] (getMethod ov (Str.ofString mm) pl)
      callWith pos f first (backTo pos (starEach (e :: es) X.env)) (backToKw pos (keywordEach [] X.env))) := by rfl) :
    PE X (.Call (.Attribute o (Str.ofString mm) apos) (e :: es) [] pos) (tE X.K W (wMeth Cl mm R dd wa wr)) := PE.imp (pe_meth (pl := pl) (E := E0) ho c hm G hr hb hd pass0 ha hst hpl ht) fun σ H Q ⟨F, C, ρ, P, PX, hs, en, xr, w, k⟩ =>
  ⟨F, C, ρ, _, PX, hs, en, xr, w, fun v F1 H1 d C1 e1 h1 rv q => by
    obtain ⟨qi, q⟩ := q
    obtain ⟨a, dx, gs, ev, ha, hl⟩ := ins_of h1 rv qi
    exact ⟨a, dx, gs, ev, ha, hl, F1, C1, ρ, _, PX, h1, en.mono e1, xr.mono e1, q, fun vs F2 H2 ds C2 e2 h2 rl q2 => ⟨F2, C2, d :: (ds ++ dd), P, h2, .cons (rv.mono e2) (rl.append (hdd F2)), q2, k.mono (e1.trans e2)⟩⟩⟩
theorem d_meth0 {mm : String} {pl : Sem Bool} (c : Cls X.K Cl) (hm : Meth X.K Cl (Str.ofString mm) f) (G : FnOk X.prog X.w X.K X.mg X.base CX0 k f fd ps (spD X.K R)) (hr : Room k X.A) (hb : Binds X.K fd ps dsv) (ho : PE X o (tE X.K W wa)) (hd : Vals dvs dsv := by exact .nil) (hdd : ∀ F, RepL X.K F dvs dd := by exact fun _ => .nil)
    (ht : eval (.Call (.Attribute o (Str.ofString mm) apos) [] [] pos) X.env = (do
      let ov ← eval o X.env
      standAt apos.atName
      let (f, first) ← holding [ov] (getMethod ov (Str.ofString mm) pl)
      callWith pos f first (backTo pos (starEach [] X.env)) (backToKw pos (keywordEach [] X.env))) := by rfl) :
    PE X (.Call (.Attribute o (Str.ofString mm) apos) [] [] pos) (tE X.K W (wMeth Cl mm R dd wa wNil)) := PE.imp (pe_meth0 (pl := pl) (E := E0) ho c hm G hr hb hd pass0 ht) fun σ H Q ⟨F, C, ρ, P, PX, hs, en, xr, w, k⟩ =>
  ⟨F, C, ρ, _, PX, hs, en, xr, w, fun v F1 H1 d C1 e1 h1 rv q => by
    obtain ⟨qi, q⟩ := q
    obtain ⟨a, dx, gs, ev, ha, hl⟩ := ins_of h1 rv qi
    exact ⟨a, dx, gs, ev, ha, hl, F1, C1, d :: dd, P, h1, .cons rv (hdd F1), q, k.mono e1⟩⟩
/-- a method that may raise -/
theorem pe_methSD {ta : TE} {t : TA} {E : L2.St → XK} {pl : Sem Bool} {sp : Sp} {CX : CXT} (he : PE X o ta) (c : Cls X.K Cl) (hm : Meth X.K Cl m f) (F : FnOk X.prog X.w X.K X.mg X.base CX k f fd ps sp) (hr : Room k X.A) (hb : Binds X.K fd ps dsv) (hd : Vals dvs dsv) (hx : ∀ σ, PassesAt CX X σ (E σ)) (ha : PA X (e :: es) t)
    (hst : starEach (e :: es) X.env = (false, eval e X.env) :: starEach es X.env := by rfl) (hpl : (backTo pos (starEach es X.env)).any (·.1) = false := by rfl)
    (ht : eval (.Call (.Attribute o m apos) (e :: es) [] pos) X.env = (do
      let ov ← eval o X.env
      standAt apos.atName
      let (f, first) ← holding [ov] (getMethod ov m pl)
      callWith pos f first (backTo pos (starEach (e :: es) X.env)) (backToKw pos (keywordEach [] X.env))) := by rfl) :
    PE X (.Call (.Attribute o m apos) (e :: es) [] pos) (fun σ H Q => ta σ H fun x H1 => ∃ a dx fs, x = .ref a ∧ H1 a = some (.ins Cl dx fs) ∧ fs.lookup m = none ∧ t σ H1 fun vs H2 => sp (x :: (vs ++ dvs)) H2 Q (E σ)) := by
  refine ⟨fun pins s σ H Q I h => ?_⟩
  refine PySem.W.methodCall_KW (pl := pl) (thn (he.run pins s σ H _ I h) fun u s1 ⟨x, H1, I1, rx, a, dx, fs, ex, ea, l, q⟩ => ?_) ht
  subst ex
  obtain rfl : u = Value.ref a := rx
  refine getmeth_ok I1 ea c hm l ?_
  refine PySem.W.callWith_K (first := [.ref a]) (h₀ := X.base) I.ok.mod.kin hm.kp (thn (ha.run pos pins s1 σ H1 _ I1 q) fun us s2 ⟨vs, H2, I2, r, q2⟩ => ⟨I2.kIn, ?_⟩) hst hpl
  exact run_fnSD (us := .ref a :: us) (vs := .ref a :: vs) F hr hb hd (hx σ) I2 (.cons rfl r) q2
theorem pe_methSD0 {ta : TE} {E : L2.St → XK} {pl : Sem Bool} {sp : Sp} {CX : CXT} (he : PE X o ta) (c : Cls X.K Cl) (hm : Meth X.K Cl m f) (F : FnOk X.prog X.w X.K X.mg X.base CX k f fd ps sp) (hr : Room k X.A) (hb : Binds X.K fd ps dsv) (hd : Vals dvs dsv) (hx : ∀ σ, PassesAt CX X σ (E σ))
    (ht : eval (.Call (.Attribute o m apos) [] [] pos) X.env = (do
      let ov ← eval o X.env
      standAt apos.atName
      let (f, first) ← holding [ov] (getMethod ov m pl)
      callWith pos f first (backTo pos (starEach [] X.env)) (backToKw pos (keywordEach [] X.env))) := by rfl) :
    PE X (.Call (.Attribute o m apos) [] [] pos) (fun σ H Q => ta σ H fun x H1 => ∃ a dx fs, x = .ref a ∧ H1 a = some (.ins Cl dx fs) ∧ fs.lookup m = none ∧ sp (x :: dvs) H1 Q (E σ)) := by
  refine ⟨fun pins s σ H Q I h => ?_⟩
  refine PySem.W.methodCall_KW (pl := pl) (thn (he.run pins s σ H _ I h) fun u s1 ⟨x, H1, I1, rx, a, dx, fs, ex, ea, l, q⟩ => ?_) ht
  subst ex
  obtain rfl : u = Value.ref a := rx
  refine getmeth_ok I1 ea c hm l ?_
  exact PySem.W.callWith_K0 (first := [.ref a]) I1.kIn hm.kp (run_fnSD (us := [.ref a]) (vs := [.ref a]) F hr hb hd (hx σ) I1 (.cons rfl .nil) q)
theorem d_methX {mm : String} {pl : Sem Bool} (tk : Takes X W) (c : Cls X.K Cl) (hm : Meth X.K Cl (Str.ofString mm) f) (G : FnOk X.prog X.w X.K X.mg X.base (L2.CX X.prog X.w) k f fd ps (spX X.K RX)) (hr : Room k X.A) (hb : Binds X.K fd ps dsv) (ho : PE X o (tE X.K W wa)) (ha : PA X (e :: es) (tA X.K W wr)) (hd : Vals dvs dsv := by exact .nil) (hdd : ∀ F, RepL X.K F dvs dd := by exact fun _ => .nil)
    (hst : starEach (e :: es) X.env = (false, eval e X.env) :: starEach es X.env := by rfl) (hpl : (backTo pos (starEach es X.env)).any (·.1) = false := by rfl)
    (ht : eval (.Call (.Attribute o (Str.ofString mm) apos) (e :: es) [] pos) X.env = (do
      let ov ← eval o X.env
      standAt apos.atName
      let (f, first) ← holding [ov] (getMethod ov (Str.ofString mm) pl)
      callWith pos f first (backTo pos (starEach (e :: es) X.env)) (backToKw pos (keywordEach [] X.env))) := by rfl) :
    PE X (.Call (.Attribute o (Str.ofString mm) apos) (e :: es) [] pos) (tE X.K W (wMethX Cl mm RX dd wa wr)) := PE.imp (pe_methSD (pl := pl) (E := WE W) ho c hm G hr hb hd (fun σ => passAt tk σ) ha hst hpl ht) fun σ H Q ⟨F, C, ρ, P, PX, hs, en, xr, w, k⟩ =>
  ⟨F, C, ρ, _, PX, hs, en, xr, w, fun v F1 H1 d C1 e1 h1 rv q => by
    obtain ⟨qi, q⟩ := q
    obtain ⟨a, dx, gs, ev, ha, hl⟩ := ins_of h1 rv qi
    exact ⟨a, dx, gs, ev, ha, hl, F1, C1, ρ, _, PX, h1, en.mono e1, xr.mono e1, q, fun vs F2 H2 ds C2 e2 h2 rl q2 => ⟨F2, C2, d :: (ds ++ dd), P, _, h2, .cons (rv.mono e2) (rl.append (hdd F2)), q2, k.mono (e1.trans e2), KontX.of (xr.mono (e1.trans e2)) (en.mono (e1.trans e2))⟩⟩⟩
theorem d_methX0 {mm : String} {pl : Sem Bool} (tk : Takes X W) (c : Cls X.K Cl) (hm : Meth X.K Cl (Str.ofString mm) f) (G : FnOk X.prog X.w X.K X.mg X.base (L2.CX X.prog X.w) k f fd ps (spX X.K RX)) (hr : Room k X.A) (hb : Binds X.K fd ps dsv) (ho : PE X o (tE X.K W wa)) (hd : Vals dvs dsv := by exact .nil) (hdd : ∀ F, RepL X.K F dvs dd := by exact fun _ => .nil)
    (ht : eval (.Call (.Attribute o (Str.ofString mm) apos) [] [] pos) X.env = (do
      let ov ← eval o X.env
      standAt apos.atName
      let (f, first) ← holding [ov] (getMethod ov (Str.ofString mm) pl)
      callWith pos f first (backTo pos (starEach [] X.env)) (backToKw pos (keywordEach [] X.env))) := by rfl) :
    PE X (.Call (.Attribute o (Str.ofString mm) apos) [] [] pos) (tE X.K W (wMethX Cl mm RX dd wa wNil)) := PE.imp (pe_methSD0 (pl := pl) (E := WE W) ho c hm G hr hb hd (fun σ => passAt tk σ) ht) fun σ H Q ⟨F, C, ρ, P, PX, hs, en, xr, w, k⟩ =>
  ⟨F, C, ρ, _, PX, hs, en, xr, w, fun v F1 H1 d C1 e1 h1 rv q => by
    obtain ⟨qi, q⟩ := q
    obtain ⟨a, dx, gs, ev, ha, hl⟩ := ins_of h1 rv qi
    exact ⟨a, dx, gs, ev, ha, hl, F1, C1, d :: dd, P, _, h1, .cons rv (hdd F1), q, k.mono e1, KontX.of (xr.mono e1) (en.mono e1)⟩⟩
/-- an object that no data speaks of -/
theorem Hs.skip {F : Hp} {C : Cells} {H : Hp} (h : Hs K F C H) {p : Addr} {o : HO} (hp : H p = none) : Hs K F C (upd H p o) := by
  obtain ⟨f0, c0⟩ := h.fresh hp
  exact ⟨h.ex.mut f0, fun a c e => ⟨(h.cell a c e).1, (h.cell a c e).2.at (upd_ne (cell_ne e c0))⟩⟩
theorem Hs.inst {F : Hp} {C : Cells} {H : Hp} (h : Hs K F C H) {q dx : Addr} (hq : H q = none) (hd : H dx = none) (ne : dx ≠ q) : C q = none ∧ Hs K F (cput C q (.ins Cl [])) (upd (upd H dx (.own q)) q (.ins Cl dx [])) := by
  obtain ⟨f0, c0⟩ := h.fresh hq
  refine ⟨c0, ?_⟩
  exact (h.skip (o := .own q) hd).put (c := .ins Cl []) f0 ⟨dx, [], upd_same, .nil⟩
theorem frz_kont {F : Hp} {P : DK} {Q : VK} {q : Addr} (k : Kont K F P Q) : Kont K F (fun r C2 => r = .non ∧ frzP P q C2) (fun v H2 => v = .non ∧ Q (.ref q) H2) := fun v F2 H2 d C2 e2 h2 rv ⟨ed, z⟩ => by
  subst ed
  cases rv
  refine ⟨rfl, ?_⟩
  revert z
  unfold frzP
  split
  · rename_i c fs hc
    rintro ⟨C3, s3, n3, z⟩
    obtain ⟨F3, e3, h3, r3⟩ := frz_go h2 hc s3 n3
    exact k _ F3 H2 _ C3 (e2.trans e3) h3 r3 z
  · exact fun z => z.elim
theorem ptr_kont {F : Hp} {P : DK} {Q : VK} {q : Addr} (k : Kont K F P Q) : Kont K F (fun r C2 => r = .non ∧ P (.ptr q) C2) (fun v H2 => v = .non ∧ Q (.ref q) H2) := fun v F2 H2 d C2 e2 h2 rv ⟨ed, z⟩ => by
  subst ed
  cases rv
  exact ⟨rfl, k _ F2 H2 _ C2 e2 h2 (.ptr q) z⟩
theorem d_make (M : Mk X.K Cl f) (G : FnOk X.prog X.w X.K X.mg X.base CX0 k f fd ps (spD X.K R)) (hr : Room (k + 1) X.A) (hm : X.mg x = some (.ref Cl)) (hb : Binds X.K fd ps dsv) (ha : PA X (e :: es) (tA X.K W wr)) (hd : Vals dvs dsv := by exact .nil) (hdd : ∀ F, RepL X.K F dvs dd := by exact fun _ => .nil) (hg : Gl X x := by rfl)
    (hdb : (x == ("__debug__" : Str)) = false := by decide) (he : starEach (e :: es) X.env = (false, eval e X.env) :: starEach es X.env := by rfl) (hpl : (backTo pos (starEach es X.env)).any (·.1) = false := by rfl) :
    PE X (.Call (.Name x p) (e :: es) [] pos) (tE X.K W (wMake Cl R dd wr)) := PE.imp (pe_make (E := E0) M G hr hg hm hb hd pass0 ha hdb he hpl) fun σ H Q ⟨F, C, ρ, P, PX, hs, en, xr, w, k⟩ =>
  ⟨F, C, ρ, _, PX, hs, en, xr, w, fun vs F1 H1 ds C1 e1 h1 r q => fun z dx hz hdx ne => by
    obtain ⟨c0, h2⟩ := h1.inst (Cl := Cl) hz hdx ne
    exact ⟨F1, _, .ptr z :: (ds ++ dd), _, h2, .cons (.ptr z) (r.append (hdd F1)), q z c0, ptr_kont (k.mono e1)⟩⟩
theorem d_make0 (M : Mk X.K Cl f) (G : FnOk X.prog X.w X.K X.mg X.base CX0 k f fd ps (spD X.K R)) (hr : Room (k + 1) X.A) (hm : X.mg x = some (.ref Cl)) (hb : Binds X.K fd ps dsv) (hd : Vals dvs dsv := by exact .nil) (hdd : ∀ F, RepL X.K F dvs dd := by exact fun _ => .nil) (hg : Gl X x := by rfl)
    (hdb : (x == ("__debug__" : Str)) = false := by decide) : PE X (.Call (.Name x p) [] [] pos) (tE X.K W (wMake Cl R dd wNil)) := PE.imp (pe_make0 (E := E0) M G hr hg hm hb hd pass0 hdb) fun σ H Q ⟨F, C, ρ, P, PX, hs, en, xr, w, k⟩ => fun z dx hz hdx ne => by
    obtain ⟨c0, h2⟩ := hs.inst (Cl := Cl) hz hdx ne
    exact ⟨F, _, .ptr z :: dd, _, h2, .cons (.ptr z) (hdd F), w z c0, ptr_kont k⟩
theorem d_makeF (M : Mk X.K Cl f) (G : FnOk X.prog X.w X.K X.mg X.base CX0 k f fd ps (spD X.K R)) (hr : Room (k + 1) X.A) (hm : X.mg x = some (.ref Cl)) (hb : Binds X.K fd ps dsv) (ha : PA X (e :: es) (tA X.K W wr)) (hd : Vals dvs dsv := by exact .nil) (hdd : ∀ F, RepL X.K F dvs dd := by exact fun _ => .nil) (hg : Gl X x := by rfl)
    (hdb : (x == ("__debug__" : Str)) = false := by decide) (he : starEach (e :: es) X.env = (false, eval e X.env) :: starEach es X.env := by rfl) (hpl : (backTo pos (starEach es X.env)).any (·.1) = false := by rfl) :
    PE X (.Call (.Name x p) (e :: es) [] pos) (tE X.K W (wMakeF Cl R dd wr)) := PE.imp (pe_make (E := E0) M G hr hg hm hb hd pass0 ha hdb he hpl) fun σ H Q ⟨F, C, ρ, P, PX, hs, en, xr, w, k⟩ =>
  ⟨F, C, ρ, _, PX, hs, en, xr, w, fun vs F1 H1 ds C1 e1 h1 r q => fun z dx hz hdx ne => by
    obtain ⟨c0, h2⟩ := h1.inst (Cl := Cl) hz hdx ne
    exact ⟨F1, _, .ptr z :: (ds ++ dd), _, h2, .cons (.ptr z) (r.append (hdd F1)), q z c0, frz_kont (k.mono e1)⟩⟩
end

/-! ### attributes -/
/-- the attribute f of an instance of the class at Cl -/
def fldOf (Cl : Addr) (f : String) (o : D) (C : Cells) : Option D := match o with
  | .ins c fs => if c = Cl then fs.lookup f else none
  | .ptr p => match C p with
    | some (.ins c fs) => if c = Cl then fs.lookup f else none
    | _ => none
  | _ => none
def wFld (Cl : Addr) (f : String) (o : DE) (ρ : DEnv) (C : Cells) (P : DK) (PX : DX) : Prop := o ρ C (fun x C1 => match fldOf Cl f x C1 with
  | some d => P d C1
  | none => False) PX
def wFldSet (Cl : Addr) (f : String) (o v : DE) (E : DEnds) (ρ : DEnv) (C : Cells) : Prop := v ρ C (fun d C1 => o ρ C1 (fun x C2 => match x with
  | .ptr p => match C2 p with
    | some (.ins c fs) => c = Cl ∧ fs.length < 1000 ∧ E.nx ρ (cput C2 p (.ins Cl (dput f d fs)))
    | _ => False
  | _ => False) E.ex) E.ex
section
variable {X : Cx} {W : WX} {K : PySem.W.Frag} {Cl : Addr} {f : String} {o value : Expr} {wa wv : DE} {pos pos' : Pos}
theorem fld_of {F H : Hp} {C : Cells} {v : V} {x d : D} (hs : Hs K F C H) (r : Rep K F v x) (h : fldOf Cl f x C = some d) : ∃ a dx gs u, v = .ref a ∧ H a = some (.ins Cl dx gs) ∧ gs.lookup (Str.ofString f) = some u ∧ Rep K F u d := by
  cases r <;> first | (simp [fldOf] at h; done) | skip
  · rename_i a c dx gs fs hf rf
    simp only [fldOf] at h
    split at h
    · rename_i e
      subst e
      obtain ⟨u, hu, ru⟩ := rf.lookup h
      exact ⟨a, dx, gs, u, rfl, hs.ex _ _ hf, hu, ru⟩
    · cases h
  · rename_i a
    simp only [fldOf] at h
    split at h
    · rename_i c fs hc
      split at h
      · rename_i e
        subst e
        obtain ⟨_, dx, gs, hg, rf⟩ := hs.cell a _ hc
        obtain ⟨u, hu, ru⟩ := rf.lookup h
        exact ⟨a, dx, gs, u, rfl, hg, hu, ru⟩
      · cases h
    · cases h
theorem d_fld (c : Cls X.K Cl) (n : NoAttr X.K Cl (Str.ofString f)) (he : PE X o (tE X.K W wa)) (hb : attributeBase o (Str.ofString f) X.env (eval o X.env) = eval o X.env := by rfl) : PE X (.Attribute o (Str.ofString f) pos) (tE X.K W (wFld Cl f wa)) :=
  PE.imp (pe_fld he hb) fun σ H Q ⟨F, C, ρ, P, PX, hs, en, xr, w, k⟩ => ⟨F, C, ρ, _, PX, hs, en, xr, w, fun v F1 H1 d C1 e1 h1 r q => by
    revert q
    dsimp only
    split
    · rename_i u hu
      intro q
      obtain ⟨a, dx, gs, u', rfl, ha, hl, ru⟩ := fld_of h1 r hu
      exact ⟨a, Cl, dx, gs, u', rfl, ha, c, n, hl, k u' F1 H1 u C1 e1 h1 ru q⟩
    · exact fun z => z.elim⟩
theorem ds_fld (c : Cls X.K Cl) (n : NoAttr X.K Cl (Str.ofString f)) (ho : PE X o (tE X.K W wa)) (hv : PE X value (tE X.K W wv)) (hs : swapsWith value (some (.Attribute o (Str.ofString f) pos')) pos.line X.env = pure false := by rfl) :
    PS X (.Assign [.Attribute o (Str.ofString f) pos'] value pos) (tS X.K W (wFldSet Cl f wa wv)) := PS.imp (ps_fld ho hv hs) fun Dn σ H ⟨F, C, ρ, DE, hs, en, xr, w, er⟩ =>
  ⟨F, C, ρ, _, _, hs, en, xr, w, fun y F1 H1 d C1 e1 h1 ry q => ⟨F1, C1, ρ, _, _, h1, en.mono e1, xr.mono e1, q, fun v F2 H2 x C2 e2 h2 rx q2 => by
    cases rx <;> first | exact q2.elim | skip
    rename_i p
    revert q2
    show (match C2 p with | some (.ins c fs) => _ | _ => False) → _
    split
    · rename_i cl fs hc
      rintro ⟨rfl, hl, q2⟩
      obtain ⟨f0, dx, gs, hg, rf⟩ := h2.cell p _ hc
      have h3 := h2.put (o := .ins cl dx (putF (Str.ofString f) y gs)) (c := .ins cl (dput f d fs)) f0 ⟨dx, _, upd_same, rf.put (ry.mono e2)⟩
      exact ⟨p, cl, dx, gs, rfl, hg, c, n, by rw [rf.length]; exact hl, er.nx σ F2 _ ρ _ (e1.trans e2) h3 (en.mono (e1.trans e2)) q2⟩
    · exact fun z => z.elim⟩⟩
end

/-! ### a def's body keeps its promise -/
def endsD (P : DK) : DEnds := { nx := fun _ C' => ∃ C2, Sub C2 C' ∧ P .non C2, rt := fun d C' => ∃ C2, Sub C2 C' ∧ P d C2, bk := fun _ _ => False, ct := fun _ _ => False, ex := fun _ _ _ _ => False }
def endsX (P : DK) (PX : XC) : DEnds := { nx := fun _ C' => ∃ C2, Sub C2 C' ∧ P .non C2, rt := fun d C' => ∃ C2, Sub C2 C' ∧ P d C2, bk := fun _ _ => False, ct := fun _ _ => False, ex := fun cls fs _ C' => ∃ C2, Sub C2 C' ∧ PX cls fs C2 }
def startD (N : List Str) (ds : List D) : DEnv := ds.map some ++ List.replicate (N.length - ds.length) none
theorem start_ok {K : PySem.W.Frag} {F : Hp} {N : List Str} {vs : List V} {ds : List D} (r : RepL K F vs ds) : EnvR K F (L2.start N vs) (startD N ds) := by
  have hl := r.length
  refine ⟨by simp [L2.start, startD, hl], fun i d h => ?_⟩
  unfold startD at h
  unfold L2.start
  rcases Nat.lt_or_ge i ds.length with z | z
  · rw [List.getElem?_append_left (by simpa using z), List.getElem?_map] at h
    cases e : ds[i]? with
    | none => rw [e] at h; cases h
    | some d' =>
      rw [e] at h
      simp only [Option.map_some, Option.some.injEq] at h
      subst h
      obtain ⟨v, hv, rv⟩ := r.get e
      exact ⟨v, by rw [List.getElem?_append_left (by simpa [hl] using z), List.getElem?_map, hv]; rfl, rv⟩
  · rw [List.getElem?_append_right (by simpa using z)] at h
    have := List.mem_of_getElem? h
    simp at this
section
variable {P : Program} {w : World} {K : PySem.W.Frag} {mg : Str → Option Value} {base : Heap} {x qual : Str} {st : Stmt} {f : Addr} {fd : FuncData} {N ps : List Str} {k : Nat} {R : DSp} {RX : DSpX} {ws : DS}
abbrev W0 : WX := fun _ _ _ _ => False
theorem ok_D (F : Fun K x qual st f fd) (S : FnScope N ps (defScope st)) (len : ∀ ds C Pk, R ds C Pk → ds.length = ps.length)
    (hbody : ∀ (cdv : Value) (A : Around) (outer : List Env) (s : Shared) (H : Hp) (E : XK), Room k (A.deeper (envOfC qual (defScope st) s.heap.objs.size f cdv)) → PSs (cxOf CX0 P w K mg base N qual (defScope st) f cdv A outer s H E).nox (defBody st) (tS K W0 ws))
    (hw : ∀ ds C Pk, R ds C Pk → ws (endsD Pk) (startD N ds) C) : FnOk P w K mg base CX0 (k + 1) f fd ps (spD K R) := by
  refine F.ok S (fun vs H Q E ⟨F1, C, ds, Pk, hs, r, h, _⟩ => by rw [r.length]; exact len ds C Pk h) fun cdv A outer s H vs Q E hr ⟨F1, C, ds, Pk, hs, r, h, kk⟩ => ?_
  refine ⟨_, hbody cdv A outer s H E hr, F1, C, startD N ds, endsD Pk, hs, start_ok r, fun _ _ _ _ _ _ _ _ _ _ _ _ z => z.elim, hw ds C Pk h, ?_⟩
  exact ⟨fun σ F2 H2 ρ C2 e2 h2 n2 ⟨C3, s3, q⟩ => kk _ F2 H2 _ C3 e2 (h2.sub s3) .non q, fun v F2 H2 d C2 e2 h2 rv ⟨C3, s3, q⟩ => kk v F2 H2 d C3 e2 (h2.sub s3) rv q, fun _ _ _ _ _ _ _ _ z => z.elim, fun _ _ _ _ _ _ _ _ z => z.elim⟩
/-- what leaves this def -/
abbrev WD (E : XK) : WX := fun cls d _ H => E cls d H
theorem ok_DX (F : Fun K x qual st f fd) (S : FnScope N ps (defScope st)) (len : ∀ ds C Pk PX, RX ds C Pk PX → ds.length = ps.length)
    (hbody : ∀ (cdv : Value) (A : Around) (outer : List Env) (s : Shared) (H : Hp) (E : XK), Room k (A.deeper (envOfC qual (defScope st) s.heap.objs.size f cdv)) → Takes (cxOf (L2.CX P w) P w K mg base N qual (defScope st) f cdv A outer s H E) (WD E) →
      PSs (cxOf (L2.CX P w) P w K mg base N qual (defScope st) f cdv A outer s H E) (defBody st) (tS K (WD E) ws))
    (hw : ∀ ds C Pk PX, RX ds C Pk PX → ws (endsX Pk PX) (startD N ds) C) : FnOk P w K mg base (L2.CX P w) (k + 1) f fd ps (spX K RX) := by
  refine F.okX S (fun vs H Q E ⟨F1, C, ds, Pk, PX, hs, r, h, _⟩ => by rw [r.length]; exact len ds C Pk PX h) fun cdv A outer s H vs Q E hr ⟨F1, C, ds, Pk, PX, hs, r, h, kk, kx⟩ => ?_
  refine ⟨_, hbody cdv A outer s H E hr (takes_of rfl rfl rfl rfl), F1, C, startD N ds, endsX Pk PX, hs, start_ok r, fun cls d fs σ F2 H2 ρ C2 e2 h2 n2 rx ⟨C3, s3, q⟩ => kx cls d fs F2 H2 C3 e2 (h2.sub s3) rx q, hw ds C Pk PX h, ?_⟩
  exact ⟨fun σ F2 H2 ρ C2 e2 h2 n2 ⟨C3, s3, q⟩ => kk _ F2 H2 _ C3 e2 (h2.sub s3) .non q, fun v F2 H2 d C2 e2 h2 rv ⟨C3, s3, q⟩ => kk v F2 H2 d C3 e2 (h2.sub s3) rv q, fun _ _ _ _ _ _ _ _ z => z.elim, fun _ _ _ _ _ _ _ _ z => z.elim⟩
end
end DD

set_option Elab.async false
set_option linter.all false
set_option maxRecDepth 100000
set_option maxHeartbeats 4000000
/-! Readings over data: lists, tuples, built-ins, equality, comprehensions. -/
namespace DD
open PySem L2 PyProof.Rows

/-! ### sequences -/
def seqOf (x : D) (C : Cells) : Option (List D) := match x with
  | .lst ds => some ds
  | .ptr a => match C a with
    | some (.lst ds) => some ds
    | _ => none
  | _ => none
/-- a list or a tuple -/
def itsOf (x : D) (C : Cells) : Option (List D) := match x with
  | .tup ds => some ds
  | x => seqOf x C
section
variable {K : PySem.W.Frag} {F H : Hp} {C : Cells} {v : V} {x : D} {ds : List D}
theorem seq_of (hs : Hs K F C H) (r : Rep K F v x) (h : seqOf x C = some ds) : ∃ a xs, v = .ref a ∧ SqL K H a xs ∧ RepL K F xs ds := by
  cases r <;> first | (simp [seqOf] at h; done) | skip
  · rename_i a xs ds' hq hr
    simp only [seqOf, Option.some.injEq] at h
    subst h
    exact ⟨a, xs, rfl, ex_l hs.ex hq, hr⟩
  · rename_i a
    simp only [seqOf] at h
    split at h
    · rename_i ds' hc
      simp only [Option.some.injEq] at h
      subst h
      obtain ⟨_, xs, hx, r⟩ := hs.cell a _ hc
      exact ⟨a, xs, rfl, .of hx, r⟩
    · cases h
theorem its_of (hs : Hs K F C H) (r : Rep K F v x) (h : itsOf x C = some ds) : ∃ a xs, v = .ref a ∧ (SqL K H a xs ∨ SqT K H a xs) ∧ RepL K F xs ds := by
  have go : seqOf x C = some ds → ∃ a xs, v = .ref a ∧ (SqL K H a xs ∨ SqT K H a xs) ∧ RepL K F xs ds := fun h => by
    obtain ⟨a, xs, h1, h2, h3⟩ := seq_of hs r h
    exact ⟨a, xs, h1, .inl h2, h3⟩
  cases r <;> first
    | exact go h
    | (rename_i a xs ds' hq hr
       simp only [itsOf, Option.some.injEq] at h
       subst h
       exact ⟨a, xs, rfl, .inr (ex_t hs.ex hq), hr⟩)
theorem atI_rep {xs : List V} {d : D} {i : Int} (r : RepL K F xs ds) (h : atI ds i = some d) : ∃ u, atI xs i = some u ∧ Rep K F u d := by
  unfold atI at h ⊢
  rw [r.length]
  cases e : ixN ds.length i with
  | none => rw [e] at h; cases h
  | some j =>
    rw [e] at h
    exact r.get h
end
/-- len(x) -/
def lenOf (x : D) (C : Cells) : Option Nat := match x with
  | .str z => if z.length ≤ 100000 then some z.length else none
  | x => (itsOf x C).map (·.length)
def dLen (ds : List D) (C : Cells) (P : DK) : Prop := match ds with
  | [x] => match lenOf x C with
    | some n => P (.int n) C
    | none => False
  | _ => False
/-- x[i] -/
def itemOf (x : D) (C : Cells) (i : Int) : Option D := match x with
  | .str z => if z.length ≤ 100000 then (atI z.cps.toList i).map fun c => .str ⟨#[c]⟩ else none
  | x => (itsOf x C).bind fun ds => atI ds i
def dIx (x : D) (y : D) (C : Cells) (P : DK) : Prop := match y with
  | .int i => match itemOf x C i with
    | some d => P d C
    | none => False
  | _ => False
section
variable {K : PySem.W.Frag}
theorem RepL.one {F : Hp} {xs : List V} {x : D} (r : RepL K F xs [x]) : ∃ v, xs = [v] ∧ Rep K F v x := by
  cases r with
  | cons r1 r2 =>
    cases r2
    exact ⟨_, rfl, r1⟩
theorem s_len : SimA K (fun xs H Q => ∃ x n, xs = [x] ∧ LenV K x H n ∧ Q (.int n) H) dLen := fun F C H xs ds P Q hs r w k => by
  revert w
  unfold dLen
  split
  · rename_i x
    split
    · rename_i n hn
      intro w
      obtain ⟨v, rfl, r1⟩ := r.one
      refine ⟨v, n, rfl, ?_, k _ F H _ C (Ex.refl F) hs (.int _) w⟩
      have go : ∀ ds', itsOf x C = some ds' → n = ds'.length → LenV K v H n := fun ds' e en => by
        obtain ⟨a, xs, rfl, h2, h3⟩ := its_of hs r1 e
        show (∃ xs, SqL K H a xs ∧ n = xs.length) ∨ ∃ xs, SqT K H a xs ∧ n = xs.length
        rcases h2 with h2 | h2
        · exact .inl ⟨xs, h2, by rw [en, h3.length]⟩
        · exact .inr ⟨xs, h2, by rw [en, h3.length]⟩
      cases r1 <;> first
        | (simp only [lenOf, Option.map_eq_some_iff] at hn
           obtain ⟨ds', e1, e2⟩ := hn
           exact go ds' e1 e2.symm)
        | (simp only [lenOf] at hn
           split at hn
           · rename_i hz
             cases hn
             exact ⟨sz_of hz, rfl⟩
           · cases hn)
    · exact fun z => z.elim
  · exact fun z => z.elim
theorem s_ix : SimR K (rIx K) dIx := fun F C H x y dx dy P Q hs rx ry w k => by
  revert w
  unfold dIx
  split
  · rename_i i
    cases ry
    split
    · rename_i d hd
      intro w
      have go : ∀ ds', itsOf dx C = some ds' → atI ds' i = some d → rIx K x (.int i) H Q := fun ds' e en => by
        obtain ⟨a, xs, rfl, h2, h3⟩ := its_of hs rx e
        obtain ⟨u, hu, ru⟩ := atI_rep h3 en
        rcases h2 with h2 | h2
        · exact .inl ⟨a, xs, i, u, rfl, rfl, h2, hu, k u F H d C (Ex.refl F) hs ru w⟩
        · exact .inr (.inl ⟨a, xs, i, u, rfl, rfl, h2, hu, k u F H d C (Ex.refl F) hs ru w⟩)
      cases rx <;> first
        | (simp only [itemOf, Option.bind_eq_some_iff] at hd
           obtain ⟨ds', e1, e2⟩ := hd
           exact go ds' e1 e2)
        | (simp only [itemOf] at hd
           split at hd
           · rename_i hz
             rw [Option.map_eq_some_iff] at hd
             obtain ⟨c, hc, rfl⟩ := hd
             exact .inr (.inr ⟨_, i, c, rfl, rfl, sz_of hz, hc, k _ F H _ C (Ex.refl F) hs (.str _) w⟩)
           · cases hd)
    · exact fun z => z.elim
  · exact fun z => z.elim
end

/-! ### a list that changes -/
def wSetL (o i e : DE) (E : DEnds) (ρ : DEnv) (C : Cells) : Prop := e ρ C (fun d C1 => o ρ C1 (fun x C2 => i ρ C2 (fun y C3 => match x, y with
  | .ptr a, .int n => match C3 a with
    | some (.lst ds) => match ixN ds.length n with
      | some j => E.nx ρ (cput C3 a (.lst (ds.set j d)))
      | none => False
    | _ => False
  | _, _ => False) E.ex) E.ex) E.ex
/-- o[i] op= e -/
def wAugL (o i e : DE) (r : DR2) (E : DEnds) (ρ : DEnv) (C : Cells) : Prop := o ρ C (fun x C1 => i ρ C1 (fun y C2 => match x, y with
  | .ptr a, .int n => match C2 a with
    | some (.lst ds) => match atI ds n with
      | some d => e ρ C2 (fun z C3 => r d z C3 (fun u C4 => match C4 a with
        | some (.lst ds') => match ixN ds'.length n with
          | some j => E.nx ρ (cput C4 a (.lst (ds'.set j u)))
          | none => False
        | _ => False)) E.ex
      | none => False
    | _ => False
  | _, _ => False) E.ex) E.ex
abbrev DRM := D → List D → Cells → DK → Prop
def isSeq (x : D) (C : Cells) : Prop := (seqOf x C).isSome = true
/-- a list's method -/
def wBML (r : DRM) (o : DE) (a : DA) (ρ : DEnv) (C : Cells) (P : DK) (PX : DX) : Prop := o ρ C (fun x C1 => isSeq x C1 ∧ a ρ C1 (fun ds C2 => r x ds C2 P) PX) PX
def SimM (K : PySem.W.Frag) (r : V → List V → Hp → VK → Prop) (rd : DRM) : Prop := ∀ F C H x dx xs ds P Q, Hs K F C H → Rep K F x dx → RepL K F xs ds → rd dx ds C P → Kont K F P Q → r x xs H Q
def dAppend (x : D) (ds : List D) (C : Cells) (P : DK) : Prop := match x, ds with
  | .ptr a, [d] => match C a with
    | some (.lst xs) => xs.length < 100000 ∧ P .non (cput C a (.lst (xs ++ [d])))
    | _ => False
  | _, _ => False
def dPop (x : D) (ds : List D) (C : Cells) (P : DK) : Prop := match x, ds with
  | .ptr a, [] => match C a with
    | some (.lst xs) => match xs[xs.length - 1]? with
      | some d => P d (cput C a (.lst xs.dropLast))
      | none => False
    | _ => False
  | _, _ => False
section
variable {X : Cx} {W : WX} {K : PySem.W.Frag} {o i e : Expr} {es : List Expr} {wo wi we : DE} {wr : DA} {pos tpos apos : Pos}
theorem i_setL {F H : Hp} {C : Cells} {a : Addr} {ds : List D} {d : D} {v : V} {j : Nat} (hs : Hs K F C H) (hc : C a = some (.lst ds)) (rv : Rep K F v d) :
    ∃ xs, H a = some (.lst xs) ∧ xs.length = ds.length ∧ RepL K F xs ds ∧ Hs K F (cput C a (.lst (ds.set j d))) (upd H a (.lst (xs.set j v))) := by
  obtain ⟨f0, xs, hx, r⟩ := hs.cell a _ hc
  exact ⟨xs, hx, r.length, r, hs.put (c := .lst (ds.set j d)) f0 ⟨_, upd_same, r.set rv j⟩⟩
theorem ds_setL (ho : PE X o (tE X.K W wo)) (hi : PE X i (tE X.K W wi)) (he : PE X e (tE X.K W we))
    (ha : ∀ v, assign (.Subscript o i pos) X.env v = (do
      let ov ← holding [v] (eval o X.env)
      let iv ← holding [v, ov] (eval i X.env)
      standAt pos
      holding [v, ov, iv] (setItem ov iv v)
      release [v, ov, iv] []) := by intro _; rfl)
    (hs : swapsWithSole [.Subscript o i pos] e tpos.line X.env = pure false := by rfl) (hw : swappedStores [.Subscript o i pos] e X.env = pure none := by rfl)
    (h1 : (assignEach [.Subscript o i pos] X.env).map (·.2) = [assign (.Subscript o i pos) X.env] := by rfl) : PS X (.Assign [.Subscript o i pos] e tpos) (tS X.K W (wSetL wo wi we)) :=
  PS.imp (ps_asg he (pg_sub ho hi set_list ha) hs hw h1) fun Dn σ H ⟨F, C, ρ, DE, hs, en, xr, w, er⟩ =>
  ⟨F, C, ρ, _, _, hs, en, xr, w, fun v F1 H1 d C1 e1 h1 rv q => ⟨F1, C1, ρ, _, _, h1, en.mono e1, xr.mono e1, q, fun x F2 H2 dx C2 e2 h2 rx q2 => ⟨F2, C2, ρ, _, _, h2, en.mono (e1.trans e2), xr.mono (e1.trans e2), q2, fun y F3 H3 dy C3 e3 h3 ry q3 => by
    revert q3
    dsimp only
    split
    · rename_i a n
      cases ry
      cases rx
      split
      · rename_i ds hc
        split
        · rename_i j hj
          intro q3
          obtain ⟨xs, hx, hl, r, h4⟩ := i_setL (j := j) h3 hc (rv.mono (e2.trans e3))
          exact ⟨a, xs, n, j, rfl, rfl, hx, by rw [hl]; exact hj, er.nx σ F3 _ ρ _ ((e1.trans e2).trans e3) h4 (en.mono ((e1.trans e2).trans e3)) q3⟩
        · exact fun z => z.elim
      · exact fun z => z.elim
    · exact fun z => z.elim⟩⟩⟩
theorem get_list : PGet X (rIxL X.K) := by
  intro pins s σ H x y v u Q I rx ry h
  obtain ⟨p, xs, i, z, rfl, rfl, hq, he, q⟩ := h
  cases rx
  obtain ⟨t, rfl⟩ := ry
  obtain ⟨its, r, pl, hz⟩ := I.list hq
  obtain ⟨j, h1, h2, h3, h4, h5⟩ := atI_get he
  obtain ⟨w, ew, rw'⟩ := r.get h2
  have hl := r.length
  have hn := line63
  have fin : EP X pins σ Q w s := ⟨z, H, I, rw', q⟩
  by_cases h0 : 0 ≤ i
  · have hj : i.toNat = j := by
      rw [seqIndex_of h0 h5] at h1
      exact Option.some.inj h1
    exact wpAny_getItem_list (x := w) pl.isList h0 (by omega) (by rw [hj]; simpa using ew) fin
  · have hj : (i + (its.toArray.size : Int)).toNat = j := by
      rw [seqIndex_neg (by omega) h4] at h1
      rw [List.size_toArray, ← hl]
      exact Option.some.inj h1
    exact wpAny_getItem_list_neg (x := w) pl.isList (by omega) (by rw [List.size_toArray] <;> omega) (by omega) (by rw [hj]; simpa using ew) fin
theorem ds_augL {op : Operator} {ti : TIp} {rd : DR2} (ho : PE X o (tE X.K W wo)) (hi : PE X i (tE X.K W wi)) (he : PE X e (tE X.K W we)) (hp : PIp X op ti) (hr : SimR X.K ti rd)
    (ha : ∀ ov iv new, augStore i ov iv new = (do holding [new, ov, iv] (setItem ov iv new); release [new, ov, iv] []; pure .next) := by intros; rfl) : PS X (.AugAssign (.Subscript o i tpos) op e pos) (tS X.K W (wAugL wo wi we rd)) :=
  PS.imp (ps_augS ho hi get_list he hp set_list ha) fun Dn σ H ⟨F, C, ρ, DE, hs, en, xr, w, er⟩ =>
  ⟨F, C, ρ, _, _, hs, en, xr, w, fun x F1 H1 dx C1 e1 h1 rx q => ⟨F1, C1, ρ, _, _, h1, en.mono e1, xr.mono e1, q, fun y F2 H2 dy C2 e2 h2 ry q2 => by
    revert q2
    dsimp only
    split
    · rename_i a n
      cases ry
      cases rx
      split
      · rename_i ds hc
        split
        · rename_i d hd
          intro q2
          obtain ⟨f0, xs, hx, r⟩ := h2.cell a _ hc
          obtain ⟨u, hu, ru⟩ := atI_rep r hd
          refine ⟨a, xs, n, u, rfl, rfl, .of hx, hu, F2, C2, ρ, _, _, h2, en.mono (e1.trans e2), xr.mono (e1.trans e2), q2, fun z F3 H3 dz C3 e3 h3 rz q3 => hr F3 C3 H3 u z d dz _ _ h3 (ru.mono e3) rz q3 fun g F4 H4 dg C4 e4 h4 rg q4 => ?_⟩
          revert q4
          split
          · rename_i ds' hc'
            split
            · rename_i j hj
              intro q4
              obtain ⟨xs', hx', hl', r', h5⟩ := i_setL (j := j) h4 hc' rg
              have ee := ((e1.trans e2).trans e3).trans e4
              exact ⟨a, xs', n, j, rfl, rfl, hx', by rw [hl']; exact hj, er.nx σ F4 _ ρ _ ee h5 (en.mono ee) q4⟩
            · exact fun z => z.elim
          · exact fun z => z.elim
        · exact fun z => z.elim
      · exact fun z => z.elim
    · exact fun z => z.elim⟩⟩
theorem isSeq_ty {F H : Hp} {C : Cells} {v : V} {x : D} (hs : Hs K F C H) (r : Rep K F v x) (h : isSeq x C) : tyV K "list" v H := by
  unfold isSeq at h
  obtain ⟨ds, hd⟩ := Option.isSome_iff_exists.mp h
  obtain ⟨a, xs, rfl, h2, _⟩ := seq_of hs r hd
  exact .inl ⟨rfl, xs, h2⟩
theorem d_bmL {id : String} {name : Str} {r : V → List V → Hp → VK → Prop} {rd : DRM} (pa : PlainAttrs "list") (slot : Slot "list" name id) (hty : typeOf (.builtin id) = pure (.type "method_descriptor")) (hm : MtR X id r) (hr : SimM X.K r rd) (ho : PE X o (tE X.K W wo)) (ha : PA X (e :: es) (tA X.K W wr))
    (hbase : attributeBase o name X.env (eval o X.env) = eval o X.env := by rfl)
    (hfew : ((backTo pos (starEach (e :: es) X.env)).all (fun x => !x.1) && (backToKw pos (keywordEach [] X.env)).all (fun x => x.1.isSome)
      && decide ((e :: es).length + ([] : List Keyword).length + (if ([] : List Keyword).isEmpty then 0 else 1) < 30)) = true := by rfl)
    (hline : (apos.endLine == pos.line) = true := by rfl) (hs : starEach (e :: es) X.env = (false, eval e X.env) :: starEach es X.env := by rfl) (hplain : (backTo pos (starEach es X.env)).any (·.1) = false := by rfl) :
    PE X (.Call (.Attribute o name apos) (e :: es) [] pos) (tE X.K W (wBML rd wo wr)) :=
  PE.imp (pe_bm pa slot hty hm ho ha hbase hfew hline hs hplain) fun σ H Q ⟨F, C, ρ, P, PX, hs, en, xr, w, k⟩ => ⟨F, C, ρ, _, PX, hs, en, xr, w, fun v F1 H1 d C1 e1 h1 rv q => ⟨isSeq_ty h1 rv q.1, F1, C1, ρ, _, PX, h1, en.mono e1, xr.mono e1, q.2, fun vs F2 H2 ds C2 e2 h2 rl q2 => hr F2 C2 H2 v d vs ds P Q h2 (rv.mono e2) rl q2 (k.mono (e1.trans e2))⟩⟩
theorem d_bmL0 {id : String} {name : Str} {r : V → List V → Hp → VK → Prop} {rd : DRM} (pa : PlainAttrs "list") (slot : Slot "list" name id) (hty : typeOf (.builtin id) = pure (.type "method_descriptor")) (hm : MtR X id r) (hr : SimM X.K r rd) (ho : PE X o (tE X.K W wo))
    (hbase : attributeBase o name X.env (eval o X.env) = eval o X.env := by rfl) (hline : (apos.endLine == pos.line) = true := by rfl) : PE X (.Call (.Attribute o name apos) [] [] pos) (tE X.K W (wBML rd wo wNil)) :=
  PE.imp (pe_bm0 pa slot hty hm ho hbase hline) fun σ H Q ⟨F, C, ρ, P, PX, hs, en, xr, w, k⟩ => ⟨F, C, ρ, _, PX, hs, en, xr, w, fun v F1 H1 d C1 e1 h1 rv q => ⟨isSeq_ty h1 rv q.1, hr F1 C1 H1 v d [] [] P Q h1 rv .nil q.2 (k.mono e1)⟩⟩
theorem s_append : SimM K rAppend dAppend := fun F C H x dx xs ds P Q hs rx rl w k => by
  revert w
  unfold dAppend
  split
  · rename_i a d
    cases rx
    split
    · rename_i ys hc
      rintro ⟨hl, w⟩
      cases rl with
      | cons r1 r2 =>
        cases r2
        obtain ⟨f0, zs, hx, r⟩ := hs.cell a _ hc
        exact ⟨a, zs, _, rfl, rfl, hx, by rw [r.length]; exact sz_lt hl, k _ F _ _ _ (Ex.refl F) (hs.put (c := .lst (ys ++ [d])) f0 ⟨_, upd_same, r.append (.cons r1 .nil)⟩) .non w⟩
    · exact fun z => z.elim
  · exact fun z => z.elim
theorem s_pop : SimM K rPop dPop := fun F C H x dx xs ds P Q hs rx rl w k => by
  revert w
  unfold dPop
  split
  · rename_i a
    cases rx
    cases rl
    split
    · rename_i ys hc
      split
      · rename_i d hd
        intro w
        obtain ⟨f0, zs, hx, r⟩ := hs.cell a _ hc
        obtain ⟨u, hu, ru⟩ := r.get hd
        exact ⟨a, zs, u, rfl, rfl, hx, by rw [r.length]; exact hu, k _ F _ _ _ (Ex.refl F) (hs.put (c := .lst ys.dropLast) f0 ⟨_, upd_same, r.dropLast⟩) ru w⟩
      · exact fun z => z.elim
    · exact fun z => z.elim
  · exact fun z => z.elim
end
/-! ### + and * of lists, slices, list(..) -/
def dCat (x : D) (y : D) (C : Cells) (P : DK) : Prop := match seqOf x C, seqOf y C with
  | some xs, some ys => xs.length + ys.length ≤ 100000 ∧ P (.lst (xs ++ ys)) C
  | _, _ => False
def rCatS (K : PySem.W.Frag) : R2 := fun x y H Q => ∃ l b xs zs, x = .ref l ∧ y = .ref b ∧ SqL K H l xs ∧ SqL K H b zs ∧ xs.length + zs.length ≤ sizeLine ∧ ∀ p, H p = none → Q (.ref p) (upd H p (.lst (xs ++ zs)))
theorem op_catS {X : Cx} : OpR X (binaryOp .Add) (rCatS X.K) := by
  intro pins s σ H x y v u Q I rx ry h
  obtain ⟨l, b, xs, zs, rfl, rfl, hH, hB, hz, q⟩ := h
  cases rx
  cases ry
  obtain ⟨its, r, pl, _⟩ := I.list hH
  obtain ⟨its2, r2, pl2, _⟩ := I.list hB
  obtain ⟨⟨cls, dd, data, sl⟩, ho, hc, n, hd⟩ := id pl.isList
  obtain ⟨⟨cls2, dd2, data2, sl2⟩, ho2, hc2, n2, hd2⟩ := id pl2.isList
  simp only at hc hd hc2 hd2
  subst hc hd hc2 hd2
  have hl := r.length
  have hl2 := r2.length
  have e : its.toArray ++ its2.toArray = (its ++ its2).toArray := by simp
  refine concat_meets ⟨_, ho, rfl⟩ ⟨_, ho2, rfl⟩ noFill_list_add seq_list_add PySem.F.slot_list_add PySem.F.entry_list_add (PySem.F.args_list_add_2 _ _) (list_addW l b its.toArray its2.toArray n n2 dd dd2 sl sl2 (by rw [List.size_toArray, List.size_toArray]; omega)) ⟨ho, ho2, ?_⟩
  rw [e]
  exact ⟨.ref _, _, I.lnew (t' := s.toks) (r.append r2) (by rw [List.length_append]; omega), rfl, q _ I.fresh⟩
section
variable {X : Cx} {W : WX} {K : PySem.W.Frag}
theorem s_cat : SimR K (rCatS K) dCat := fun F C H x y dx dy P Q hs rx ry w k => by
  revert w
  unfold dCat
  split
  · rename_i xs ys h1 h2
    rintro ⟨hz, w⟩
    obtain ⟨a, us, rfl, hu, ru⟩ := seq_of hs rx h1
    obtain ⟨b, vs, rfl, hv, rv⟩ := seq_of hs ry h2
    refine ⟨a, b, us, vs, rfl, rfl, hu, hv, by rw [ru.length, rv.length]; exact sz_of hz, fun p hp => ?_⟩
    obtain ⟨e2, h3, r3⟩ := hs.newL (ru.append rv) hp
    exact k _ _ _ _ C e2 h3 r3 w
  · exact fun z => z.elim
/-- [e, ..] * n, the new list frozen, or a cell -/
def wRep (a : DA) (n : DE) (ρ : DEnv) (C : Cells) (P : DK) (PX : DX) : Prop := a ρ C (fun ds C1 => ds.length ≤ 100000 ∧ n ρ C1 (fun y C2 => match y with
  | .int k => (-(2 ^ 63) ≤ k ∧ k < 2 ^ 63 ∧ ds.length * k.toNat ≤ 100000) ∧ P (.lst (List.replicate k.toNat ds).flatten) C2
  | _ => False) PX) PX
def wRepC (a : DA) (n : DE) (ρ : DEnv) (C : Cells) (P : DK) (PX : DX) : Prop := a ρ C (fun ds C1 => ds.length ≤ 100000 ∧ n ρ C1 (fun y C2 => match y with
  | .int k => (-(2 ^ 63) ≤ k ∧ k < 2 ^ 63 ∧ ds.length * k.toNat ≤ 100000) ∧ ∀ p, C2 p = none → P (.ptr p) (cput C2 p (.lst (List.replicate k.toNat ds).flatten))
  | _ => False) PX) PX
theorem RepL.flat {F : Hp} {xs : List V} {ds : List D} (r : RepL K F xs ds) : ∀ n, RepL K F (List.replicate n xs).flatten (List.replicate n ds).flatten
  | 0 => .nil
  | n + 1 => by
    rw [List.replicate_succ, List.flatten_cons, List.replicate_succ, List.flatten_cons]
    exact r.append (RepL.flat r n)
theorem d_rep {es : List Expr} {b : Expr} {wr : DA} {wb : DE} {pos p2 : Pos} (ha : PA X es (tA X.K W wr)) (hb : PE X b (tE X.K W wb)) : PE X (.BinOp (.List es p2) .Mult b pos) (tE X.K W (wRep wr wb)) :=
  PE.imp (pe_op op_rep (pe_lst ha) hb) fun σ H Q ⟨F, C, ρ, P, PX, hs, en, xr, w, k⟩ => by
  refine ⟨F, C, ρ, _, PX, hs, en, xr, w, fun vs F1 H1 ds C1 e1 h1 r q => ?_⟩
  obtain ⟨hz, q⟩ := q
  refine ⟨by rw [r.length]; exact sz_of hz, fun p hp => ?_⟩
  obtain ⟨e2, h2, r2⟩ := h1.newL r hp
  refine ⟨_, C1, ρ, _, PX, h2, en.mono (e1.trans e2), xr.mono (e1.trans e2), q, fun u F3 H3 dy C3 e3 h3 ry q3 => ?_⟩
  revert q3
  dsimp only
  split
  · rename_i n
    rintro ⟨⟨b1, b2, b3⟩, q3⟩
    cases ry
    refine ⟨p, n, vs, rfl, rfl, h3.ex _ _ (e3 _ _ upd_same), b1, b2, by rw [r.length]; exact sz_of b3, fun l hl => ?_⟩
    obtain ⟨e4, h4, r4⟩ := h3.newL ((r.mono (e2.trans e3)).flat n.toNat) hl
    exact k _ _ _ _ C3 (((e1.trans e2).trans e3).trans e4) h4 r4 q3
  · exact fun z => z.elim
theorem d_repC {es : List Expr} {b : Expr} {wr : DA} {wb : DE} {pos p2 : Pos} (ha : PA X es (tA X.K W wr)) (hb : PE X b (tE X.K W wb)) : PE X (.BinOp (.List es p2) .Mult b pos) (tE X.K W (wRepC wr wb)) :=
  PE.imp (pe_op op_rep (pe_lst ha) hb) fun σ H Q ⟨F, C, ρ, P, PX, hs, en, xr, w, k⟩ => by
  refine ⟨F, C, ρ, _, PX, hs, en, xr, w, fun vs F1 H1 ds C1 e1 h1 r q => ?_⟩
  obtain ⟨hz, q⟩ := q
  refine ⟨by rw [r.length]; exact sz_of hz, fun p hp => ?_⟩
  obtain ⟨e2, h2, r2⟩ := h1.newL r hp
  refine ⟨_, C1, ρ, _, PX, h2, en.mono (e1.trans e2), xr.mono (e1.trans e2), q, fun u F3 H3 dy C3 e3 h3 ry q3 => ?_⟩
  revert q3
  dsimp only
  split
  · rename_i n
    rintro ⟨⟨b1, b2, b3⟩, q3⟩
    cases ry
    refine ⟨p, n, vs, rfl, rfl, h3.ex _ _ (e3 _ _ upd_same), b1, b2, by rw [r.length]; exact sz_of b3, fun l hl => ?_⟩
    obtain ⟨c0, h4⟩ := h3.newC ((r.mono (e2.trans e3)).flat n.toNat) hl
    exact k _ _ _ _ _ ((e1.trans e2).trans e3) h4 (.ptr l) (q3 l c0)
  · exact fun z => z.elim
end
/-! ### slices -/
abbrev DO := DEnv → Cells → (Option Int → Cells → Prop) → DX → Prop
def wNoPart (_ : DEnv) (C : Cells) (P : Option Int → Cells → Prop) (_ : DX) : Prop := P none C
def wPart (e : DE) (ρ : DEnv) (C : Cells) (P : Option Int → Cells → Prop) (PX : DX) : Prop := e ρ C (fun d C1 => match d with | .int i => P (some i) C1 | _ => False) PX
def tO (K : PySem.W.Frag) (W : WX) (w : DO) : TO := fun σ H Q => ∃ F C ρ P PX, Hs K F C H ∧ EnvR K F σ ρ ∧ ExR K F W PX ∧ w ρ C P PX ∧ ∀ o F' H' C', Ex F F' → Hs K F' C' H' → P o C' → Q o H'
theorem PO.imp {X : Cx} {e : Option Expr} {t t' : TO} (h : PO X e t) (i : ∀ σ H Q, t' σ H Q → t σ H Q) : PO X e t' := ⟨fun pins s σ H Q I w => h.run pins s σ H Q I (i σ H Q w)⟩
def cutD (xs : List D) (lo hi : Option Int) : List D := (xs.drop (HT.sIx xs.length 0 lo)).take (HT.sIx xs.length xs.length hi - HT.sIx xs.length 0 lo)
def wSl (e : DE) (lo hi : DO) (ρ : DEnv) (C : Cells) (P : DK) (PX : DX) : Prop := e ρ C (fun x C1 => lo ρ C1 (fun l C2 => hi ρ C2 (fun h C3 => match seqOf x C3 with
  | some ds => P (.lst (cutD ds l h)) C3
  | none => False) PX) PX) PX
section
variable {X : Cx} {W : WX} {K : PySem.W.Frag}
theorem do_none : PO X none (tO X.K W wNoPart) := PO.imp po_none fun σ H Q ⟨F, C, ρ, P, PX, hs, en, xr, w, k⟩ => k _ F H C (Ex.refl F) hs w
theorem do_some {e : Expr} {we : DE} (he : PE X e (tE X.K W we)) : PO X (some e) (tO X.K W (wPart we)) := PO.imp (po_some he) fun σ H Q ⟨F, C, ρ, P, PX, hs, en, xr, w, k⟩ =>
  ⟨F, C, ρ, _, PX, hs, en, xr, w, fun v F1 H1 d C1 e1 h1 r q => by
    cases r <;> first | exact q.elim | exact ⟨_, rfl, k _ F1 H1 C1 e1 h1 q⟩⟩
theorem RepL.cut {F : Hp} {xs : List V} {ds : List D} (r : RepL K F xs ds) (lo hi : Option Int) : RepL K F (cutV xs lo hi) (cutD ds lo hi) := by
  unfold cutV cutD
  rw [r.length]
  exact (r.drop _).take _
theorem d_sl {e : Expr} {lo hi : Option Expr} {we : DE} {wl wh : DO} {p2 pos : Pos} (he : PE X e (tE X.K W we)) (hl : PO X lo (tO X.K W wl)) (hh : PO X hi (tO X.K W wh)) : PE X (.Subscript e (.Slice lo hi none p2) pos) (tE X.K W (wSl we wl wh)) :=
  PE.imp (pe_slice sl_list he hl hh) fun σ H Q ⟨F, C, ρ, P, PX, hs, en, xr, w, k⟩ =>
  ⟨F, C, ρ, _, PX, hs, en, xr, w, fun v F1 H1 x C1 e1 h1 rv q => ⟨F1, C1, ρ, _, PX, h1, en.mono e1, xr.mono e1, q, fun l F2 H2 C2 e2 h2 q2 => ⟨F2, C2, ρ, _, PX, h2, en.mono (e1.trans e2), xr.mono (e1.trans e2), q2, fun h F3 H3 C3 e3 h3 q3 => by
    revert q3
    dsimp only
    split
    · rename_i ds hd
      intro q3
      obtain ⟨a, us, rfl, hu, ru⟩ := seq_of h3 (rv.mono (e2.trans e3)) hd
      refine ⟨a, us, rfl, hu, fun p hp => ?_⟩
      obtain ⟨e4, h4, r4⟩ := h3.newL (ru.cut l h) hp
      exact k _ _ _ _ C3 (((e1.trans e2).trans e3).trans e4) h4 r4 q3
    · exact fun z => z.elim⟩⟩⟩
end

/-! ### built-ins -/
/-- list(x): frozen, a cell -/
def dList (ds : List D) (C : Cells) (P : DK) : Prop := match ds with
  | [x] => match itsOf x C with
    | some xs => P (.lst xs) C
    | none => False
  | _ => False
def dListC (ds : List D) (C : Cells) (P : DK) : Prop := match ds with
  | [x] => match itsOf x C with
    | some xs => ∀ p, C p = none → P (.ptr p) (cput C p (.lst xs))
    | none => False
  | _ => False
def dTupleOf (ds : List D) (C : Cells) (P : DK) : Prop := match ds with
  | [x] => match itsOf x C with
    | some xs => P (.tup xs) C
    | none => False
  | _ => False
def dMax2 (ds : List D) (C : Cells) (P : DK) : Prop := match ds with
  | [.int i, .int j] => P (.int (max i j)) C
  | _ => False
def dMin2 (ds : List D) (C : Cells) (P : DK) : Prop := match ds with
  | [.int i, .int j] => P (.int (min i j)) C
  | _ => False
def dAbs (ds : List D) (C : Cells) (P : DK) : Prop := match ds with
  | [.int i] => P (.int i.natAbs) C
  | _ => False
def dInt (ds : List D) (C : Cells) (P : DK) : Prop := match ds with
  | [.int i] => P (.int i) C
  | [.bl b] => P (.int (if b then 1 else 0)) C
  | _ => False
/-- the whole numbers of a list -/
def IntsOf (x : D) (C : Cells) (ns : List Int) : Prop := seqOf x C = some (ns.map D.int)
def dSum (ds : List D) (C : Cells) (P : DK) : Prop := match ds with
  | [x] => ∃ ns, IntsOf x C ns ∧ P (.int ns.sum) C
  | _ => False
def maxI : List Int → Int
  | [] => 0
  | x :: r => r.foldl max x
def minI : List Int → Int
  | [] => 0
  | x :: r => r.foldl min x
def dMaxL (ds : List D) (C : Cells) (P : DK) : Prop := match ds with
  | [x] => ∃ ns, IntsOf x C ns ∧ ns ≠ [] ∧ P (.int (maxI ns)) C
  | _ => False
def dMinL (ds : List D) (C : Cells) (P : DK) : Prop := match ds with
  | [x] => ∃ ns, IntsOf x C ns ∧ ns ≠ [] ∧ P (.int (minI ns)) C
  | _ => False
def sortI (ns : List Int) : List Int := ns.mergeSort (fun a b => decide (a ≤ b))
def dSortI (ds : List D) (C : Cells) (P : DK) : Prop := match ds with
  | [x] => ∃ ns, IntsOf x C ns ∧ P (.lst ((sortI ns).map D.int)) C
  | _ => False
theorem foldl_max_spec : ∀ (r : List Int) (x : Int), (r.foldl max x = x ∨ r.foldl max x ∈ r) ∧ x ≤ r.foldl max x ∧ ∀ y ∈ r, y ≤ r.foldl max x
  | [], x => ⟨.inl rfl, Int.le_refl _, by simp⟩
  | z :: r, x => by
    obtain ⟨h1, h2, h3⟩ := foldl_max_spec r (max x z)
    simp only [List.foldl_cons]
    refine ⟨?_, by omega, fun y hy => ?_⟩
    · rcases h1 with h1 | h1
      · rcases Int.le_total x z with h | h
        · rw [h1, Int.max_eq_right h]; exact .inr List.mem_cons_self
        · rw [h1, Int.max_eq_left h]; exact .inl rfl
      · exact .inr (List.mem_cons_of_mem _ h1)
    · rcases List.mem_cons.mp hy with rfl | hy
      · omega
      · exact h3 y hy
theorem foldl_min_spec : ∀ (r : List Int) (x : Int), (r.foldl min x = x ∨ r.foldl min x ∈ r) ∧ r.foldl min x ≤ x ∧ ∀ y ∈ r, r.foldl min x ≤ y
  | [], x => ⟨.inl rfl, Int.le_refl _, by simp⟩
  | z :: r, x => by
    obtain ⟨h1, h2, h3⟩ := foldl_min_spec r (min x z)
    simp only [List.foldl_cons]
    refine ⟨?_, by omega, fun y hy => ?_⟩
    · rcases h1 with h1 | h1
      · rcases Int.le_total x z with h | h
        · rw [h1, Int.min_eq_left h]; exact .inl rfl
        · rw [h1, Int.min_eq_right h]; exact .inr List.mem_cons_self
      · exact .inr (List.mem_cons_of_mem _ h1)
    · rcases List.mem_cons.mp hy with rfl | hy
      · omega
      · exact h3 y hy
theorem maxI_spec : ∀ {ns : List Int}, ns ≠ [] → maxI ns ∈ ns ∧ ∀ y ∈ ns, y ≤ maxI ns
  | [], h => absurd rfl h
  | x :: r, _ => by
    obtain ⟨h1, h2, h3⟩ := foldl_max_spec r x
    refine ⟨?_, fun y hy => ?_⟩
    · show r.foldl max x ∈ x :: r
      rcases h1 with h1 | h1
      · rw [h1]; exact List.mem_cons_self
      · exact List.mem_cons_of_mem _ h1
    · show y ≤ r.foldl max x
      rcases List.mem_cons.mp hy with rfl | hy
      · exact h2
      · exact h3 y hy
theorem minI_spec : ∀ {ns : List Int}, ns ≠ [] → minI ns ∈ ns ∧ ∀ y ∈ ns, minI ns ≤ y
  | [], h => absurd rfl h
  | x :: r, _ => by
    obtain ⟨h1, h2, h3⟩ := foldl_min_spec r x
    refine ⟨?_, fun y hy => ?_⟩
    · show r.foldl min x ∈ x :: r
      rcases h1 with h1 | h1
      · rw [h1]; exact List.mem_cons_self
      · exact List.mem_cons_of_mem _ h1
    · show r.foldl min x ≤ y
      rcases List.mem_cons.mp hy with rfl | hy
      · exact h2
      · exact h3 y hy
theorem sortI_perm (ns : List Int) : (sortI ns).Perm ns := List.mergeSort_perm ns _
theorem sortI_pair (ns : List Int) : (sortI ns).Pairwise (· ≤ ·) := by
  have h := List.pairwise_mergeSort (le := fun a b : Int => decide (a ≤ b)) (by intro a b c; simp; omega) (by intro a b; simp; omega) ns
  exact h.imp (by intro a b; simp)
theorem sorted_unique : ∀ {xs ys : List Int}, xs.Perm ys → xs.Pairwise (· ≤ ·) → ys.Pairwise (· ≤ ·) → xs = ys := fun {xs ys} p h1 h2 =>
  p.eq_of_pairwise (fun a b _ _ h h' => by omega) h1 h2
section
variable {K : PySem.W.Frag}
theorem ints_of {F H : Hp} {C : Cells} {v : V} {x : D} {ns : List Int} (hs : Hs K F C H) (r : Rep K F v x) (h : IntsOf x C ns) : ∃ a, v = .ref a ∧ SqL K H a (ns.map V.int) := by
  obtain ⟨a, xs, rfl, h2, h3⟩ := seq_of hs r h
  rw [h3.of_ints] at h2
  exact ⟨a, rfl, h2⟩
theorem s_list : SimA K (fun xs H Q => ∃ p ys, xs = [.ref p] ∧ (SqL K H p ys ∨ SqT K H p ys) ∧ ∀ l, H l = none → Q (.ref l) (upd H l (.lst ys))) dList := fun F C H xs ds P Q hs r w k => by
  revert w
  unfold dList
  split
  · split
    · rename_i ys hy
      intro w
      cases r with
      | cons r1 r2 =>
        cases r2
        obtain ⟨a, us, rfl, h2, h3⟩ := its_of hs r1 hy
        refine ⟨a, us, rfl, h2, fun p hp => ?_⟩
        obtain ⟨e4, h4, r4⟩ := hs.newL h3 hp
        exact k _ _ _ _ C e4 h4 r4 w
    · exact fun z => z.elim
  · exact fun z => z.elim
theorem s_listC : SimA K (fun xs H Q => ∃ p ys, xs = [.ref p] ∧ (SqL K H p ys ∨ SqT K H p ys) ∧ ∀ l, H l = none → Q (.ref l) (upd H l (.lst ys))) dListC := fun F C H xs ds P Q hs r w k => by
  revert w
  unfold dListC
  split
  · split
    · rename_i ys hy
      intro w
      cases r with
      | cons r1 r2 =>
        cases r2
        obtain ⟨a, us, rfl, h2, h3⟩ := its_of hs r1 hy
        refine ⟨a, us, rfl, h2, fun p hp => ?_⟩
        obtain ⟨c0, h4⟩ := hs.newC h3 hp
        exact k _ _ _ _ _ (Ex.refl F) h4 (.ptr p) (w p c0)
    · exact fun z => z.elim
  · exact fun z => z.elim
theorem s_max2 : SimA K (fun xs H Q => ∃ i j, xs = [.int i, .int j] ∧ Q (.int (if j > i then j else i)) H) dMax2 := fun F C H xs ds P Q hs r w k => by
  revert w
  unfold dMax2
  split
  · rename_i i j
    intro w
    cases r with
    | cons r1 r2 =>
      cases r1
      cases r2 with
      | cons r3 r4 =>
        cases r3; cases r4
        refine ⟨i, j, rfl, k _ F H _ C (Ex.refl F) hs (.int _) ?_⟩
        rw [show (if j > i then j else i) = max i j by split <;> omega]
        exact w
  · exact fun z => z.elim
theorem s_min2 : SimA K (fun xs H Q => ∃ i j, xs = [.int i, .int j] ∧ Q (.int (if j < i then j else i)) H) dMin2 := fun F C H xs ds P Q hs r w k => by
  revert w
  unfold dMin2
  split
  · rename_i i j
    intro w
    cases r with
    | cons r1 r2 =>
      cases r1
      cases r2 with
      | cons r3 r4 =>
        cases r3; cases r4
        refine ⟨i, j, rfl, k _ F H _ C (Ex.refl F) hs (.int _) ?_⟩
        rw [show (if j < i then j else i) = min i j by split <;> omega]
        exact w
  · exact fun z => z.elim
theorem s_abs : SimA K (fun xs H Q => ∃ i, xs = [.int i] ∧ Q (.int (if i < 0 then -i else i)) H) dAbs := fun F C H xs ds P Q hs r w k => by
  revert w
  unfold dAbs
  split
  · rename_i i
    intro w
    cases r with
    | cons r1 r2 =>
      cases r1; cases r2
      refine ⟨i, rfl, k _ F H _ C (Ex.refl F) hs (.int _) ?_⟩
      rw [show (if i < 0 then -i else i) = (i.natAbs : Int) by split <;> omega]
      exact w
  · exact fun z => z.elim
theorem s_int : SimA K (fun xs H Q => (∃ i, xs = [.int i] ∧ Q (.int i) H) ∨ ∃ k, xs = [.bl k] ∧ Q (.int (if k then 1 else 0)) H) dInt := fun F C H xs ds P Q hs r w k => by
  revert w
  unfold dInt
  split
  · rename_i i
    intro w
    cases r with
    | cons r1 r2 =>
      cases r1; cases r2
      exact .inl ⟨i, rfl, k _ F H _ C (Ex.refl F) hs (.int _) w⟩
  · rename_i b
    intro w
    cases r with
    | cons r1 r2 =>
      cases r1; cases r2
      exact .inr ⟨b, rfl, k _ F H _ C (Ex.refl F) hs (.int _) w⟩
  · exact fun z => z.elim
theorem s_sum : SimA K (rSum K) dSum := fun F C H xs ds P Q hs r w k => by
  revert w
  unfold dSum
  split
  · rintro ⟨ns, hn, w⟩
    cases r with
    | cons r1 r2 =>
      cases r2
      obtain ⟨a, rfl, h2⟩ := ints_of hs r1 hn
      exact ⟨a, ns, rfl, h2, k _ F H _ C (Ex.refl F) hs (.int _) w⟩
  · exact fun z => z.elim
theorem s_maxL : SimA K (rMax K) dMaxL := fun F C H xs ds P Q hs r w k => by
  revert w
  unfold dMaxL
  split
  · rintro ⟨ns, hn, hne, w⟩
    cases r with
    | cons r1 r2 =>
      cases r2
      obtain ⟨a, rfl, h2⟩ := ints_of hs r1 hn
      refine ⟨a, ns, rfl, h2, List.length_pos_iff.mpr hne, fun m hm hle => ?_⟩
      obtain ⟨g1, g2⟩ := maxI_spec hne
      rw [show m = maxI ns from Int.le_antisymm (g2 m hm) (hle _ g1)]
      exact k _ F H _ C (Ex.refl F) hs (.int _) w
  · exact fun z => z.elim
theorem s_minL : SimA K (rMin K) dMinL := fun F C H xs ds P Q hs r w k => by
  revert w
  unfold dMinL
  split
  · rintro ⟨ns, hn, hne, w⟩
    cases r with
    | cons r1 r2 =>
      cases r2
      obtain ⟨a, rfl, h2⟩ := ints_of hs r1 hn
      refine ⟨a, ns, rfl, h2, List.length_pos_iff.mpr hne, fun m hm hle => ?_⟩
      obtain ⟨g1, g2⟩ := minI_spec hne
      rw [show m = minI ns from Int.le_antisymm (hle _ g1) (g2 m hm)]
      exact k _ F H _ C (Ex.refl F) hs (.int _) w
  · exact fun z => z.elim
theorem s_sortI : SimA K (rSortedI K) dSortI := fun F C H xs ds P Q hs r w k => by
  revert w
  unfold dSortI
  split
  · rintro ⟨ns, hn, w⟩
    cases r with
    | cons r1 r2 =>
      cases r2
      obtain ⟨a, rfl, h2⟩ := ints_of hs r1 hn
      refine ⟨a, ns, rfl, h2, fun ns' p hp hr hf => ?_⟩
      have e : ns' = sortI ns := sorted_unique (hp.trans (sortI_perm ns).symm) hr (sortI_pair ns)
      subst e
      obtain ⟨e4, h4, r4⟩ := hs.newL (RepL.ints _) hf
      exact k _ _ _ _ C e4 h4 r4 w
  · exact fun z => z.elim
end
end DD

set_option Elab.async false
set_option linter.all false
set_option maxRecDepth 100000
set_option maxHeartbeats 4000000
/-! Readings over data: == of nested data, in, comprehensions. -/
namespace DD
open PySem L2 PyProof.Rows

mutual
def D.py : D → PyData
  | .non => .none
  | .bl b => .bool b
  | .int i => .int i
  | .str x => .str x
  | .tup xs => .tuple (pys xs)
  | .lst xs => .list (pys xs)
  | .ins _ _ => .dict []
  | .ptr _ => .dict []
  | .dK _ => .dict []
  | .dT _ => .dict []
def pys : List D → List PyData
  | [] => []
  | d :: r => d.py :: pys r
end
/-- data of a depth, of nothing but None, bools, ints, texts, lists, tuples -/
inductive Dat : Nat → D → Prop where
  | non {n} : Dat n .non
  | bl {n} (b : Bool) : Dat n (.bl b)
  | int {n} (i : Int) : Dat n (.int i)
  | str {n} {x : Str} (h : PyData.canLay0 (.str x) = true) : Dat n (.str x)
  | tup {n} {ds : List D} (h : ∀ d, d ∈ ds → Dat n d) : Dat (n + 1) (.tup ds)
  | lst {n} {ds : List D} (h : ∀ d, d ∈ ds → Dat n d) : Dat (n + 1) (.lst ds)
theorem dat_mono : ∀ {n m : Nat} {d : D}, Dat n d → n ≤ m → Dat m d
  | _, _, _, .non, _ => .non
  | _, _, _, .bl b, _ => .bl b
  | _, _, _, .int i, _ => .int i
  | _, _, _, .str h, _ => .str h
  | n + 1, m, _, .tup h, l => by
    obtain ⟨k, rfl⟩ : ∃ k, m = k + 1 := ⟨m - 1, by omega⟩
    exact .tup fun d hd => dat_mono (h d hd) (by omega)
  | n + 1, m, _, .lst h, l => by
    obtain ⟨k, rfl⟩ : ∃ k, m = k + 1 := ⟨m - 1, by omega⟩
    exact .lst fun d hd => dat_mono (h d hd) (by omega)
theorem pys_lay {n : Nat} : ∀ ds : List D, (∀ d, d ∈ ds → PyData.canLay0 d.py = true ∧ d.py.depth ≤ n) → PyData.canLayAll0 (pys ds) = true ∧ PyData.depthAll (pys ds) ≤ n
  | [], _ => by simp [pys, PyData.canLayAll0, PyData.depthAll]
  | d :: r, h => by
    obtain ⟨h1, h2⟩ := h d List.mem_cons_self
    obtain ⟨h3, h4⟩ := pys_lay r fun e he => h e (List.mem_cons_of_mem _ he)
    refine ⟨by simp [pys, PyData.canLayAll0, h1, h3], ?_⟩
    simp only [pys, PyData.depthAll]
    omega
theorem dat_lay : ∀ {n : Nat} {d : D}, Dat n d → PyData.canLay0 d.py = true ∧ d.py.depth ≤ n
  | _, _, .non => by simp [D.py, PyData.canLay0, PyData.depth]
  | _, _, .bl b => by simp [D.py, PyData.canLay0, PyData.depth]
  | _, _, .int i => by simp [D.py, PyData.canLay0, PyData.depth]
  | _, _, .str h => ⟨h, by simp [D.py, PyData.depth]⟩
  | n + 1, _, .tup (ds := ds) h => by
    obtain ⟨h1, h2⟩ := pys_lay (n := n) ds fun d hd => dat_lay (h d hd)
    exact ⟨by simp only [D.py, PyData.canLay0, h1], by simp only [D.py, PyData.depth]; omega⟩
  | n + 1, _, .lst (ds := ds) h => by
    obtain ⟨h1, h2⟩ := pys_lay (n := n) ds fun d hd => dat_lay (h d hd)
    exact ⟨by simp only [D.py, PyData.canLay0, h1], by simp only [D.py, PyData.depth]; omega⟩
theorem dat_shaped {n : Nat} {d : D} (h : Dat n d) (hn : n ≤ 60) : SeqAt.shaped d.py = true := by
  obtain ⟨h1, h2⟩ := dat_lay h
  unfold SeqAt.shaped
  rw [h1, decide_eq_true (by omega)]
  rfl
/-- == of data -/
def D.eqb (x y : D) : Bool := PyData.eqv x.py y.py
theorem eqb_self {n : Nat} {d : D} (h : Dat n d) : d.eqb d = true := SeqAt.eqv_refl _ (dat_lay h).1
/-- a list that is a cell, as data -/
def D.res (C : Cells) : D → D
  | .ptr a => match C a with
    | some (.lst ds) => .lst ds
    | _ => .ptr a
  | d => d
def dEqD (neg : Bool) (x : D) (y : D) (C : Cells) (P : DK) : Prop := ∃ n, n ≤ 60 ∧ Dat n (x.res C) ∧ Dat n (y.res C) ∧ P (.bl (neg ^^ (x.res C).eqb (y.res C))) C
section
variable {K : PySem.W.Frag} {F H : Hp} {C : Cells}
theorem dpAll_of {n : Nat} : ∀ {ds : List D} {xs : List V}, (∀ d, d ∈ ds → ∀ v, Rep K F v d → Dp K H v d.py) → RepL K F xs ds → DpAll K H xs (pys ds)
  | [], _, _, .nil => by simp only [pys]; exact .nil
  | d :: r, _, h, .cons h1 h2 => by
    simp only [pys]
    exact .cons (h d List.mem_cons_self _ h1) (dpAll_of (n := n) (fun e he => h e (List.mem_cons_of_mem _ he)) h2)
theorem rep_dp (ex : Ex F H) : ∀ {n : Nat} {d : D}, Dat n d → ∀ v, Rep K F v d → Dp K H v d.py
  | _, _, .non, v, r => by cases r; exact .non
  | _, _, .bl b, v, r => by cases r; exact .bl b
  | _, _, .int i, v, r => by cases r; exact .int i
  | _, _, .str h, v, r => by cases r; exact .str _
  | n + 1, _, .tup h, v, r => by
    cases r with
    | tup hq hr => exact .tup (ex_t ex hq) (dpAll_of (n := n) (fun d hd v r => rep_dp ex (h d hd) v r) hr)
  | n + 1, _, .lst h, v, r => by
    cases r with
    | lst hq hr => exact .lst (ex_l ex hq) (dpAll_of (n := n) (fun d hd v r => rep_dp ex (h d hd) v r) hr)
theorem res_dp (hs : Hs K F C H) {n : Nat} {v : V} {x : D} (r : Rep K F v x) (h : Dat n (x.res C)) : Dp K H v (x.res C).py := by
  cases x with
  | ptr a =>
    cases r
    revert h
    show Dat n (match C a with | some (.lst ds) => .lst ds | _ => .ptr a) → Dp K H (.ref a) (D.py (match C a with | some (.lst ds) => .lst ds | _ => .ptr a))
    split
    · rename_i ds hc
      intro h
      obtain ⟨_, xs, hx, r⟩ := hs.cell a _ hc
      cases h with
      | lst h =>
        rename_i m
        exact .lst (.of hx) (dpAll_of (n := m) (fun d hd v r => rep_dp hs.ex (h d hd) v r) r)
    · intro h; cases h
  | _ => exact rep_dp hs.ex h v r
theorem s_eqD : SimR K (rEqD K) (dEqD false) := fun F C H x y dx dy P Q hs rx ry w k => by
  obtain ⟨n, hn, h1, h2, w⟩ := w
  refine ⟨_, _, res_dp hs rx h1, res_dp hs ry h2, dat_shaped h1 hn, dat_shaped h2 hn, ?_⟩
  rw [Bool.false_xor] at w
  exact k _ F H _ C (Ex.refl F) hs (.bl _) w
theorem s_neD : SimR K (rNeD K) (dEqD true) := fun F C H x y dx dy P Q hs rx ry w k => by
  obtain ⟨n, hn, h1, h2, w⟩ := w
  refine ⟨_, _, res_dp hs rx h1, res_dp hs ry h2, dat_shaped h1 hn, dat_shaped h2 hn, ?_⟩
  rw [Bool.true_xor] at w
  exact k _ F H _ C (Ex.refl F) hs (.bl _) w
end

/-! ### x in xs, of flat things -/
def toV : D → V
  | .non => .non
  | .bl b => .bl b
  | .int i => .int i
  | .str x => .str x
  | _ => .non
def flatD : D → Bool
  | .non => true
  | .bl _ => true
  | .int _ => true
  | .str _ => true
  | _ => false
/-- x is one of the items -/
def inD (x : D) (ds : List D) : Bool := ds.any fun y => eqV (toV y) (toV x)
def dIn (neg : Bool) (x : D) (y : D) (C : Cells) (P : DK) : Prop := match itsOf y C with
  | some ds => flatD x = true ∧ ds.all flatD = true ∧ P (.bl (neg ^^ inD x ds)) C
  | none => False
section
variable {K : PySem.W.Frag} {F H : Hp} {C : Cells}
theorem flat_rep {v : V} {x : D} (r : Rep K F v x) (h : flatD x = true) : v = toV x ∧ flatV v = true := by
  cases r <;> first | exact ⟨rfl, rfl⟩ | cases h
theorem flat_reps : ∀ {xs : List V} {ds : List D}, RepL K F xs ds → ds.all flatD = true → xs = ds.map toV ∧ xs.all flatV = true
  | _, _, .nil, _ => ⟨rfl, rfl⟩
  | _, _, .cons h r, a => by
    simp only [List.all_cons, Bool.and_eq_true] at a
    obtain ⟨e1, f1⟩ := flat_rep h a.1
    obtain ⟨e2, f2⟩ := flat_reps r a.2
    exact ⟨by rw [e1, e2]; rfl, by rw [List.all_cons, f1, f2]; rfl⟩
theorem s_inS {neg : Bool} : SimR K (rIn K neg) (dIn neg) := fun F C H x y dx dy P Q hs rx ry w k => by
  revert w
  unfold dIn
  split
  · rename_i ds hd
    rintro ⟨h1, h2, w⟩
    obtain ⟨a, xs, rfl, hq, hr⟩ := its_of hs ry hd
    obtain ⟨e1, f1⟩ := flat_rep rx h1
    obtain ⟨e2, f2⟩ := flat_reps hr h2
    refine ⟨a, xs, rfl, hq, f1, f2, ?_⟩
    have e : (if neg then !inV x xs else inV x xs) = (neg ^^ inD dx ds) := by
      rw [e1, e2]
      unfold inV inD
      rw [List.any_map]
      cases neg <;> simp [Function.comp_def]
    rw [e]
    exact k _ F H _ C (Ex.refl F) hs (.bl _) w
  · exact fun z => z.elim
end

/-! ### list comprehensions -/
def dwipe (ρ : DEnv) : List Nat → DEnv
  | [] => ρ
  | v :: vs => (dwipe ρ vs).set v none
abbrev noX : DX := fun _ _ _ _ => False
def wYes (_ : DEnv) (C : Cells) (P : Bool → Cells → Prop) (_ : DX) : Prop := P true C
def LcG (J : DIt) (t : Tgt) (wt : DT) (we : DE) (vs : List Nat) (ρ : DEnv) (C1 : Cells) (P : DK) : Prop := ∀ Dl, C1 Dl = none → ∃ Inv : Nat → Cells → Prop, Inv 0 (cput C1 Dl (.lst [])) ∧
  (∀ i C', Inv i C' → J.still C') ∧
  (∀ i d C', J.items[i]? = some d → Inv i C' → match t.dg d (dwipe ρ vs) with
    | some ρ2 => wt ρ2 C' (fun b C2 => if b = true then we ρ2 C2 (fun y C3 => match C3 Dl with
        | some (.lst acc) => acc.length < 100000 ∧ Inv (i + 1) (cput C3 Dl (.lst (acc ++ [y])))
        | _ => False) noX else Inv (i + 1) C2) noX
    | none => False) ∧
  (∀ C', Inv J.items.length C' → match C' Dl with
    | some (.lst acc) => ∃ C4, Sub C4 C' ∧ C4 Dl = none ∧ P (.lst acc) C4
    | _ => False)
def wLc (wi : DI) (t : Tgt) (wt : DT) (we : DE) (vs : List Nat) (ρ : DEnv) (C : Cells) (P : DK) (PX : DX) : Prop := wi ρ C (fun J C1 => LcG J t wt we vs ρ C1 P) PX
theorem EnvR.wipe {K : PySem.W.Frag} {F : Hp} {σ : L2.St} {ρ : DEnv} (h : EnvR K F σ ρ) : ∀ vs, EnvR K F (L2.wipe σ vs) (dwipe ρ vs)
  | [] => h
  | v :: vs => by
    obtain ⟨h1, h2⟩ := EnvR.wipe h vs
    refine ⟨by show ((L2.wipe σ vs).set v none).length = ((dwipe ρ vs).set v none).length; rw [List.length_set, List.length_set]; exact h1, fun i d q => ?_⟩
    have q' : ((dwipe ρ vs).set v none)[i]? = some (some d) := q
    by_cases e : v = i
    · subst e
      rw [List.getElem?_set] at q'
      simp only [if_true] at q'
      split at q' <;> cases q'
    · rw [List.getElem?_set_ne e] at q'
      obtain ⟨w, hw, rw'⟩ := h2 i d q'
      refine ⟨w, ?_, rw'⟩
      show ((L2.wipe σ vs).set v none)[i]? = some (some w)
      rw [List.getElem?_set_ne e]
      exact hw
section
variable {X : Cx} {W : WX} {K : PySem.W.Frag}
theorem i_lc {wi : DI} {t : Tgt} {wt : DT} {we : DE} {vs : List Nat} (ht : ∀ i ∈ t.slots, i ∈ vs) {σ : L2.St} {H : Hp} {Q : VK} (h : tE K W (wLc wi t wt we vs) σ H Q) : tLc (tI K W wi) (t.tg K) (tT K W0 wt) (tE K W0 we) vs σ H Q := by
  obtain ⟨F, C, ρ, P, PX, hs, en, xr, w, k⟩ := h
  refine ⟨F, C, ρ, _, PX, hs, en, xr, w, fun J F1 H1 Jd C1 e1 h1 ir q => fun Dl hD => ?_⟩
  obtain ⟨c0, h2⟩ := h1.newC (xs := []) (ds := []) .nil hD
  obtain ⟨Inv, i0, st, turn, done⟩ := q Dl c0
  refine ⟨fun i m H' => m = Jd.items.length - i ∧ i ≤ Jd.items.length ∧ ∃ F' C', Ex F1 F' ∧ Hs K F' C' H' ∧ Inv i C', ⟨_, rfl, Nat.zero_le _, F1, _, Ex.refl _, h2, i0⟩, ?_⟩
  rintro i m H' ⟨rfl, hl, F', C', e', h', p⟩
  obtain ⟨go, stop⟩ := ir F' H' C' e' h' (st i C' p)
  by_cases hi : i = Jd.items.length
  · subst hi
    have z := done C' p
    revert z
    split
    · rename_i acc hc
      rintro ⟨C4, s4, n4, z⟩
      obtain ⟨F5, e5, h5, r5⟩ := frz_go h' hc s4 n4
      exact .inl ⟨stop, k _ F5 H' _ C4 ((e1.trans e').trans e5) h5 r5 z⟩
    · exact fun z => z.elim
  · have hlt : i < Jd.items.length := by omega
    have hd : Jd.items[i]? = some Jd.items[i] := List.getElem?_eq_getElem hlt
    obtain ⟨g1, g2⟩ := go i _ hd
    have q := turn i _ C' hd p
    refine .inr ⟨g1, fun H2 => ∃ F2 C2, Ex F' F2 ∧ Hs K F2 C2 H2 ∧ Inv (i + 1) C2, ?_, ?_⟩
    · rintro H2 ⟨F2, C2, e2, h2, p2⟩
      exact ⟨_, by omega, rfl, hlt, F2, C2, e'.trans e2, h2, p2⟩
    · intro x H2 hy
      obtain ⟨F2, e2, h2, rx⟩ := g2 x H2 hy
      revert q
      split
      · rename_i ρ2 hdg
        intro q
        refine tg_ok t h2.ex rx (((en.mono (e1.trans e')).wipe vs).mono e2) hdg fun σ2 en2 hw => ?_
        refine ⟨by rw [hw vs ht, wipe_wipe], ?_⟩
        refine ⟨F2, C', ρ2, _, noX, h2, en2, fun _ _ _ _ _ _ _ _ _ _ _ _ z => z.elim, q, fun b F3 H3 C3 e3 h3 q3 => ?_⟩
        cases b with
        | false =>
          rw [if_neg Bool.false_ne_true] at q3
          rw [if_neg Bool.false_ne_true]
          exact ⟨F3, C3, e2.trans e3, h3, q3⟩
        | true =>
          rw [if_pos rfl] at q3
          rw [if_pos rfl]
          refine ⟨F3, C3, ρ2, _, noX, h3, en2.mono e3, fun _ _ _ _ _ _ _ _ _ _ _ _ z => z.elim, q3, fun y F4 H4 dy C4 e4 h4 ry q4 => ?_⟩
          revert q4
          dsimp only
          split
          · rename_i acc hc
            rintro ⟨hz, q4⟩
            obtain ⟨f0, us, hu, ru⟩ := h4.cell Dl _ hc
            exact ⟨us, hu, by rw [ru.length]; exact sz_lt hz, F4, _, (e2.trans e3).trans e4, h4.put (c := .lst (acc ++ [dy])) f0 ⟨_, upd_same, ru.append (.cons ry .nil)⟩, q4⟩
          · exact fun z => z.elim
      · exact fun z => z.elim
theorem dts_nil : PTs X [] (tT X.K W wYes) := ⟨fun pins s σ H Q I ⟨F, C, ρ, P, PX, hs, en, xr, w, k⟩ => pts_nil.run pins s σ H Q I (k _ F H C (Ex.refl F) hs w)⟩
theorem dts_one {c : Expr} {t : DT} (h : PT X c (tT X.K W t)) : PTs X [c] (tT X.K W t) := pts_one h
theorem d_lc {elt tg iter : Expr} {ifs : List Expr} {scope : Scope} {own : List (Str × Nat)} {pos : Pos} {wi : DI} {t : Tgt} {wt : DT} {we : DE} (hc : X.calm = true) (hN : X.N.Nodup) (hi : PI X tg iter (tI X.K W wi)) (ok : BlkOk X.N X.env.scope scope own) (hsl : ∀ i ∈ t.slots, i ∈ own.map (·.2))
    (hg : ∀ (s : Shared) (H : Hp) (C : Addr) (cl : List (Str × Addr)) (fp : List Addr), PG (X.blk s H scope (compEnvC scope cl C X.env) fp) tg (t.tg X.K)) (ht : ∀ (s : Shared) (H : Hp) (C : Addr) (cl : List (Str × Addr)) (fp : List Addr), PTs (X.blk s H scope (compEnvC scope cl C X.env) fp) ifs (tT X.K W0 wt))
    (he : ∀ (s : Shared) (H : Hp) (C : Addr) (cl : List (Str × Addr)) (fp : List Addr), PE (X.blk s H scope (compEnvC scope cl C X.env) fp) elt (tE X.K W0 we)) (hs : ∀ x, foldedSetIterable iter X.env x = pure x := by intro _; rfl) :
    PE X (.ListComp elt [⟨tg, iter, ifs, 0⟩] scope pos) (tE X.K W (wLc wi t wt we (own.map (·.2)))) := PE.imp (pe_lc hc hN hi ok hg ht he hs) fun _ _ _ => i_lc hsl
theorem ds_setLc (i : Nat) {y : Str} {py : Pos} {elt tg iter : Expr} {ifs : List Expr} {scope : Scope} {own : List (Str × Nat)} {pos spos : Pos} {wi : DI} {t : Tgt} {wt : DT} {we : DE} (hc : X.calm = true) (hN : X.N.Nodup) (hy : X.N[i]? = some y) (hyl : X.env.scope.names.lookup y = some .local)
    (hsw : swapsWith (.ListComp elt [⟨tg, iter, ifs, 0⟩] scope pos) (some (.Name y py)) spos.line X.env = pure true) (hi : PI X tg iter (tI X.K W wi)) (ok : BlkOk X.N X.env.scope scope own) (hsl : ∀ i ∈ t.slots, i ∈ own.map (·.2))
    (hg : ∀ (s : Shared) (H : Hp) (C : Addr) (cl : List (Str × Addr)) (fp : List Addr), PG (X.blk s H scope (compEnvC scope cl C X.env) fp) tg (t.tg X.K)) (ht : ∀ (s : Shared) (H : Hp) (C : Addr) (cl : List (Str × Addr)) (fp : List Addr), PTs (X.blk s H scope (compEnvC scope cl C X.env) fp) ifs (tT X.K W0 wt))
    (he : ∀ (s : Shared) (H : Hp) (C : Addr) (cl : List (Str × Addr)) (fp : List Addr), PE (X.blk s H scope (compEnvC scope cl C X.env) fp) elt (tE X.K W0 we)) (hs : ∀ x, foldedSetIterable iter X.env x = pure x := by intro _; rfl) :
    PS X (.Assign [.Name y py] (.ListComp elt [⟨tg, iter, ifs, 0⟩] scope pos) spos) (tS X.K W (wSet i (wLc wi t wt we (own.map (·.2))))) := PS.imp (ps_setLc hc hN hy hyl hsw hi ok hg ht he hs) fun Dn σ H ⟨F, C, ρ, DE, hs, en, xr, w, er⟩ => by
  have z : tE X.K W (wLc wi t wt we (own.map (·.2))) σ H (fun x H1 => Dn.nx (σ.set i (some x)) H1) := ⟨F, C, ρ, _, _, hs, en, xr, w, fun v F1 H1 d C1 e1 h1 r q => er.nx _ F1 H1 _ C1 e1 h1 ((en.mono e1).set r) q⟩
  exact i_lc hsl z
end
/-- a comprehension that changes nothing -/
theorem lc_pure {t : Tgt} {wt : DT} {we : DE} {vs : List Nat} {J : DIt} {C1 : Cells} {ρ : DEnv} {P : DK} (f : D → Option D) (hf : ∀ C', Sub C1 C' → J.still C') (hn : J.items.length ≤ 100000)
    (h : ∀ (i : Nat) d C' (Q : Option D → Cells → Prop), J.items[i]? = some d → Sub C1 C' → Q (f d) C' → match t.dg d (dwipe ρ vs) with
      | some ρ2 => wt ρ2 C' (fun b C2 => if b = true then we ρ2 C2 (fun y C3 => Q (some y) C3) noX else Q none C2) noX
      | none => False)
    (hP : P (.lst (J.items.filterMap f)) C1) : LcG J t wt we vs ρ C1 P := by
  intro Dl hD
  refine ⟨fun i C' => C' = cput C1 Dl (.lst ((J.items.take i).filterMap f)), by simp, fun i C' e => hf C' (by rw [e]; exact Sub.new hD), fun i d C' hd e => ?_, fun C' e => ?_⟩
  · have ht : J.items.take (i + 1) = J.items.take i ++ [d] := by rw [List.take_succ, hd]; rfl
    refine h i d C' (fun o C3 => match o with
      | some y => match C3 Dl with
        | some (.lst acc) => acc.length < 100000 ∧ cput C3 Dl (.lst (acc ++ [y])) = cput C1 Dl (.lst ((J.items.take (i + 1)).filterMap f))
        | _ => False
      | none => C3 = cput C1 Dl (.lst ((J.items.take (i + 1)).filterMap f))) hd (by rw [e]; exact Sub.new hD) ?_
    split
    · rename_i y hy
      rw [e, cput_same]
      refine ⟨?_, ?_⟩
      · have := List.length_filterMap_le f (J.items.take i)
        have hlt : i < J.items.length := (List.getElem?_eq_some_iff.mp hd).1
        rw [List.length_take] at this
        omega
      · rw [cput_cput, ht, List.filterMap_append]
        simp [hy]
    · rename_i hy
      rw [e, ht, List.filterMap_append]
      simp [hy]
  · rw [e, cput_same, List.take_length]
    exact ⟨C1, Sub.new hD, hD, hP⟩
end DD

set_option Elab.async false
set_option linter.all false
set_option maxRecDepth 100000
set_option maxHeartbeats 4000000
/-! Readings over data: constants of the module, further operators, the law's end, what loops ask. -/
namespace DD
open PySem L2 PyProof.Rows
section
variable {X : Cx} {W : WX} {K : PySem.W.Frag}
/-- a module's whole number -/
theorem d_kint {x : Str} {i : Int} {pos : Pos} (h : ∃ t, X.mg x = some (.int i t)) (hg : Gl X x := by rfl) (hd : (x == ("__debug__" : Str)) = false := by decide) : PE X (.Name x pos) (tE X.K W (wC (.int i))) := by
  obtain ⟨t, h⟩ := h
  exact d_glob (v := .int i) hg h ⟨t, rfl⟩ (fun _ => .int i) hd
/-- // by a divisor below 2 ^ 64 -/
abbrev dDivW : DR2 := dI (fun _ j => 0 < j ∧ j < 18446744073709551616) fun i j => .int (i / j)
theorem s_divW : SimR K (rI CDivW fun i j => .int (i / j)) dDivW := fun F C H x y dx dy P Q hs rx ry w k => by
  cases rx <;> cases ry <;> first
    | exact w.elim
    | exact ⟨_, _, rfl, rfl, wide_div (b := 64) w.1.1 (by have := w.1; omega) (by decide) (by decide), k _ F H _ C (Ex.refl F) hs (.int _) w.2⟩
def dPow : DR2 := dI CPow fun i j => .int (i ^ j.toNat)
theorem s_pow : SimR K (rI CPow fun i j => .int (i ^ j.toNat)) dPow := simI fun _ _ _ => .int _
theorem s_tupleOf : SimA K (fun xs H Q => ∃ p ys, xs = [.ref p] ∧ ((SqL K H p ys ∧ ∀ l, H l = none → Q (.ref l) (upd H l (.tup ys))) ∨ (SqT K H p ys ∧ Q (.ref p) H))) dTupleOf := fun F C H xs ds P Q hs r w k => by
  revert w
  unfold dTupleOf
  split
  · split
    · rename_i ys hy
      intro w
      obtain ⟨v, rfl, r1⟩ := r.one
      obtain ⟨a, us, rfl, h2, h3⟩ := its_of hs r1 hy
      rcases h2 with h2 | h2
      · refine ⟨a, us, rfl, .inl ⟨h2, fun p hp => ?_⟩⟩
        obtain ⟨e4, h4, r4⟩ := hs.newT h3 hp
        exact k _ _ _ _ C e4 h4 r4 w
      · refine ⟨a, us, rfl, .inr ⟨h2, ?_⟩⟩
        obtain ⟨e4, h4⟩ : ∃ F2 : Hp, Ex F F2 ∧ Hs K F2 C H ∧ SqT K F2 a us := by
          rcases h2 with (h2 | ⟨o, h2⟩) | h2
          · cases hf : F a with
            | some u =>
              have := hs.ex _ _ hf
              rw [h2] at this
              cases this
              exact ⟨F, Ex.refl _, hs, .inl (.inl hf)⟩
            | none =>
              have c0 : C a = none := by
                cases hc : C a with
                | none => rfl
                | some c =>
                  obtain ⟨_, rc⟩ := hs.cell a c hc
                  cases c <;> (obtain ⟨_, z⟩ := rc.some; first | (obtain ⟨_, q, _⟩ := rc; rw [h2] at q; cases q) | (obtain ⟨_, _, q, _⟩ := rc; rw [h2] at q; cases q))
              refine ⟨upd F a (.tup us), Ex.new hf, ⟨fun b u e => ?_, fun b c e => ?_⟩, .inl (.inl upd_same)⟩
              · by_cases z : b = a
                · subst z; rw [upd_same] at e; cases e; exact h2
                · rw [upd_ne z] at e; exact hs.ex b u e
              · have z : b ≠ a := cell_ne e c0
                obtain ⟨f1, rc⟩ := hs.cell b c e
                exact ⟨by rw [upd_ne z]; exact f1, rc.ex (Ex.new hf)⟩
          · cases hf : F a with
            | some u =>
              have := hs.ex _ _ hf
              rw [h2] at this
              cases this
              exact ⟨F, Ex.refl _, hs, .inl (.inr ⟨o, hf⟩)⟩
            | none =>
              have c0 : C a = none := by
                cases hc : C a with
                | none => rfl
                | some c =>
                  obtain ⟨_, rc⟩ := hs.cell a c hc
                  cases c <;> (obtain ⟨_, z⟩ := rc.some; first | (obtain ⟨_, q, _⟩ := rc; rw [h2] at q; cases q) | (obtain ⟨_, _, q, _⟩ := rc; rw [h2] at q; cases q))
              refine ⟨upd F a (.frz o (.tup us)), Ex.new hf, ⟨fun b u e => ?_, fun b c e => ?_⟩, .inl (.inr ⟨o, upd_same⟩)⟩
              · by_cases z : b = a
                · subst z; rw [upd_same] at e; cases e; exact h2
                · rw [upd_ne z] at e; exact hs.ex b u e
              · have z : b ≠ a := cell_ne e c0
                obtain ⟨f1, rc⟩ := hs.cell b c e
                exact ⟨by rw [upd_ne z]; exact f1, rc.ex (Ex.new hf)⟩
          · exact ⟨F, Ex.refl _, hs, .inr h2⟩
        exact k _ e4 H _ C h4.1 h4.2.1 (.tup h4.2.2 (h3.mono h4.1)) w
    · exact fun z => z.elim
  · exact fun z => z.elim
/-- a, b = e1, e2 -/
def wPar (i j : Nat) (a : DA) (E : DEnds) (ρ : DEnv) (C : Cells) : Prop := a ρ C (fun ds C1 => match ds with
  | [x, y] => E.nx ((ρ.set i (some x)).set j (some y)) C1
  | _ => False) E.ex
theorem ds_par {i j : Nat} {x y : Str} {a b : Expr} {wr : DA} {px py pt pos : Pos} {kt k2 pt2} (hc : X.calm = true) (hN : X.N.Nodup) (hi : X.N[i]? = some x) (hj : X.N[j]? = some y) (hij : i ≠ j)
    (hx : X.env.scope.names.lookup x = some .local) (hy : X.env.scope.names.lookup y = some .local) (ha : PA X [a, b] (tA X.K W wr))
    (hw : swappedStores [.Tuple [.Name x px, .Name y py] kt pt] (.Tuple [a, b] k2 pt2) X.env = pure (some [x, y]))
    (hs : swapsWithSole [.Tuple [.Name x px, .Name y py] kt pt] (.Tuple [a, b] k2 pt2) pos.line X.env = pure false := by rfl) :
    PS X (.Assign [.Tuple [.Name x px, .Name y py] kt pt] (.Tuple [a, b] k2 pt2) pos) (tS X.K W (wPar i j wr)) := PS.imp (ps_par hc hN hi hj hij hx hy ha hw hs) fun Dn σ H ⟨F, C, ρ, DE, hs, en, xr, w, er⟩ =>
  ⟨F, C, ρ, _, _, hs, en, xr, w, fun vs F1 H1 ds C1 e1 h1 r q => by
    revert q
    dsimp only
    split
    · intro q
      cases r with
      | cons r1 r2 =>
        cases r2 with
        | cons r2 r3 =>
          cases r3
          exact ⟨_, _, rfl, er.nx _ F1 H1 _ C1 e1 h1 (((en.mono e1).set r1).set r2) q⟩
    · exact fun z => z.elim⟩
end

/-! ### the law's own promise -/
def spLawD (K : PySem.W.Frag) : Sp := fun vs H Q _ => ∃ (a : Addr) (ns : List Int), vs = [.ref a] ∧ SqL K H a (ns.map V.int) ∧ ns.length ≤ 63 ∧ ∀ H', Q (.bl true) H'
theorem spLaw_imp {K : PySem.W.Frag} (R : DSp) (go : ∀ (ns : List Int) (P : DK), ns.length ≤ 63 → (∀ C', P (.bl true) C') → R [.lst (ns.map D.int)] (fun _ => none) P) : ∀ vs H Q E, spLawD K vs H Q E → spD K R vs H Q E :=
  fun vs H Q E ⟨a, ns, hv, hs, hl, k⟩ => by
    subst hv
    refine ⟨H, fun _ => none, [.lst (ns.map D.int)], fun d _ => d = .bl true, ⟨Ex.refl H, fun _ _ e => by cases e⟩, .cons (.lst hs (RepL.ints ns)) .nil, go ns _ hl fun _ => rfl, fun v F' H' d C' _ _ r q => ?_⟩
    subst q
    cases r
    exact k H'
end DD

set_option Elab.async false
set_option linter.all false
set_option maxRecDepth 100000
set_option maxHeartbeats 4000000
/-! Readings over data: sorted(..) of data of any kind. -/
namespace DD
open PySem L2 PyProof.Rows PySem.W
def rSortedD (K : PySem.W.Frag) : List V → Hp → VK → Prop := fun vs H Q => ∃ (a : Addr) (xs : List V) (ps : List PyData), vs = [V.ref a] ∧ SqL K H a xs ∧ DpAll K H xs ps ∧ AllAlike ps ∧ Sortable ps ∧ (∀ d ∈ ps, d.depth ≤ 60) ∧
  ∀ p, H p = none → Q (.ref p) (upd H p (.lst (((xs.zip ps).mergeSort (dataLe false Prod.snd)).map Prod.fst)))
theorem dpAll_len {K : PySem.W.Frag} {H : Hp} : ∀ {xs : List V} {ps : List PyData}, DpAll K H xs ps → xs.length = ps.length
  | _, _, .nil => rfl
  | _, _, .cons _ r => congrArg (· + 1) (dpAll_len r)
theorem each_zip {xs : List V} {ps : List PyData} {vs : List Value} : ∀ {xs : List V} {ps : List PyData} {vs : List Value}, Vals xs vs → xs.length = ps.length → EachIs (fun v (b : V × PyData) => RelV b.1 v) vs (xs.zip ps)
  | _, [], _, .nil, _ => .nil
  | _, p :: ps, _, .cons r t, h => .cons r (each_zip (xs := xs) (ps := ps) (vs := vs) t (by simpa using h))
theorem each_reads {X : Cx} {pins : List (Addr × Obj)} {σ : L2.St} {H : Hp} {s : Shared} (I : Inv X pins σ H s) : ∀ {xs : List V} {ps : List PyData} {vs : List Value}, Vals xs vs → DpAll X.K H xs ps → EachIs (fun v (b : V × PyData) => ∃ as, Reads s.heap v b.2 as) vs (xs.zip ps)
  | _, _, _, .nil, .nil => .nil
  | _, _, _, .cons r t, .cons d e => .cons (Dp.reads I _ _ _ d r) (each_reads I t e)
theorem each_vals {bs : List (V × PyData)} {vs : List Value} : ∀ {bs : List (V × PyData)} {vs : List Value}, EachIs (fun v (b : V × PyData) => RelV b.1 v) vs bs → Vals (bs.map Prod.fst) vs
  | _, _, .nil => .nil
  | _, _, .cons r t => .cons r (each_vals (bs := bs) (vs := vs) t)
theorem zip_snd {xs : List V} {ps : List PyData} (h : xs.length = ps.length) : (xs.zip ps).map Prod.snd = ps := List.map_snd_zip (by omega)
theorem cr_sortedD {X : Cx} (hu : X.A.units + 64 < cLine) : CallR X (.builtin "sorted") (rSortedD X.K) := by
  intro pins s σ H vs us Q I r h
  obtain ⟨a, xs, ps, rfl, hs, hd, hal, hk, hdep, q⟩ := h
  obtain ⟨its, rv, hl, hz⟩ := I.list hs
  rw [Vals.ref1 r]
  have hlen := dpAll_len hd
  have hb : (xs.zip ps).length = xs.length := by rw [List.length_zip]; omega
  refine sorted_data (bs := xs.zip ps) (enc := Prod.snd) (R := fun v b => RelV b.1 v) hl.isList (each_zip (xs := xs) (ps := ps) (vs := its) rv hlen) (each_reads I rv hd) (by rw [zip_snd hlen]; exact hal) (by rw [zip_snd hlen]; exact hk) (by rw [hb]; exact hz) (fun b hb => ?_) fun out h1 h2 => ?_
  · have := hdep b.2 (by rw [← zip_snd hlen]; exact List.mem_map_of_mem hb)
    omega
  · obtain ⟨ep, he'⟩ := PyProof.Rows.sortedAll_at s.heap its out.toArray
    have k1 := each_vals (bs := []) (vs := []) h2
    have hlen2 : (((xs.zip ps).mergeSort (dataLe false Prod.snd)).map Prod.fst).length ≤ sizeLine := by
      rw [List.length_map, List.length_mergeSort, hb]; exact hz
    exact ⟨.ref _, upd H (s.heap.objs.size + 1) (.lst (((xs.zip ps).mergeSort (dataLe false Prod.snd)).map Prod.fst)), I.laid (t' := s.toks) (fun _ _ => PyProof.Rows.sortedAll_old) (Nat.le_succ _) ⟨hlen2, out, ep, k1, he'⟩, rfl, q _ (I.hok.fresh (Nat.le_succ _))⟩
/-- sorted(x), data of one kind -/
def leD : D → D → Bool := dataLe false D.py
structure SortsD (ds : List D) : Prop where
  dat : ∃ n, n ≤ 60 ∧ ∀ d ∈ ds, Dat n d
  alike : AllAlike (ds.map D.py)
  ok : Sortable (ds.map D.py)
def dSortD (ds : List D) (C : Cells) (P : DK) : Prop := match ds with
  | [x] => match itsOf x C with
    | some xs => SortsD xs ∧ seqOf x C = some xs ∧ P (.lst (xs.mergeSort leD)) C
    | none => False
  | _ => False
section
variable {K : PySem.W.Frag}
theorem pys_map : ∀ ds : List D, pys ds = ds.map D.py
  | [] => by simp [pys]
  | d :: r => by simp [pys, pys_map r]
theorem RepL.of_zip {F : Hp} : ∀ {L : List (V × D)}, (∀ p ∈ L, Rep K F p.1 p.2) → RepL K F (L.map Prod.fst) (L.map Prod.snd)
  | [], _ => .nil
  | p :: r, h => .cons (h p List.mem_cons_self) (RepL.of_zip fun q hq => h q (List.mem_cons_of_mem _ hq))
theorem RepL.zip_mem {F : Hp} : ∀ {xs : List V} {ds : List D}, RepL K F xs ds → ∀ p ∈ xs.zip ds, Rep K F p.1 p.2
  | _, _, .nil, p, hp => by simp at hp
  | _, _, .cons h r, p, hp => by
    simp only [List.zip_cons_cons, List.mem_cons] at hp
    rcases hp with rfl | hp
    · exact h
    · exact RepL.zip_mem r p hp
theorem RepL.sort {F : Hp} {xs : List V} {ds : List D} (r : RepL K F xs ds) : RepL K F (((xs.zip (pys ds)).mergeSort (dataLe false Prod.snd)).map Prod.fst) (ds.mergeSort leD) := by
  have hl := r.length
  have e1 : xs.zip (pys ds) = (xs.zip ds).map (fun p => (p.1, p.2.py)) := by rw [pys_map, List.zip_map_right]; congr
  have e2 : (((xs.zip ds).map (fun p => (p.1, p.2.py))).mergeSort (dataLe false Prod.snd)) = ((xs.zip ds).mergeSort (fun p q => leD p.2 q.2)).map (fun p => (p.1, p.2.py)) :=
    (List.map_mergeSort (r := fun p q : V × D => leD p.2 q.2) (s := dataLe false Prod.snd) (f := fun p : V × D => (p.1, p.2.py)) (fun a _ b _ => rfl)).symm
  have e3 : ds.mergeSort leD = ((xs.zip ds).mergeSort (fun p q => leD p.2 q.2)).map Prod.snd := by
    have e4 : ds = (xs.zip ds).map Prod.snd := (List.map_snd_zip (by omega)).symm
    conv => lhs; rw [e4]
    exact (List.map_mergeSort (r := fun p q : V × D => leD p.2 q.2) (s := leD) (f := Prod.snd) (fun a _ b _ => rfl)).symm
  rw [e1, e2, e3, List.map_map]
  exact RepL.of_zip (L := (xs.zip ds).mergeSort (fun p q => leD p.2 q.2)) fun p hp => r.zip_mem p (List.mem_mergeSort.mp hp)
theorem s_sortD : SimA K (rSortedD K) dSortD := fun F C H xs ds P Q hs r w k => by
  revert w
  unfold dSortD
  split
  · rename_i x
    split
    · rename_i ys hy
      rintro ⟨⟨⟨n, hn, hd⟩, hal, hok⟩, hsq, w⟩
      obtain ⟨v, rfl, r1⟩ := r.one
      obtain ⟨a, us, rfl, h2, h3⟩ := seq_of hs r1 hsq
      refine ⟨a, us, pys ys, rfl, h2, dpAll_of (n := n) (fun d hd' v r => rep_dp hs.ex (hd d hd') v r) h3, by rw [pys_map]; exact hal, by rw [pys_map]; exact hok, fun d hd' => ?_, fun p hp => ?_⟩
      · rw [pys_map, List.mem_map] at hd'
        obtain ⟨e, he, rfl⟩ := hd'
        have := (dat_lay (hd e he)).2
        omega
      · obtain ⟨e4, h4, r4⟩ := hs.newL h3.sort hp
        exact k _ _ _ _ C e4 h4 r4 w
    · exact fun z => z.elim
  · exact fun z => z.elim
end

/-! ### pairs of whole numbers -/
def pairD (p : Int × Int) : D := .tup [.int p.1, .int p.2]
def lePair (p q : Int × Int) : Bool := decide (p.1 < q.1 ∨ (p.1 = q.1 ∧ p.2 ≤ q.2))
theorem leD_pair (p q : Int × Int) : leD (pairD p) (pairD q) = lePair p q := by
  have := congrFun (congrFun (dataLe_ii (fun p : Int × Int => p.1) (fun p => p.2)) p) q
  exact this
theorem sorts_pairs (ps : List (Int × Int)) : SortsD (ps.map pairD) := by
  refine ⟨⟨1, by decide, fun d hd => ?_⟩, ?_, ?_⟩
  · obtain ⟨p, _, rfl⟩ := List.mem_map.mp hd
    exact .tup fun e he => by
      simp only [List.mem_cons, List.not_mem_nil, or_false] at he
      rcases he with rfl | rfl <;> exact .int _
  · rw [List.map_map]
    exact AllAlike.of fun b b' => by simp [pairD, D.py, pys, alike, alikeAll]
  · rw [List.map_map]
    exact Sortable.tuples fun b => ⟨.int b.1, [.int b.2], by simp [pairD, D.py, pys]⟩
theorem sort_pairs (ps : List (Int × Int)) : (ps.map pairD).mergeSort leD = (ps.mergeSort lePair).map pairD :=
  (List.map_mergeSort (fun a _ b _ => (leD_pair a b).symm)).symm
theorem lePair_sorted (ps : List (Int × Int)) : (ps.mergeSort lePair).Pairwise fun p q => p.1 < q.1 ∨ (p.1 = q.1 ∧ p.2 ≤ q.2) := by
  have h := List.pairwise_mergeSort (le := lePair) (by intro a b c; simp [lePair]; omega) (by intro a b; simp [lePair]; omega) ps
  exact h.imp (by intro a b; simp [lePair])
end DD

set_option Elab.async false
set_option linter.all false
set_option maxRecDepth 100000
set_option maxHeartbeats 4000000
/-! Tools for readings over data: loops, places. -/
namespace DD
open PySem L2

theorem for_rng {lo : Int} {n i : Nat} {b : DS} {E : DEnds} {ρ : DEnv} {C : Cells} (Inv : Nat → DEnv → Cells → Prop) (h0 : Inv 0 ρ C)
    (hs : ∀ (k : Nat) ρ' C', k < n → Inv k ρ' C' → b { nx := Inv (k + 1), ct := Inv (k + 1), bk := E.nx, rt := E.rt, ex := E.ex } (ρ'.set i (some (.int (lo + (k : Int))))) C')
    (hd : ∀ ρ' C', Inv n ρ' C' → E.nx ρ' C') : ForG ⟨rngD lo n, frozen⟩ (.name i) b E ρ C := by
  refine ⟨Inv, h0, fun _ _ _ _ => trivial, fun k d ρ' C' hk hI => ?_, fun ρ' C' hI => hd ρ' C' (by have e := rngD_len lo n; simp only [e] at hI; exact hI)⟩
  obtain ⟨hk2, rfl⟩ := rngD_get hk
  simp only [Tgt.dg]
  exact hs k ρ' C' hk2 hI
theorem for_items {ds : List D} {t : Tgt} {b : DS} {E : DEnds} {ρ : DEnv} {C : Cells} (Inv : Nat → DEnv → Cells → Prop) (h0 : Inv 0 ρ C)
    (hs : ∀ (k : Nat) d ρ' C', ds[k]? = some d → Inv k ρ' C' → match t.dg d ρ' with
      | some ρ2 => b { nx := Inv (k + 1), ct := Inv (k + 1), bk := E.nx, rt := E.rt, ex := E.ex } ρ2 C'
      | none => False)
    (hd : ∀ ρ' C', Inv ds.length ρ' C' → E.nx ρ' C') : ForG ⟨ds, frozen⟩ t b E ρ C := ⟨Inv, h0, fun _ _ _ _ => trivial, hs, hd⟩
theorem for_map {α : Type} {L : List α} {enc : α → D} {t : Tgt} {b : DS} {E : DEnds} {ρ : DEnv} {C : Cells} (Inv : Nat → DEnv → Cells → Prop) (h0 : Inv 0 ρ C)
    (hs : ∀ (k : Nat) a ρ' C', L[k]? = some a → Inv k ρ' C' → match t.dg (enc a) ρ' with
      | some ρ2 => b { nx := Inv (k + 1), ct := Inv (k + 1), bk := E.nx, rt := E.rt, ex := E.ex } ρ2 C'
      | none => False)
    (hd : ∀ ρ' C', Inv L.length ρ' C' → E.nx ρ' C') : ForG ⟨L.map enc, frozen⟩ t b E ρ C := by
  refine for_items Inv h0 (fun k d ρ' C' hk hI => ?_) (fun ρ' C' hI => hd ρ' C' (by rw [List.length_map] at hI; exact hI))
  rw [List.getElem?_map] at hk
  cases hL : L[k]? with
  | none => rw [hL] at hk; cases hk
  | some a =>
    rw [hL] at hk
    simp only [Option.map_some, Option.some.injEq] at hk
    subst hk
    exact hs k a ρ' C' hL hI
/-- a loop over a list that is a cell and stays as it is -/
theorem for_cell {α : Type} {L : List α} {enc : α → D} {a : Addr} {t : Tgt} {b : DS} {E : DEnds} {ρ : DEnv} {C : Cells} (Inv : Nat → DEnv → Cells → Prop) (h0 : Inv 0 ρ C) (hst : ∀ k ρ' C', Inv k ρ' C' → C' a = some (.lst (L.map enc)))
    (hs : ∀ (k : Nat) x ρ' C', L[k]? = some x → Inv k ρ' C' → match t.dg (enc x) ρ' with
      | some ρ2 => b { nx := Inv (k + 1), ct := Inv (k + 1), bk := E.nx, rt := E.rt, ex := E.ex } ρ2 C'
      | none => False)
    (hd : ∀ ρ' C', Inv L.length ρ' C' → E.nx ρ' C') : ForG ⟨L.map enc, fun C' => C' a = some (.lst (L.map enc))⟩ t b E ρ C := by
  refine ⟨Inv, h0, hst, (fun k d ρ' C' hk hI => ?_), (fun ρ' C' hI => hd ρ' C' (by simp only [List.length_map] at hI; exact hI))⟩
  simp only [List.getElem?_map] at hk
  cases hL : L[k]? with
  | none => rw [hL] at hk; cases hk
  | some a =>
    rw [hL] at hk
    simp only [Option.map_some, Option.some.injEq] at hk
    subst hk
    exact hs k a ρ' C' hL hI
/-- a comprehension over a range that changes nothing -/
theorem lc_rng {lo : Int} {n i : Nat} {wt : DT} {we : DE} {vs : List Nat} {C1 : Cells} {ρ : DEnv} {P : DK} (f : Int → Option D) (hn : n ≤ 100000)
    (h : ∀ (k : Nat) C' (Q : Option D → Cells → Prop), k < n → Sub C1 C' → Q (f (lo + (k : Int))) C' →
      wt ((dwipe ρ vs).set i (some (.int (lo + (k : Int))))) C' (fun b C2 => if b = true then we ((dwipe ρ vs).set i (some (.int (lo + (k : Int))))) C2 (fun y C3 => Q (some y) C3) noX else Q none C2) noX)
    (hP : P (.lst ((List.range n).filterMap fun (k : Nat) => f (lo + (k : Int)))) C1) : LcG ⟨rngD lo n, frozen⟩ (.name i) wt we vs ρ C1 P := by
  refine lc_pure (fun d => match d with | .int z => f z | _ => none) (fun _ _ => trivial) (by simpa [rngD_len] using hn) (fun k d C' Q hk hs hq => ?_) ?_
  · obtain ⟨hk2, rfl⟩ := rngD_get hk
    simp only [Tgt.dg]
    exact h k C' Q hk2 hs hq
  · have e : (rngD lo n).filterMap (fun d => match d with | .int z => f z | _ => none) = (List.range n).filterMap fun (k : Nat) => f (lo + (k : Int)) := by
      unfold rngD
      rw [List.filterMap_map]
      rfl
    show P (.lst ((rngD lo n).filterMap (fun d => match d with | .int z => f z | _ => none))) C1
    rw [e]
    exact hP
theorem lc_map {α : Type} {L : List α} {enc : α → D} {st : Cells → Prop} {t : Tgt} {wt : DT} {we : DE} {vs : List Nat} {C1 : Cells} {ρ : DEnv} {P : DK} (f : α → Option D) (hf : ∀ C', Sub C1 C' → st C') (hn : L.length ≤ 100000)
    (h : ∀ (k : Nat) a C' (Q : Option D → Cells → Prop), L[k]? = some a → Sub C1 C' → Q (f a) C' → match t.dg (enc a) (dwipe ρ vs) with
      | some ρ2 => wt ρ2 C' (fun b C2 => if b = true then we ρ2 C2 (fun y C3 => Q (some y) C3) noX else Q none C2) noX
      | none => False)
    (hP : P (.lst (L.filterMap f)) C1) : LcG ⟨L.map enc, st⟩ t wt we vs ρ C1 P := by
  intro Dl hD
  refine ⟨fun i C' => C' = cput C1 Dl (.lst ((L.take i).filterMap f)), by simp, fun i C' e => hf C' (by rw [e]; exact Sub.new hD), fun i d C' hd e => ?_, fun C' e => ?_⟩
  · simp only [List.getElem?_map] at hd
    cases hL : L[i]? with
    | none => rw [hL] at hd; cases hd
    | some a =>
      rw [hL] at hd
      simp only [Option.map_some, Option.some.injEq] at hd
      subst hd
      have ht : L.take (i + 1) = L.take i ++ [a] := by rw [List.take_succ, hL]; rfl
      refine h i a C' (fun o C3 => match o with
        | some y => match C3 Dl with
          | some (.lst acc) => acc.length < 100000 ∧ cput C3 Dl (.lst (acc ++ [y])) = cput C1 Dl (.lst ((L.take (i + 1)).filterMap f))
          | _ => False
        | none => C3 = cput C1 Dl (.lst ((L.take (i + 1)).filterMap f))) hL (by rw [e]; exact Sub.new hD) ?_
      split
      · rename_i y hy
        rw [e, cput_same]
        refine ⟨?_, ?_⟩
        · have := List.length_filterMap_le f (L.take i)
          have hlt : i < L.length := (List.getElem?_eq_some_iff.mp hL).1
          rw [List.length_take] at this
          omega
        · rw [cput_cput, ht, List.filterMap_append]
          simp [hy]
      · rename_i hy
        rw [e, ht, List.filterMap_append]
        simp [hy]
  · simp only [List.length_map, List.take_length] at e
    rw [e, cput_same]
    exact ⟨C1, Sub.new hD, hD, hP⟩
theorem atI_nat' {α : Type} (xs : List α) (j : Nat) : atI xs (j : Int) = xs[j]? := by
  unfold atI ixN
  rw [if_pos (by omega)]
  by_cases h : (j : Int) < xs.length
  · rw [if_pos h]
    simp
  · rw [if_neg h]
    rw [List.getElem?_eq_none (by omega)]
    rfl
theorem atI_at {α : Type} {xs : List α} {i : Int} (h0 : 0 ≤ i) : atI xs i = xs[i.toNat]? := by
  obtain ⟨j, rfl⟩ := Int.eq_ofNat_of_zero_le h0
  rw [atI_nat']
  simp
theorem atI_zero {α : Type} (x : α) (xs : List α) : atI (x :: xs) 0 = some x := by
  rw [atI_at (by omega)]; rfl
theorem ixN_at {n : Nat} {i : Int} (h0 : 0 ≤ i) (h1 : i < n) : ixN n i = some i.toNat := by
  unfold ixN
  rw [if_pos h0, if_pos h1]
theorem ixN_nat {n j : Nat} (h1 : j < n) : ixN n (j : Int) = some j := by
  rw [ixN_at (by omega) (by omega)]; simp
theorem sub_put {C : Cells} {p : Addr} {c : Cell} (h : C p = none) : Sub C (cput C p c) := Sub.new h
theorem seq_hide {a b : DS} {E : DEnds} {ρ : DEnv} {C : Cells} (h : ∀ E', { E with nx := fun ρ' C' => b E ρ' C' } = E' → a E' ρ C) : wSeqL a b E ρ C := h _ rfl
theorem while_hide {t : DT} {b : DS} {E : DEnds} {ρ : DEnv} {C : Cells} (h : ∀ b', b = b' → wWhile t b' E ρ C) : wWhile t b E ρ C := h _ rfl
section
variable {C : Cells} {a Cl : Addr} {ds : List D} {fs : List (String × D)} {f : String} {i : Int}
theorem seqOf_lst : seqOf (.lst ds) C = some ds := rfl
theorem seqOf_ptr : seqOf (.ptr a) C = match C a with | some (.lst ds) => some ds | _ => none := rfl
theorem itsOf_lst : itsOf (.lst ds) C = some ds := rfl
theorem itsOf_tup : itsOf (.tup ds) C = some ds := rfl
theorem itsOf_ptr : itsOf (.ptr a) C = match C a with | some (.lst ds) => some ds | _ => none := rfl
theorem lenOf_lst : lenOf (.lst ds) C = some ds.length := rfl
theorem lenOf_tup : lenOf (.tup ds) C = some ds.length := rfl
theorem lenOf_ptr : lenOf (.ptr a) C = match C a with | some (.lst ds) => some ds.length | _ => none := by
  show Option.map List.length (itsOf (.ptr a) C) = _
  rw [itsOf_ptr]
  split <;> simp_all
theorem lenOf_str {z : Str} (h : z.length ≤ 100000) : lenOf (.str z) C = some z.length := by simp only [lenOf, if_pos h]
theorem itemOf_lst : itemOf (.lst ds) C i = atI ds i := rfl
theorem itemOf_tup : itemOf (.tup ds) C i = atI ds i := rfl
theorem itemOf_ptr : itemOf (.ptr a) C i = match C a with | some (.lst ds) => atI ds i | _ => none := by
  show (itsOf (.ptr a) C).bind (fun ds => atI ds i) = _
  rw [itsOf_ptr]
  split <;> simp_all
theorem itemOf_str {z : Str} (h : z.length ≤ 100000) : itemOf (.str z) C i = (atI z.cps.toList i).map fun c => .str ⟨#[c]⟩ := by simp only [itemOf, if_pos h]
theorem isSeq_ptr : isSeq (.ptr a) C = match C a with | some (.lst _) => True | _ => False := by
  show ((seqOf (.ptr a) C).isSome = true) = _
  rw [seqOf_ptr]
  split <;> simp_all
theorem isSeq_lst : isSeq (.lst ds) C := rfl
theorem fldOf_ins : fldOf Cl f (.ins Cl fs) C = fs.lookup f := by simp only [fldOf, if_true]
theorem fldOf_ptr : fldOf Cl f (.ptr a) C = match C a with | some (.ins c fs) => if c = Cl then fs.lookup f else none | _ => none := rfl
theorem isIns_ins : isIns Cl f (.ins Cl fs) C = (fs.lookup f = none) := by simp only [isIns, true_and]
theorem isIns_ptr : isIns Cl f (.ptr a) C = match C a with | some (.ins c fs) => c = Cl ∧ fs.lookup f = none | _ => False := rfl
theorem res_lst : D.res C (.lst ds) = .lst ds := rfl
theorem res_tup : D.res C (.tup ds) = .tup ds := rfl
theorem res_ptr : D.res C (.ptr a) = match C a with | some (.lst ds) => .lst ds | _ => .ptr a := rfl
end
/-- a product that is no wide one -/
theorem cmul_l {i j : Int} (h : -(2 ^ 64) < i) (h' : i < 2 ^ 64) : CMul i j := .inl ⟨h, h'⟩
theorem cmul_r {i j : Int} (h : -(2 ^ 64) < j) (h' : j < 2 ^ 64) : CMul i j := .inr ⟨h, h'⟩
theorem mod_lo (a : Int) {m : Int} (h : 0 < m) : 0 ≤ a % m := Int.emod_nonneg _ (by omega)
theorem mod_hi (a : Int) {m : Int} (h : 0 < m) : a % m < m := Int.emod_lt_of_pos _ h
end DD

set_option Elab.async false
set_option linter.all false
set_option maxRecDepth 100000
set_option maxHeartbeats 4000000
/-! Tools for readings over data: cells taken away, == of lists, comprehensions over places. -/
namespace DD
open PySem L2
/-- without the cell at p -/
def crem (C : Cells) (p : Addr) : Cells := fun a => if a = p then none else C a
theorem crem_sub (C : Cells) (p : Addr) : Sub (crem C p) C := fun a c h => by
  unfold crem at h
  split at h
  · cases h
  · exact h
theorem crem_same {C : Cells} {p : Addr} : crem C p p = none := by unfold crem; rw [if_pos rfl]
theorem crem_ne {C : Cells} {p a : Addr} (h : a ≠ p) : crem C p a = C a := by unfold crem; rw [if_neg h]
theorem eqv_lists {α : Type} {enc : α → D} [DecidableEq α] (h : ∀ a b, (enc a).eqb (enc b) = decide (a = b)) : ∀ xs ys : List α, PyData.eqvAll (pys (xs.map enc)) (pys (ys.map enc)) = decide (xs = ys)
  | [], [] => by simp [pys, PyData.eqvAll]
  | [], y :: ys => by simp [pys, PyData.eqvAll]
  | x :: xs, [] => by simp [pys, PyData.eqvAll]
  | x :: xs, y :: ys => by
    have e := h x y
    unfold D.eqb at e
    simp only [List.map_cons, pys, PyData.eqvAll, e, eqv_lists h xs ys, List.cons.injEq]
    by_cases h1 : x = y <;> by_cases h2 : xs = ys <;> simp [h1, h2]
theorem eqb_lst {α : Type} {enc : α → D} [DecidableEq α] (h : ∀ a b, (enc a).eqb (enc b) = decide (a = b)) (xs ys : List α) : (D.lst (xs.map enc)).eqb (.lst (ys.map enc)) = decide (xs = ys) := by
  show PyData.eqv (D.lst (xs.map enc)).py (D.lst (ys.map enc)).py = _
  simp only [D.py, PyData.eqv]
  exact eqv_lists h xs ys
theorem eqb_tup {α : Type} {enc : α → D} [DecidableEq α] (h : ∀ a b, (enc a).eqb (enc b) = decide (a = b)) (xs ys : List α) : (D.tup (xs.map enc)).eqb (.tup (ys.map enc)) = decide (xs = ys) := by
  show PyData.eqv (D.tup (xs.map enc)).py (D.tup (ys.map enc)).py = _
  simp only [D.py, PyData.eqv]
  exact eqv_lists h xs ys
theorem eqb_int (a b : Int) : (D.int a).eqb (.int b) = decide (a = b) := by simp [D.eqb, D.py, PyData.eqv]; rfl
theorem eqb_str (a b : Str) : (D.str a).eqb (.str b) = decide (a = b) := by simp [D.eqb, D.py, PyData.eqv]; rfl
theorem eqb_ints (xs ys : List Int) : (D.lst (xs.map D.int)).eqb (.lst (ys.map D.int)) = decide (xs = ys) := eqb_lst eqb_int xs ys
theorem eqb_pair (p q : Int × Int) : (pairD p).eqb (pairD q) = decide (p = q) := by
  have e : (pairD p).eqb (pairD q) = decide ([p.1, p.2] = [q.1, q.2]) := eqb_tup eqb_int [p.1, p.2] [q.1, q.2]
  rw [e]
  cases p; cases q
  simp
theorem eqb_lst_nil {α : Type} (enc : α → D) : ∀ xs : List α, (D.lst (xs.map enc)).eqb (.lst []) = xs.isEmpty
  | [] => by simp [D.eqb, D.py, pys, PyData.eqv, PyData.eqvAll]
  | x :: xs => by simp [D.eqb, D.py, pys, PyData.eqv, PyData.eqvAll]
theorem dat_lst {α : Type} {enc : α → D} {n : Nat} (h : ∀ a, Dat n (enc a)) (xs : List α) : Dat (n + 1) (.lst (xs.map enc)) := .lst fun d hd => by
  obtain ⟨a, _, rfl⟩ := List.mem_map.mp hd
  exact h a
theorem dat_tup {α : Type} {enc : α → D} {n : Nat} (h : ∀ a, Dat n (enc a)) (xs : List α) : Dat (n + 1) (.tup (xs.map enc)) := .tup fun d hd => by
  obtain ⟨a, _, rfl⟩ := List.mem_map.mp hd
  exact h a
theorem dat_ints {n : Nat} (xs : List Int) : Dat (n + 1) (.lst (xs.map D.int)) := dat_lst (fun _ => .int _) xs
theorem dat_nil {n : Nat} : Dat (n + 1) (.lst []) := .lst fun d hd => by cases hd
theorem dat_pair {n : Nat} (p : Int × Int) : Dat (n + 1) (pairD p) := dat_tup (enc := D.int) (fun _ => .int _) [p.1, p.2]
/-- == of two lists of ints -/
theorem range_filterMap {α β : Type} (L : List α) (g : α → Option β) : (List.range L.length).filterMap (fun k => (L[k]?).bind g) = L.filterMap g := by
  suffices h : ∀ n, n ≤ L.length → (List.range n).filterMap (fun k => (L[k]?).bind g) = (L.take n).filterMap g by
    rw [h L.length (Nat.le_refl _), List.take_length]
  intro n
  induction n with
  | zero => intro _; rfl
  | succ n ih =>
    intro hn
    rw [List.range_succ, List.filterMap_append, ih (by omega), List.take_succ, List.filterMap_append]
    have e : L[n]? = some L[n] := List.getElem?_eq_getElem (by omega)
    simp only [e, List.filterMap_cons, List.filterMap_nil, Option.bind_some, Option.toList_some]
theorem take_snoc {α : Type} {L : List α} {k : Nat} {e : α} (h : L[k]? = some e) : L.take (k + 1) = L.take k ++ [e] := by
  rw [List.take_succ, h]; rfl
theorem filterMap_map {α β γ : Type} (L : List α) (g : α → Option β) (f : β → γ) : L.filterMap (fun a => (g a).map f) = (L.filterMap g).map f := by
  rw [List.map_filterMap]
theorem ints_ptr {C : Cells} {a : Addr} {ns : List Int} (h : C a = some (.lst (ns.map D.int))) : IntsOf (.ptr a) C ns := by simp only [IntsOf, seqOf, h]
theorem ints_lst {C : Cells} {ns : List Int} : IntsOf (.lst (ns.map D.int)) C ns := rfl
/-- the first of a sorted list -/
theorem sortI_head {l : List Int} (h : l ≠ []) : ∃ r, sortI l = minI l :: r := by
  obtain ⟨h1, h2⟩ := minI_spec h
  have hp := sortI_perm l
  have hs := sortI_pair l
  cases e : sortI l with
  | nil =>
    rw [e] at hp
    exact absurd hp.symm.eq_nil h
  | cons x r =>
    refine ⟨r, ?_⟩
    rw [e] at hp hs
    have hx : x ∈ l := hp.mem_iff.mp List.mem_cons_self
    have hm : minI l ∈ x :: r := hp.mem_iff.mpr h1
    have hle := h2 x hx
    rcases List.mem_cons.mp hm with q | q
    · rw [q]
    · have := (List.pairwise_cons.mp hs).1 _ q
      rw [show x = minI l by omega]
end DD

set_option Elab.async false
set_option linter.all false
set_option maxRecDepth 100000
set_option maxHeartbeats 4000000
/-! More: range with a step, the last of a list, cuts. -/
namespace DD
open PySem L2

def rngC (lo c : Int) (n : Nat) : List D := (List.range n).map fun (k : Nat) => D.int (lo + (k : Int) * c)
theorem rngC_len (lo c : Int) (n : Nat) : (rngC lo c n).length = n := by simp [rngC]
theorem rngC_get {lo c : Int} {n i : Nat} {d : D} (h : (rngC lo c n)[i]? = some d) : i < n ∧ d = .int (lo + (i : Int) * c) := by
  unfold rngC at h
  rw [List.getElem?_map] at h
  rcases Nat.lt_or_ge i n with z | z
  · rw [List.getElem?_range z] at h
    exact ⟨z, (Option.some.inj h).symm⟩
  · rw [List.getElem?_eq_none (by simpa using z)] at h; cases h
def wRng3 (a : DA) (ρ : DEnv) (C : Cells) (P : DIt → Cells → Prop) (PX : DX) : Prop := a ρ C (fun ds C1 => match ds with
  | [.int i, .int j, .int c] => ∃ n, RgC i j c n ∧ P ⟨rngC i c n, frozen⟩ C1
  | _ => False) PX
theorem itr_rngC {K : PySem.W.Frag} {F : Hp} {lo c : Int} {n : Nat} : ItR K F (Itc lo c n) ⟨rngC lo c n, frozen⟩ := fun F' H C e hs _ => by
  refine ⟨fun i d hd => ?_, by show n ≤ (rngC lo c n).length; rw [rngC_len]; exact Nat.le_refl _⟩
  obtain ⟨hi, rfl⟩ := rngC_get hd
  refine ⟨hi, fun x H' y => ?_⟩
  obtain ⟨rfl, rfl⟩ := y
  exact ⟨F', Ex.refl _, hs, .int _⟩
theorem di_rng3 {X : Cx} {W : WX} {tg : Expr} {wr : DA} {pos : Pos} {a b c : Expr} {p : Pos} (hg : Gl X "range") (hm : X.mg "range" = none) (ha : PA X [a, b, c] (tA X.K W wr))
    (hs : starEach [a, b, c] X.env = (false, eval a X.env) :: starEach [b, c] X.env := by rfl) (hpl : (backTo pos (starEach [b, c] X.env)).any (·.1) = false := by rfl) :
    PI X tg (.Call (.Name "range" p) [a, b, c] [] pos) (tI X.K W (wRng3 wr)) :=
  PI.imp (pi_range3 hg hm ha hs hpl) fun σ H R ⟨F, C, ρ, P, PX, hs, en, xr, w, k⟩ => ⟨F, C, ρ, _, PX, hs, en, xr, w, fun v F1 H1 d C1 e1 h1 r q => by
    revert q
    dsimp only
    split
    · rintro ⟨n, hn, q⟩
      rename_i i j c
      cases r with
      | cons r1 r2 =>
        cases r1
        cases r2 with
        | cons r2 r3 =>
          cases r2
          cases r3 with
          | cons r3 r4 =>
            cases r3; cases r4
            exact ⟨i, j, c, n, rfl, hn, k _ F1 H1 _ C1 e1 h1 itr_rngC q⟩
    · exact fun z => z.elim⟩
theorem for_rngC {lo c : Int} {n i : Nat} {b : DS} {E : DEnds} {ρ : DEnv} {C : Cells} (Inv : Nat → DEnv → Cells → Prop) (h0 : Inv 0 ρ C)
    (hs : ∀ (k : Nat) ρ' C', k < n → Inv k ρ' C' → b { nx := Inv (k + 1), ct := Inv (k + 1), bk := E.nx, rt := E.rt, ex := E.ex } (ρ'.set i (some (.int (lo + (k : Int) * c)))) C')
    (hd : ∀ ρ' C', Inv n ρ' C' → E.nx ρ' C') : ForG ⟨rngC lo c n, frozen⟩ (.name i) b E ρ C := by
  refine ⟨Inv, h0, fun _ _ _ _ => trivial, fun k d ρ' C' hk hI => ?_, fun ρ' C' hI => hd ρ' C' (by have e := rngC_len lo c n; simp only [e] at hI; exact hI)⟩
  obtain ⟨hk2, rfl⟩ := rngC_get hk
  simp only [Tgt.dg]
  exact hs k ρ' C' hk2 hI
theorem rgC_two {n : Nat} (h : n ≤ 1000000) : RgC 0 (n : Int) 2 ((n + 1) / 2) := by
  have e : Builtin.Range.rangeSize 0 (n : Int) 2 = (((n + 1) / 2 : Nat) : Int) := by
    unfold Builtin.Range.rangeSize
    split <;> omega
  refine ⟨by decide, by decide, ?_, e⟩
  unfold Builtin.Range.small
  rw [e]
  have e1 : ((2 : Int) > 0) = True := by simp
  have e2 : Builtin.Range.rangeFitsLong 2 = true := by decide
  have e3 : Builtin.Range.rangeFitsLong 0 = true := by decide
  have e4 : ∀ i : Int, 0 ≤ i → i ≤ 3000000 → Builtin.Range.rangeFitsLong i = true := fun i h1 h2 => by
    simp only [Builtin.Range.rangeFitsLong, Bool.and_eq_true, decide_eq_true_eq]; omega
  rw [e2, e3, e4 _ (by omega) (by omega)]
  simp only [Bool.and_eq_true, Bool.or_eq_true, decide_eq_true_eq, beq_iff_eq, e1, if_true, true_and]
  exact ⟨e4 _ (by omega) (by omega), .inr (e4 _ (by omega) (by omega))⟩

theorem atI_getLast {α : Type} (xs : List α) : atI xs (-1) = xs.getLast? := by
  unfold atI ixN
  rcases List.eq_nil_or_concat xs with h | ⟨r, x, h⟩
  · subst h; rfl
  · subst h
    simp only [List.concat_eq_append, List.length_append, List.length_singleton]
    rw [if_neg (by decide), if_pos (by omega)]
    have : (-1 + ((r.length + 1 : Nat) : Int)).toNat = r.length := by omega
    simp only [Option.bind_some, this]
    simp
theorem atI_snoc {α : Type} (xs : List α) (x : α) : atI (xs ++ [x]) (-1) = some x := by rw [atI_getLast, List.getLast?_concat]
theorem atI_succ {α : Type} (xs : List α) (j : Nat) : atI xs ((j : Int) + 1) = xs[j + 1]? := atI_nat' xs (j + 1)
theorem cut_init (xs : List D) : cutD xs none (some (-1)) = xs.dropLast := by
  unfold cutD
  simp only [HT.sIx, List.drop_zero, Nat.sub_zero]
  rw [if_pos (by decide), List.dropLast_eq_take]
  congr 1
  omega
theorem cut_from (xs : List D) (k : Nat) : cutD xs (some (k : Int)) none = xs.drop k := by
  unfold cutD
  simp only [HT.sIx_nat, HT.sIx_none]
  rw [List.take_of_length_le (by rw [List.length_drop]; omega)]
  rcases Nat.le_total k xs.length with h | h
  · rw [Nat.min_eq_left h]
  · rw [Nat.min_eq_right h, List.drop_eq_nil_of_le (Nat.le_refl _), List.drop_eq_nil_of_le h]
theorem cut_to (xs : List D) (k : Nat) : cutD xs none (some (k : Int)) = xs.take k := by
  unfold cutD
  simp only [HT.sIx_nat, HT.sIx_none, List.drop_zero, Nat.sub_zero]
  rcases Nat.le_total k xs.length with h | h
  · rw [Nat.min_eq_left h]
  · rw [Nat.min_eq_right h, List.take_of_length_le (Nat.le_refl _), List.take_of_length_le h]
end DD

set_option Elab.async false
set_option linter.all false
set_option maxRecDepth 100000
set_option maxHeartbeats 4000000
/-! More: a module's tuple, x in xs of data, tuples put together. -/
namespace DD
open PySem L2 PySem.Spec PyProof.Rows

/-! ### a tuple of the module -/
theorem rep_tupK {K : PySem.W.Frag} {a : Addr} {od : Option Addr} {its : Array Value} {n : Nat} {sl : Array (Option Value)} {vs : List V} {ds : List D} (h : K.lookup a = some ⟨.type "tuple", od, .seq its n, sl⟩) (hs : its.size ≤ sizeLine) (r : Vals vs its.toList)
    (q : ∀ F, RepL K F vs ds) : ∀ F, Rep K F (.ref a) (.tup ds) := fun F => .tup (.inr ⟨_, its, n, h, rfl, rfl, hs, r⟩) (q F)
theorem d_kdat {X : Cx} {W : WX} {x : Str} {d : D} {pos : Pos} (h : ∃ a, X.mg x = some (.ref a) ∧ ∀ F, Rep X.K F (.ref a) d) (hg : Gl X x := by rfl) (hd : (x == ("__debug__" : Str)) = false := by decide) : PE X (.Name x pos) (tE X.K W (wC d)) := by
  obtain ⟨a, hm, hr⟩ := h
  exact d_glob hg hm (v := .ref a) rfl hr hd

/-! ### x in xs, data of any depth -/
def rInQ (K : PySem.W.Frag) (neg : Bool) : R2 := fun x y H Q => ∃ d e ds, (e = .list ds ∨ e = .tuple ds) ∧ Dp K H x d ∧ Dp K H y e ∧ SeqAt.shaped d = true ∧ SeqAt.shaped e = true ∧ Q (.bl (neg ^^ ds.any fun z => PyData.eqv z d)) H
theorem room_in_tuple {A : Around} {xs : List PyData} {d : PyData} (hd : SeqAt.shaped d = true) (hu : A.units + 65 < cLine) : A.units + 1 + min (PyData.depthAll xs) d.depth < cLine := by
  unfold SeqAt.shaped at hd
  simp only [Bool.and_eq_true, decide_eq_true_eq] at hd
  have : min (PyData.depthAll xs) d.depth ≤ d.depth := Nat.min_le_right _ _
  omega
theorem op_inQ {X : Cx} (hu : X.A.units + 65 < cLine) : OpR X (compareOp .In) (rInQ X.K false) := by
  intro pins s σ H x y v u Q I rx ry h
  obtain ⟨d, e, ds, he, hd, hq, sd, se, q⟩ := h
  obtain ⟨as, r1⟩ := Dp.reads I d x v hd rx
  obtain ⟨bs, r2⟩ := Dp.reads I e y u hq ry
  rw [Bool.false_xor] at q
  rcases he with rfl | rfl
  · exact SeqAt.in_list_reads r2 r1 (SeqAt.canLay_of_shaped se) (SeqAt.canLay_of_shaped sd) (room_in_tuple sd hu) ⟨.bl _, H, I, rfl, q⟩
  · exact SeqAt.in_tuple_reads r2 r1 (SeqAt.canLay_of_shaped se) (SeqAt.canLay_of_shaped sd) (room_in_tuple sd hu) ⟨.bl _, H, I, rfl, q⟩
theorem op_notInQ {X : Cx} (hu : X.A.units + 65 < cLine) : OpR X (compareOp .NotIn) (rInQ X.K true) := by
  intro pins s σ H x y v u Q I rx ry h
  obtain ⟨d, e, ds, he, hd, hq, sd, se, q⟩ := h
  obtain ⟨as, r1⟩ := Dp.reads I d x v hd rx
  obtain ⟨bs, r2⟩ := Dp.reads I e y u hq ry
  rw [Bool.true_xor] at q
  rcases he with rfl | rfl
  · exact SeqAt.notIn_list_reads r2 r1 (SeqAt.canLay_of_shaped se) (SeqAt.canLay_of_shaped sd) (room_in_tuple sd hu) ⟨.bl _, H, I, rfl, q⟩
  · exact SeqAt.notIn_tuple_reads r2 r1 (SeqAt.canLay_of_shaped se) (SeqAt.canLay_of_shaped sd) (room_in_tuple sd hu) ⟨.bl _, H, I, rfl, q⟩
/-- the items of a list or a tuple that is data -/
def inItems : D → Option (List D)
  | .lst ds => some ds
  | .tup ds => some ds
  | _ => none
def dInD (neg : Bool) (x : D) (y : D) (C : Cells) (P : DK) : Prop := match inItems (y.res C) with
  | some ds => ∃ n, n ≤ 60 ∧ Dat n (x.res C) ∧ Dat n (y.res C) ∧ P (.bl (neg ^^ ds.any fun z => z.eqb (x.res C))) C
  | none => False
theorem any_pys (d : PyData) : ∀ ds : List D, ((pys ds).any fun z => PyData.eqv z d) = ds.any fun z => PyData.eqv z.py d
  | [] => rfl
  | x :: r => by simp only [pys, List.any_cons, any_pys d r]
theorem s_inD {K : PySem.W.Frag} {neg : Bool} : SimR K (rInQ K neg) (dInD neg) := fun F C H x y dx dy P Q hs rx ry w k => by
  revert w
  unfold dInD
  split
  · rename_i ds hd
    rintro ⟨n, hn, h1, h2, w⟩
    have kk := k _ F H _ C (Ex.refl F) hs (.bl _) w
    have e : (fun z : D => z.eqb (dx.res C)) = fun z : D => PyData.eqv z.py (dx.res C).py := rfl
    rw [e, ← any_pys] at kk
    refine ⟨_, _, pys ds, ?_, res_dp hs rx h1, res_dp hs ry h2, dat_shaped h1 hn, dat_shaped h2 hn, kk⟩
    cases hy : dy.res C <;> rw [hy] at hd <;> cases hd
    · exact .inr (by rw [D.py])
    · exact .inl (by rw [D.py])
  · exact fun z => z.elim

/-! ### tuples put together -/
def dCatT (x : D) (y : D) (C : Cells) (P : DK) : Prop := match x, y with
  | .tup xs, .tup ys => xs.length + ys.length ≤ 100000 ∧ P (.tup (xs ++ ys)) C
  | _, _ => False
theorem s_catT {K : PySem.W.Frag} : SimR K (rCatA K) dCatT := fun F C H x y dx dy P Q hs rx ry w k => by
  unfold dCatT at w
  split at w
  · rename_i xs ys
    cases rx with
    | tup h1 r1 =>
      cases ry with
      | tup h2 r2 =>
        rename_i a us b vs
        have e1 := r1.length
        have e2 := r2.length
        refine ⟨a, b, us, vs, rfl, rfl, ex_t hs.ex h1, ex_t hs.ex h2, by rw [e1, e2]; exact Nat.le_trans w.1 (by decide), fun e => ?_, fun _ e => ?_, fun _ _ p hp => ?_⟩
        · subst e
          cases r1
          exact k _ F H _ C (Ex.refl F) hs (.tup h2 r2) w.2
        · subst e
          cases r2
          have w2 := w.2
          rw [List.append_nil] at w2
          exact k _ F H _ C (Ex.refl F) hs (.tup h1 r1) w2
        · obtain ⟨ex, hs'⟩ := hs.lay (o := .tup (us ++ vs)) hp
          exact k _ _ _ _ C ex hs' (.tup (.inl (.of (by unfold upd; rw [if_pos rfl]))) ((r1.mono ex).append (r2.mono ex))) w.2
  · exact w.elim
theorem atI_lit {α : Type} (xs : List α) (n : Nat) : atI xs (no_index (@OfNat.ofNat Int n _)) = xs[n]? := atI_nat' xs n
theorem _root_.L2.Room.units2 {k : Nat} {A : Around} (r : L2.Room k A) : A.units + 65 < cLine := by have := r.un; omega
end DD

set_option Elab.async false
set_option linter.all false
set_option maxRecDepth 100000
set_option maxHeartbeats 4000000
/-! Exceptions: raise of an own class, try and except. -/
namespace DD
open PySem L2 PySem.Spec PyProof.Rows

/-- what is known of an own class of errors without an __init__ -/
structure XcT (K : PySem.W.Frag) (C : Addr) : Prop where
  xi : PySem.W.excIn K C [.type "ValueError", .type "Exception", .type "BaseException", .type "object"] "ValueError.__new__" = true
  xb : PySem.W.subIn K (.ref C) (.type "BaseException") = some true
  xt : PySem.W.typeIn K (.ref C) = some (.type "type")
  xk : PySem.W.keepIn K (.ref C) = true
theorem exm_is {K : PySem.W.Frag} {C1 C2 : Addr} {b : Bool} (h1 : PySem.W.subIn K (.ref C2) (.type "BaseException") = some true) (h2 : PySem.W.isClsIn K C2 = true) (h3 : PySem.W.typeIn K (.ref C2) = some (.type "type")) (h4 : PySem.W.subIn K (.ref C1) (.ref C2) = some b) :
    PySem.W.exmOne K (.ref C1) (.ref C2) = some b := by
  unfold PySem.W.exmOne PySem.W.kitCls
  have h5 : (PySem.W.clsIn K C2).isSome = true := h2
  rw [h1, if_pos (by decide)]
  dsimp only
  rw [h5, h3, if_pos (by decide), h4]

def wRaise (cls : Value) (E : DEnds) (ρ : DEnv) (C : Cells) : Prop := E.ex cls [] ρ C
section
variable {X : Cx} {W : WX} {K : PySem.W.Frag} {pos : Pos}
theorem ds_raise0 {x m : Str} {j : Nat} {p p2 pos' : Pos} {C : Addr} (hc : X.calm = true) (tk : Takes X W) (T : XcT X.K C) (gC : X.mg x = some (.ref C)) (hg : Gl X x) (hdb : (x == ("__debug__" : Str)) = false := by decide) :
    PS X (.Raise (some (.Call (.Name x p) [.Constant (.str m) j p2] [] pos)) none pos') (tS X.K W (wRaise (.ref C))) :=
  PS.imp (ps_raise hc tk (pmk_own PySem.F.excBase_ValueError T.xi gC T.xk (raises_own T.xb T.xt) hg hdb)) fun D σ H ⟨F, C', ρ, E, hs, en, xr, w, k⟩ =>
    xr _ none [] σ F H ρ C' (Ex.refl F) hs en (.inl rfl) w

/-! try: .. except X: .. (the suite raises nothing) -/
def wTry (K : PySem.W.Frag) (c : Value) (wb ws : DS) (E : DEnds) (ρ : DEnv) (C : Cells) : Prop := wb { E with ex := fun cls fs ρ' C' => ∃ b, PySem.W.exmOne K cls c = some b ∧ (b = true → ws { E with ex := fun _ _ _ _ => False } ρ' C') ∧ (b = false → E.ex cls fs ρ' C') } ρ C
theorem EndsR.exx {F : Hp} {E : DEnds} {D : Ends} {px : DX} (h : EndsR K F E D) : EndsR K F { E with ex := px } D := ⟨h.nx, h.rt, h.bk, h.ct⟩
theorem ds_try {x : Str} {C : Addr} {K' : PySem.W.Frag} {body suite : List Stmt} {b₀ : Stmt} {np pos' : Pos} {wb ws : DS} (hs : X.stack = X.env :: X.outer) (hf : X.env.frame = some X.env.locals) (T : XcT K' C) (gC : X.mg x = some (.ref C)) (tk : Takes X W)
    (hb : ∀ (W' : WX) (pn : List (Addr × Obj)) (xe : Value → Shared → Prop), Takes (X.tr pn xe) W' → PassesOwn (model X.prog X.w) X.A X.env xe → PSs (X.tr pn xe) body (tS X.K W' wb))
    (hsu : ∀ (a : Addr) (oe : Obj) (cls : Value) (d : Option Addr) (pn : List (Addr × Obj)), Zc cls d oe → (∃ vs, oe.data = .fields vs) → PSs (X.suite a ((a, oe) :: pn)) (b₀ :: suite) (tS X.K (fun _ _ _ _ => False) ws))
    (hK : X.K = K' := by rfl) (hg : Gl X x := by rfl) (hdb : (x == ("__debug__" : Str)) = false := by decide) :
    PS X (.Try body [.ExceptHandler (some (.Name x np)) none (b₀ :: suite) pos'] [] [] pos) (tS X.K W (wTry K' (.ref C) wb ws)) := by
  subst hK
  exact PS.imp (ps_try_only (tb := fun W' => tS X.K W' wb) (ts := fun _ _ _ => tS X.K (fun _ _ _ _ => False) ws) hs hf ⟨hg, hdb, .inl gC⟩ tk hb hsu) fun D σ H ⟨F, C', ρ, E, hs', en, xr, w, k⟩ =>
    ⟨F, C', ρ, { E with ex := fun cls fs ρ' C' => ∃ b, PySem.W.exmOne X.K cls (.ref C) = some b ∧ (b = true → ws { E with ex := fun _ _ _ _ => False } ρ' C') ∧ (b = false → E.ex cls fs ρ' C') }, hs', en, fun cls d fs σ1 F1 H1 ρ1 C1 e1 h1 n1 rx ⟨b, hb1, hy, hn⟩ =>
      ⟨b, hb1, fun hbt a ha => ⟨F1, C1, ρ1, { E with ex := fun _ _ _ _ => False }, h1, n1, fun _ _ _ _ _ _ _ _ _ _ _ _ z => z.elim, hy hbt, (k.mono e1).exx⟩, fun hbf => xr cls d fs σ1 F1 H1 ρ1 C1 e1 h1 n1 rx (hn hbf)⟩, w, k.exx⟩
end

/-! an object made, its __init__ may raise -/
section
variable {X : Cx} {W : WX} {k : Nat} {f Cl : Addr} {fd : FuncData} {ps : List Str} {x : Str} {p pos : Pos} {e : Expr} {es : List Expr} {dvs : List V} {dsv : List Value}
theorem make_at {CX : CXT} {sp : Sp} {E : XK} {pins : List (Addr × Obj)} {σ : L2.St} {H : Hp} {s : Shared} {Q : VK} {us : List Value} {vs : List V} (M : Mk X.K Cl f) (F : FnOk X.prog X.w X.K X.mg X.base CX k f fd ps sp) (hr : Room (k + 1) X.A) (hb : Binds X.K fd ps dsv) (hd : Vals dvs dsv)
    (hx : PassesAt CX X σ E) (I : Inv X pins σ H s) (r : Vals vs us)
    (h : ∀ z dx, H z = none → H dx = none → dx ≠ z → sp (.ref z :: (vs ++ dvs)) (upd (upd H dx (.own z)) z (.ins Cl dx [])) (fun v H2 => v = .non ∧ Q (.ref z) H2) E) :
    wpAny (model X.prog X.w) X.A (call (.ref Cl) us) (EP X pins σ Q) X.xe s := by
  have q := h _ _ (I.hok.fresh (Nat.le_succ s.heap.objs.size)) (I.hok.fresh (Nat.le_refl s.heap.objs.size)) (Nat.ne_of_lt (Nat.lt_succ_self s.heap.objs.size))
  have J := Inv.made (C := Cl) I
  have rv : Vals (V.ref (s.heap.objs.size + 1) :: (vs ++ dvs)) (Value.ref (s.heap.objs.size + 1) :: (us ++ dsv)) := .cons rfl (r.append hd)
  have len : (Value.ref (s.heap.objs.size + 1) :: us ++ dsv).length = ps.length := rv.length.symm.trans (F.len _ _ _ _ q)
  refine wpAny_call (make_map (f := f) I.kIn M.makes M.init (beq_iff_eq.mp M.fn) (codeAny_mono (F.run _ X.stack _ _ ⟨Value.ref (s.heap.objs.size + 1) :: us, []⟩ (Value.ref (s.heap.objs.size + 1) :: (us ++ dsv)) _ _ E (hr.make Cl us []) (J.env0.make Cl us []) (hb _ (Value.ref (s.heap.objs.size + 1) :: us) J.kIn len) rv q) fun o s' z => ?_))
  match o, z with
  | .error e, z => exact hx pins _ _ e s' J z
  | .ok (.ret u), z =>
    obtain ⟨v, H', J2, _, ev, q3⟩ := J.after z
    subst ev
    exact ⟨by assumption, ⟨V.ref _, H', J2, rfl, q3⟩⟩
  | .ok .next, z => exact z.elim
  | .ok .brk, z => exact z.elim
  | .ok .cont, z => exact z.elim
theorem d_makeX {RX : DSpX} {dd : List D} {wr : DA} (tk : Takes X W) (M : Mk X.K Cl f) (G : FnOk X.prog X.w X.K X.mg X.base (L2.CX X.prog X.w) k f fd ps (spX X.K RX)) (hr : Room (k + 1) X.A) (hm : X.mg x = some (.ref Cl)) (hb : Binds X.K fd ps dsv) (ha : PA X (e :: es) (tA X.K W wr)) (hd : Vals dvs dsv := by exact .nil) (hdd : ∀ F, RepL X.K F dvs dd := by exact fun _ => .nil) (hg : Gl X x := by rfl)
    (hdb : (x == ("__debug__" : Str)) = false := by decide) (he : starEach (e :: es) X.env = (false, eval e X.env) :: starEach es X.env := by rfl) (hpl : (backTo pos (starEach es X.env)).any (·.1) = false := by rfl) :
    PE X (.Call (.Name x p) (e :: es) [] pos) (tE X.K W (wMakeX Cl RX dd wr)) := by
  refine ⟨fun pins s σ H Q I ⟨F, C, ρ, P, PX, hs, en, xr, w, kk⟩ => ?_⟩
  refine wpAny_Call_Name_kw (ld_glob I hg hm ?_ hdb)
  refine PySem.W.callWith_K (h₀ := X.base) I.ok.mod.kin M.kp (thn (ha.run pos pins s σ H (fun vs H1 => ∃ F1 C1 ds, Ex F F1 ∧ Hs X.K F1 C1 H1 ∧ RepL X.K F1 vs ds ∧ ∀ q, C1 q = none → RX (.ptr q :: (ds ++ dd)) (cput C1 q (.ins Cl [])) (fun r C2 => r = .non ∧ P (.ptr q) C2) (fun cls fs C3 => PX cls fs ρ C3)) I
    ⟨F, C, ρ, _, PX, hs, en, xr, w, fun vs F1 H1 ds C1 e1 h1 r q => ⟨F1, C1, ds, e1, h1, r, q⟩⟩) fun us s1 ⟨vs, H1, I1, r, F1, C1, ds, e1, h1, rr, q⟩ => ⟨I1.kIn, ?_⟩) he hpl
  refine make_at (E := WE W σ) M G hr hb hd (passAt tk σ) I1 r fun z dx hz hdx ne => ?_
  obtain ⟨c0, h2⟩ := h1.inst (Cl := Cl) hz hdx ne
  exact ⟨F1, _, .ptr z :: (ds ++ dd), _, _, h2, .cons (.ptr z) (rr.append (hdd F1)), q z c0, ptr_kont (kk.mono e1), KontX.of (xr.mono e1) (en.mono e1)⟩
end

/-! xs.index(y), flat items -/
def dIndex (x : D) (ds : List D) (C : Cells) (P : DK) : Prop := match ds with
  | [y] => ∃ xs, seqOf x C = some xs ∧ flatD y = true ∧ xs.all flatD = true ∧ ∃ (j : Nat) (z : D), xs[j]? = some z ∧ eqV (toV z) (toV y) = true ∧ (∀ (m : Nat) (z' : D), m < j → xs[m]? = some z' → eqV (toV z') (toV y) = false) ∧ P (.int (j : Int)) C
  | _ => False
theorem s_index {K : PySem.W.Frag} : SimM K (rIndex K) dIndex := fun F C H x dx xs ds P Q hs rx rl w k => by
  revert w
  unfold dIndex
  split
  · rename_i y
    rintro ⟨zs, hz, fy, fz, j, z, hj, hzy, hno, w⟩
    obtain ⟨a, us, rfl, hq, hr⟩ := seq_of hs rx hz
    cases rl with
    | cons r1 r2 =>
      cases r2
      obtain ⟨e1, f1⟩ := flat_rep r1 fy
      obtain ⟨e2, f2⟩ := flat_reps hr fz
      refine ⟨a, us, _, j, toV z, rfl, rfl, hq, f1, f2, ?_, by rw [e1]; exact hzy, fun m z' hm hz' => ?_, k _ F H _ C (Ex.refl F) hs (.int _) w⟩
      · rw [e2, List.getElem?_map, hj]; rfl
      · rw [e2, List.getElem?_map] at hz'
        cases hm' : zs[m]? with
        | none => rw [hm'] at hz'; cases hz'
        | some z2 =>
          rw [hm'] at hz'
          cases hz'
          rw [e1]
          exact hno m z2 hm hm'
  · exact fun z => z.elim
theorem eqV_int (a b : Int) : eqV (toV (.int a)) (toV (.int b)) = decide (a = b) := by
  simp only [toV, eqV]
  exact Bool.beq_eq_decide_eq a b
end DD

set_option Elab.async false
set_option linter.all false
set_option maxRecDepth 100000
set_option maxHeartbeats 4000000
/-! xs.extend(ys) of a cell by any list. -/
namespace DD
open PySem L2 HT PySem.Spec PyProof.Rows
open PySem.AutoSeq1 (wpAny_loadPart')

theorem list_extendW (l : Addr) (items : Array Value) (n : Nat) (b : Addr) (items2 : Array Value) (n2 : Nat) (sl2 : Array (Option Value)) (hc0 : ¬(!items.isEmpty && Builtin.List.listTooLong (items.size + items2.size)) = true) (hc1 : items.size ≤ sizeLine) (hs2 : items.size + items2.size ≤ sizeLine + 1) :
    Meets (Builtin.«list.extend» ⟨[.ref l, .ref b], []⟩) (fun _ R s => s.heap.get? l = some { cls := .type "list", dict := none, data := .seq items n, slots := #[] } ∧ s.heap.get? b = some { cls := .type "list", dict := none, data := .seq items2 n2, slots := sl2 } ∧ R (.ok (.ret Value.none)) { s with heap := s.heap.update l (Obj.mapSeq fun x => x ++ items2), toks := s.toks }) :=
  .of_wp fun prog w A R s h => by
    obtain ⟨hp, g, d, tk, os⟩ := s
    obtain ⟨hl, hb, h⟩ := h
    have f1 := AutoSeq1.idx_int
    have f2 := AutoSeq1.sub_tuple_tuple
    have f3 := AutoSeq1.sub_list_list
    have f4 := AutoSeq1.sub_tuple_list
    have f5 := AutoSeq1.sub_list_tuple
    have hz' : (items ++ items2).size ≤ sizeLine + 1 := by rw [Array.size_append]; exact hs2
    wp_walk using (wpAny_updateSeq hl rfl (hz := hc1) (_hz' := hz')), wpAny_loadPart' hl, wpAny_loadPart' hb
    exact ⟨_, rfl, h⟩
def rExtendS (K : PySem.W.Frag) : V → List V → Hp → VK → Prop := fun x vs H Q => ∃ l b xs zs, x = .ref l ∧ vs = [.ref b] ∧ H l = some (.lst xs) ∧ SqL K H b zs ∧ xs.length + zs.length ≤ sizeLine ∧ Q .non (upd H l (.lst (xs ++ zs)))
theorem mt_extendS {X : Cx} : MtR X "list.extend" (rExtendS X.K) := by
  intro pins s σ H x vs v us Q I rx rv h
  obtain ⟨l, b, xs, zs, rfl, rfl, hH, hB, hz, q⟩ := h
  cases rx
  obtain ⟨u, rfl, ru⟩ := rv.one
  cases ru
  obtain ⟨z, its, n, r, hl, e⟩ := I.lstM hH
  obtain ⟨its2, r2, pl2, _⟩ := I.list hB
  obtain ⟨⟨cls2, dd2, data2, sl2⟩, n2, ho2, hc2, hdd, hd2⟩ := pl2
  simp only at hc2 hdd hd2
  subst hc2 hdd hd2
  have hl2 := r2.length
  have hsz : its.toArray.size + its2.toArray.size ≤ sizeLine := by rw [List.size_toArray, List.size_toArray]; omega
  have hlong : ¬ (!its.toArray.isEmpty && Builtin.List.listTooLong (its.toArray.size + its2.toArray.size)) = true := by
    rw [notLongL hsz, Bool.and_false]
    exact Bool.false_ne_true
  refine call_meets F.slot_list_extend ⟨_, e, rfl⟩ F.entry_list_extend (F.args_list_extend_2 _ _)
    (list_extendW l its.toArray n b its2.toArray n2 sl2 hlong (by rw [List.size_toArray]; omega) (by omega)) ⟨e, ho2, ?_⟩
  refine ⟨.non, _, I.lset (its' := its ++ its2) hH e (by simp) (r.append r2) ?_, rfl, q⟩
  rw [List.length_append]
  omega
def dExtend (x : D) (ds : List D) (C : Cells) (P : DK) : Prop := match x, ds with
  | .ptr a, [d] => match C a, seqOf d C with
    | some (.lst xs), some ys => xs.length + ys.length ≤ 100000 ∧ P .non (cput C a (.lst (xs ++ ys)))
    | _, _ => False
  | _, _ => False
theorem s_extend {K : PySem.W.Frag} : SimM K (rExtendS K) dExtend := fun F C H x dx xs ds P Q hs rx rl w k => by
  revert w
  unfold dExtend
  split
  · rename_i a d
    cases rx
    split
    · rename_i ys zs hc hd
      rintro ⟨hl, w⟩
      cases rl with
      | cons r1 r2 =>
        cases r2
        obtain ⟨f0, us, hx, r⟩ := hs.cell a _ hc
        obtain ⟨b, vs, rfl, hv, rv⟩ := seq_of hs r1 hd
        exact ⟨a, b, us, vs, rfl, rfl, hx, hv, by rw [r.length, rv.length]; exact sz_of hl, k _ F _ _ _ (Ex.refl F) (hs.put (c := .lst (ys ++ zs)) f0 ⟨_, upd_same, r.append rv⟩) .non w⟩
    · exact fun z => z.elim
  · exact fun z => z.elim
section
variable {X : Cx} {W : WX} {K : PySem.W.Frag}
theorem d_extend {o e : Expr} {es : List Expr} {wo : DE} {wr : DA} {pos apos : Pos} (ho : PE X o (tE X.K W wo)) (ha : PA X (e :: es) (tA X.K W wr))
    (hbase : attributeBase o (Str.ofString "extend") X.env (eval o X.env) = eval o X.env := by rfl)
    (hfew : ((backTo pos (starEach (e :: es) X.env)).all (fun x => !x.1) && (backToKw pos (keywordEach [] X.env)).all (fun x => x.1.isSome)
      && decide ((e :: es).length + ([] : List Keyword).length + (if ([] : List Keyword).isEmpty then 0 else 1) < 30)) = true := by rfl)
    (hline : (apos.endLine == pos.line) = true := by rfl) (hs : starEach (e :: es) X.env = (false, eval e X.env) :: starEach es X.env := by rfl) (hplain : (backTo pos (starEach es X.env)).any (·.1) = false := by rfl) :
    PE X (.Call (.Attribute o (Str.ofString "extend") apos) (e :: es) [] pos) (tE X.K W (wBML dExtend wo wr)) :=
  d_bmL PySem.F.plainAttrs_list PySem.F.slot_list_extend PySem.F.type_list_extend mt_extendS s_extend ho ha hbase hfew hline hs hplain
end
end DD

set_option Elab.async false
set_option linter.all false
set_option maxRecDepth 100000
set_option maxHeartbeats 4000000
namespace Law
open PySem L2 DD
local macro_rules | `(tactic| walk_at "dd") => `(tactic| simp only [wFor, wLc, wYes, wSeq, wRaise, wTry, wSet, wNext, wBreak, wCont, wDrop, wRet, wRetN, wIfS, wRetF, wFrz, wAsg, wAug, wPar, wVar, wC, wNil, wCons, wOp, wUn, wCB, wTest, wAnd, wOr, wNot, wIf, wAndV, wOrV, wNotV, wChain, wTup, wLst, wLstC, wItL, wItT, wRng1, wRng2, wRng3,
  dI, dI0, dU, dEqv, dIsN, dLen, dIx, dMax2, dMin2, dAbs, dInt, dList, dListC, dTupleOf, wCall, wCallX, wMeth, wMethX, wMake, wMakeF, wMakeX, wMakeXF, frzP, wFld, wFldSet, wSetL, wAugL, wBML, dAppend, dPop, dCat, wRep, wRepC, wNoPart, wPart, wSl,
  endsD, endsX, startD, dput, Tgt.dg, dgs, dwipe, List.map_cons, List.map_nil, List.cons_append, List.nil_append, List.append_nil, List.length_cons, List.length_nil, List.replicate_succ, List.replicate_zero, List.getElem?_cons_zero, List.getElem?_cons_succ, List.getElem?_nil, List.set_cons_zero, List.set_cons_succ, List.set_nil, List.lookup,
  Nat.reduceAdd, Nat.reduceSub, Nat.reduceLeDiff, Option.map_some, Option.map_none, Option.bind_some, Option.bind_none, Option.isSome_some, Bool.false_xor, Bool.true_xor, Bool.not_true, Bool.not_false, decide_true, decide_false, decide_eq_true_eq, decide_eq_false_iff_not, Bool.not_eq_true, Bool.false_eq_true, reduceCtorEq, if_true, if_false, ite_true, ite_false, true_and, and_true, String.reduceBEq, String.reduceEq, ofString_eq_iff, cput_same, cput_cput, reduceIte, ↓reduceIte, atI_zero, atI_nat', atI_lit, atI_succ, atI_snoc, seqOf_lst, seqOf_ptr, itsOf_lst, itsOf_tup, itsOf_ptr, lenOf_lst, lenOf_tup, lenOf_ptr, itemOf_lst, itemOf_tup, itemOf_ptr, isSeq_ptr, isSeq_lst, fldOf_ins, fldOf_ptr, isIns_ins, isIns_ptr, dEqD, res_lst, res_tup, res_ptr, dIn, dInD, inItems, dIndex, dCatT, dExtend, List.getElem?_map, List.length_map, Int.zero_add, *])
abbrev prg : PySem.Program := PySem.Challenge.pw_copperhouse_k20_how_many_places
def topS (i : Nat) : Stmt := prg.main.body.getD i (.Pass ⟨0, 0, 0, 0⟩)
abbrev s_law_state : Stmt := topS 19
abbrev s_law_digit : Stmt := topS 20
abbrev s_law_intervals : Stmt := topS 21
abbrev s_law_cell : Stmt := topS 18
abbrev s_check_intervals : Stmt := topS 4
abbrev s_arrivals : Stmt := topS 10
abbrev s_kept_by_ends : Stmt := topS 15
abbrev s_most_kept : Stmt := topS 14
abbrev s_limited : Stmt := topS 11
abbrev s_overflowing : Stmt := topS 16
abbrev s_law_over : Stmt := topS 25
abbrev s_law_fits : Stmt := topS 22
abbrev s_law_most : Stmt := topS 23
abbrev s_turns : Stmt := topS 6
abbrev s_load_at : Stmt := topS 5
abbrev s_load_steps : Stmt := topS 7
abbrev s_peak : Stmt := topS 8
abbrev s_lost_count : Stmt := topS 12
abbrev s_least_places : Stmt := topS 13
abbrev s_law_least : Stmt := topS 24
abbrev s_law : Stmt := topS 26
theorem sc_law_state : FnScope ["cell", "k", "prime", "first", "second", "third", "fourth"] ["cell", "k"] (defScope s_law_state) := ⟨rfl, rfl, rfl, by decide +kernel, rfl, by decide +kernel, by decide +kernel⟩
theorem sc_law_digit : FnScope ["state", "many", "digit"] ["state", "many"] (defScope s_law_digit) := ⟨rfl, rfl, rfl, by decide +kernel, rfl, by decide +kernel, by decide +kernel⟩
theorem sc_law_intervals : FnScope ["state", "many", "wide", "found", "spare", "begin"] ["state", "many", "wide"] (defScope s_law_intervals) := ⟨rfl, rfl, rfl, by decide +kernel, rfl, by decide +kernel, by decide +kernel⟩
theorem sc_law_cell : FnScope ["script", "k"] ["script", "k"] (defScope s_law_cell) := ⟨rfl, rfl, rfl, by decide +kernel, rfl, by decide +kernel, by decide +kernel⟩
theorem sc_check_intervals : FnScope ["intervals", "begin", "end"] ["intervals"] (defScope s_check_intervals) := ⟨rfl, rfl, rfl, by decide +kernel, rfl, by decide +kernel, by decide +kernel⟩
theorem sc_arrivals : FnScope ["intervals", "order", "number", "_"] ["intervals"] (defScope s_arrivals) := ⟨rfl, rfl, rfl, by decide +kernel, rfl, by decide +kernel, by decide +kernel⟩
theorem sc_kept_by_ends : FnScope ["intervals", "count", "kept", "now", "number", "begin", "end", "still", "other"] ["intervals", "count"] (defScope s_kept_by_ends) := ⟨rfl, rfl, rfl, by decide +kernel, rfl, by decide +kernel, by decide +kernel⟩
theorem sc_most_kept : FnScope ["intervals", "count"] ["intervals", "count"] (defScope s_most_kept) := ⟨rfl, rfl, rfl, by decide +kernel, rfl, by decide +kernel, by decide +kernel⟩
theorem sc_limited : FnScope ["intervals", "count", "places", "until", "number", "begin", "end", "place"] ["intervals", "count"] (defScope s_limited) := ⟨rfl, rfl, rfl, by decide +kernel, rfl, by decide +kernel, by decide +kernel⟩
theorem sc_overflowing : FnScope ["intervals", "first", "second", "main", "rest", "late", "over", "place", "number"] ["intervals", "first", "second"] (defScope s_overflowing) := ⟨rfl, rfl, rfl, by decide +kernel, rfl, by decide +kernel, by decide +kernel⟩
theorem sc_law_over : FnScope ["intervals", "first", "second", "main", "rest", "late", "over", "place", "number"] ["intervals", "first", "second"] (defScope s_law_over) := ⟨rfl, rfl, rfl, by decide +kernel, rfl, by decide +kernel, by decide +kernel⟩
theorem sc_law_fits : FnScope ["chosen", "count", "begin", "spare", "one", "other"] ["chosen", "count"] (defScope s_law_fits) := ⟨rfl, rfl, rfl, by decide +kernel, rfl, by decide +kernel, by decide +kernel⟩
theorem sc_law_most : FnScope ["intervals", "count", "best", "choices", "interval", "chosen"] ["intervals", "count"] (defScope s_law_most) := ⟨rfl, rfl, rfl, by decide +kernel, rfl, by decide +kernel, by decide +kernel⟩
theorem sc_turns : FnScope ["intervals", "times", "begin", "end", "found", "clock"] ["intervals"] (defScope s_turns) := ⟨rfl, rfl, rfl, by decide +kernel, rfl, by decide +kernel, by decide +kernel⟩
theorem sc_load_at : FnScope ["intervals", "clock", "count", "begin", "end"] ["intervals", "clock"] (defScope s_load_at) := ⟨rfl, rfl, rfl, by decide +kernel, rfl, by decide +kernel, by decide +kernel⟩
theorem sc_load_steps : FnScope ["intervals", "found", "load", "clock", "now"] ["intervals"] (defScope s_load_steps) := ⟨rfl, rfl, rfl, by decide +kernel, rfl, by decide +kernel, by decide +kernel⟩
theorem sc_peak : FnScope ["intervals", "best", "clock", "load"] ["intervals"] (defScope s_peak) := ⟨rfl, rfl, rfl, by decide +kernel, rfl, by decide +kernel, by decide +kernel⟩
theorem sc_lost_count : FnScope ["intervals", "count", "lost", "place"] ["intervals", "count"] (defScope s_lost_count) := ⟨rfl, rfl, rfl, by decide +kernel, rfl, by decide +kernel, by decide +kernel⟩
theorem sc_least_places : FnScope ["intervals", "share", "most", "_", "count"] ["intervals", "share"] (defScope s_least_places) := ⟨rfl, rfl, rfl, by decide +kernel, rfl, by decide +kernel, by decide +kernel⟩
theorem sc_law_least : FnScope ["intervals", "share", "count"] ["intervals", "share"] (defScope s_law_least) := ⟨rfl, rfl, rfl, by decide +kernel, rfl, by decide +kernel, by decide +kernel⟩
theorem sc_law : FnScope ["script", "k", "state", "short", "count", "longer", "share", "first", "second"] ["script"] (defScope s_law) := ⟨rfl, rfl, rfl, by decide +kernel, rfl, by decide +kernel, by decide +kernel⟩
/-- where things stand -/
structure Ad where
  a_law_state : Addr
  d_law_state : FuncData
  a_law_digit : Addr
  d_law_digit : FuncData
  a_law_intervals : Addr
  d_law_intervals : FuncData
  a_law_cell : Addr
  d_law_cell : FuncData
  a_check_intervals : Addr
  d_check_intervals : FuncData
  a_arrivals : Addr
  d_arrivals : FuncData
  a_kept_by_ends : Addr
  d_kept_by_ends : FuncData
  a_most_kept : Addr
  d_most_kept : FuncData
  a_limited : Addr
  d_limited : FuncData
  a_overflowing : Addr
  d_overflowing : FuncData
  a_law_over : Addr
  d_law_over : FuncData
  a_law_fits : Addr
  d_law_fits : FuncData
  a_law_most : Addr
  d_law_most : FuncData
  a_turns : Addr
  d_turns : FuncData
  a_load_at : Addr
  d_load_at : FuncData
  a_load_steps : Addr
  d_load_steps : FuncData
  a_peak : Addr
  d_peak : FuncData
  a_lost_count : Addr
  d_lost_count : FuncData
  a_least_places : Addr
  d_least_places : FuncData
  a_law_least : Addr
  d_law_least : FuncData
  a_law : Addr
  d_law : FuncData
  C_BadInterval : Addr
structure Txt (K : PySem.W.Frag) (mg : Str → Option Value) (A : Ad) : Prop where
  F_law_state : Fun K "_law_state" "_law_state" s_law_state A.a_law_state A.d_law_state
  b_law_state : Binds K A.d_law_state ["cell", "k"] []
  g_law_state : mg "_law_state" = some (.ref A.a_law_state)
  F_law_digit : Fun K "_law_digit" "_law_digit" s_law_digit A.a_law_digit A.d_law_digit
  b_law_digit : Binds K A.d_law_digit ["state", "many"] []
  g_law_digit : mg "_law_digit" = some (.ref A.a_law_digit)
  F_law_intervals : Fun K "_law_intervals" "_law_intervals" s_law_intervals A.a_law_intervals A.d_law_intervals
  b_law_intervals : Binds K A.d_law_intervals ["state", "many", "wide"] []
  g_law_intervals : mg "_law_intervals" = some (.ref A.a_law_intervals)
  F_law_cell : Fun K "_law_cell" "_law_cell" s_law_cell A.a_law_cell A.d_law_cell
  b_law_cell : Binds K A.d_law_cell ["script", "k"] []
  g_law_cell : mg "_law_cell" = some (.ref A.a_law_cell)
  F_check_intervals : Fun K "check_intervals" "check_intervals" s_check_intervals A.a_check_intervals A.d_check_intervals
  b_check_intervals : Binds K A.d_check_intervals ["intervals"] []
  g_check_intervals : mg "check_intervals" = some (.ref A.a_check_intervals)
  F_arrivals : Fun K "arrivals" "arrivals" s_arrivals A.a_arrivals A.d_arrivals
  b_arrivals : Binds K A.d_arrivals ["intervals"] []
  g_arrivals : mg "arrivals" = some (.ref A.a_arrivals)
  F_kept_by_ends : Fun K "kept_by_ends" "kept_by_ends" s_kept_by_ends A.a_kept_by_ends A.d_kept_by_ends
  b_kept_by_ends : Binds K A.d_kept_by_ends ["intervals", "count"] []
  g_kept_by_ends : mg "kept_by_ends" = some (.ref A.a_kept_by_ends)
  F_most_kept : Fun K "most_kept" "most_kept" s_most_kept A.a_most_kept A.d_most_kept
  b_most_kept : Binds K A.d_most_kept ["intervals", "count"] []
  g_most_kept : mg "most_kept" = some (.ref A.a_most_kept)
  F_limited : Fun K "limited" "limited" s_limited A.a_limited A.d_limited
  b_limited : Binds K A.d_limited ["intervals", "count"] []
  g_limited : mg "limited" = some (.ref A.a_limited)
  F_overflowing : Fun K "overflowing" "overflowing" s_overflowing A.a_overflowing A.d_overflowing
  b_overflowing : Binds K A.d_overflowing ["intervals", "first", "second"] []
  g_overflowing : mg "overflowing" = some (.ref A.a_overflowing)
  F_law_over : Fun K "_law_over" "_law_over" s_law_over A.a_law_over A.d_law_over
  b_law_over : Binds K A.d_law_over ["intervals", "first", "second"] []
  g_law_over : mg "_law_over" = some (.ref A.a_law_over)
  F_law_fits : Fun K "_law_fits" "_law_fits" s_law_fits A.a_law_fits A.d_law_fits
  b_law_fits : Binds K A.d_law_fits ["chosen", "count"] []
  g_law_fits : mg "_law_fits" = some (.ref A.a_law_fits)
  F_law_most : Fun K "_law_most" "_law_most" s_law_most A.a_law_most A.d_law_most
  b_law_most : Binds K A.d_law_most ["intervals", "count"] []
  g_law_most : mg "_law_most" = some (.ref A.a_law_most)
  F_turns : Fun K "turns" "turns" s_turns A.a_turns A.d_turns
  b_turns : Binds K A.d_turns ["intervals"] []
  g_turns : mg "turns" = some (.ref A.a_turns)
  F_load_at : Fun K "load_at" "load_at" s_load_at A.a_load_at A.d_load_at
  b_load_at : Binds K A.d_load_at ["intervals", "clock"] []
  g_load_at : mg "load_at" = some (.ref A.a_load_at)
  F_load_steps : Fun K "load_steps" "load_steps" s_load_steps A.a_load_steps A.d_load_steps
  b_load_steps : Binds K A.d_load_steps ["intervals"] []
  g_load_steps : mg "load_steps" = some (.ref A.a_load_steps)
  F_peak : Fun K "peak" "peak" s_peak A.a_peak A.d_peak
  b_peak : Binds K A.d_peak ["intervals"] []
  g_peak : mg "peak" = some (.ref A.a_peak)
  F_lost_count : Fun K "lost_count" "lost_count" s_lost_count A.a_lost_count A.d_lost_count
  b_lost_count : Binds K A.d_lost_count ["intervals", "count"] []
  g_lost_count : mg "lost_count" = some (.ref A.a_lost_count)
  F_least_places : Fun K "least_places" "least_places" s_least_places A.a_least_places A.d_least_places
  b_least_places : Binds K A.d_least_places ["intervals", "share"] []
  g_least_places : mg "least_places" = some (.ref A.a_least_places)
  F_law_least : Fun K "_law_least" "_law_least" s_law_least A.a_law_least A.d_law_least
  b_law_least : Binds K A.d_law_least ["intervals", "share"] []
  g_law_least : mg "_law_least" = some (.ref A.a_law_least)
  F_law : Fun K "law" "law" s_law A.a_law A.d_law
  b_law : Binds K A.d_law ["script"] []
  g_law : mg "law" = some (.ref A.a_law)
  g_BadInterval : mg "BadInterval" = some (.ref A.C_BadInterval)
  x_BadInterval : XcT K A.C_BadInterval
  z_int : mg "int" = none
  z_len : mg "len" = none
  z_min : mg "min" = none
  z_range : mg "range" = none
  z_sorted : mg "sorted" = none
section
variable {P : Program} {w : World} {K : PySem.W.Frag} {mg : Str → Option Value} {base : Heap} {A : Ad}
abbrev Iv := Int × Int
def ivsD (I : List Iv) : D := .lst (I.map pairD)
def IvOk (I : List Iv) : Prop := ∀ e ∈ I, 0 ≤ e.1 ∧ e.1 < e.2 ∧ e.2 ≤ 120
def optIntD : Option Int → D
  | none => .non
  | some t => .int t
theorem cput_id {C : Cells} {p : Addr} {c : Cell} (h : C p = some c) : cput C p c = C := by
  funext a
  unfold cput
  split
  · rename_i e; rw [e, h]
  · rfl
theorem cput_comm {C : Cells} {p r : Addr} {c d : Cell} (h : p ≠ r) : cput (cput C p c) r d = cput (cput C r d) p c := by
  funext a
  unfold cput
  by_cases e : a = r
  · subst e; rw [if_pos rfl, if_neg (fun z => h z.symm), if_pos rfl]
  · rw [if_neg e]
    by_cases e2 : a = p
    · rw [if_pos e2, if_pos e2]
    · rw [if_neg e2, if_neg e2, if_neg e]
theorem rng_set (g g' : Nat → Int) (n i : Nat) (v : Int) (hv : g' i = v) (ho : ∀ h, h ≠ i → g' h = g h) : ((List.range n).map g).set i v = (List.range n).map g' := by
  apply List.ext_getElem?
  intro k
  rw [List.getElem?_set, List.getElem?_map, List.getElem?_map]
  by_cases hk : k < n
  · rw [List.getElem?_range hk]
    simp only [Option.map_some, List.length_map, List.length_range]
    by_cases e : i = k
    · subst e
      rw [if_pos rfl, if_pos hk, hv]
    · rw [if_neg e, ho k (fun z => e z.symm)]
  · rw [List.getElem?_eq_none (by simpa using hk)]
    simp only [Option.map_none, List.length_map, List.length_range]
    split
    · rw [if_neg (by omega)]
    · rfl
theorem rng_get (g : Nat → Int) {n i : Nat} (h : i < n) : ((List.range n).map g)[i]? = some (g i) := by
  rw [List.getElem?_map, List.getElem?_range h]; rfl
theorem sortI_sorted (L : List Int) : (sortI L).Pairwise (· ≤ ·) := by
  have := List.pairwise_mergeSort (le := fun a b : Int => decide (a ≤ b)) (fun a b c h1 h2 => by simp only [decide_eq_true_eq] at *; omega) (fun a b => by simp only [Bool.or_eq_true, decide_eq_true_eq]; omega) L
  exact this.imp (fun h => by simpa using h)
theorem rng_count (n : Nat) (a b : Int) (ha : 0 ≤ a) (hab : a ≤ b) (hb : b ≤ n) : ((List.range n).filter fun c : Nat => decide (a ≤ (c : Int) ∧ (c : Int) < b)).length = (b - a).toNat := by
  suffices h : ∀ n : Nat, (((List.range n).filter fun c : Nat => decide (a ≤ (c : Int) ∧ (c : Int) < b)).length : Int) = min b n - min a n by have := h n; omega
  intro n
  induction n with
  | zero => simp; omega
  | succ n ih =>
    rw [List.range_succ, List.filter_append, List.length_append]
    by_cases h : a ≤ (n : Int) ∧ (n : Int) < b
    · rw [List.filter_cons_of_pos (by simpa using h), List.filter_nil]
      simp only [List.length_cons, List.length_nil]
      omega
    · rw [List.filter_cons_of_neg (by simpa using h), List.filter_nil]
      simp only [List.length_nil]
      omega
theorem filter_or {α : Type} (p q r : α → Bool) (h : ∀ x, r x = (p x || q x)) (hd : ∀ x, p x = true → q x = false) : ∀ L : List α, (L.filter r).length = (L.filter p).length + (L.filter q).length
  | [] => rfl
  | x :: L => by
    have ih := filter_or p q r h hd L
    simp only [List.filter_cons]
    have hx := h x
    have hd := hd x
    cases hp : p x <;> cases hq : q x <;> simp_all <;> omega
def inB (P : List Iv) (c : Int) : Bool := P.any fun e => decide (e.1 ≤ c ∧ c < e.2)
theorem inB_snoc (P : List Iv) (e : Iv) (c : Int) : inB (P ++ [e]) c = (inB P c || decide (e.1 ≤ c ∧ c < e.2)) := by unfold inB; rw [List.any_append]; simp
theorem inB_iff {P : List Iv} {c : Int} : inB P c = true ↔ ∃ e ∈ P, e.1 ≤ c ∧ c < e.2 := by unfold inB; rw [List.any_eq_true]; simp only [decide_eq_true_eq]
theorem inB_perm {P Q : List Iv} (h : P.Perm Q) (c : Int) : inB P c = inB Q c := by
  rw [Bool.eq_iff_iff, inB_iff, inB_iff]
  exact ⟨fun ⟨e, he, z⟩ => ⟨e, h.mem_iff.mp he, z⟩, fun ⟨e, he, z⟩ => ⟨e, h.mem_iff.mpr he, z⟩⟩
theorem ones_map {α : Type} (p : α → Prop) [DecidablePred p] : ∀ I : List α, I.filterMap (fun e => if p e then some (D.int 1) else none) = (List.replicate (I.filter fun e => decide (p e)).length (1 : Int)).map D.int
  | [] => rfl
  | a :: I => by
    have ih := ones_map p I
    by_cases g : p a
    · rw [List.filterMap_cons_some (b := .int 1) (by rw [if_pos g]), List.filter_cons_of_pos (by simpa using g), List.length_cons, List.replicate_succ, List.map_cons, ih]
    · rw [List.filterMap_cons_none (by rw [if_neg g]), List.filter_cons_of_neg (by simpa using g), ih]
theorem rep_empty (n : Nat) : (List.replicate n (1 : Int)).isEmpty = decide (n = 0) := by cases n <;> simp [List.replicate_succ]
def badF (I : List Iv) : Bool := I.any fun e => decide (e.2 ≤ e.1)
def loadF (I : List Iv) (c : Int) : Int := ((I.filter fun e => decide (e.1 ≤ c ∧ c < e.2)).length : Nat)
def endsF (I : List Iv) : List Int := I.flatMap fun e => [e.1, e.2]
def dedupF (L : List Int) : List Int := L.foldl (fun f c => if f.getLast? = some c then f else f ++ [c]) []
def turnsF (I : List Iv) : List Int := dedupF (sortI (endsF I))
def stepF (I : List Iv) (s : List Iv × Int) (c : Int) : List Iv × Int := if loadF I c ≠ s.2 then (s.1 ++ [(c, loadF I c)], loadF I c) else s
def stepsF (I : List Iv) : List Iv := ((turnsF I).foldl (stepF I) ([], 0)).1
def pkF (b : Int × Option Int) (e : Iv) : Int × Option Int := if e.2 > b.1 then (e.2, some e.1) else b
def peakF (I : List Iv) : Int × Option Int := (stepsF I).foldl pkF (0, none)
def bestD (b : Int × Option Int) : D := .tup [.int b.1, optIntD b.2]
def rngI (n : Nat) : List Int := (List.range n).map fun k : Nat => (k : Int)
theorem rngI_succ (n : Nat) : rngI (n + 1) = rngI n ++ [(n : Int)] := by unfold rngI; rw [List.range_succ, List.map_append]; rfl
theorem rngI_mem {n : Nat} {x : Int} : x ∈ rngI n ↔ 0 ≤ x ∧ x < n := by
  unfold rngI
  rw [List.mem_map]
  constructor
  · rintro ⟨k, hk, rfl⟩
    have := List.mem_range.mp hk
    omega
  · rintro ⟨h1, h2⟩
    exact ⟨x.toNat, List.mem_range.mpr (by omega), by omega⟩
theorem rngI_sorted : ∀ n, (rngI n).Pairwise (· < ·)
  | 0 => .nil
  | n + 1 => by
    rw [rngI_succ, List.pairwise_append]
    refine ⟨rngI_sorted n, List.pairwise_singleton _ _, fun a ha b hb => ?_⟩
    have := rngI_mem.mp ha
    simp only [List.mem_cons, List.not_mem_nil, or_false] at hb
    omega
theorem ssort_ext : ∀ {L M : List Int}, L.Pairwise (· < ·) → M.Pairwise (· < ·) → (∀ x, x ∈ L ↔ x ∈ M) → L = M
  | [], [], _, _, _ => rfl
  | [], b :: M, _, _, h => absurd ((h b).mpr List.mem_cons_self) List.not_mem_nil
  | a :: L, [], _, _, h => absurd ((h a).mp List.mem_cons_self) List.not_mem_nil
  | a :: L, b :: M, h1, h2, h => by
    rw [List.pairwise_cons] at h1 h2
    have hab : a = b := by
      have ha := (h a).mp List.mem_cons_self
      have hb := (h b).mpr List.mem_cons_self
      rcases List.mem_cons.mp ha with e | ha
      · exact e
      · rcases List.mem_cons.mp hb with e | hb
        · exact e.symm
        · have := h2.1 a ha
          have := h1.1 b hb
          omega
    subst hab
    refine congrArg (List.cons a) (ssort_ext h1.2 h2.2 fun x => ⟨fun hx => ?_, fun hx => ?_⟩)
    · rcases List.mem_cons.mp ((h x).mp (List.mem_cons_of_mem _ hx)) with e | g
      · have := h1.1 x hx; omega
      · exact g
    · rcases List.mem_cons.mp ((h x).mpr (List.mem_cons_of_mem _ hx)) with e | g
      · have := h2.1 x hx; omega
      · exact g
theorem dedup_spec {L : List Int} (hs : L.Pairwise (· ≤ ·)) : (dedupF L).Pairwise (· < ·) ∧ ∀ x, x ∈ dedupF L ↔ x ∈ L := by
  suffices h : ∀ k, k ≤ L.length → (dedupF (L.take k)).Pairwise (· < ·) ∧ ∀ x, x ∈ dedupF (L.take k) ↔ x ∈ L.take k by
    have := h L.length (Nat.le_refl _)
    rwa [List.take_length] at this
  intro k
  induction k with
  | zero => intro _; exact ⟨.nil, fun x => Iff.rfl⟩
  | succ k ih =>
    intro hk
    obtain ⟨h1, h2⟩ := ih (by omega)
    have hx : L[k]? = some L[k] := List.getElem?_eq_getElem (by omega)
    rw [take_snoc hx]
    have hle : ∀ x ∈ L.take k, x ≤ L[k] := by
      intro x hx
      obtain ⟨i, hi, rfl⟩ := List.mem_take_iff_getElem.mp hx
      exact List.pairwise_iff_getElem.mp hs i k (by omega) (by omega) (by omega)
    generalize L[k] = c at hle
    have e : dedupF (L.take k ++ [c]) = if (dedupF (L.take k)).getLast? = some c then dedupF (L.take k) else dedupF (L.take k) ++ [c] := by
      unfold dedupF
      rw [List.foldl_append]
      rfl
    rw [e]
    generalize L.take k = P at h1 h2 hle
    generalize dedupF P = f at h1 h2
    by_cases g : f.getLast? = some c
    · rw [if_pos g]
      refine ⟨h1, fun x => ?_⟩
      rw [List.mem_append, h2]
      constructor
      · exact .inl
      · rintro (z | z)
        · exact z
        · simp only [List.mem_cons, List.not_mem_nil, or_false] at z
          subst z
          exact (h2 _).mp (List.mem_of_getLast? g)
    · rw [if_neg g]
      refine ⟨?_, fun x => by rw [List.mem_append, List.mem_append, h2]⟩
      rw [List.pairwise_append]
      refine ⟨h1, List.pairwise_singleton _ _, fun a ha b hb => ?_⟩
      simp only [List.mem_cons, List.not_mem_nil, or_false] at hb
      subst hb
      rcases List.eq_nil_or_concat f with z | ⟨f0, y, z⟩
      · subst z; cases ha
      · rw [List.concat_eq_append] at z
        subst z
        rw [List.getLast?_concat] at g
        have hy : y ≠ b := fun z => g (congrArg some z)
        have hyb := hle y ((h2 y).mp (by simp))
        have hay : a ≤ y := by
          rw [List.pairwise_append] at h1
          rcases List.mem_append.mp ha with z | z
          · have := h1.2.2 a z y (by simp); omega
          · simp only [List.mem_cons, List.not_mem_nil, or_false] at z; omega
        omega
theorem ded_len (P : List Int) : (dedupF P).length ≤ P.length := by
  suffices h : ∀ (P f : List Int), (P.foldl (fun f c => if f.getLast? = some c then f else f ++ [c]) f).length ≤ f.length + P.length by
    have := h P []
    unfold dedupF
    simpa using this
  intro P
  induction P with
  | nil => intro f; exact Nat.le_refl _
  | cons c P ih =>
    intro f
    rw [List.foldl_cons, List.length_cons]
    have := ih (if f.getLast? = some c then f else f ++ [c])
    split at this
    · rename_i g; rw [if_pos g]; omega
    · rename_i g; rw [if_neg g]; rw [List.length_append] at this; simp only [List.length_cons, List.length_nil] at this; omega
theorem ends_len (I : List Iv) : (endsF I).length = 2 * I.length := by
  unfold endsF
  induction I with
  | nil => rfl
  | cons x I ih => rw [List.flatMap_cons, List.length_append, ih]; simp; omega
theorem turns_len (I : List Iv) : (turnsF I).length ≤ 2 * I.length := by
  have := ded_len (sortI (endsF I))
  rw [(sortI_perm _).length_eq, ends_len] at this
  exact this
theorem bad_ok {I : List Iv} (ho : IvOk I) : badF I = false := by
  unfold badF
  rw [List.any_eq_false]
  intro e he
  have := ho e he
  simp only [decide_eq_true_eq]; omega
theorem inD_int (d : Int) (xs : List Int) : inD (.int d) (xs.map D.int) = decide (d ∈ xs) := by
  unfold inD
  rw [List.any_map]
  induction xs with
  | nil => rfl
  | cons x r ih =>
    rw [List.any_cons, ih]
    simp only [Function.comp_apply, eqV_int, List.mem_cons]
    by_cases h : x = d
    · simp [h]
    · have h' : ¬ d = x := fun z => h z.symm
      simp [h, h']
theorem all_flat (xs : List Int) : (xs.map D.int).all flatD = true := by
  rw [List.all_eq_true]
  intro x hx
  obtain ⟨i, _, rfl⟩ := List.mem_map.mp hx
  rfl
theorem ends_mem {I : List Iv} {x : Int} : x ∈ endsF I ↔ ∃ e ∈ I, x = e.1 ∨ x = e.2 := by
  unfold endsF
  rw [List.mem_flatMap]
  simp only [List.mem_cons, List.not_mem_nil, or_false]
theorem turns_eq {I : List Iv} (ho : IvOk I) : turnsF I = (rngI 130).filter fun c => decide (c ∈ endsF I) := by
  obtain ⟨h1, h2⟩ := dedup_spec (sortI_sorted (endsF I))
  refine ssort_ext h1 ((rngI_sorted 130).filter _) fun x => ?_
  unfold turnsF
  rw [h2, (sortI_perm _).mem_iff, List.mem_filter, rngI_mem, decide_eq_true_eq]
  constructor
  · intro h
    refine ⟨?_, h⟩
    obtain ⟨e, he, z⟩ := ends_mem.mp h
    have := ho e he
    omega
  · exact fun h => h.2
theorem load_same {I : List Iv} {c : Int} (h : c ∉ endsF I) : loadF I c = loadF I (c - 1) := by
  unfold loadF
  congr 2
  refine List.filter_congr fun e he => ?_
  have h1 : c ≠ e.1 := fun z => h (ends_mem.mpr ⟨e, he, .inl z⟩)
  have h2 : c ≠ e.2 := fun z => h (ends_mem.mpr ⟨e, he, .inr z⟩)
  rw [Bool.eq_iff_iff]
  simp only [decide_eq_true_eq]
  omega
theorem load_neg {I : List Iv} (ho : IvOk I) : loadF I (-1) = 0 := by
  unfold loadF
  rw [List.filter_eq_nil_iff.mpr]
  · rfl
  · intro e he
    have := ho e he
    simp only [decide_eq_true_eq]; omega
def fullF (I : List Iv) (n : Nat) : List Iv × Int := (rngI n).foldl (stepF I) ([], 0)
theorem full_succ (I : List Iv) (n : Nat) : fullF I (n + 1) = stepF I (fullF I n) n := by unfold fullF; rw [rngI_succ, List.foldl_append]; rfl
theorem full_load {I : List Iv} (ho : IvOk I) : ∀ n : Nat, (fullF I n).2 = loadF I ((n : Int) - 1)
  | 0 => (load_neg ho).symm
  | n + 1 => by
    rw [full_succ]
    unfold stepF
    rw [show ((n + 1 : Nat) : Int) - 1 = n by omega]
    split
    · rfl
    · rename_i h
      exact (Decidable.not_not.mp h).symm
theorem full_filter {I : List Iv} (ho : IvOk I) : ∀ n : Nat, ((rngI n).filter fun c => decide (c ∈ endsF I)).foldl (stepF I) ([], 0) = fullF I n
  | 0 => rfl
  | n + 1 => by
    rw [rngI_succ, List.filter_append, List.foldl_append, full_filter ho n, full_succ]
    by_cases h : (n : Int) ∈ endsF I
    · rw [List.filter_cons_of_pos (by simpa using h)]; rfl
    · rw [List.filter_cons_of_neg (by simpa using h)]
      show fullF I n = _
      unfold stepF
      rw [full_load ho, load_same h, if_neg (by simp)]
theorem steps_eq {I : List Iv} (ho : IvOk I) : stepsF I = (fullF I 130).1 := by unfold stepsF; rw [turns_eq ho, full_filter ho]
def bestF (I : List Iv) (n : Nat) : Int × Option Int := (fullF I n).1.foldl pkF (0, none)
theorem best_spec {I : List Iv} (ho : IvOk I) : ∀ n : Nat, 0 ≤ (bestF I n).1 ∧ (∀ c : Nat, c < n → loadF I c ≤ (bestF I n).1) ∧ match (bestF I n).2 with
    | none => (bestF I n).1 = 0
    | some i => ∃ k : Nat, i = k ∧ k < n ∧ loadF I k = (bestF I n).1 ∧ 0 < (bestF I n).1 ∧ ∀ c : Nat, c < k → loadF I c < (bestF I n).1
  | 0 => ⟨Int.le_refl _, fun c hc => absurd hc (Nat.not_lt_zero _), rfl⟩
  | n + 1 => by
    obtain ⟨h0, h1, h2⟩ := best_spec ho n
    have e : bestF I (n + 1) = pkF (bestF I n) ((n : Int), loadF I n) := by
      unfold bestF
      rw [full_succ]
      unfold stepF
      by_cases g : loadF I n ≠ (fullF I n).2
      · rw [if_pos g]
        dsimp only
        rw [List.foldl_append]; rfl
      · rw [if_neg g]
        have g' : loadF I n = (fullF I n).2 := Decidable.not_not.mp g
        rw [full_load ho] at g'
        have : loadF I n ≤ (bestF I n).1 := by
          cases n with
          | zero => rw [show ((0 : Nat) : Int) - 1 = -1 by rfl, load_neg ho] at g'; rw [g']; exact h0
          | succ m =>
            have := h1 m (by omega)
            rw [show ((m + 1 : Nat) : Int) - 1 = m by omega] at g'
            omega
        show bestF I n = pkF (bestF I n) ((n : Int), loadF I n)
        exact (if_neg (show ¬ loadF I n > (bestF I n).1 by omega)).symm
    rw [e]
    clear e
    generalize bestF I n = b at h0 h1 h2
    obtain ⟨m, o⟩ := b
    unfold pkF
    dsimp only at h0 h1 h2 ⊢
    by_cases g : loadF I n > m
    · rw [if_pos g]
      dsimp only
      refine ⟨by omega, fun c hc => ?_, n, rfl, by omega, rfl, by omega, fun c hc => ?_⟩
      · by_cases z : c = n
        · subst z; exact Int.le_refl _
        · have := h1 c (by omega); omega
      · have := h1 c hc; omega
    · rw [if_neg g]
      dsimp only
      refine ⟨h0, fun c hc => ?_, ?_⟩
      · by_cases z : c = n
        · subst z; omega
        · exact h1 c (by omega)
      · cases o with
        | none => exact h2
        | some i =>
          obtain ⟨k, h3, h4, h5, h6, h7⟩ := h2
          exact ⟨k, h3, by omega, h5, h6, h7⟩
/-- an interval and its number -/
abbrev Tr := Iv × Nat
def leT (p q : Tr) : Bool := decide (p.1.1 < q.1.1 ∨ (p.1.1 = q.1.1 ∧ (p.1.2 < q.1.2 ∨ (p.1.2 = q.1.2 ∧ p.2 ≤ q.2))))
def triD (t : Tr) : D := .tup [.int t.1.1, .int t.1.2, .int (t.2 : Int)]
def nesD (t : Tr) : D := .tup [pairD t.1, .int (t.2 : Int)]
def numD (t : Tr) : D := .int (t.2 : Int)
def rowsF (I : List Iv) : List Tr := I.zipIdx
def ordT (I : List Iv) : List Tr := (rowsF I).mergeSort leT
def optNatD : Option Nat → D
  | none => .non
  | some p => .int (p : Int)
def freeF (b : Int) : Option Int → Bool
  | none => true
  | some u => decide (u ≤ b)
def limStep (s : List (Option Int) × List (Option Nat)) (t : Tr) : List (Option Int) × List (Option Nat) := match s.1.findIdx? (freeF t.1.1) with
  | none => s
  | some p => (s.1.set p (some t.1.2), s.2.set t.2 (some p))
def limF (c n : Nat) (T : List Tr) : List (Option Int) × List (Option Nat) := T.foldl limStep (List.replicate c none, List.replicate n none)
def arrStep (s : List Int × List Int) (t : Tr) : List Int × List Int := match s.1.findIdx? (fun u => decide (u ≤ t.1.1)) with
  | none => (s.1 ++ [t.1.2], s.2.set t.2 (s.1.length : Int))
  | some p => (s.1.set p t.1.2, s.2.set t.2 (p : Int))
def arrF (n : Nat) (T : List Tr) : List Int × List Int := T.foldl arrStep ([], List.replicate n 0)
def lostF (L : List (Option Nat)) : Int := ((L.filter fun o => o.isNone).length : Nat)
def carStep (s : List Int) (q : Iv × Option Nat) : List Int := match q.2 with
  | none => s
  | some p => s.set p (s.getD p 0 + q.1.2 - q.1.1)
def carF (c : Nat) (I : List Iv) (L : List (Option Nat)) : List Int := (I.zip L).foldl carStep (List.replicate c 0)
theorem dataLt_tri (x y z x' y' z' : Int) : PySem.W.dataLt (.tuple [.int x, .int y, .int z]) (.tuple [.int x', .int y', .int z']) = decide (x < x' ∨ (x = x' ∧ (y < y' ∨ (y = y' ∧ z < z')))) := by
  rw [PySem.W.dataLt_tuple, PySem.W.dataLt_cons (by simp [PySem.W.alike]), PySem.W.dataLt_cons (by simp [PySem.W.alike]), PySem.W.dataLt_cons (by simp [PySem.W.alike]), PySem.W.dataLt_int, PySem.W.dataLt_int, PySem.W.dataLt_int]
  have e : PyProof.Rows.lexLt PyProof.Rows.itemOrd (PySem.W.keyToksAll []) (PySem.W.keyToksAll []) = false := PyProof.Rows.lex_irrefl _
  rw [e]
  simp only [PyData.eqv, beq_iff_eq]
  by_cases h1 : x = x' <;> by_cases h2 : y = y' <;> by_cases h3 : z = z' <;> simp [h1, h2, h3]
theorem dataLt_nes (x y z x' y' z' : Int) : PySem.W.dataLt (.tuple [.tuple [.int x, .int y], .int z]) (.tuple [.tuple [.int x', .int y'], .int z']) = decide (x < x' ∨ (x = x' ∧ (y < y' ∨ (y = y' ∧ z < z')))) := by
  rw [PySem.W.dataLt_pair (by simp [PySem.W.alike, PySem.W.alikeAll]) (by simp [PySem.W.alike]), PySem.W.dataLt_ii, PySem.W.dataLt_int]
  simp only [PyData.eqv, PyData.eqvAll, beq_iff_eq, Bool.and_eq_true, Bool.and_true]
  by_cases h1 : x = x' <;> by_cases h2 : y = y' <;> by_cases h3 : z = z' <;> simp [h1, h2, h3]
theorem leT_not (p q : Tr) : (!decide (q.1.1 < p.1.1 ∨ (q.1.1 = p.1.1 ∧ (q.1.2 < p.1.2 ∨ (q.1.2 = p.1.2 ∧ (q.2 : Int) < (p.2 : Int)))))) = leT p q := by
  unfold leT
  rw [Bool.eq_iff_iff]
  simp only [Bool.not_eq_true', decide_eq_false_iff_not, decide_eq_true_eq]
  omega
theorem leD_tri (p q : Tr) : leD (triD p) (triD q) = leT p q := by
  rw [← leT_not, ← dataLt_tri]
  show (!PySem.W.dataLt (triD q).py (triD p).py) = _
  simp only [triD, D.py, pys]
theorem leD_nes (p q : Tr) : leD (nesD p) (nesD q) = leT p q := by
  rw [← leT_not, ← dataLt_nes]
  show (!PySem.W.dataLt (nesD q).py (nesD p).py) = _
  simp only [nesD, pairD, D.py, pys]
theorem sorts_tri (ps : List Tr) : SortsD (ps.map triD) := by
  refine ⟨⟨1, by decide, fun d hd => ?_⟩, ?_, ?_⟩
  · obtain ⟨p, _, rfl⟩ := List.mem_map.mp hd
    exact .tup fun e he => by
      simp only [List.mem_cons, List.not_mem_nil, or_false] at he
      rcases he with rfl | rfl | rfl <;> exact .int _
  · rw [List.map_map]
    exact PySem.W.AllAlike.of fun b b' => by simp [triD, D.py, pys, PySem.W.alike, PySem.W.alikeAll]
  · rw [List.map_map]
    exact PySem.W.Sortable.tuples fun b => ⟨.int b.1.1, [.int b.1.2, .int b.2], by simp [triD, D.py, pys]⟩
theorem sorts_nes (ps : List Tr) : SortsD (ps.map nesD) := by
  refine ⟨⟨2, by decide, fun d hd => ?_⟩, ?_, ?_⟩
  · obtain ⟨p, _, rfl⟩ := List.mem_map.mp hd
    exact .tup fun e he => by
      simp only [List.mem_cons, List.not_mem_nil, or_false] at he
      rcases he with rfl | rfl
      · exact dat_pair _
      · exact .int _
  · rw [List.map_map]
    exact PySem.W.AllAlike.of fun b b' => by simp [nesD, pairD, D.py, pys, PySem.W.alike, PySem.W.alikeAll]
  · rw [List.map_map]
    exact PySem.W.Sortable.tuples fun b => ⟨(pairD b.1).py, [.int b.2], by simp [nesD, D.py, pys]⟩
theorem sort_tri (ps : List Tr) : (ps.map triD).mergeSort leD = (ps.mergeSort leT).map triD := (List.map_mergeSort (fun a _ b _ => (leD_tri a b).symm)).symm
theorem sort_nes (ps : List Tr) : (ps.map nesD).mergeSort leD = (ps.mergeSort leT).map nesD := (List.map_mergeSort (fun a _ b _ => (leD_nes a b).symm)).symm
theorem rows_get (I : List Iv) (k : Nat) : (rowsF I)[k]? = (I[k]?).map fun x => (x, k) := by
  unfold rowsF
  rw [List.getElem?_zipIdx]
  simp
theorem rows_mem {I : List Iv} {t : Tr} : t ∈ rowsF I ↔ I[t.2]? = some t.1 := by
  obtain ⟨x, i⟩ := t
  rw [List.mem_iff_getElem?]
  constructor
  · rintro ⟨k, hk⟩
    rw [rows_get] at hk
    cases h : I[k]? with
    | none => rw [h] at hk; cases hk
    | some y =>
      rw [h] at hk
      injection hk with hk
      injection hk with h1 h2
      subst h1 h2
      exact h
  · intro h
    refine ⟨i, ?_⟩
    rw [rows_get]
    dsimp only at h
    rw [h]
    rfl
theorem ord_mem {I : List Iv} {t : Tr} : t ∈ ordT I ↔ I[t.2]? = some t.1 := by
  unfold ordT
  rw [List.mem_mergeSort, rows_mem]
theorem ord_len (I : List Iv) : (ordT I).length = I.length := by unfold ordT rowsF; rw [List.length_mergeSort, List.length_zipIdx]
theorem leT_sorted (L : List Tr) : (L.mergeSort leT).Pairwise fun p q => leT p q = true :=
  List.pairwise_mergeSort (by intro a b c; simp [leT]; omega) (by intro a b; simp [leT]; omega) L
theorem ord_sorted (I : List Iv) : (ordT I).Pairwise fun p q => p.1.1 ≤ q.1.1 := (leT_sorted _).imp fun {a b} h => by
  simp only [leT, decide_eq_true_eq] at h
  omega
theorem rows_nodup (I : List Iv) : (rowsF I).Pairwise fun p q => p.2 ≠ q.2 := by
  rw [List.pairwise_iff_getElem]
  intro i j hi hj hij
  have h1 := rows_get I i
  have h2 := rows_get I j
  rw [List.getElem?_eq_getElem hi] at h1
  rw [List.getElem?_eq_getElem hj] at h2
  cases g1 : I[i]? with
  | none => rw [g1] at h1; cases h1
  | some x =>
    cases g2 : I[j]? with
    | none => rw [g2] at h2; cases h2
    | some y =>
      rw [g1] at h1
      rw [g2] at h2
      injection h1 with h1
      injection h2 with h2
      rw [h1, h2]
      dsimp only
      omega
theorem ord_nodup (I : List Iv) : (ordT I).Pairwise fun p q => p.2 ≠ q.2 := (List.mergeSort_perm (rowsF I) leT).symm.pairwise (rows_nodup I) fun {_ _} h => Ne.symm h
theorem load_ord (I : List Iv) (c : Int) : loadF ((ordT I).map fun t => t.1) c = loadF I c := by
  have hp : ((ordT I).map fun t => t.1).Perm I := by
    have := (List.mergeSort_perm (rowsF I) leT).map fun t : Tr => t.1
    refine this.trans ?_
    unfold rowsF
    rw [show (fun t : Tr => t.1) = Prod.fst from rfl, List.zipIdx_map_fst]
  unfold loadF
  rw [(hp.filter _).length_eq]
theorem find_some {α : Type} {p : α → Bool} {L : List α} {i : Nat} (h : L.findIdx? p = some i) : ∃ x, L[i]? = some x ∧ p x = true ∧ ∀ j y, j < i → L[j]? = some y → p y = false := by
  rw [List.findIdx?_eq_some_iff_getElem] at h
  obtain ⟨h1, h2, h3⟩ := h
  refine ⟨_, List.getElem?_eq_getElem h1, h2, fun j y hj hy => ?_⟩
  have := h3 j hj
  rw [List.getElem?_eq_getElem (by omega)] at hy
  injection hy with hy
  rw [← hy]
  simpa using this
theorem find_none {α : Type} {p : α → Bool} {L : List α} (h : L.findIdx? p = none) : ∀ (j : Nat) (y : α), L[j]? = some y → p y = false := by
  intro j y hy
  rw [List.findIdx?_eq_none_iff] at h
  exact h y (List.mem_of_getElem? hy)
/-- the state of limited behind processed ones -/
structure LimOk (c n : Nat) (P : List Tr) (s : List (Option Int) × List (Option Nat)) : Prop where
  lu : s.1.length = c
  ll : s.2.length = n
  out : ∀ i, i < n → (∀ t ∈ P, t.2 ≠ i) → s.2[i]? = some none
  lt : ∀ t ∈ P, ∀ p, s.2[t.2]? = some (some p) → p < c
  free : ∀ p, s.1[p]? = some none → ∀ t ∈ P, s.2[t.2]? ≠ some (some p)
  held : ∀ p u, s.1[p]? = some (some u) → (∃ t ∈ P, s.2[t.2]? = some (some p) ∧ t.1.2 = u) ∧ ∀ t ∈ P, s.2[t.2]? = some (some p) → t.1.2 ≤ u
theorem lim_init (c n : Nat) : LimOk c n [] (List.replicate c none, List.replicate n none) := by
  refine ⟨List.length_replicate, List.length_replicate, fun i hi _ => ?_, fun t ht => (by cases ht), fun p _ t ht => (by cases ht), fun p u h => ?_⟩
  · rw [List.getElem?_replicate, if_pos hi]
  · rw [List.getElem?_replicate] at h
    split at h <;> simp at h
theorem lim_step {c n : Nat} {P : List Tr} {s : List (Option Int) × List (Option Nat)} {t : Tr} (h : LimOk c n P s) (ht : t.2 < n) (hd : ∀ x ∈ P, x.2 ≠ t.2) (hok : t.1.1 < t.1.2) : LimOk c n (P ++ [t]) (limStep s t) := by
  obtain ⟨U, L⟩ := s
  obtain ⟨h1, h2, h3, h4, h5, h6⟩ := h
  dsimp only at h1 h2 h3 h4 h5 h6
  have ht0 : L[t.2]? = some none := h3 t.2 ht hd
  unfold limStep
  dsimp only
  cases hf : U.findIdx? (freeF t.1.1) with
  | none =>
    dsimp only
    refine ⟨h1, h2, fun i hi hx => h3 i hi fun x hxx => hx x (List.mem_append_left _ hxx), fun x hx p hp => ?_, fun p hp x hx => ?_, fun p u hp => ?_⟩
    · rcases List.mem_append.mp hx with hx | hx
      · exact h4 x hx p hp
      · simp only [List.mem_cons, List.not_mem_nil, or_false] at hx
        subst hx
        dsimp only at hp
        rw [ht0] at hp; cases hp
    · rcases List.mem_append.mp hx with hx | hx
      · exact h5 p hp x hx
      · simp only [List.mem_cons, List.not_mem_nil, or_false] at hx
        subst hx
        dsimp only
        rw [ht0]; simp
    · obtain ⟨⟨x, hx, g1, g2⟩, g3⟩ := h6 p u hp
      refine ⟨⟨x, List.mem_append_left _ hx, g1, g2⟩, fun y hy gy => ?_⟩
      rcases List.mem_append.mp hy with hy | hy
      · exact g3 y hy gy
      · simp only [List.mem_cons, List.not_mem_nil, or_false] at hy
        subst hy
        dsimp only at gy
        rw [ht0] at gy; cases gy
  | some p =>
    dsimp only
    obtain ⟨u0, hu, hfr, _⟩ := find_some hf
    have hpc : p < c := by have := (List.getElem?_eq_some_iff.mp hu).1; omega
    have hLt : (L.set t.2 (some p))[t.2]? = some (some p) := by rw [List.getElem?_set_self (by omega)]
    have hLo : ∀ x ∈ P, (L.set t.2 (some p))[x.2]? = L[x.2]? := fun x hx => List.getElem?_set_ne (fun z => hd x hx z.symm)
    refine ⟨by rw [List.length_set]; exact h1, by rw [List.length_set]; exact h2, fun i hi hx => ?_, fun x hx q hq => ?_, fun q hq x hx => ?_, fun q u hq => ?_⟩
    · have hti : t.2 ≠ i := hx t (by simp)
      dsimp only
      rw [List.getElem?_set_ne hti]
      exact h3 i hi fun x hxx => hx x (List.mem_append_left _ hxx)
    · rcases List.mem_append.mp hx with hx | hx
      · dsimp only at hq
        rw [hLo x hx] at hq
        exact h4 x hx q hq
      · simp only [List.mem_cons, List.not_mem_nil, or_false] at hx
        subst hx
        dsimp only at hq
        rw [hLt] at hq
        injection hq with hq
        injection hq with hq
        omega
    · dsimp only at hq ⊢
      have hqp : p ≠ q := by
        rintro rfl
        rw [List.getElem?_set_self (by omega)] at hq
        cases hq
      rw [List.getElem?_set_ne hqp] at hq
      rcases List.mem_append.mp hx with hx | hx
      · rw [hLo x hx]
        exact h5 q hq x hx
      · simp only [List.mem_cons, List.not_mem_nil, or_false] at hx
        subst hx
        rw [hLt]
        intro z
        injection z with z
        injection z with z
        exact hqp z
    · dsimp only at hq ⊢
      by_cases hqp : p = q
      · subst hqp
        rw [List.getElem?_set_self (by omega)] at hq
        injection hq with hq
        injection hq with hq
        refine ⟨⟨t, by simp, hLt, hq⟩, fun x hx gx => ?_⟩
        rcases List.mem_append.mp hx with hx | hx
        · rw [hLo x hx] at gx
          cases u0 with
          | none => exact absurd gx (h5 p hu x hx)
          | some v =>
            have := (h6 p v hu).2 x hx gx
            unfold freeF at hfr
            simp only [decide_eq_true_eq] at hfr
            omega
        · simp only [List.mem_cons, List.not_mem_nil, or_false] at hx
          subst hx
          omega
      · rw [List.getElem?_set_ne hqp] at hq
        obtain ⟨⟨x, hx, g1, g2⟩, g3⟩ := h6 q u hq
        refine ⟨⟨x, List.mem_append_left _ hx, by rw [hLo x hx]; exact g1, g2⟩, fun y hy gy => ?_⟩
        rcases List.mem_append.mp hy with hy | hy
        · rw [hLo y hy] at gy
          exact g3 y hy gy
        · simp only [List.mem_cons, List.not_mem_nil, or_false] at hy
          subst hy
          rw [hLt] at gy
          injection gy with gy
          injection gy with gy
          exact absurd gy hqp
theorem lim_snoc (c n : Nat) (P : List Tr) (t : Tr) : limF c n (P ++ [t]) = limStep (limF c n P) t := by unfold limF; rw [List.foldl_append]; rfl
theorem arr_snoc (n : Nat) (P : List Tr) (t : Tr) : arrF n (P ++ [t]) = arrStep (arrF n P) t := by unfold arrF; rw [List.foldl_append]; rfl
/-- what is known of a prefix of the order -/
structure OrdOk (n : Nat) (T : List Tr) : Prop where
  lt : ∀ t ∈ T, t.2 < n
  ok : ∀ t ∈ T, 0 ≤ t.1.1 ∧ t.1.1 < t.1.2 ∧ t.1.2 ≤ 120
  srt : T.Pairwise fun p q => p.1.1 ≤ q.1.1
  nod : T.Pairwise fun p q => p.2 ≠ q.2
theorem ord_ok {I : List Iv} (ho : IvOk I) : OrdOk I.length (ordT I) := by
  refine ⟨fun t ht => (List.getElem?_eq_some_iff.mp (ord_mem.mp ht)).1, fun t ht => ho _ (List.mem_of_getElem? (ord_mem.mp ht)), ord_sorted I, ord_nodup I⟩
theorem OrdOk.split {n : Nat} {P : List Tr} {t : Tr} (h : OrdOk n (P ++ [t])) : OrdOk n P ∧ t.2 < n ∧ (0 ≤ t.1.1 ∧ t.1.1 < t.1.2 ∧ t.1.2 ≤ 120) ∧ (∀ x ∈ P, x.1.1 ≤ t.1.1) ∧ ∀ x ∈ P, x.2 ≠ t.2 := by
  obtain ⟨h1, h2, h3, h4⟩ := h
  rw [List.pairwise_append] at h3 h4
  exact ⟨⟨fun x hx => h1 x (List.mem_append_left _ hx), fun x hx => h2 x (List.mem_append_left _ hx), h3.1, h4.1⟩, h1 t (by simp), h2 t (by simp), fun x hx => h3.2.2 x hx t (by simp), fun x hx => h4.2.2 x hx t (by simp)⟩
theorem OrdOk.take {n : Nat} {T : List Tr} (h : OrdOk n T) (k : Nat) : OrdOk n (T.take k) :=
  ⟨fun x hx => h.lt x (List.mem_of_mem_take hx), fun x hx => h.ok x (List.mem_of_mem_take hx), h.srt.sublist (List.take_sublist _ _), h.nod.sublist (List.take_sublist _ _)⟩
theorem snoc_ind {α : Type} {Q : List α → Prop} (h0 : Q []) (hs : ∀ P t, Q P → Q (P ++ [t])) (L : List α) : Q L := by
  suffices h : ∀ n, ∀ L : List α, L.length = n → Q L from h _ L rfl
  intro n
  induction n with
  | zero => intro L hL; rw [List.length_eq_zero_iff.mp hL]; exact h0
  | succ n ih =>
    intro L hL
    rcases List.eq_nil_or_concat L with z | ⟨P, t, z⟩
    · subst z; exact h0
    · rw [List.concat_eq_append] at z
      subst z
      exact hs P t (ih P (by simpa using hL))
theorem lim_ok (c n : Nat) (T : List Tr) : OrdOk n T → LimOk c n T (limF c n T) := by
  refine snoc_ind (Q := fun T => OrdOk n T → LimOk c n T (limF c n T)) (fun _ => lim_init c n) (fun P t ih h => ?_) T
  obtain ⟨h1, h2, h3, h4, h5⟩ := h.split
  rw [lim_snoc]
  exact lim_step (ih h1) h2 h5 h3.2.1
/-- the free places of the law are those that are free by their ends -/
theorem free_iff {c n : Nat} {P : List Tr} {s : List (Option Int) × List (Option Nat)} {t : Tr} (h : LimOk c n P s) (hs : ∀ x ∈ P, x.1.1 ≤ t.1.1) (hok : t.1.1 < t.1.2) {p : Nat} {o : Option Int} (hp : s.1[p]? = some o) :
    freeF t.1.1 o = true ↔ ¬ ∃ x ∈ P, s.2[x.2]? = some (some p) ∧ x.1.1 < t.1.2 ∧ t.1.1 < x.1.2 := by
  cases o with
  | none =>
    refine ⟨fun _ => ?_, fun _ => rfl⟩
    rintro ⟨x, hx, g, _⟩
    exact h.free p hp x hx g
  | some u =>
    obtain ⟨⟨x, hx, g1, g2⟩, g3⟩ := h.held p u hp
    unfold freeF
    simp only [decide_eq_true_eq]
    constructor
    · rintro z ⟨y, hy, gy, _, w⟩
      have := g3 y hy gy
      omega
    · intro z
      refine Decidable.byContradiction fun w => z ⟨x, hx, g1, ?_, by omega⟩
      have := hs x hx
      omega
theorem find_mk {α : Type} {p : α → Bool} {L : List α} {i : Nat} {x : α} (h1 : L[i]? = some x) (h2 : p x = true) (h3 : ∀ j y, j < i → L[j]? = some y → p y = false) : L.findIdx? p = some i := by
  rw [List.findIdx?_eq_some_iff_getElem]
  obtain ⟨hi, hx⟩ := List.getElem?_eq_some_iff.mp h1
  refine ⟨hi, by rw [hx]; exact h2, fun j hj => ?_⟩
  rw [h3 j L[j] hj (List.getElem?_eq_getElem (by omega))]
  simp
theorem arr_len_le (s : List Int × List Int) (t : Tr) : s.1.length ≤ (arrStep s t).1.length := by
  unfold arrStep
  cases s.1.findIdx? (fun u => decide (u ≤ t.1.1)) with
  | none => simp
  | some p => simp
theorem arr_ll (n : Nat) (T : List Tr) : (arrF n T).2.length = n := by
  refine snoc_ind (Q := fun T => (arrF n T).2.length = n) (List.length_replicate) (fun P t ih => ?_) T
  rw [arr_snoc]
  unfold arrStep
  cases (arrF n P).1.findIdx? (fun u => decide (u ≤ t.1.1)) with
  | none => dsimp only; rw [List.length_set]; exact ih
  | some p => dsimp only; rw [List.length_set]; exact ih
theorem sim_step {c n : Nat} {M : List Int} {t : Tr} {A : List Int} {L : List (Option Nat)} (hc : (arrStep (M, A) t).1.length ≤ c) : ∃ p : Nat, arrStep (M, A) t = ((arrStep (M, A) t).1, A.set t.2 (p : Int)) ∧ p < (arrStep (M, A) t).1.length ∧
    limStep (M.map some ++ List.replicate (c - M.length) none, L) t = ((arrStep (M, A) t).1.map some ++ List.replicate (c - (arrStep (M, A) t).1.length) none, L.set t.2 (some p)) := by
  unfold arrStep at *
  dsimp only at *
  cases hf : M.findIdx? (fun u => decide (u ≤ t.1.1)) with
  | some p =>
    rw [hf] at hc
    dsimp only at hc ⊢
    obtain ⟨x, hx, hp, hlo⟩ := find_some hf
    have hpl := (List.getElem?_eq_some_iff.mp hx).1
    refine ⟨p, rfl, by rw [List.length_set]; exact hpl, ?_⟩
    have hfind : (M.map some ++ List.replicate (c - M.length) none).findIdx? (freeF t.1.1) = some p := by
      refine find_mk (x := some x) ?_ hp fun j y hj hy => ?_
      · rw [List.getElem?_append_left (by rw [List.length_map]; exact hpl), List.getElem?_map, hx]; rfl
      · rw [List.getElem?_append_left (by rw [List.length_map]; omega), List.getElem?_map] at hy
        cases hz : M[j]? with
        | none => rw [hz] at hy; cases hy
        | some z =>
          rw [hz] at hy
          injection hy with hy
          subst hy
          exact hlo j z hj hz
    unfold limStep
    dsimp only
    rw [hfind]
    dsimp only
    rw [List.set_append_left _ _ (by rw [List.length_map]; exact hpl), List.length_set, List.map_set]
  | none =>
    rw [hf] at hc
    dsimp only at hc ⊢
    rw [List.length_append] at hc
    simp only [List.length_cons, List.length_nil] at hc
    have hno := find_none hf
    refine ⟨M.length, rfl, by simp, ?_⟩
    have hrep : c - M.length = (c - (M.length + 1)) + 1 := by omega
    have hfind : (M.map some ++ List.replicate (c - M.length) none).findIdx? (freeF t.1.1) = some M.length := by
      refine find_mk (x := none) ?_ rfl fun j y hj hy => ?_
      · rw [List.getElem?_append_right (by rw [List.length_map]; exact Nat.le_refl _), List.length_map, Nat.sub_self, hrep]
        rfl
      · rw [List.getElem?_append_left (by rw [List.length_map]; omega), List.getElem?_map] at hy
        cases hz : M[j]? with
        | none => rw [hz] at hy; cases hy
        | some z =>
          rw [hz] at hy
          injection hy with hy
          subst hy
          exact hno j z hz
    unfold limStep
    dsimp only
    rw [hfind]
    dsimp only
    rw [List.set_append_right _ _ (by rw [List.length_map]; exact Nat.le_refl _), List.length_map, Nat.sub_self, hrep, List.length_append, List.map_append]
    simp only [List.replicate_succ, List.set_cons_zero, List.length_cons, List.length_nil, List.map_cons, List.map_nil, List.append_assoc, List.cons_append, List.nil_append]
theorem sim_all {c n : Nat} (T : List Tr) : OrdOk n T → (arrF n T).1.length ≤ c → (limF c n T).1 = (arrF n T).1.map some ++ List.replicate (c - (arrF n T).1.length) none ∧ (limF c n T).2.length = n ∧ ∀ t ∈ T, ∃ p : Nat, (arrF n T).2[t.2]? = some (p : Int) ∧ (limF c n T).2[t.2]? = some (some p) ∧ p < (arrF n T).1.length := by
  refine snoc_ind (Q := fun T => OrdOk n T → (arrF n T).1.length ≤ c → (limF c n T).1 = (arrF n T).1.map some ++ List.replicate (c - (arrF n T).1.length) none ∧ (limF c n T).2.length = n ∧ ∀ t ∈ T, ∃ p : Nat, (arrF n T).2[t.2]? = some (p : Int) ∧ (limF c n T).2[t.2]? = some (some p) ∧ p < (arrF n T).1.length) (fun _ _ => ⟨by show List.replicate c none = [] ++ List.replicate (c - 0) none; simp, List.length_replicate, fun t ht => by cases ht⟩) (fun P t ih h hc => ?_) T
  obtain ⟨h1, h2, h3, h4, h5⟩ := h.split
  rw [arr_snoc] at hc ⊢
  rw [lim_snoc]
  have hmono := arr_len_le (arrF n P) t
  obtain ⟨i1, i2, i3⟩ := ih h1 (Nat.le_trans hmono hc)
  have hal := arr_ll n P
  generalize arrF n P = a at *
  generalize limF c n P = s at *
  obtain ⟨M, A⟩ := a
  obtain ⟨U, L⟩ := s
  dsimp only at i1 i2 i3 hal hmono
  subst i1
  obtain ⟨p, e1, e2, e3⟩ := sim_step (c := c) (n := n) (L := L) hc
  rw [e3]
  refine ⟨rfl, by dsimp only; rw [List.length_set]; exact i2, fun x hx => ?_⟩
  rw [e1]
  dsimp only
  rcases List.mem_append.mp hx with hx | hx
  · obtain ⟨q, g1, g2, g3⟩ := i3 x hx
    have hne : t.2 ≠ x.2 := fun z => h5 x hx z.symm
    rw [List.getElem?_set_ne hne, List.getElem?_set_ne hne]
    exact ⟨q, g1, g2, Nat.lt_of_lt_of_le g3 hmono⟩
  · simp only [List.mem_cons, List.not_mem_nil, or_false] at hx
    subst hx
    exact ⟨p, by rw [List.getElem?_set_self (by omega)], by rw [List.getElem?_set_self (by omega)], e2⟩
theorem arr_len (n : Nat) (T : List Tr) : (arrF n T).1.length ≤ T.length := by
  refine snoc_ind (Q := fun T => (arrF n T).1.length ≤ T.length) (Nat.le_refl _) (fun P t ih => ?_) T
  rw [arr_snoc, List.length_append]
  unfold arrStep
  cases (arrF n P).1.findIdx? (fun u => decide (u ≤ t.1.1)) with
  | none => dsimp only; rw [List.length_append]; simp only [List.length_cons, List.length_nil]; omega
  | some p => dsimp only; rw [List.length_set]; simp only [List.length_cons, List.length_nil]; omega
/-- with enough places limited does as arranged -/
theorem lim_arr {I : List Iv} (ho : IvOk I) {c : Nat} (hc : (arrF I.length (ordT I)).1.length ≤ c) : (limF c I.length (ordT I)).2.map optNatD = (arrF I.length (ordT I)).2.map D.int := by
  obtain ⟨_, h2, h3⟩ := sim_all (c := c) (ordT I) (ord_ok ho) hc
  have hal := arr_ll I.length (ordT I)
  apply List.ext_getElem?
  intro i
  rw [List.getElem?_map, List.getElem?_map]
  by_cases hi : i < I.length
  · obtain ⟨p, g1, g2, _⟩ := h3 (I[i], i) (ord_mem.mpr (List.getElem?_eq_getElem hi))
    dsimp only at g1 g2
    rw [g1, g2]
    rfl
  · rw [List.getElem?_eq_none (by omega), List.getElem?_eq_none (by omega)]
    rfl
theorem load_snoc (I : List Iv) (e : Iv) (c : Int) : loadF (I ++ [e]) c = if e.1 ≤ c ∧ c < e.2 then loadF I c + 1 else loadF I c := by
  unfold loadF
  rw [List.filter_append, List.length_append]
  by_cases g : e.1 ≤ c ∧ c < e.2
  · rw [if_pos g, List.filter_cons_of_pos (by simpa using g)]
    simp
  · rw [if_neg g, List.filter_cons_of_neg (by simpa using g)]
    simp
def cntM (M : List Int) (c : Int) : Int := ((M.filter fun u => decide (c < u)).length : Nat)
theorem cnt_le (M : List Int) (c : Int) : cntM M c ≤ M.length := by
  have := List.length_filter_le (fun u => decide (c < u)) M
  unfold cntM; omega
theorem cnt_all {M : List Int} {c : Int} (h : ∀ u ∈ M, c < u) : cntM M c = M.length := by
  unfold cntM
  rw [List.filter_eq_self.mpr fun u hu => by simpa using h u hu]
theorem cntM_snoc (M : List Int) (e c : Int) : cntM (M ++ [e]) c = cntM M c + if c < e then 1 else 0 := by
  unfold cntM
  rw [List.filter_append, List.length_append]
  by_cases h : c < e <;> simp [h]
theorem cntM_set : ∀ (M : List Int) (p : Nat) (u e c : Int), M[p]? = some u → u ≤ c → cntM (M.set p e) c = cntM M c + if c < e then 1 else 0
  | [], p, u, e, c, h, _ => by simp at h
  | x :: M, 0, u, e, c, h, hu => by
    simp at h
    subst h
    unfold cntM
    rw [List.set_cons_zero]
    rw [List.filter_cons_of_neg (l := M) (a := x) (by simpa using hu)]
    by_cases g : c < e
    · rw [List.filter_cons_of_pos (by simpa using g), if_pos g, List.length_cons]; omega
    · rw [List.filter_cons_of_neg (by simpa using g), if_neg g]; omega
  | x :: M, p + 1, u, e, c, h, hu => by
    have ih := cntM_set M p u e c (by simpa using h) hu
    unfold cntM at *
    rw [List.set_cons_succ]
    by_cases g : c < x
    · rw [List.filter_cons_of_pos (by simpa using g), List.filter_cons_of_pos (by simpa using g), List.length_cons, List.length_cons]; omega
    · rw [List.filter_cons_of_neg (by simpa using g), List.filter_cons_of_neg (by simpa using g)]; exact ih
theorem arr_load {n : Nat} (T : List Tr) : OrdOk n T → (∀ c, (∀ t ∈ T, t.1.1 ≤ c) → loadF (T.map fun t => t.1) c = cntM (arrF n T).1 c) ∧ (∀ c, loadF (T.map fun t => t.1) c ≤ (arrF n T).1.length) ∧ ((arrF n T).1.length = 0 ∨ ((∃ t ∈ T, ((arrF n T).1.length : Int) ≤ loadF (T.map fun t => t.1) t.1.1) ∧ ∃ t ∈ T, (arrF n T).2[t.2]? = some (((arrF n T).1.length : Int) - 1))) := by
  refine snoc_ind (Q := fun T => OrdOk n T → (∀ c, (∀ t ∈ T, t.1.1 ≤ c) → loadF (T.map fun t => t.1) c = cntM (arrF n T).1 c) ∧ (∀ c, loadF (T.map fun t => t.1) c ≤ (arrF n T).1.length) ∧ ((arrF n T).1.length = 0 ∨ ((∃ t ∈ T, ((arrF n T).1.length : Int) ≤ loadF (T.map fun t => t.1) t.1.1) ∧ ∃ t ∈ T, (arrF n T).2[t.2]? = some (((arrF n T).1.length : Int) - 1)))) (fun _ => ⟨fun c _ => rfl, fun c => Int.le_refl _, .inl rfl⟩) (fun P t ih h => ?_) T
  obtain ⟨h1, h2, h3, h4, h5⟩ := h.split
  obtain ⟨a1, a2, a3⟩ := ih h1
  have hal := arr_ll n P
  rw [arr_snoc, List.map_append, List.map_cons, List.map_nil]
  have hab := a1 t.1.1 h4
  generalize arrF n P = a at *
  obtain ⟨M, A⟩ := a
  dsimp only at a1 a2 a3 hal hab
  have hmono := arr_len_le (M, A) t
  have hgo : ∀ c, (∀ x ∈ P ++ [t], x.1.1 ≤ c) → loadF ((P.map fun t => t.1) ++ [t.1]) c = cntM M c + if c < t.1.2 then 1 else 0 := by
    intro c hc
    rw [load_snoc, a1 c fun x hx => hc x (List.mem_append_left _ hx)]
    have := hc t (by simp)
    by_cases g : c < t.1.2
    · rw [if_pos ⟨this, g⟩, if_pos g]
    · rw [if_neg (fun z => g z.2), if_neg g]; omega
  have key : (∀ c, (∀ x ∈ P ++ [t], x.1.1 ≤ c) → loadF ((P.map fun t => t.1) ++ [t.1]) c = cntM (arrStep (M, A) t).1 c) → (∀ c, loadF ((P.map fun t => t.1) ++ [t.1]) c ≤ (arrStep (M, A) t).1.length) := by
    intro hA c
    by_cases g : t.1.1 ≤ c
    · rw [hA c fun x hx => ?_]
      · exact cnt_le _ _
      · rcases List.mem_append.mp hx with hx | hx
        · have := h4 x hx; omega
        · simp only [List.mem_cons, List.not_mem_nil, or_false] at hx; subst hx; exact g
    · rw [load_snoc, if_neg (fun z => g z.1)]
      have := a2 c
      dsimp only at hmono
      omega
  have hup : ∀ c, loadF (P.map fun t => t.1) c ≤ loadF ((P.map fun t => t.1) ++ [t.1]) c := by
    intro c
    rw [load_snoc]
    split <;> omega
  cases hf : M.findIdx? (fun u => decide (u ≤ t.1.1)) with
  | some p =>
    have e1 : arrStep (M, A) t = (M.set p t.1.2, A.set t.2 (p : Int)) := by unfold arrStep; dsimp only; rw [hf]
    obtain ⟨u, hu, hp, _⟩ := find_some hf
    simp only [decide_eq_true_eq] at hp
    have hA : ∀ c, (∀ x ∈ P ++ [t], x.1.1 ≤ c) → loadF ((P.map fun t => t.1) ++ [t.1]) c = cntM (arrStep (M, A) t).1 c := by
      intro c hc
      have := hc t (by simp)
      rw [hgo c hc, e1]
      dsimp only
      rw [cntM_set M p u t.1.2 c hu (by omega)]
    refine ⟨hA, key hA, ?_⟩
    rw [e1]
    dsimp only
    rw [List.length_set]
    rcases a3 with a3 | ⟨⟨x, hx, g1⟩, y, hy, g2⟩
    · have := (List.getElem?_eq_some_iff.mp hu).1; omega
    · refine .inr ⟨⟨x, List.mem_append_left _ hx, ?_⟩, y, List.mem_append_left _ hy, ?_⟩
      · have := hup x.1.1; omega
      · rw [List.getElem?_set_ne (fun z => h5 y hy z.symm)]; exact g2
  | none =>
    have e1 : arrStep (M, A) t = (M ++ [t.1.2], A.set t.2 (M.length : Int)) := by unfold arrStep; dsimp only; rw [hf]
    have hno := find_none hf
    have hA : ∀ c, (∀ x ∈ P ++ [t], x.1.1 ≤ c) → loadF ((P.map fun t => t.1) ++ [t.1]) c = cntM (arrStep (M, A) t).1 c := by
      intro c hc
      rw [hgo c hc, e1]
      dsimp only
      rw [cntM_snoc]
    refine ⟨hA, key hA, .inr ?_⟩
    rw [e1]
    dsimp only
    rw [List.length_append]
    simp only [List.length_cons, List.length_nil]
    refine ⟨⟨t, by simp, ?_⟩, t, by simp, ?_⟩
    · have hall : cntM M t.1.1 = M.length := cnt_all fun u hu => by
        obtain ⟨j, hj⟩ := List.mem_iff_getElem?.mp hu
        have := hno j u hj
        simp only [decide_eq_false_iff_not] at this
        omega
      rw [load_snoc, if_pos ⟨Int.le_refl _, h3.2.1⟩, hab, hall]
      omega
    · rw [List.getElem?_set_self (by omega)]
      refine congrArg some ?_
      omega
theorem needed_eq {I : List Iv} (ho : IvOk I) : (peakF I).1 = ((arrF I.length (ordT I)).1.length : Nat) := by
  have hbs := best_spec ho 130
  have hpk : peakF I = bestF I 130 := by unfold peakF bestF; rw [steps_eq ho]
  rw [← hpk] at hbs
  obtain ⟨h0, h1, h2⟩ := hbs
  obtain ⟨_, a2, a3⟩ := arr_load (ordT I) (ord_ok ho)
  simp only [load_ord] at a2 a3
  refine Int.le_antisymm ?_ ?_
  · cases hb : (peakF I).2 with
    | none => rw [hb] at h2; dsimp only at h2; omega
    | some i =>
      rw [hb] at h2
      obtain ⟨k, _, _, h5, _⟩ := h2
      have := a2 k
      omega
  · rcases a3 with a3 | ⟨⟨t, ht, g⟩, _⟩
    · omega
    · have hok := (ord_ok ho).ok t ht
      have := h1 t.1.1.toNat (by omega)
      rw [show (t.1.1.toNat : Int) = t.1.1 by omega] at this
      omega
theorem max_place {I : List Iv} (ho : IvOk I) (h0 : I ≠ []) : maxI (arrF I.length (ordT I)).2 + 1 = ((arrF I.length (ordT I)).1.length : Nat) := by
  obtain ⟨_, _, a3⟩ := arr_load (ordT I) (ord_ok ho)
  obtain ⟨_, _, h3⟩ := sim_all (c := (arrF I.length (ordT I)).1.length) (ordT I) (ord_ok ho) (Nat.le_refl _)
  have hal := arr_ll I.length (ordT I)
  generalize arrF I.length (ordT I) = a at *
  obtain ⟨M, A⟩ := a
  dsimp only at *
  have hIl : 0 < I.length := List.length_pos_iff.mpr h0
  have hAne : A ≠ [] := fun z => by rw [z] at hal; simp at hal; omega
  obtain ⟨m1, m2⟩ := maxI_spec hAne
  have hup : ∀ y ∈ A, y ≤ (M.length : Int) - 1 := by
    intro y hy
    obtain ⟨i, hi⟩ := List.mem_iff_getElem?.mp hy
    have hil := (List.getElem?_eq_some_iff.mp hi).1
    obtain ⟨p, g1, _, g3⟩ := h3 (I[i]'(by omega), i) (ord_mem.mpr (List.getElem?_eq_getElem _))
    dsimp only at g1
    rw [hi] at g1
    injection g1 with g1
    omega
  have := hup _ m1
  rcases a3 with a3 | ⟨_, t, ht, g⟩
  · obtain ⟨p, _, _, g3⟩ := h3 (I[0], 0) (ord_mem.mpr (List.getElem?_eq_getElem hIl))
    omega
  · have := m2 _ (List.mem_of_getElem? g)
    omega
theorem flat_rep1 {α : Type} (n : Nat) (x : α) : (List.replicate n [x]).flatten = List.replicate n x := by
  induction n with
  | zero => rfl
  | succ n ih => rw [List.replicate_succ, List.flatten_cons, ih, List.replicate_succ]; rfl
theorem head_find {b : Int} {U : List (Option Int)} {r : Nat → Bool} (h : ∀ p o, U[p]? = some o → freeF b o = r p) : ((List.range U.length).filter r).head? = U.findIdx? (freeF b) := by
  rw [List.head?_filter]
  cases hf : U.findIdx? (freeF b) with
  | none =>
    have hno := find_none hf
    rw [List.find?_eq_none]
    intro p hp
    have hpl := List.mem_range.mp hp
    have hx : U[p]? = some U[p] := List.getElem?_eq_getElem hpl
    rw [← h p _ hx, hno p _ hx]
    decide
  | some p =>
    obtain ⟨o, ho, h1, h2⟩ := find_some hf
    have hpl := (List.getElem?_eq_some_iff.mp ho).1
    rw [List.find?_range_eq_some]
    refine ⟨by rw [← h p o ho]; exact h1, List.mem_range.mpr hpl, fun j hj => ?_⟩
    have hx : U[j]? = some U[j] := List.getElem?_eq_getElem (by omega)
    rw [← h j _ hx, h2 j _ hj hx]
    rfl
def natD (p : Nat) : D := .int (p : Int)
theorem filterMap_if {α β : Type} (p : α → Prop) [DecidablePred p] (g : α → β) : ∀ L : List α, L.filterMap (fun x => if p x then some (g x) else none) = (L.filter fun x => decide (p x)).map g
  | [] => rfl
  | a :: L => by
    have ih := filterMap_if p g L
    by_cases h : p a
    · rw [List.filterMap_cons_some (b := g a) (by rw [if_pos h]), List.filter_cons_of_pos (by simpa using h), List.map_cons, ih]
    · rw [List.filterMap_cons_none (by rw [if_neg h]), List.filter_cons_of_neg (by simpa using h), ih]
def hasP (L : List (Option Nat)) (t : Tr) : Bool := match L[t.2]? with
  | some (some _) => true
  | _ => false
def plcP (L : List (Option Nat)) (t : Tr) : Int := match L[t.2]? with
  | some (some p) => p
  | _ => 0
theorem hasP_iff {L : List (Option Nat)} {t : Tr} : hasP L t = true ↔ ∃ p : Nat, L[t.2]? = some (some p) ∧ plcP L t = p := by
  unfold hasP plcP
  cases h : L[t.2]? with
  | none => simp
  | some o =>
    cases o with
    | none => simp
    | some p => simp
def doneF (L : List (Option Nat)) (P : List Tr) : List Tr := P.filter (hasP L)
theorem done_set {L : List (Option Nat)} {P : List Tr} {t : Tr} {o : Option Nat} (h5 : ∀ x ∈ P, x.2 ≠ t.2) : doneF (L.set t.2 o) P = doneF L P := by
  unfold doneF
  refine List.filter_congr fun x hx => ?_
  unfold hasP
  rw [List.getElem?_set_ne (fun z => h5 x hx z.symm)]
def overP (t x : Tr) : Prop := x.1.1 < t.1.2 ∧ t.1.1 < x.1.2
instance (t x : Tr) : Decidable (overP t x) := by unfold overP; exact inferInstance
def takenF (L : List (Option Nat)) (P : List Tr) (t : Tr) : List Int := ((doneF L P).filter fun x => decide (overP t x)).map (plcP L)
theorem taken_iff {c n : Nat} {P : List Tr} {s : List (Option Int) × List (Option Nat)} {t : Tr} (h : LimOk c n P s) (hs : ∀ x ∈ P, x.1.1 ≤ t.1.1) (hok : t.1.1 < t.1.2) {p : Nat} {o : Option Int} (hp : s.1[p]? = some o) :
    freeF t.1.1 o = decide ((p : Int) ∉ takenF s.2 P t) := by
  rw [Bool.eq_iff_iff, free_iff h hs hok hp, decide_eq_true_eq]
  refine not_congr ?_
  unfold takenF doneF
  rw [List.mem_map]
  constructor
  · rintro ⟨x, hx, g1, g2, g3⟩
    refine ⟨x, List.mem_filter.mpr ⟨List.mem_filter.mpr ⟨hx, ?_⟩, decide_eq_true (⟨g2, g3⟩ : overP t x)⟩, ?_⟩
    · unfold hasP; rw [g1]
    · unfold plcP; rw [g1]
  · rintro ⟨x, hx, g⟩
    obtain ⟨hx1, hx2⟩ := List.mem_filter.mp hx
    obtain ⟨hx3, hx4⟩ := List.mem_filter.mp hx1
    obtain ⟨q, e1, e2⟩ := hasP_iff.mp hx4
    rw [decide_eq_true_eq] at hx2
    rw [e2] at g
    have : q = p := by omega
    subst this
    exact ⟨x, hx3, e1, hx2.1, hx2.2⟩
theorem lim_take {I : List Iv} (ho : IvOk I) (c : Nat) {k : Nat} {t : Tr} (hk : (ordT I)[k]? = some t) : LimOk c I.length ((ordT I).take k) (limF c I.length ((ordT I).take k)) ∧ t.2 < I.length ∧ (0 ≤ t.1.1 ∧ t.1.1 < t.1.2 ∧ t.1.2 ≤ 120) ∧ (∀ x ∈ (ordT I).take k, x.1.1 ≤ t.1.1) ∧ ∀ x ∈ (ordT I).take k, x.2 ≠ t.2 := by
  have h := (ord_ok ho).take (k + 1)
  rw [take_snoc hk] at h
  obtain ⟨h1, h2, h3, h4, h5⟩ := h.split
  exact ⟨lim_ok c I.length _ h1, h2, h3, h4, h5⟩
theorem car_len (c : Nat) (Z : List (Iv × Option Nat)) : (Z.foldl carStep (List.replicate c 0)).length = c := by
  refine snoc_ind (Q := fun Z : List (Iv × Option Nat) => (Z.foldl carStep (List.replicate c 0)).length = c) List.length_replicate (fun P t ih => ?_) Z
  rw [List.foldl_append]
  simp only [List.foldl_cons, List.foldl_nil]
  unfold carStep
  cases t.2 with
  | none => exact ih
  | some p => dsimp only; rw [List.length_set]; exact ih
def condF (I : List Iv) (s : Int) (c : Nat) : Bool := decide (1000 * lostF (limF c I.length (ordT I)).2 ≤ s * (I.length : Int))
def leastF (I : List Iv) (s : Int) : Nat := ((List.range (I.length + 1)).find? (condF I s)).getD 0
def keptStep (c : Nat) (s : Nat × List Int) (t : Tr) : Nat × List Int :=
  (s.1 + (s.2.filter fun u => decide (u ≤ t.1.1)).length, (sortI ((s.2.filter fun u => decide (t.1.1 < u)) ++ [t.1.2])).take c)
def keptS (c : Nat) (T : List Tr) : Nat × List Int := T.foldl (keptStep c) (0, [])
def keptF (c : Nat) (T : List Tr) : Nat := (keptS c T).1 + (keptS c T).2.length
def fitsB (I : List Iv) (c : Nat) : Bool := I.all fun e => decide (loadF I e.1 ≤ (c : Int))
/-- the numbers that are lost -/
def restF (L : List (Option Nat)) : List Nat := (List.range L.length).filter fun k => decide (L[k]? = some none)
def overF (n : Nat) (R : List Nat) (L : List (Option Nat)) : List (Option Nat) := (R.zip L).foldl (fun o q => o.set q.1 q.2) (List.replicate n none)
def overD (a b : Nat) (I : List Iv) : D := .tup [.lst ((limF a I.length (ordT I)).2.map optNatD),
  .lst ((overF I.length (restF (limF a I.length (ordT I)).2) (limF b ((restF (limF a I.length (ordT I)).2).filterMap fun k => I[k]?).length (ordT ((restF (limF a I.length (ordT I)).2).filterMap fun k => I[k]?))).2).map optNatD)]
/-- all choices -/
def chF (I : List Iv) : List (List Iv) := I.foldl (fun ch x => ch ++ ch.map fun q => q ++ [x]) [[]]
def mskF (f : Nat → Bool) (T : List Tr) : List Iv := (T.filter fun t => f t.2).map fun t => t.1
def Fits (Q : List Iv) (c : Nat) : Prop := ∀ x : Int, loadF Q x ≤ (c : Int)
theorem filter_imp {α : Type} {p q : α → Bool} : ∀ (L : List α), (∀ x ∈ L, p x = true → q x = true) → (L.filter p).length ≤ (L.filter q).length
  | [], _ => Nat.le_refl _
  | a :: L, h => by
    have ih := filter_imp L fun x hx => h x (List.mem_cons_of_mem _ hx)
    have ha := h a List.mem_cons_self
    cases hp : p a with
    | false =>
      rw [List.filter_cons_of_neg (by rw [hp]; decide)]
      cases hq : q a with
      | false => rw [List.filter_cons_of_neg (by rw [hq]; decide)]; exact ih
      | true => rw [List.filter_cons_of_pos hq, List.length_cons]; omega
    | true => rw [List.filter_cons_of_pos hp, List.filter_cons_of_pos (ha hp), List.length_cons, List.length_cons]; omega
theorem load_sub {P Q : List Iv} (h : P.Sublist Q) (x : Int) : loadF P x ≤ loadF Q x := by
  have := (h.filter fun e => decide (e.1 ≤ x ∧ x < e.2)).length_le
  unfold loadF; omega
theorem fits_iff {Q : List Iv} {c : Nat} : fitsB Q c = true ↔ Fits Q c := by
  unfold fitsB Fits
  rw [List.all_eq_true]
  simp only [decide_eq_true_eq]
  constructor
  · intro h x
    by_cases hA : (Q.filter fun e => decide (e.1 ≤ x ∧ x < e.2)) = []
    · unfold loadF; rw [hA]; simp
    · obtain ⟨m1, m2⟩ := maxI_spec (ns := (Q.filter fun e => decide (e.1 ≤ x ∧ x < e.2)).map fun e => e.1) (by simpa using hA)
      obtain ⟨e, he, hm⟩ := List.mem_map.mp m1
      obtain ⟨heQ, hex⟩ := List.mem_filter.mp he
      rw [decide_eq_true_eq] at hex
      refine Int.le_trans ?_ (h e heQ)
      unfold loadF
      have := filter_imp (p := fun y : Iv => decide (y.1 ≤ x ∧ x < y.2)) (q := fun y : Iv => decide (y.1 ≤ e.1 ∧ e.1 < y.2)) Q fun y hy hyx => by
        have := m2 y.1 (List.mem_map.mpr ⟨y, List.mem_filter.mpr ⟨hy, hyx⟩, rfl⟩)
        simp only [decide_eq_true_eq] at hyx ⊢
        omega
      omega
  · intro h e _
    exact h e.1
def endC (Q : List Iv) (x : Int) : Nat := (Q.filter fun e => decide (e.2 ≤ x)).length
def leN (N : List Int) (x : Int) : Nat := (N.filter fun u => decide (u ≤ x)).length
theorem leN_le (N : List Int) (x : Int) : leN N x ≤ N.length := List.length_filter_le _ _
theorem leN_snoc (N : List Int) (u x : Int) : leN (N ++ [u]) x = leN N x + if u ≤ x then 1 else 0 := by
  unfold leN
  rw [List.filter_append, List.length_append]
  by_cases h : u ≤ x <;> simp [h]
theorem endC_snoc (Q : List Iv) (e : Iv) (x : Int) : endC (Q ++ [e]) x = endC Q x + if e.2 ≤ x then 1 else 0 := by
  unfold endC
  rw [List.filter_append, List.length_append]
  by_cases h : e.2 ≤ x <;> simp [h]
theorem leN_split (N : List Int) {b x : Int} (h : b ≤ x) : leN N x = leN N b + leN (N.filter fun u => decide (b < u)) x := by
  unfold leN
  induction N with
  | nil => rfl
  | cons a N ih =>
    by_cases g1 : a ≤ b
    · rw [List.filter_cons_of_pos (by simp; omega), List.filter_cons_of_pos (by simpa using g1), List.filter_cons_of_neg (p := fun u => decide (b < u)) (by simp; omega), List.length_cons, List.length_cons]; omega
    · rw [List.filter_cons_of_neg (p := fun u => decide (u ≤ b)) (by simpa using g1), List.filter_cons_of_pos (p := fun u => decide (b < u)) (by simp; omega)]
      by_cases g2 : a ≤ x
      · rw [List.filter_cons_of_pos (by simpa using g2), List.filter_cons_of_pos (by simpa using g2), List.length_cons, List.length_cons]; omega
      · rw [List.filter_cons_of_neg (by simpa using g2), List.filter_cons_of_neg (by simpa using g2)]; exact ih
theorem len_split (N : List Int) (b : Int) : N.length = leN N b + (N.filter fun u => decide (b < u)).length := by
  unfold leN
  induction N with
  | nil => rfl
  | cons a N ih =>
    by_cases g1 : a ≤ b
    · rw [List.filter_cons_of_pos (by simpa using g1), List.filter_cons_of_neg (p := fun u => decide (b < u)) (by simp; omega), List.length_cons, List.length_cons]; omega
    · rw [List.filter_cons_of_neg (p := fun u => decide (u ≤ b)) (by simpa using g1), List.filter_cons_of_pos (p := fun u => decide (b < u)) (by simp; omega), List.length_cons, List.length_cons]; omega
theorem end_split (Q : List Iv) (b : Int) : Q.length = endC Q b + (Q.filter fun e => decide (b < e.2)).length := by
  unfold endC
  induction Q with
  | nil => rfl
  | cons a N ih =>
    by_cases g1 : a.2 ≤ b
    · rw [List.filter_cons_of_pos (by simpa using g1), List.filter_cons_of_neg (p := fun e : Iv => decide (b < e.2)) (by simp; omega), List.length_cons, List.length_cons]; omega
    · rw [List.filter_cons_of_neg (p := fun e : Iv => decide (e.2 ≤ b)) (by simpa using g1), List.filter_cons_of_pos (p := fun e : Iv => decide (b < e.2)) (by simp; omega), List.length_cons, List.length_cons]; omega
/-- what one step of the sweep does -/
theorem kept_cases (c : Nat) (k : Nat) (N : List Int) (t : Tr) (hN : N.length ≤ c) : ∃ S : List Int, S.Pairwise (· ≤ ·) ∧ S.Perm ((N.filter fun u => decide (t.1.1 < u)) ++ [t.1.2]) ∧
    ((S.length ≤ c ∧ keptStep c (k, N) t = (k + leN N t.1.1, S)) ∨ ∃ (S0 : List Int) (u : Int), S = S0 ++ [u] ∧ S0.length = c ∧ keptStep c (k, N) t = (k + leN N t.1.1, S0)) := by
  refine ⟨sortI ((N.filter fun u => decide (t.1.1 < u)) ++ [t.1.2]), sortI_sorted _, sortI_perm _, ?_⟩
  have hl : (sortI ((N.filter fun u => decide (t.1.1 < u)) ++ [t.1.2])).length = (N.filter fun u => decide (t.1.1 < u)).length + 1 := by rw [(sortI_perm _).length_eq]; simp
  have hs := len_split N t.1.1
  have e1 : keptStep c (k, N) t = (k + leN N t.1.1, (sortI ((N.filter fun u => decide (t.1.1 < u)) ++ [t.1.2])).take c) := rfl
  rw [e1]
  generalize sortI ((N.filter fun u => decide (t.1.1 < u)) ++ [t.1.2]) = S at hl
  by_cases g : S.length ≤ c
  · left
    rw [List.take_of_length_le g]
    exact ⟨g, rfl⟩
  · right
    rcases List.eq_nil_or_concat S with z | ⟨S0, u, z⟩
    · subst z; simp at g
    · rw [List.concat_eq_append] at z
      subst z
      rw [List.length_append] at hl g
      simp only [List.length_cons, List.length_nil] at hl g
      refine ⟨S0, u, rfl, by omega, ?_⟩
      rw [List.take_append_of_le_length (by omega), List.take_of_length_le (by omega)]
theorem kept_snoc (c : Nat) (P : List Tr) (t : Tr) : keptS c (P ++ [t]) = keptStep c (keptS c P) t := by unfold keptS; rw [List.foldl_append]; rfl
theorem kept_len (c : Nat) (T : List Tr) : (keptS c T).2.length ≤ c := by
  refine snoc_ind (Q := fun T => (keptS c T).2.length ≤ c) (Nat.zero_le _) (fun P t ih => ?_) T
  rw [kept_snoc]
  generalize keptS c P = s at ih ⊢
  obtain ⟨k, N⟩ := s
  obtain ⟨S, _, _, h | ⟨S0, u, h1, h2, h3⟩⟩ := kept_cases c k N t ih
  · rw [h.2]; exact h.1
  · rw [h3]; exact Nat.le_of_eq h2
theorem msk_snoc (f : Nat → Bool) (P : List Tr) (t : Tr) : mskF f (P ++ [t]) = if f t.2 = true then mskF f P ++ [t.1] else mskF f P := by
  unfold mskF
  rw [List.filter_append, List.map_append]
  by_cases h : f t.2 = true
  · rw [if_pos h, List.filter_cons_of_pos (p := fun t : Tr => f t.2) h]; rfl
  · rw [if_neg h, List.filter_cons_of_neg (p := fun t : Tr => f t.2) h]; simp
theorem msk_mem {f : Nat → Bool} {T : List Tr} {e : Iv} : e ∈ mskF f T ↔ ∃ t ∈ T, f t.2 = true ∧ t.1 = e := by
  unfold mskF
  rw [List.mem_map]
  constructor
  · rintro ⟨t, ht, z⟩
    obtain ⟨h1, h2⟩ := List.mem_filter.mp ht
    exact ⟨t, h1, h2, z⟩
  · rintro ⟨t, h1, h2, z⟩
    exact ⟨t, List.mem_filter.mpr ⟨h1, h2⟩, z⟩
theorem leN_perm {S M : List Int} (h : S.Perm M) (x : Int) : leN S x = leN M x := (h.filter _).length_eq
/-- nobody keeps more -/
theorem kept_upper {n c : Nat} (f : Nat → Bool) (T : List Tr) : OrdOk n T → Fits (mskF f T) c → ∀ x, (∀ t ∈ T, t.1.1 ≤ x) → endC (mskF f T) x ≤ (keptS c T).1 + leN (keptS c T).2 x := by
  refine snoc_ind (Q := fun T => OrdOk n T → Fits (mskF f T) c → ∀ x, (∀ t ∈ T, t.1.1 ≤ x) → endC (mskF f T) x ≤ (keptS c T).1 + leN (keptS c T).2 x) (fun _ _ x _ => Nat.zero_le _) (fun P t ih h hF x hx => ?_) T
  obtain ⟨h1, h2, h3, h4, h5⟩ := h.split
  have hsubl : (mskF f P).Sublist (mskF f (P ++ [t])) := by
    rw [msk_snoc]
    split
    · exact List.sublist_append_left _ _
    · exact List.Sublist.refl _
  have ih := ih h1 fun y => Int.le_trans (load_sub hsubl y) (hF y)
  have hN := kept_len c P
  have hbx := hx t (by simp)
  have ihb := ih t.1.1 h4
  have ihx := ih x fun y hy => hx y (List.mem_append_left _ hy)
  rw [kept_snoc]
  generalize keptS c P = s at *
  obtain ⟨k, N⟩ := s
  dsimp only at ihb ihx hN
  have hsp := leN_split N hbx
  have hq : endC (mskF f (P ++ [t])) x ≤ endC (mskF f P) x + if t.1.2 ≤ x then 1 else 0 := by
    rw [msk_snoc]
    split
    · rw [endC_snoc]; exact Nat.le_refl _
    · omega
  obtain ⟨S, hs, hp, hc | ⟨S0, u, rfl, hc, hk⟩⟩ := kept_cases c k N t hN
  · rw [hc.2]
    have := leN_perm hp x
    rw [leN_snoc] at this
    dsimp only
    omega
  · rw [hk]
    dsimp only
    have hpx := leN_perm hp x
    rw [leN_snoc, leN_snoc] at hpx
    by_cases g : u ≤ x
    · have hall : leN S0 x = c := by
        unfold leN
        rw [List.filter_eq_self.mpr]
        · exact hc
        · intro y hy
          rw [List.pairwise_append] at hs
          have := hs.2.2 y hy u (by simp)
          simp only [decide_eq_true_eq]; omega
      rw [hall]
      have hb := end_split (mskF f (P ++ [t])) t.1.1
      have hle : endC (mskF f (P ++ [t])) x ≤ (mskF f (P ++ [t])).length := List.length_filter_le _ _
      have hload := hF t.1.1
      have hact : ((mskF f (P ++ [t])).filter fun e => decide (t.1.1 < e.2)).length ≤ ((mskF f (P ++ [t])).filter fun e => decide (e.1 ≤ t.1.1 ∧ t.1.1 < e.2)).length := filter_imp _ fun e he hee => by
        obtain ⟨y, hy, _, rfl⟩ := msk_mem.mp he
        simp only [decide_eq_true_eq] at hee ⊢
        refine ⟨?_, hee⟩
        rcases List.mem_append.mp hy with hy | hy
        · exact h4 y hy
        · simp only [List.mem_cons, List.not_mem_nil, or_false] at hy; subst hy; exact Int.le_refl _
      have hqb : endC (mskF f (P ++ [t])) t.1.1 ≤ endC (mskF f P) t.1.1 := by
        rw [msk_snoc]
        split
        · rw [endC_snoc, if_neg (by omega)]; exact Nat.le_refl _
        · exact Nat.le_refl _
      unfold loadF at hload
      omega
    · rw [if_neg g] at hpx
      omega
theorem kept_best {n c : Nat} {T : List Tr} (hT : OrdOk n T) (f : Nat → Bool) (hF : Fits (mskF f T) c) : (mskF f T).length ≤ keptF c T := by
  have := kept_upper f T hT hF 120 fun t ht => by have := hT.ok t ht; omega
  have hle := leN_le (keptS c T).2 120
  have hall : endC (mskF f T) 120 = (mskF f T).length := by
    unfold endC
    rw [List.filter_eq_self.mpr]
    intro e he
    obtain ⟨y, hy, _, rfl⟩ := msk_mem.mp he
    have := hT.ok y hy
    simp only [decide_eq_true_eq]; omega
  unfold keptF
  omega
theorem msk_congr {f g : Nat → Bool} {T : List Tr} (h : ∀ t ∈ T, f t.2 = g t.2) : mskF f T = mskF g T := by
  unfold mskF
  rw [List.filter_congr h]
/-- one is left out -/
theorem msk_drop {n : Nat} {T : List Tr} (hT : OrdOk n T) {f : Nat → Bool} {y : Tr} (hy : y ∈ T) (hf : f y.2 = true) (p : Iv → Bool) : ((mskF (fun i => if i = y.2 then false else f i) T).filter p).length + (if p y.1 = true then 1 else 0) = ((mskF f T).filter p).length := by
  obtain ⟨A, B, rfl⟩ := List.append_of_mem hy
  have hn := hT.nod
  rw [List.pairwise_append, List.pairwise_cons] at hn
  have hA : mskF (fun i => if i = y.2 then false else f i) A = mskF f A := msk_congr fun t ht => if_neg (hn.2.2 t ht y (by simp))
  have hB : mskF (fun i => if i = y.2 then false else f i) B = mskF f B := msk_congr fun t ht => if_neg (fun z => hn.2.1.1 t ht z.symm)
  have e1 : ∀ g : Nat → Bool, mskF g (A ++ y :: B) = mskF g A ++ ((if g y.2 = true then [y.1] else []) ++ mskF g B) := by
    intro g
    unfold mskF
    rw [List.filter_append, List.map_append]
    by_cases h : g y.2 = true
    · rw [if_pos h, List.filter_cons_of_pos (p := fun t : Tr => g t.2) h]; rfl
    · rw [if_neg h, List.filter_cons_of_neg (p := fun t : Tr => g t.2) h]; rfl
  rw [e1, e1, hA, hB, if_pos hf, if_neg (by simp)]
  simp only [List.filter_append, List.length_append, List.nil_append]
  by_cases h : p y.1 = true
  · rw [if_pos h, List.filter_cons_of_pos h]; simp; omega
  · rw [if_neg h, List.filter_cons_of_neg h]; simp
/-- and so many can be kept -/
theorem kept_lower {n c : Nat} (T : List Tr) : OrdOk n T → ∃ f : Nat → Bool, Fits (mskF f T) c ∧ (mskF f T).length = (keptS c T).1 + (keptS c T).2.length ∧ ∀ x, (∀ t ∈ T, t.1.1 ≤ x) → endC (mskF f T) x = (keptS c T).1 + leN (keptS c T).2 x := by
  refine snoc_ind (Q := fun T => OrdOk n T → ∃ f : Nat → Bool, Fits (mskF f T) c ∧ (mskF f T).length = (keptS c T).1 + (keptS c T).2.length ∧ ∀ x, (∀ t ∈ T, t.1.1 ≤ x) → endC (mskF f T) x = (keptS c T).1 + leN (keptS c T).2 x) (fun _ => ⟨fun _ => false, fun x => by show (0 : Int) ≤ c; omega, rfl, fun x _ => rfl⟩) (fun P t ih h => ?_) T
  obtain ⟨h1, h2, h3, h4, h5⟩ := h.split
  obtain ⟨f, i1, i2, i3⟩ := ih h1
  have hN := kept_len c P
  have i3b := i3 t.1.1 h4
  rw [kept_snoc]
  generalize keptS c P = s at *
  obtain ⟨k, N⟩ := s
  dsimp only at i2 i3 hN i3b
  have hlen := len_split N t.1.1
  -- with the new one
  have hm : mskF (fun i => if i = t.2 then true else f i) (P ++ [t]) = mskF f P ++ [t.1] := by
    rw [msk_snoc, if_pos (by simp)]
    rw [msk_congr (g := f) fun y hy => if_neg (h5 y hy)]
  have hload : ∀ y, y < t.1.1 → loadF (mskF f P ++ [t.1]) y ≤ c := fun y hy => by
    rw [load_snoc, if_neg (by omega)]
    exact i1 y
  have hend : ∀ x, (∀ y ∈ P ++ [t], y.1.1 ≤ x) → endC (mskF f P ++ [t.1]) x = k + leN N t.1.1 + leN ((N.filter fun u => decide (t.1.1 < u)) ++ [t.1.2]) x := fun x hx => by
    rw [endC_snoc, i3 x fun y hy => hx y (List.mem_append_left _ hy), leN_snoc]
    have := leN_split N (hx t (by simp))
    omega
  have hgt : ((mskF f P ++ [t.1]).filter fun e => decide (t.1.1 < e.2)).length = (N.filter fun u => decide (t.1.1 < u)).length + 1 := by
    have h6 := end_split (mskF f P ++ [t.1]) t.1.1
    rw [endC_snoc, if_neg (by omega), i3b] at h6
    simp only [List.length_append, List.length_cons, List.length_nil] at h6
    omega
  have hact : ∀ (Q : List Iv) y, t.1.1 ≤ y → loadF Q y ≤ ((Q.filter fun e => decide (t.1.1 < e.2)).length : Nat) := fun Q y hy => by
    have := filter_imp (p := fun e : Iv => decide (e.1 ≤ y ∧ y < e.2)) (q := fun e : Iv => decide (t.1.1 < e.2)) Q fun e _ he => by
      simp only [decide_eq_true_eq] at he ⊢
      omega
    unfold loadF; omega
  obtain ⟨S, hs, hp, hc | ⟨S0, u, rfl, hc, hk⟩⟩ := kept_cases c k N t hN
  · rw [hc.2]
    have hSl := hp.length_eq
    simp only [List.length_append, List.length_cons, List.length_nil] at hSl
    refine ⟨fun i => if i = t.2 then true else f i, ?_, ?_, fun x hx => ?_⟩
    · rw [hm]
      intro y
      by_cases g : y < t.1.1
      · exact hload y g
      · have := hact (mskF f P ++ [t.1]) y (by omega)
        omega
    · rw [hm]
      simp only [List.length_append, List.length_cons, List.length_nil]
      omega
    · rw [hm, hend x hx, leN_perm hp x]
  · rw [hk]
    dsimp only
    have hSl := hp.length_eq
    simp only [List.length_append, List.length_cons, List.length_nil] at hSl
    have hub : t.1.1 < u := by
      have : u ∈ (N.filter fun u => decide (t.1.1 < u)) ++ [t.1.2] := hp.mem_iff.mp (by simp)
      rcases List.mem_append.mp this with z | z
      · have := (List.mem_filter.mp z).2
        simpa using this
      · simp only [List.mem_cons, List.not_mem_nil, or_false] at z; omega
    -- one that ends at u
    have hex : ∃ e ∈ mskF f P ++ [t.1], e.2 = u := by
      refine Decidable.byContradiction fun z => ?_
      have hx : ∀ y ∈ P ++ [t], y.1.1 ≤ u - 1 := fun y hy => by
        rcases List.mem_append.mp hy with hy | hy
        · have := h4 y hy; omega
        · simp only [List.mem_cons, List.not_mem_nil, or_false] at hy; subst hy; omega
      have e1 := hend u fun y hy => by have := hx y hy; omega
      have e2 := hend (u - 1) hx
      rw [← leN_perm hp, leN_snoc] at e1 e2
      rw [if_pos (Int.le_refl _)] at e1
      rw [if_neg (by omega)] at e2
      have e3 : endC (mskF f P ++ [t.1]) u ≤ endC (mskF f P ++ [t.1]) (u - 1) := filter_imp _ fun e he hee => by
        simp only [decide_eq_true_eq] at hee ⊢
        have : e.2 ≠ u := fun w => z ⟨e, he, w⟩
        omega
      have e4 : leN S0 (u - 1) ≤ leN S0 u := filter_imp _ fun v _ hv => by
        simp only [decide_eq_true_eq] at hv ⊢
        omega
      omega
    obtain ⟨e, he, heu⟩ := hex
    rw [← hm] at he
    obtain ⟨y, hy, hyf, rfl⟩ := msk_mem.mp he
    have hdrop := fun p => msk_drop h (f := fun i => if i = t.2 then true else f i) hy hyf p
    rw [hm] at hdrop
    refine ⟨fun i => if i = y.2 then false else if i = t.2 then true else f i, ?_, ?_, fun x hx => ?_⟩
    · intro z
      by_cases g : z < t.1.1
      · have hd := hdrop fun e => decide (e.1 ≤ z ∧ z < e.2)
        have hl := hload z g
        unfold loadF at hl ⊢
        omega
      · have hd := hdrop fun e => decide (t.1.1 < e.2)
        rw [if_pos (by simp only [decide_eq_true_eq]; omega)] at hd
        have := hact (mskF (fun i => if i = y.2 then false else if i = t.2 then true else f i) (P ++ [t])) z (by omega)
        omega
    · have hd := hdrop fun _ => true
      rw [List.filter_eq_self.mpr fun _ _ => rfl, List.filter_eq_self.mpr fun _ _ => rfl, if_pos rfl] at hd
      simp only [List.length_append, List.length_cons, List.length_nil] at hd
      omega
    · have hd := hdrop fun e => decide (e.2 ≤ x)
      have he2 := hend x hx
      rw [← leN_perm hp, leN_snoc] at he2
      unfold endC at he2 ⊢
      by_cases g : u ≤ x
      · rw [if_pos (by simp only [decide_eq_true_eq]; omega)] at hd
        rw [if_pos g] at he2
        omega
      · rw [if_neg (by simp only [decide_eq_true_eq]; omega)] at hd
        rw [if_neg g] at he2
        omega
theorem rest_len (L : List (Option Nat)) : (restF L).length ≤ L.length := by
  have := List.length_filter_le (fun k => decide (L[k]? = some none)) (List.range L.length)
  rw [List.length_range] at this
  exact this
theorem rest_lt {L : List (Option Nat)} {k : Nat} (h : k ∈ restF L) : k < L.length := List.mem_range.mp (List.mem_filter.mp h).1
theorem get_all {α : Type} (I : List α) : ∀ R : List Nat, (∀ k ∈ R, k < I.length) → (R.filterMap fun k => I[k]?).length = R.length
  | [], _ => rfl
  | k :: R, h => by
    have hk := h k List.mem_cons_self
    rw [List.filterMap_cons_some (b := I[k]) (List.getElem?_eq_getElem hk), List.length_cons, List.length_cons, get_all I R fun j hj => h j (List.mem_cons_of_mem _ hj)]
theorem over_len (n : Nat) (Z : List (Nat × Option Nat)) : (Z.foldl (fun o q => o.set q.1 q.2) (List.replicate n (none : Option Nat))).length = n := by
  refine snoc_ind (Q := fun Z : List (Nat × Option Nat) => (Z.foldl (fun o q => o.set q.1 q.2) (List.replicate n (none : Option Nat))).length = n) List.length_replicate (fun P t ih => ?_) Z
  rw [List.foldl_append]
  simp only [List.foldl_cons, List.foldl_nil]
  rw [List.length_set]
  exact ih
theorem rows_snoc (I : List Iv) (x : Iv) : rowsF (I ++ [x]) = rowsF I ++ [(x, I.length)] := by
  unfold rowsF
  rw [List.zipIdx_append]
  simp
theorem ch_snoc (I : List Iv) (x : Iv) : chF (I ++ [x]) = chF I ++ (chF I).map fun q => q ++ [x] := by unfold chF; rw [List.foldl_append]; rfl
theorem ch_len (I : List Iv) : (chF I).length = 2 ^ I.length := by
  refine snoc_ind (Q := fun I => (chF I).length = 2 ^ I.length) rfl (fun P t ih => ?_) I
  rw [ch_snoc, List.length_append, List.length_map, ih, List.length_append, List.length_singleton, Nat.pow_succ]
  omega
theorem ch_mem (I : List Iv) : (∀ q ∈ chF I, ∃ f, q = mskF f (rowsF I)) ∧ ∀ f, mskF f (rowsF I) ∈ chF I := by
  refine snoc_ind (Q := fun I => (∀ q ∈ chF I, ∃ f, q = mskF f (rowsF I)) ∧ ∀ f, mskF f (rowsF I) ∈ chF I) ⟨fun q hq => ⟨fun _ => false, by simpa [chF, rowsF, mskF] using hq⟩, fun f => by simp [chF, rowsF, mskF]⟩ (fun P t ih => ?_) I
  obtain ⟨i1, i2⟩ := ih
  rw [ch_snoc, rows_snoc]
  constructor
  · intro q hq
    have hne : ∀ b f, mskF (fun i => if i = P.length then b else f i) (rowsF P) = mskF f (rowsF P) := fun b f => msk_congr fun y hy => if_neg (by have := (List.getElem?_eq_some_iff.mp (rows_mem.mp hy)).1; omega)
    rcases List.mem_append.mp hq with hq | hq
    · obtain ⟨f, rfl⟩ := i1 q hq
      refine ⟨fun i => if i = P.length then false else f i, ?_⟩
      rw [msk_snoc, if_neg (by simp), hne]
    · obtain ⟨q0, hq0, rfl⟩ := List.mem_map.mp hq
      obtain ⟨f, rfl⟩ := i1 q0 hq0
      refine ⟨fun i => if i = P.length then true else f i, ?_⟩
      rw [msk_snoc, if_pos (by simp), hne]
  · intro f
    rw [msk_snoc]
    split
    · exact List.mem_append_right _ (List.mem_map.mpr ⟨_, i2 f, rfl⟩)
    · exact List.mem_append_left _ (i2 f)
theorem ch_short (I : List Iv) : ∀ q ∈ chF I, q.length ≤ I.length ∧ ∀ e ∈ q, e ∈ I := by
  intro q hq
  obtain ⟨f, rfl⟩ := (ch_mem I).1 q hq
  constructor
  · unfold mskF
    rw [List.length_map]
    have := List.length_filter_le (fun t : Tr => f t.2) (rowsF I)
    unfold rowsF at *
    rw [List.length_zipIdx] at this
    exact this
  · intro e he
    obtain ⟨t, ht, _, rfl⟩ := msk_mem.mp he
    exact List.mem_of_getElem? (rows_mem.mp ht)
theorem msk_perm (f : Nat → Bool) (I : List Iv) : (mskF f (ordT I)).Perm (mskF f (rowsF I)) := by
  unfold mskF
  exact ((List.mergeSort_perm (rowsF I) leT).filter _).map _
theorem fits_perm {P Q : List Iv} (h : P.Perm Q) {c : Nat} : Fits P c ↔ Fits Q c := by
  have : ∀ x, loadF P x = loadF Q x := fun x => by unfold loadF; rw [(h.filter _).length_eq]
  unfold Fits
  simp only [this]
def bestL (c : Nat) (b : Nat) (q : List Iv) : Nat := if q.length > b ∧ fitsB q c = true then q.length else b
theorem best_fold (c : Nat) (L : List (List Iv)) : (L.foldl (bestL c) 0 = 0 ∨ ∃ q ∈ L, q.length = L.foldl (bestL c) 0 ∧ fitsB q c = true) ∧ ∀ q ∈ L, fitsB q c = true → q.length ≤ L.foldl (bestL c) 0 := by
  refine snoc_ind (Q := fun L => (L.foldl (bestL c) 0 = 0 ∨ ∃ q ∈ L, q.length = L.foldl (bestL c) 0 ∧ fitsB q c = true) ∧ ∀ q ∈ L, fitsB q c = true → q.length ≤ L.foldl (bestL c) 0) ⟨.inl rfl, fun q hq => by cases hq⟩ (fun P t ih => ?_) L
  rw [List.foldl_append]
  simp only [List.foldl_cons, List.foldl_nil]
  obtain ⟨i1, i2⟩ := ih
  generalize P.foldl (bestL c) 0 = b at i1 i2
  unfold bestL
  by_cases g : t.length > b ∧ fitsB t c = true
  · rw [if_pos g]
    refine ⟨.inr ⟨t, by simp, rfl, g.2⟩, fun q hq hf => ?_⟩
    rcases List.mem_append.mp hq with hq | hq
    · have := i2 q hq hf; omega
    · simp only [List.mem_cons, List.not_mem_nil, or_false] at hq; subst hq; exact Nat.le_refl _
  · rw [if_neg g]
    refine ⟨?_, fun q hq hf => ?_⟩
    · rcases i1 with i1 | ⟨q, hq, h1, h2⟩
      · exact .inl i1
      · exact .inr ⟨q, List.mem_append_left _ hq, h1, h2⟩
    · rcases List.mem_append.mp hq with hq | hq
      · exact i2 q hq hf
      · simp only [List.mem_cons, List.not_mem_nil, or_false] at hq
        subst hq
        refine Decidable.byContradiction fun z => g ⟨by omega, hf⟩
theorem most_eq {I : List Iv} (ho : IvOk I) (c : Nat) : (chF I).foldl (bestL c) 0 = keptF c (ordT I) := by
  obtain ⟨b1, b2⟩ := best_fold c (chF I)
  obtain ⟨m1, m2⟩ := ch_mem I
  refine Nat.le_antisymm ?_ ?_
  · rcases b1 with b1 | ⟨q, hq, h1, h2⟩
    · omega
    · rw [← h1]
      obtain ⟨f, rfl⟩ := m1 q hq
      rw [← (msk_perm f I).length_eq]
      exact kept_best (ord_ok ho) f ((fits_perm (msk_perm f I)).mpr (fits_iff.mp h2))
  · obtain ⟨f, h1, h2, _⟩ := kept_lower (c := c) (ordT I) (ord_ok ho)
    have := b2 _ (m2 f) (fits_iff.mpr ((fits_perm (msk_perm f I)).mp h1))
    rw [← (msk_perm f I).length_eq, h2] at this
    exact this
theorem msk_all (I : List Iv) : (mskF (fun _ => true) (ordT I)) = (ordT I).map fun t => t.1 := by
  unfold mskF
  rw [List.filter_eq_self.mpr fun _ _ => rfl]
theorem kept_peak {I : List Iv} (ho : IvOk I) : keptF (peakF I).1.toNat (ordT I) = I.length := by
  have hn := needed_eq ho
  obtain ⟨_, a2, _⟩ := arr_load (ordT I) (ord_ok ho)
  refine Nat.le_antisymm ?_ ?_
  · obtain ⟨f, _, h2, _⟩ := kept_lower (c := (peakF I).1.toNat) (ordT I) (ord_ok ho)
    unfold keptF
    rw [← h2]
    unfold mskF
    rw [List.length_map]
    have := List.length_filter_le (fun t : Tr => f t.2) (ordT I)
    rw [ord_len] at this
    exact this
  · have := kept_best (ord_ok ho) (c := (peakF I).1.toNat) (fun _ => true) (by rw [msk_all]; intro x; have := a2 x; omega)
    rw [msk_all, List.length_map, ord_len] at this
    exact this
def cntU (U : List (Option Int)) (x : Int) : Nat := (U.filter fun o => !freeF x o).length
theorem cntU_set : ∀ (U : List (Option Int)) (p : Nat) (o : Option Int) (e x : Int), U[p]? = some o → freeF x o = true → cntU (U.set p (some e)) x = cntU U x + if x < e then 1 else 0
  | [], p, o, e, x, h, _ => by simp at h
  | a :: U, 0, o, e, x, h, hu => by
    simp at h
    subst h
    unfold cntU
    rw [List.set_cons_zero, List.filter_cons_of_neg (l := U) (a := a) (by rw [hu]; decide)]
    by_cases g : x < e
    · rw [List.filter_cons_of_pos (by simp [freeF]; omega), if_pos g, List.length_cons]
    · rw [List.filter_cons_of_neg (by simp [freeF]; omega), if_neg g, Nat.add_zero]
  | a :: U, p + 1, o, e, x, h, hu => by
    have ih := cntU_set U p o e x (by simpa using h) hu
    unfold cntU at *
    rw [List.set_cons_succ]
    cases g : freeF x a with
    | false => rw [List.filter_cons_of_pos (by rw [g]; rfl), List.filter_cons_of_pos (by rw [g]; rfl), List.length_cons, List.length_cons]; omega
    | true => rw [List.filter_cons_of_neg (by rw [g]; decide), List.filter_cons_of_neg (by rw [g]; decide)]; exact ih
theorem free_mono {b x : Int} (h : b ≤ x) {o : Option Int} (hf : freeF b o = true) : freeF x o = true := by
  cases o with
  | none => rfl
  | some u => unfold freeF at *; simp only [decide_eq_true_eq] at *; omega
theorem lim_load {n c : Nat} (T : List Tr) : OrdOk n T → (∀ x, (∀ t ∈ T, t.1.1 ≤ x) → loadF ((doneF (limF c n T).2 T).map fun t => t.1) x = (cntU (limF c n T).1 x : Nat)) ∧ ∀ x, loadF ((doneF (limF c n T).2 T).map fun t => t.1) x ≤ c := by
  refine snoc_ind (Q := fun T => OrdOk n T → (∀ x, (∀ t ∈ T, t.1.1 ≤ x) → loadF ((doneF (limF c n T).2 T).map fun t => t.1) x = (cntU (limF c n T).1 x : Nat)) ∧ ∀ x, loadF ((doneF (limF c n T).2 T).map fun t => t.1) x ≤ c) (fun _ => ⟨fun x _ => ?_, fun x => by show (0 : Int) ≤ c; omega⟩) (fun P t ih h => ?_) T
  · show (0 : Int) = _
    have : cntU (limF c n []).1 x = 0 := by
      show cntU (List.replicate c none) x = 0
      unfold cntU
      rw [List.filter_eq_nil_iff.mpr]
      · rfl
      · intro o ho
        obtain ⟨_, rfl⟩ := List.mem_replicate.mp ho
        simp [freeF]
    omega
  obtain ⟨h1, h2, h3, h4, h5⟩ := h.split
  obtain ⟨i1, i2⟩ := ih h1
  have hok := lim_ok c n P h1
  rw [lim_snoc]
  have hL0 := hok.out t.2 h2 h5
  have hU := hok.lu
  have hLl := hok.ll
  generalize limF c n P = s at *
  obtain ⟨U, L⟩ := s
  dsimp only at i1 i2 hL0 hU hLl
  have hh0 : hasP L t = false := by unfold hasP; rw [hL0]
  cases hf : U.findIdx? (freeF t.1.1) with
  | none =>
    have e1 : limStep (U, L) t = (U, L) := by unfold limStep; dsimp only; rw [hf]
    have e2 : doneF L (P ++ [t]) = doneF L P := by unfold doneF; rw [List.filter_append, List.filter_cons_of_neg (by rw [hh0]; decide)]; simp
    rw [e1]
    dsimp only
    rw [e2]
    exact ⟨fun x hx => i1 x fun y hy => hx y (List.mem_append_left _ hy), i2⟩
  | some p =>
    have e1 : limStep (U, L) t = (U.set p (some t.1.2), L.set t.2 (some p)) := by unfold limStep; dsimp only; rw [hf]
    have e2 : doneF (L.set t.2 (some p)) (P ++ [t]) = doneF L P ++ [t] := by
      have := done_set (L := L) (o := some p) h5
      unfold doneF at this ⊢
      rw [List.filter_append, this, List.filter_cons_of_pos (by unfold hasP; rw [List.getElem?_set_self (by omega)])]
      simp
    obtain ⟨o, ho, hfr, _⟩ := find_some hf
    rw [e1]
    dsimp only
    rw [e2, List.map_append, List.map_cons, List.map_nil]
    have hA : ∀ x, (∀ y ∈ P ++ [t], y.1.1 ≤ x) → loadF (((doneF L P).map fun t => t.1) ++ [t.1]) x = (cntU (U.set p (some t.1.2)) x : Nat) := fun x hx => by
      have hbx := hx t (by simp)
      rw [load_snoc, i1 x fun y hy => hx y (List.mem_append_left _ hy), cntU_set U p o t.1.2 x ho (free_mono hbx hfr)]
      by_cases g : x < t.1.2
      · rw [if_pos ⟨hbx, g⟩, if_pos g]; omega
      · rw [if_neg (fun z => g z.2), if_neg g]; omega
    refine ⟨hA, fun x => ?_⟩
    by_cases g : t.1.1 ≤ x
    · rw [hA x fun y hy => ?_]
      · have := List.length_filter_le (fun o => !freeF x o) (U.set p (some t.1.2))
        rw [List.length_set] at this
        unfold cntU
        omega
      · rcases List.mem_append.mp hy with hy | hy
        · have := h4 y hy; omega
        · simp only [List.mem_cons, List.not_mem_nil, or_false] at hy; subst hy; exact g
    · rw [load_snoc, if_neg (fun z => g z.1)]
      exact i2 x
theorem lost_rows : ∀ (I : List Iv) (L pre : List (Option Nat)), L.length = I.length → ((I.zipIdx pre.length).filter (hasP (pre ++ L))).length + (L.filter fun o => o.isNone).length = I.length
  | [], [], pre, _ => rfl
  | [], _ :: _, _, h => by simp at h
  | _ :: _, [], _, h => by simp at h
  | x :: I, o :: L, pre, h => by
    have ih := lost_rows I L (pre ++ [o]) (by simpa using h)
    rw [List.length_append, List.length_singleton, List.append_assoc] at ih
    rw [List.zipIdx_cons]
    have hh : hasP (pre ++ o :: L) (x, pre.length) = o.isSome := by
      unfold hasP
      rw [List.getElem?_append_right (Nat.le_refl _), Nat.sub_self]
      cases o <;> rfl
    cases o with
    | none =>
      rw [List.filter_cons_of_neg (by rw [hh]; decide), List.filter_cons_of_pos (by rfl), List.length_cons, List.length_cons]
      simp only [List.singleton_append] at ih
      omega
    | some p =>
      rw [List.filter_cons_of_pos (by rw [hh]; rfl), List.filter_cons_of_neg (by simp), List.length_cons, List.length_cons]
      simp only [List.singleton_append] at ih
      omega
theorem kept_lost {I : List Iv} (ho : IvOk I) (c : Nat) : (I.length : Int) - lostF (limF c I.length (ordT I)).2 ≤ (keptF c (ordT I) : Nat) := by
  have hlo := lim_ok c I.length (ordT I) (ord_ok ho)
  have hll := (lim_load (c := c) (ordT I) (ord_ok ho)).2
  have hr := lost_rows I (limF c I.length (ordT I)).2 [] hlo.ll
  rw [List.nil_append, List.length_nil] at hr
  generalize (limF c I.length (ordT I)).2 = L at *
  have e1 : (doneF L (ordT I)).map (fun t => t.1) = mskF (fun i => match L[i]? with | some (some _) => true | _ => false) (ordT I) := rfl
  rw [e1] at hll
  have hb := kept_best (ord_ok ho) _ hll
  rw [(msk_perm _ I).length_eq] at hb
  have e2 : (mskF (fun i => match L[i]? with | some (some _) => true | _ => false) (rowsF I)).length = ((rowsF I).filter (hasP L)).length := by unfold mskF; rw [List.length_map]; rfl
  rw [e2] at hb
  unfold rowsF at hb
  unfold lostF
  have : (I.zipIdx 0) = I.zipIdx := rfl
  omega
theorem cond_peak {I : List Iv} (ho : IvOk I) {s : Int} (hs : 0 ≤ s) : condF I s (arrF I.length (ordT I)).1.length = true := by
  have h := lim_arr ho (Nat.le_refl (arrF I.length (ordT I)).1.length)
  unfold condF
  rw [decide_eq_true_eq]
  have : lostF (limF (arrF I.length (ordT I)).1.length I.length (ordT I)).2 = 0 := by
    unfold lostF
    rw [List.filter_eq_nil_iff.mpr]
    · rfl
    · intro o ho2
      cases o with
      | some p => simp
      | none =>
        have hm : optNatD none ∈ (limF (arrF I.length (ordT I)).1.length I.length (ordT I)).2.map optNatD := List.mem_map_of_mem ho2
        rw [h] at hm
        obtain ⟨z, _, hz⟩ := List.mem_map.mp hm
        cases hz
  rw [this]
  have : 0 ≤ s * (I.length : Int) := Int.mul_nonneg hs (by omega)
  omega
theorem least_at {I : List Iv} {s : Int} {k : Nat} (hk : k ≤ I.length) (h1 : condF I s k = true) (h2 : ∀ j, j < k → condF I s j = false) : leastF I s = k := by
  unfold leastF
  have : (List.range (I.length + 1)).find? (condF I s) = some k := by
    rw [List.find?_range_eq_some]
    exact ⟨h1, List.mem_range.mpr (by omega), fun j hj => by rw [h2 j hj]; rfl⟩
  rw [this]
  rfl
def R_law_state (A : Ad) : DSp := fun ds C P => ∃ (c k : Int), ds = [.int c, .int k] ∧ 0 ≤ k ∧ k ≤ 100 ∧ ∀ p s, 0 ≤ s → C p = none → P (.ptr p) (cput C p (.lst [.int s]))
theorem len_law_state (A : Ad) : ∀ ds C P, R_law_state A ds C P → ds.length = 2 := by rintro _ _ _ ⟨c, k, rfl, _⟩; rfl
theorem ok_law_state (T : Txt K mg A) : FnOk P w K mg base CX0 1 A.a_law_state A.d_law_state ["cell", "k"] (spD K (R_law_state A)) :=
  ok_D T.F_law_state sc_law_state (len_law_state A) (fun cdv Ar outer s H E hr =>
    ds_cons (ds_set 2 sc_law_state.nd (d_int))
    (ds_cons (ds_set 3 sc_law_state.nd (d_op op_mod s_mod (d_callTy call_int1 s_int (by rfl) T.z_int (by decide +kernel) (d_cons (d_op op_add s_add (d_op op_add s_add (d_op op_mul s_mul (d_op op_mod s_mod (d_callTy call_int1 s_int (by rfl) T.z_int (by decide +kernel) (d_cons (d_var 0) (d_nil))) (d_var 2)) (d_int)) (d_op op_mul s_mul (d_op op_add s_add (d_var 1) (d_int)) (d_int))) (d_int)) (d_nil))) (d_var 2)))
    (ds_cons (ds_set 4 sc_law_state.nd (d_op op_mod s_mod (d_callTy call_int1 s_int (by rfl) T.z_int (by decide +kernel) (d_cons (d_op op_add s_add (d_op op_add s_add (d_op op_mul s_mul (d_var 3) (d_var 3)) (d_op op_mul s_mul (d_int) (d_var 3))) (d_var 1)) (d_nil))) (d_var 2)))
    (ds_cons (ds_set 5 sc_law_state.nd (d_op op_mod s_mod (d_callTy call_int1 s_int (by rfl) T.z_int (by decide +kernel) (d_cons (d_op op_add s_add (d_op op_add s_add (d_op op_mul s_mul (d_var 4) (d_int)) (d_op op_mul s_mul (d_var 3) (d_int))) (d_int)) (d_nil))) (d_var 2)))
    (ds_cons (ds_set 6 sc_law_state.nd (d_op op_mod s_mod (d_callTy call_int1 s_int (by rfl) T.z_int (by decide +kernel) (d_cons (d_op op_add s_add (d_op op_mul s_mul (d_var 5) (d_var 5)) (d_var 4)) (d_nil))) (d_var 2)))
    (ds_one (ds_ret (d_lstC (d_cons (d_op op_add s_add (d_op op_mul s_mul (d_op op_add s_add (d_op op_mul s_mul (d_op op_add s_add (d_op op_mul s_mul (d_var 6) (d_var 2)) (d_var 5)) (d_var 2)) (d_var 4)) (d_var 2)) (d_var 3)) (d_nil)))))))))) (fun ds C Pk h => by
    obtain ⟨c, k, rfl, h0, h1, q⟩ := h
    walk_at "dd"
    have e1 := mod_lo c (m := 2305843009213693951) (by decide)
    have e2 := mod_hi c (m := 2305843009213693951) (by decide)
    generalize c % 2305843009213693951 = x1 at *
    have f1 := mod_lo (x1 * 6364136223 + (k + 1) * 104729 + 77) (m := 2305843009213693951) (by decide)
    have f2 := mod_hi (x1 * 6364136223 + (k + 1) * 104729 + 77) (m := 2305843009213693951) (by decide)
    generalize (x1 * 6364136223 + (k + 1) * 104729 + 77) % 2305843009213693951 = x2 at *
    have g1 := mod_lo (x2 * x2 + 1013 * x2 + k) (m := 2305843009213693951) (by decide)
    have g2 := mod_hi (x2 * x2 + 1013 * x2 + k) (m := 2305843009213693951) (by decide)
    generalize (x2 * x2 + 1013 * x2 + k) % 2305843009213693951 = x3 at *
    have i1 := mod_lo (x3 * 48271 + x2 * 31 + 9) (m := 2305843009213693951) (by decide)
    have i2 := mod_hi (x3 * 48271 + x2 * 31 + 9) (m := 2305843009213693951) (by decide)
    generalize (x3 * 48271 + x2 * 31 + 9) % 2305843009213693951 = x4 at *
    have j1 := mod_lo (x4 * x4 + x3) (m := 2305843009213693951) (by decide)
    have j2 := mod_hi (x4 * x4 + x3) (m := 2305843009213693951) (by decide)
    generalize (x4 * x4 + x3) % 2305843009213693951 = x5 at *
    refine ⟨by decide, cmul_l (by omega) (by omega), cmul_l (by omega) (by omega), by decide, cmul_l (by omega) (by omega), cmul_l (by omega) (by omega), by decide, cmul_l (by omega) (by omega), cmul_l (by omega) (by omega), by decide, cmul_l (by omega) (by omega), by decide,
      cmul_l (by omega) (by omega), cmul_r (by omega) (by omega), cmul_r (by omega) (by omega), fun p hp => ⟨_, Sub.refl _, q p _ ?_ hp⟩⟩
    omega)

def R_law_digit (A : Ad) : DSp := fun ds C P => ∃ p s m, ds = [.ptr p, .int m] ∧ C p = some (.lst [.int s]) ∧ 0 ≤ s ∧ 0 < m ∧ m < 18446744073709551616 ∧ ∀ d s', 0 ≤ d → d < m → 0 ≤ s' → P (.int d) (cput C p (.lst [.int s']))
theorem len_law_digit (A : Ad) : ∀ ds C P, R_law_digit A ds C P → ds.length = 2 := by rintro _ _ _ ⟨p, s, m, rfl, _⟩; rfl
theorem ok_law_digit (T : Txt K mg A) : FnOk P w K mg base CX0 1 A.a_law_digit A.d_law_digit ["state", "many"] (spD K (R_law_digit A)) :=
  ok_D T.F_law_digit sc_law_digit (len_law_digit A) (fun cdv Ar outer s H E hr =>
    ds_cons (ds_set 2 sc_law_digit.nd (d_op op_mod s_mod (d_callTy call_int1 s_int (by rfl) T.z_int (by decide +kernel) (d_cons (d_ix ix_seq s_ix (d_var 0) (d_int)) (d_nil))) (d_var 1)))
    (ds_cons (ds_setL (d_var 0) (d_int) (d_op op_fdivW s_divW (d_ix ix_seq s_ix (d_var 0) (d_int)) (d_var 1)))
    (ds_one (ds_ret (d_var 2))))) (fun ds C Pk h => by
    obtain ⟨p, s, m, rfl, hp, hs, h0, h1, q⟩ := h
    walk_at "dd"
    rw [ixN_at (by omega) (by omega)]
    exact ⟨_, Sub.refl _, q _ _ (mod_lo s h0) (mod_hi s h0) (Int.ediv_nonneg hs (by omega))⟩)

def R_law_intervals (A : Ad) : DSp := fun ds C P => ∃ p s m w, ds = [.ptr p, .int m, .int w] ∧ 14 ≤ w ∧ w ≤ 80 ∧ C p = some (.lst [.int s]) ∧ 0 ≤ s ∧ 0 ≤ m ∧ m ≤ 30 ∧ ∀ I s', (I.length : Int) ≤ m → IvOk I → 0 ≤ s' → P (ivsD I) (cput C p (.lst [.int s']))
theorem len_law_intervals (A : Ad) : ∀ ds C P, R_law_intervals A ds C P → ds.length = 3 := by rintro _ _ _ ⟨p, s, m, w, rfl, _⟩; rfl
theorem ok_law_intervals (T : Txt K mg A) : FnOk P w K mg base CX0 2 A.a_law_intervals A.d_law_intervals ["state", "many", "wide"] (spD K (R_law_intervals A)) :=
  ok_D T.F_law_intervals sc_law_intervals (len_law_intervals A) (fun cdv Ar outer s H E hr =>
    ds_consL (ds_set 3 sc_law_intervals.nd (d_lstC (d_nil)))
    (ds_consL (ds_for PassesOwn.never rfl (di_rng1 (by rfl) T.z_range (d_cons (d_var 1) (d_nil))) (dg_name 4 sc_law_intervals.nd)
      (ds_consL (ds_set 5 sc_law_intervals.nd (d_call (ok_law_digit T) (hr.mono (by decide)) T.g_law_digit T.F_law_digit.kp T.b_law_digit (d_cons (d_var 0) (d_cons (d_var 2) (d_nil)))))
      (ds_one (ds_expr (d_bmL PySem.F.plainAttrs_list PySem.F.slot_list_append PySem.F.type_list_append mt_append s_append (d_var 3) (d_cons (d_tup (d_cons (d_var 5) (d_cons (d_op op_add s_add (d_op op_add s_add (d_var 5) (d_int)) (d_call (ok_law_digit T) (hr.mono (by decide)) T.g_law_digit T.F_law_digit.kp T.b_law_digit (d_cons (d_var 0) (d_cons (d_op op_fdivW s_divW (d_var 2) (d_int)) (d_nil))))) (d_nil)))) (d_nil)))))))
    (ds_one (ds_retF (d_var 3))))) (fun ds C Pk h => by
    obtain ⟨p, s, m, w, rfl, hw0, hw1, hp, hs, hm0, hm, q⟩ := h
    refine seq_hide fun E' hE => ?_
    walk_at "dd"
    intro pf hpf
    have n1 : p ≠ pf := cell_ne hp hpf
    subst hE
    dsimp only
    refine seq_hide fun E' hE => ?_
    walk_at "dd"
    refine ⟨by omega, for_rng (fun j ρ' C' => ∃ (I : List Iv) (z : Int), I.length ≤ j ∧ IvOk I ∧ 0 ≤ z ∧ C' = cput (cput C p (.lst [.int z])) pf (.lst (I.map pairD)) ∧ ∃ o1 o2, ρ' = [some (.ptr p), some (.int m), some (.int w), some (.ptr pf), o1, o2]) ⟨[], s, by simp, (fun e h => by cases h), hs, ?_, _, _, rfl⟩ ?_ ?_⟩
    · rw [cput_id hp]; rfl
    · rintro j ρ' C' hj ⟨I, z, hI, hg, hz, rfl, o1, o2, rfl⟩
      have k1 : ∀ z c, cput (cput C p (.lst [.int z])) pf c p = some (.lst [.int z]) := fun z c => by rw [cput_ne n1, cput_same]
      have hcc : ∀ z z2 c, cput (cput (cput C p (.lst [.int z])) pf c) p (.lst [.int z2]) = cput (cput C p (.lst [.int z2])) pf c := fun z z2 c => by rw [cput_comm n1.symm, cput_cput]
      refine seq_hide fun E2 hE2 => ?_
      walk_at "dd"
      refine ⟨p, z, w, rfl, k1 _ _, hz, by omega, by omega, fun a z2 ha0 ha5 hz2 => ?_⟩
      subst hE2
      dsimp only [List.set_cons_succ, List.set_cons_zero]
      walk_at "dd"
      refine ⟨⟨by decide, by decide⟩, p, z2, w / 2, rfl, k1 _ _, hz2, by omega, by omega, fun c z4 hc0 hc5 hz4 => ?_⟩
      walk_at "dd"
      refine ⟨by omega, I ++ [(a, a + 1 + c)], z4, by simp; omega, fun e he => ?_, hz4, by rw [List.map_append]; rfl, _, _, rfl⟩
      rcases List.mem_append.mp he with he | he
      · exact hg e he
      · simp only [List.mem_cons, List.not_mem_nil, or_false] at he
        subst he
        exact ⟨by dsimp only; omega, by dsimp only; omega, by dsimp only; omega⟩
    · rintro ρ' C' ⟨I, z, hI, hg, hz, rfl, o1, o2, rfl⟩
      subst hE
      walk_at "dd"
      refine ⟨cput C p (.lst [.int z]), Sub.new (by rw [cput_ne n1.symm]; exact hpf), by rw [cput_ne n1.symm]; exact hpf, _, Sub.refl _, q I z (by omega) hg hz⟩)

def R_law_cell (A : Ad) : DSp := fun ds C P => ∃ (ns : List Int) (k : Int), ds = [.lst (ns.map D.int), .int k] ∧ ns.length ≤ 63 ∧ 0 ≤ k ∧ ∀ v, P (.int v) C
theorem len_law_cell (A : Ad) : ∀ ds C P, R_law_cell A ds C P → ds.length = 2 := by rintro _ _ _ ⟨ns, k, rfl, _⟩; rfl
theorem ok_law_cell (T : Txt K mg A) : FnOk P w K mg base CX0 1 A.a_law_cell A.d_law_cell ["script", "k"] (spD K (R_law_cell A)) :=
  ok_D T.F_law_cell sc_law_cell (len_law_cell A) (fun cdv Ar outer s H E hr =>
    ds_cons (ds_if (d_tcmp op_lt s_lt (d_var 1) (d_callB call_len s_len (by rfl) T.z_len (by decide +kernel) (d_cons (d_var 0) (d_nil))))
      (ds_one (ds_ret (d_ix ix_seq s_ix (d_var 0) (d_var 1))))
      (ds_nil))
    (ds_one (ds_ret (d_int)))) (fun ds C Pk h => by
    obtain ⟨ns, k, rfl, hl, hk, q⟩ := h
    walk_at "dd"
    split
    · rename_i hc
      rw [atI_at hk, List.getElem?_map, List.getElem?_eq_getElem (by omega)]
      exact ⟨C, Sub.refl _, q _⟩
    · exact ⟨C, Sub.refl _, q _⟩)

def R_check_intervals (A : Ad) : DSpX := fun ds C P PX => ∃ I, ds = [ivsD I] ∧ I.length ≤ 1000 ∧ (badF I = true → PX (.ref A.C_BadInterval) [] C) ∧ (badF I = false → P .non C)
theorem len_check_intervals (A : Ad) : ∀ ds C P PX, R_check_intervals A ds C P PX → ds.length = 1 := by rintro _ _ _ _ ⟨I, rfl, _⟩; rfl
theorem ok_check_intervals (T : Txt K mg A) : FnOk P w K mg base (L2.CX P w) 1 A.a_check_intervals A.d_check_intervals ["intervals"] (spX K (R_check_intervals A)) :=
  ok_DX T.F_check_intervals sc_check_intervals (len_check_intervals A) (fun cdv Ar outer s H E hr tk =>
    ds_one (ds_for (passes_of rfl) rfl (di_list (d_var 0)) (dg_tup rfl (dgs_cons (dg_name 1 sc_check_intervals.nd) (dgs_cons (dg_name 2 sc_check_intervals.nd) (dgs_nil))))
      (ds_one (ds_if (d_tcmp op_ge s_ge (d_var 1) (d_var 2))
        (ds_one (ds_raise0 rfl tk T.x_BadInterval T.g_BadInterval (by exact rfl)))
        (ds_nil))))) (fun ds C Pk PX h => by
    obtain ⟨I, rfl, hl, q1, q2⟩ := h
    simp only [ivsD]
    walk_at "dd"
    refine for_map (fun k ρ' C' => C' = C ∧ badF (I.take k) = false ∧ ∃ o1 o2, ρ' = [some (.lst (I.map pairD)), o1, o2]) ⟨rfl, rfl, _, _, rfl⟩ ?_ ?_
    · rintro k e ρ' C' hk ⟨rfl, hb, o1, o2, rfl⟩
      have hm := List.mem_of_getElem? hk
      rw [take_snoc hk]
      clear hk
      simp only [pairD]
      by_cases g : e.1 ≥ e.2
      · have hbad : badF I = true := List.any_eq_true.mpr ⟨e, hm, by simpa using g⟩
        have q := q1 hbad
        clear q1 q2
        walk_at "dd"
        exact ⟨_, Sub.refl _, q⟩
      · have hb2 : badF (I.take k ++ [e]) = false := by
          unfold badF at hb ⊢
          rw [List.any_append, hb]
          simp; omega
        walk_at "dd"
        exact ⟨_, _, rfl⟩
    · rintro ρ' C' ⟨rfl, hb, o1, o2, rfl⟩
      rw [List.take_length] at hb
      exact ⟨_, Sub.refl _, q2 hb⟩)

def R_arrivals (A : Ad) : DSp := fun ds C P => ∃ I, ds = [ivsD I] ∧ I.length ≤ 1000 ∧ P (.lst ((ordT I).map numD)) C
theorem len_arrivals (A : Ad) : ∀ ds C P, R_arrivals A ds C P → ds.length = 1 := by rintro _ _ _ ⟨I, rfl, _⟩; rfl
theorem ok_arrivals (T : Txt K mg A) : FnOk P w K mg base CX0 1 A.a_arrivals A.d_arrivals ["intervals"] (spD K (R_arrivals A)) :=
  ok_D T.F_arrivals sc_arrivals (len_arrivals A) (fun cdv Ar outer s H E hr =>
    ds_consL (ds_set 1 sc_arrivals.nd (d_lstC (d_nil)))
    (ds_consL (ds_for PassesOwn.never rfl (di_rng1 (by rfl) T.z_range (d_cons (d_callB call_len s_len (by rfl) T.z_len (by decide +kernel) (d_cons (d_var 0) (d_nil))) (d_nil))) (dg_name 2 sc_arrivals.nd)
      (ds_one (ds_expr (d_bmL PySem.F.plainAttrs_list PySem.F.slot_list_append PySem.F.type_list_append mt_append s_append (d_var 1) (d_cons (d_tup (d_cons (d_ix ix_seq s_ix (d_ix ix_seq s_ix (d_var 0) (d_var 2)) (d_int)) (d_cons (d_ix ix_seq s_ix (d_ix ix_seq s_ix (d_var 0) (d_var 2)) (d_int)) (d_cons (d_var 2) (d_nil))))) (d_nil))))))
    (ds_one (ds_ret (d_lc rfl sc_arrivals.nd (di_list (d_callB (cr_sortedD hr.units) s_sortD (by rfl) T.z_sorted (by decide +kernel) (d_cons (d_var 1) (d_nil)))) (blkOk_by (own := [("_", 3), ("number", 2)]) (N := ["intervals", "order", "number", "_"]) (sc := defScope s_arrivals) (by decide +kernel)) (by decide) (fun _ _ _ _ _ => dg_tup rfl (dgs_cons (dg_name 3 sc_arrivals.nd) (dgs_cons (dg_name 3 sc_arrivals.nd) (dgs_cons (dg_name 2 sc_arrivals.nd) (dgs_nil))))) (fun _ _ _ _ _ => dts_nil) (fun _ _ _ _ _ => d_var 2)))))) (fun ds C Pk h => by
    obtain ⟨I, rfl, hl, q⟩ := h
    simp only [ivsD]
    refine seq_hide fun E' hE => ?_
    walk_at "dd"
    intro p hp
    subst hE
    dsimp only
    refine seq_hide fun E' hE => ?_
    walk_at "dd"
    have hrl : (rowsF I).length = I.length := by unfold rowsF; rw [List.length_zipIdx]
    refine ⟨by omega, for_rng (fun k ρ' C' => C' = cput C p (.lst (((rowsF I).take k).map triD)) ∧ ∃ o1, ρ' = [some (.lst (I.map pairD)), some (.ptr p), o1, none]) ⟨rfl, _, rfl⟩ ?_ ?_⟩
    · rintro k ρ' C' hk ⟨rfl, o1, rfl⟩
      have hk' : k < I.length := by omega
      obtain ⟨x, hx⟩ : ∃ x, I[k]? = some x := ⟨_, List.getElem?_eq_getElem hk'⟩
      have hr := rows_get I k
      rw [hx] at hr
      rw [take_snoc hr]
      have hlt : ((rowsF I).take k).length = k := by rw [List.length_take]; omega
      clear hr
      generalize (rowsF I).take k = v at hlt
      rw [Int.zero_add]
      walk_at "dd"
      simp only [pairD]
      walk_at "dd"
      exact ⟨by omega, by rw [List.map_append]; rfl, _, rfl⟩
    · rintro ρ' C' ⟨rfl, o1, rfl⟩
      rw [show ((I.length : Int)).toNat = I.length by omega, List.take_of_length_le (by omega)]
      subst hE
      walk_at "dd"
      unfold dSortD
      simp only [itsOf_ptr, seqOf_ptr, cput_same]
      refine ⟨sorts_tri _, trivial, ?_⟩
      rw [sort_tri]
      refine lc_map (fun t : Tr => some (numD t)) (fun _ _ => trivial) (by unfold ordT at *; rw [List.length_mergeSort]; omega) (fun j t C' Q hj hs hQ => ?_) ?_
      · simp only [triD]
        clear hj
        walk_at "dd"
        exact hQ
      have f1 : ((rowsF I).mergeSort leT).filterMap (fun t => some (numD t)) = (ordT I).map numD := congrFun (List.filterMap_eq_map (f := numD)) _
      rw [f1]
      exact ⟨C, Sub.new hp, q⟩)

def R_kept_by_ends (A : Ad) : DSp := fun ds C P => ∃ I c, ds = [ivsD I, .int (c : Nat)] ∧ I.length ≤ 1000 ∧ IvOk I ∧ P (.int (keptF c (ordT I) : Nat)) C
theorem len_kept_by_ends (A : Ad) : ∀ ds C P, R_kept_by_ends A ds C P → ds.length = 2 := by rintro _ _ _ ⟨I, c, rfl, _⟩; rfl
theorem ok_kept_by_ends (T : Txt K mg A) : FnOk P w K mg base CX0 2 A.a_kept_by_ends A.d_kept_by_ends ["intervals", "count"] (spD K (R_kept_by_ends A)) :=
  ok_D T.F_kept_by_ends sc_kept_by_ends (len_kept_by_ends A) (fun cdv Ar outer s H E hr =>
    ds_cons (ds_set 2 sc_kept_by_ends.nd (d_int))
    (ds_cons (ds_set 3 sc_kept_by_ends.nd (d_lst (d_nil)))
    (ds_consL (ds_for PassesOwn.never rfl (di_list (d_call (ok_arrivals T) (hr.mono (by decide)) T.g_arrivals T.F_arrivals.kp T.b_arrivals (d_cons (d_var 0) (d_nil)))) (dg_name 4 sc_kept_by_ends.nd)
      (ds_cons (ds_asg (d_ix ix_seq s_ix (d_var 0) (d_var 4)) (dg_tup rfl (dgs_cons (dg_name 5 sc_kept_by_ends.nd) (dgs_cons (dg_name 6 sc_kept_by_ends.nd) (dgs_nil)))))
      (ds_consL (ds_set 7 sc_kept_by_ends.nd (d_lstC (d_nil)))
      (ds_consL (ds_for PassesOwn.never rfl (di_list (d_var 3)) (dg_name 8 sc_kept_by_ends.nd)
        (ds_one (ds_if (d_tcmp op_gt s_gt (d_var 8) (d_var 5))
          (ds_one (ds_expr (d_bmL PySem.F.plainAttrs_list PySem.F.slot_list_append PySem.F.type_list_append mt_append s_append (d_var 7) (d_cons (d_var 8) (d_nil)))))
          (ds_one (ds_set 2 sc_kept_by_ends.nd (d_op op_add s_add (d_var 2) (d_int)))))))
      (ds_consL (ds_set 3 sc_kept_by_ends.nd (d_callB cr_sortedI s_sortI (by rfl) T.z_sorted (by decide +kernel) (d_cons (d_op op_catS s_cat (d_var 7) (d_lst (d_cons (d_var 6) (d_nil)))) (d_nil))))
      (ds_one (ds_if (d_tcmp op_gt s_gt (d_callB call_len s_len (by rfl) T.z_len (by decide +kernel) (d_cons (d_var 3) (d_nil))) (d_var 1))
        (ds_one (ds_set 3 sc_kept_by_ends.nd (d_sl (d_var 3) (do_none) (do_some (d_var 1)))))
        (ds_nil))))))))
    (ds_one (ds_ret (d_op op_add s_add (d_var 2) (d_callB call_len s_len (by rfl) T.z_len (by decide +kernel) (d_cons (d_var 3) (d_nil))))))))) (fun ds C Pk h => by
    obtain ⟨I, c, rfl, hl, ho, q⟩ := h
    simp only [ivsD]
    refine seq_hide fun E' hE => ?_
    walk_at "dd"
    subst hE
    dsimp only
    refine seq_hide fun E' hE => ?_
    walk_at "dd"
    subst hE
    dsimp only
    refine seq_hide fun E' hE => ?_
    walk_at "dd"
    refine ⟨I, rfl, hl, ?_⟩
    dsimp only
    have hord := ord_len I
    have hgetT : ∀ t ∈ ordT I, I[t.2]? = some t.1 := fun t ht => ord_mem.mp ht
    refine for_map (fun k ρ' C' => (∃ o1 o2 o3 o4 o5, ρ' = [some (.lst (I.map pairD)), some (.int (c : Int)), some (.int ((keptS c ((ordT I).take k)).1 : Nat)), some (.lst ((keptS c ((ordT I).take k)).2.map D.int)), o1, o2, o3, o4, o5]) ∧ (keptS c ((ordT I).take k)).2.length ≤ k ∧ Sub C C') ⟨⟨_, _, _, _, _, rfl⟩, Nat.le_refl _, Sub.refl _⟩ ?_ ?_
    · rintro k t ρ' C' hk ⟨⟨o1, o2, o3, o4, o5, rfl⟩, hNk, hsub⟩
      have hkl := (List.getElem?_eq_some_iff.mp hk).1
      have hIt := hgetT t (List.mem_of_getElem? hk)
      have hN := kept_len c ((ordT I).take k)
      rw [take_snoc hk, kept_snoc]
      clear hk hgetT
      generalize keptS c ((ordT I).take k) = s at hN hNk
      obtain ⟨kp, N⟩ := s
      obtain ⟨⟨b, e⟩, n⟩ := t
      dsimp only at hN hNk hIt
      simp only [numD]
      refine seq_hide fun E2 hE2 => ?_
      walk_at "dd"
      simp only [pairD]
      try walk_at "dd"
      subst hE2
      dsimp only [List.set_cons_succ, List.set_cons_zero]
      refine seq_hide fun E2 hE2 => ?_
      walk_at "dd"
      intro p hp
      subst hE2
      dsimp only [List.set_cons_succ, List.set_cons_zero]
      refine seq_hide fun E2 hE2 => ?_
      walk_at "dd"
      clear hIt
      refine for_map (fun j ρ' C'' => C'' = cput C' p (.lst (((N.take j).filter fun u => decide (b < u)).map D.int)) ∧ ∃ o5, ρ' = [some (.lst (I.map pairD)), some (.int (c : Int)), some (.int ((kp + ((N.take j).filter fun u => decide (u ≤ b)).length : Nat) : Int)), some (.lst (N.map D.int)), some (.int (n : Int)), some (.int b), some (.int e), some (.ptr p), o5]) ⟨rfl, _, rfl⟩ ?_ ?_
      · rintro j u ρ' C'' hj ⟨rfl, o5, rfl⟩
        have hjl := (List.getElem?_eq_some_iff.mp hj).1
        have hfl := List.length_filter_le (fun u => decide (b < u)) (N.take j)
        rw [List.length_take] at hfl
        rw [take_snoc hj, List.filter_append, List.filter_append]
        clear hj
        generalize hfa : (N.take j).filter (fun u => decide (b < u)) = fa at hfl
        generalize hfb : (N.take j).filter (fun u => decide (u ≤ b)) = fb
        clear hfa hfb
        by_cases g : u > b
        · rw [List.filter_cons_of_pos (p := fun u => decide (b < u)) (by simpa using g), List.filter_cons_of_neg (p := fun u => decide (u ≤ b)) (by simpa using g), List.filter_nil, List.filter_nil, List.append_nil]
          walk_at "dd"
          exact ⟨by omega, by rw [List.map_append]; rfl, _, rfl⟩
        · rw [List.filter_cons_of_neg (p := fun u => decide (b < u)) (by simpa using g), List.filter_cons_of_pos (p := fun u => decide (u ≤ b)) (by simpa using g), List.filter_nil, List.filter_nil, List.append_nil]
          rw [show ((kp + (fb ++ [u]).length : Nat) : Int) = ((kp + fb.length : Nat) : Int) + 1 by rw [List.length_append, List.length_singleton]; omega]
          walk_at "dd"
          exact ⟨_, rfl⟩
      rintro ρ' C'' ⟨rfl, o5, rfl⟩
      rw [List.take_length]
      have hS : Sub C (cput C' p (.lst ((N.filter fun u => decide (b < u)).map D.int))) := hsub.trans (Sub.new hp)
      have hc1 : cput C' p (.lst ((N.filter fun u => decide (b < u)).map D.int)) p = some (.lst ((N.filter fun u => decide (b < u)).map D.int)) := cput_same
      generalize cput C' p (.lst ((N.filter fun u => decide (b < u)).map D.int)) = C2 at hS hc1
      have hfl := List.length_filter_le (fun u => decide (b < u)) N
      have e1 : keptStep c (kp, N) ((b, e), n) = (kp + (N.filter fun u => decide (u ≤ b)).length, (sortI ((N.filter fun u => decide (b < u)) ++ [e])).take c) := rfl
      have hsl : (sortI ((N.filter fun u => decide (b < u)) ++ [e])).length = (N.filter fun u => decide (b < u)).length + 1 := by rw [(sortI_perm _).length_eq]; simp
      generalize N.filter (fun u => decide (b < u)) = st at *
      generalize (N.filter fun u => decide (u ≤ b)).length = xp at *
      subst hE2
      dsimp only
      rw [e1]
      clear e1
      refine seq_hide fun E2 hE2 => ?_
      walk_at "dd"
      refine ⟨by omega, st ++ [e], by show seqOf _ _ = _; rw [List.map_append]; rfl, ?_⟩
      subst hE2
      dsimp only [List.set_cons_succ, List.set_cons_zero]
      generalize sortI (st ++ [e]) = S at hsl ⊢
      have hSk : S.length ≤ k + 1 := by omega
      clear hsl
      by_cases g : S.length > c
      · have g' : (S.length : Int) > (c : Int) := by omega
        walk_at "dd"
        rw [cut_to, ← List.map_take]
        exact ⟨⟨_, _, _, _, _, rfl⟩, by rw [List.length_take]; omega⟩
      · have g' : ¬ (S.length : Int) > (c : Int) := by omega
        rw [List.take_of_length_le (by omega)]
        walk_at "dd"
        exact ⟨_, _, _, _, _, rfl⟩
    · rintro ρ' C' ⟨⟨o1, o2, o3, o4, o5, rfl⟩, hNk, hsub⟩
      rw [List.take_length]
      unfold keptF at q
      subst hE
      walk_at "dd"
      rw [Int.natCast_add] at q
      exact ⟨C, hsub, q⟩)

def R_most_kept (A : Ad) : DSp := fun ds C P => ∃ I c, ds = [ivsD I, .int (c : Nat)] ∧ I.length ≤ 1000 ∧ IvOk I ∧ P (.int (keptF c (ordT I) : Nat)) C
theorem len_most_kept (A : Ad) : ∀ ds C P, R_most_kept A ds C P → ds.length = 2 := by rintro _ _ _ ⟨I, c, rfl, _⟩; rfl
theorem ok_most_kept (T : Txt K mg A) : FnOk P w K mg base CX0 3 A.a_most_kept A.d_most_kept ["intervals", "count"] (spD K (R_most_kept A)) :=
  ok_D T.F_most_kept sc_most_kept (len_most_kept A) (fun cdv Ar outer s H E hr =>
    ds_consL (ds_expr (d_callX takes0 (ok_check_intervals T) (hr.mono (by decide)) T.g_check_intervals T.F_check_intervals.kp T.b_check_intervals (d_cons (d_var 0) (d_nil))))
    (ds_one (ds_ret (d_call (ok_kept_by_ends T) (hr.mono (by decide)) T.g_kept_by_ends T.F_kept_by_ends.kp T.b_kept_by_ends (d_cons (d_var 0) (d_cons (d_var 1) (d_nil))))))) (fun ds C Pk h => by
    obtain ⟨I, c, rfl, hl, ho, q⟩ := h
    have hbad := bad_ok ho
    refine seq_hide fun E' hE => ?_
    simp only [ivsD]
    walk_at "dd"
    refine ⟨I, rfl, by omega, fun z => ?_, fun _ => ?_⟩
    · rw [hbad] at z; cases z
    subst hE
    dsimp only
    walk_at "dd"
    exact ⟨I, c, rfl, hl, ho, _, Sub.refl _, q⟩)

def R_limited (A : Ad) : DSp := fun ds C P => ∃ I c, ds = [ivsD I, .int (c : Nat)] ∧ I.length ≤ 1000 ∧ IvOk I ∧ c ≤ 1000 ∧ P (.lst ((limF c I.length (ordT I)).2.map optNatD)) C
theorem len_limited (A : Ad) : ∀ ds C P, R_limited A ds C P → ds.length = 2 := by rintro _ _ _ ⟨I, c, rfl, _⟩; rfl
theorem ok_limited (T : Txt K mg A) : FnOk P w K mg base CX0 2 A.a_limited A.d_limited ["intervals", "count"] (spD K (R_limited A)) :=
  ok_D T.F_limited sc_limited (len_limited A) (fun cdv Ar outer s H E hr =>
    ds_consL (ds_expr (d_callX takes0 (ok_check_intervals T) (hr.mono (by decide)) T.g_check_intervals T.F_check_intervals.kp T.b_check_intervals (d_cons (d_var 0) (d_nil))))
    (ds_consL (ds_set 2 sc_limited.nd (d_repC (d_cons (d_non) (d_nil)) (d_callB call_len s_len (by rfl) T.z_len (by decide +kernel) (d_cons (d_var 0) (d_nil)))))
    (ds_consL (ds_set 3 sc_limited.nd (d_repC (d_cons (d_non) (d_nil)) (d_var 1)))
    (ds_consL (ds_for PassesOwn.never rfl (di_list (d_call (ok_arrivals T) (hr.mono (by decide)) T.g_arrivals T.F_arrivals.kp T.b_arrivals (d_cons (d_var 0) (d_nil)))) (dg_name 4 sc_limited.nd)
      (ds_cons (ds_asg (d_ix ix_seq s_ix (d_var 0) (d_var 4)) (dg_tup rfl (dgs_cons (dg_name 5 sc_limited.nd) (dgs_cons (dg_name 6 sc_limited.nd) (dgs_nil)))))
      (ds_one (ds_for PassesOwn.never rfl (di_rng1 (by rfl) T.z_range (d_cons (d_var 1) (d_nil))) (dg_name 7 sc_limited.nd)
        (ds_one (ds_if ((d_and (d_tcmp op_isN s_isN (d_ix ix_seq s_ix (d_var 2) (d_var 4)) (d_non)) (d_and1 ((d_or (d_tcmp op_isN s_isN (d_ix ix_seq s_ix (d_var 3) (d_var 7)) (d_non)) (d_or1 (d_tcmp op_le s_le (d_ix ix_seq s_ix (d_var 3) (d_var 7)) (d_var 5)))).pt))).pt)
          (ds_cons (ds_setL (d_var 2) (d_var 4) (d_var 7))
          (ds_one (ds_setL (d_var 3) (d_var 7) (d_var 6))))
          (ds_nil)))))))
    (ds_one (ds_retF (d_var 2))))))) (fun ds C Pk h => by
    obtain ⟨I, c, rfl, hl, ho, hc, q⟩ := h
    have hbad := bad_ok ho
    refine seq_hide fun E' hE => ?_
    simp only [ivsD]
    walk_at "dd"
    refine ⟨I, rfl, by omega, fun z => ?_, fun _ => ?_⟩
    · rw [hbad] at z; cases z
    subst hE
    dsimp only
    refine seq_hide fun E' hE => ?_
    walk_at "dd"
    refine ⟨⟨by omega, by omega, by omega⟩, fun p1 hp1 => ?_⟩
    rw [show (List.replicate ((I.length : Int)).toNat [D.non]).flatten = (List.replicate I.length (none : Option Nat)).map optNatD by rw [show ((I.length : Int)).toNat = I.length by omega, flat_rep1, List.map_replicate]; rfl]
    have n0 : ∀ c, cput C p1 c p1 = some c := fun c => cput_same
    subst hE
    dsimp only
    refine seq_hide fun E' hE => ?_
    walk_at "dd"
    refine ⟨⟨by omega, by omega, by omega⟩, fun p2 hp2 => ?_⟩
    rw [show (List.replicate ((c : Int)).toNat [D.non]).flatten = (List.replicate c (none : Option Int)).map optIntD by rw [show ((c : Int)).toNat = c by omega, flat_rep1, List.map_replicate]; rfl]
    have n1 : p1 ≠ p2 := cell_ne (n0 _) hp2
    subst hE
    dsimp only [List.set_cons_succ, List.set_cons_zero]
    refine seq_hide fun E' hE => ?_
    walk_at "dd"
    refine ⟨I, rfl, hl, ?_⟩
    dsimp only
    have hk1 : ∀ c d, cput (cput C p1 c) p2 d p1 = some c := fun c d => by rw [cput_ne n1, cput_same]
    have hcc : ∀ c d e, cput (cput (cput C p1 c) p2 d) p1 e = cput (cput C p1 e) p2 d := fun c d e => by rw [cput_comm n1.symm, cput_cput]
    refine for_map (fun k ρ' C' => C' = cput (cput C p1 (.lst ((limF c I.length ((ordT I).take k)).2.map optNatD))) p2 (.lst ((limF c I.length ((ordT I).take k)).1.map optIntD)) ∧ ∃ o1 o2 o3 o4, ρ' = [some (.lst (I.map pairD)), some (.int (c : Int)), some (.ptr p1), some (.ptr p2), o1, o2, o3, o4]) ⟨rfl, _, _, _, _, rfl⟩ ?_ ?_
    · rintro k t ρ' C' hk ⟨rfl, o1, o2, o3, o4, rfl⟩
      have hIt : I[t.2]? = some t.1 := ord_mem.mp (List.mem_of_getElem? hk)
      obtain ⟨hok, htl, ht1, ht2, ht3⟩ := lim_take ho c hk
      rw [take_snoc hk, lim_snoc]
      have hL0 := hok.out t.2 htl ht3
      have hU := hok.lu
      have hLl := hok.ll
      clear hk hok ht2 ht3
      generalize limF c I.length ((ordT I).take k) = s at hL0 hU hLl
      obtain ⟨U, L⟩ := s
      obtain ⟨⟨b, e⟩, n⟩ := t
      dsimp only at hIt htl hL0 hU hLl
      simp only [numD]
      have hixn : ixN I.length (n : Int) = some n := ixN_nat (by omega)
      refine seq_hide fun E2 hE2 => ?_
      walk_at "dd"
      simp only [pairD]
      try walk_at "dd"
      subst hE2
      dsimp only [List.set_cons_succ, List.set_cons_zero]
      walk_at "dd"
      clear hIt
      refine ⟨by omega, for_rng (fun j ρ' C' => (((∀ (i : Nat) (o : Option Int), i < j → U[i]? = some o → freeF b o = false) ∧ C' = cput (cput C p1 (.lst (L.map optNatD))) p2 (.lst (U.map optIntD))) ∨ (∃ p, p < j ∧ U.findIdx? (freeF b) = some p ∧ C' = cput (cput C p1 (.lst ((L.set n (some p)).map optNatD))) p2 (.lst ((U.set p (some e)).map optIntD)))) ∧ ∃ o4, ρ' = [some (.lst (I.map pairD)), some (.int (c : Int)), some (.ptr p1), some (.ptr p2), some (.int (n : Int)), some (.int b), some (.int e), o4]) ⟨.inl ⟨fun i o hi => absurd hi (Nat.not_lt_zero _), rfl⟩, _, rfl⟩ ?_ ?_⟩
      · rintro j ρ' C' hj ⟨hcase, o4, rfl⟩
        have hj' : j < c := by omega
        rw [Int.zero_add]
        obtain ⟨o, ho2⟩ : ∃ o, U[j]? = some o := ⟨_, List.getElem?_eq_getElem (by omega)⟩
        have hixu : ixN c (j : Int) = some j := ixN_nat (by omega)
        rcases hcase with ⟨hno, rfl⟩ | ⟨p, hpj, hf, rfl⟩
        · have hnn : optNatD none = .non := rfl
          cases o with
          | none =>
            have hf : U.findIdx? (freeF b) = some j := find_mk ho2 rfl fun i y hi hy => hno i y hi hy
            have hni : optIntD none = .non := rfl
            clear hno
            walk_at "dd"
            exact ⟨.inr ⟨j, by omega, rfl, by rw [List.map_set, List.map_set]; rfl⟩, _, rfl⟩
          | some u =>
            have hni : optIntD (some u) = .int u := rfl
            by_cases g : u ≤ b
            · have hf : U.findIdx? (freeF b) = some j := find_mk ho2 (by unfold freeF; simpa using g) fun i y hi hy => hno i y hi hy
              clear hno
              walk_at "dd"
              exact ⟨.inr ⟨j, by omega, rfl, by rw [List.map_set, List.map_set]; rfl⟩, _, rfl⟩
            · have hno2 : ∀ (i : Nat) (o : Option Int), i < j + 1 → U[i]? = some o → freeF b o = false := fun i y hi hy => by
                by_cases z : i = j
                · subst z
                  rw [ho2] at hy
                  injection hy with hy
                  subst hy
                  unfold freeF
                  simpa using g
                · exact hno i y (by omega) hy
              clear hno
              walk_at "dd"
              exact ⟨.inl hno2, _, rfl⟩
        · have hLs : (L.set n (some p))[n]? = some (some p) := List.getElem?_set_self (by omega)
          have hnn : optNatD (some p) = .int (p : Int) := rfl
          walk_at "dd"
          exact ⟨.inr ⟨p, by omega, rfl, rfl⟩, _, rfl⟩
      · rintro ρ' C' ⟨hcase, o4, rfl⟩
        have e1 : ∀ o, U.findIdx? (freeF b) = o → limStep (U, L) ((b, e), n) = match o with
            | none => (U, L)
            | some p => (U.set p (some e), L.set n (some p)) := fun o ho => by rw [← ho]; rfl
        rcases hcase with ⟨hno, rfl⟩ | ⟨p, hpj, hf, rfl⟩
        · have hf : U.findIdx? (freeF b) = none := by
            rw [List.findIdx?_eq_none_iff]
            intro y hy
            obtain ⟨i, hi⟩ := List.mem_iff_getElem?.mp hy
            exact hno i y (by have := (List.getElem?_eq_some_iff.mp hi).1; omega) hi
          rw [e1 _ hf]
          exact ⟨rfl, _, _, _, _, rfl⟩
        · rw [e1 _ hf]
          exact ⟨rfl, _, _, _, _, rfl⟩
    · rintro ρ' C' ⟨rfl, o1, o2, o3, o4, rfl⟩
      rw [show (ordT I).length = (ordT I).length from rfl, List.take_length]
      subst hE
      walk_at "dd"
      have hp2' : C p2 = none := by rw [cput_ne n1.symm] at hp2; exact hp2
      refine ⟨cput C p2 (.lst ((limF c I.length (ordT I)).1.map optIntD)), ?_, by rw [cput_ne n1]; exact hp1, C, Sub.new hp2', q⟩
      rw [cput_comm n1]
      exact Sub.new (by rw [cput_ne n1]; exact hp1))

def R_overflowing (A : Ad) : DSp := fun ds C P => ∃ I a b, ds = [ivsD I, .int (a : Nat), .int (b : Nat)] ∧ I.length ≤ 1000 ∧ IvOk I ∧ a ≤ 1000 ∧ b ≤ 1000 ∧ P (overD a b I) C
theorem len_overflowing (A : Ad) : ∀ ds C P, R_overflowing A ds C P → ds.length = 3 := by rintro _ _ _ ⟨I, c, b, rfl, _⟩; rfl
theorem ok_overflowing (T : Txt K mg A) : FnOk P w K mg base CX0 3 A.a_overflowing A.d_overflowing ["intervals", "first", "second"] (spD K (R_overflowing A)) :=
  ok_D T.F_overflowing sc_overflowing (len_overflowing A) (fun cdv Ar outer s H E hr =>
    ds_consL (ds_set 3 sc_overflowing.nd (d_call (ok_limited T) (hr.mono (by decide)) T.g_limited T.F_limited.kp T.b_limited (d_cons (d_var 0) (d_cons (d_var 1) (d_nil)))))
    (ds_consL (ds_setLc 4 rfl sc_overflowing.nd rfl rfl (sw_true rfl rfl rfl (by decide +kernel)) (di_rng1 (by rfl) T.z_range (d_cons (d_callB call_len s_len (by rfl) T.z_len (by decide +kernel) (d_cons (d_var 0) (d_nil))) (d_nil))) (blkOk_by (own := [("number", 8)]) (N := ["intervals", "first", "second", "main", "rest", "late", "over", "place", "number"]) (sc := defScope s_overflowing) (by decide +kernel)) (by decide) (fun _ _ _ _ _ => dg_name 8 sc_overflowing.nd) (fun _ _ _ _ _ => dts_one (d_tcmp op_isN s_isN (d_ix ix_seq s_ix (d_var 3) (d_var 8)) (d_non))) (fun _ _ _ _ _ => d_var 8))
    (ds_consL (ds_set 5 sc_overflowing.nd (d_call (ok_limited T) (hr.mono (by decide)) T.g_limited T.F_limited.kp T.b_limited (d_cons (d_lc rfl sc_overflowing.nd (di_list (d_var 4)) (blkOk_by (own := [("number", 8)]) (N := ["intervals", "first", "second", "main", "rest", "late", "over", "place", "number"]) (sc := defScope s_overflowing) (by decide +kernel)) (by decide) (fun _ _ _ _ _ => dg_name 8 sc_overflowing.nd) (fun _ _ _ _ _ => dts_nil) (fun _ _ _ _ _ => d_ix ix_seq s_ix (d_var 0) (d_var 8))) (d_cons (d_var 2) (d_nil)))))
    (ds_consL (ds_set 6 sc_overflowing.nd (d_repC (d_cons (d_non) (d_nil)) (d_callB call_len s_len (by rfl) T.z_len (by decide +kernel) (d_cons (d_var 0) (d_nil)))))
    (ds_consL (ds_for PassesOwn.never rfl (di_rng1 (by rfl) T.z_range (d_cons (d_callB call_len s_len (by rfl) T.z_len (by decide +kernel) (d_cons (d_var 4) (d_nil))) (d_nil))) (dg_name 7 sc_overflowing.nd)
      (ds_one (ds_setL (d_var 6) (d_ix ix_seq s_ix (d_var 4) (d_var 7)) (d_ix ix_seq s_ix (d_var 5) (d_var 7)))))
    (ds_frz (ds_one (ds_ret (d_tup (d_cons (d_var 3) (d_cons (d_var 6) (d_nil)))))) 6)))))) (fun ds C Pk h => by
    obtain ⟨I, a, b, rfl, hl, ho, ha, hb, q⟩ := h
    simp only [ivsD]
    refine seq_hide fun E' hE => ?_
    walk_at "dd"
    refine ⟨I, a, rfl, hl, ho, ha, ?_⟩
    have hLl := (lim_ok a I.length (ordT I) (ord_ok ho)).ll
    unfold overD at q
    generalize (limF a I.length (ordT I)).2 = L at hLl q
    subst hE
    dsimp only [List.set_cons_succ, List.set_cons_zero]
    refine seq_hide fun E' hE => ?_
    walk_at "dd"
    refine ⟨⟨by omega, by omega⟩, lc_rng (fun z => if L[z.toNat]? = some none then some (.int z) else none) (by omega) (fun j C1 Q hj hs hQ => ?_) ?_⟩
    · rw [Int.zero_add] at hQ ⊢
      rw [Int.toNat_natCast] at hQ
      obtain ⟨o, ho2⟩ : ∃ o, L[j]? = some o := ⟨_, List.getElem?_eq_getElem (by omega)⟩
      rw [ho2] at hQ
      clear hj hs
      cases o with
      | none =>
        have hnn : optNatD none = .non := rfl
        rw [if_pos rfl] at hQ
        walk_at "dd"
      | some p =>
        have hnn : optNatD (some p) = .int (p : Int) := rfl
        rw [if_neg (by simp)] at hQ
        walk_at "dd"
    have f1 : (List.range ((I.length : Int)).toNat).filterMap (fun k : Nat => if L[(0 + (k : Int)).toNat]? = some none then some (D.int (0 + (k : Int))) else none) = (restF L).map natD := by
      rw [show ((I.length : Int)).toNat = L.length by omega]
      unfold restF
      rw [← filterMap_if (fun k : Nat => L[k]? = some none) natD]
      congr 1
      funext k
      rw [Int.zero_add, Int.toNat_natCast]
      rfl
    rw [f1]
    clear f1
    have hRl := rest_len L
    have hRlt : ∀ k ∈ restF L, k < I.length := fun k hk => by have := rest_lt hk; omega
    generalize restF L = R at hRl hRlt q
    subst hE
    dsimp only
    refine seq_hide fun E' hE => ?_
    walk_at "dd"
    refine lc_map (enc := natD) (L := R) (fun k : Nat => (I[k]?).map pairD) (fun _ _ => trivial) (by omega) (fun j k C1 Q hj hs hQ => ?_) ?_
    · have hkl := hRlt k (List.mem_of_getElem? hj)
      obtain ⟨x, hx⟩ : ∃ x, I[k]? = some x := ⟨_, List.getElem?_eq_getElem hkl⟩
      rw [hx] at hQ
      clear hj hs hRlt q
      simp only [natD]
      walk_at "dd"
      exact hQ
    have hJl := get_all I R hRlt
    have hJg : IvOk (R.filterMap fun k => I[k]?) := fun e he => by
      obtain ⟨k, _, hk⟩ := List.mem_filterMap.mp he
      exact ho e (List.mem_of_getElem? hk)
    have f2 : R.filterMap (fun k => (I[k]?).map pairD) = (R.filterMap fun k => I[k]?).map pairD := by rw [List.map_filterMap]
    rw [f2]
    clear f2
    generalize R.filterMap (fun k => I[k]?) = J at hJl hJg q
    refine ⟨J, b, rfl, by omega, hJg, hb, ?_⟩
    have hMl := (lim_ok b J.length (ordT J) (ord_ok hJg)).ll
    generalize (limF b J.length (ordT J)).2 = M at hMl q
    subst hE
    dsimp only [List.set_cons_succ, List.set_cons_zero]
    refine seq_hide fun E' hE => ?_
    walk_at "dd"
    refine ⟨⟨by omega, by omega, by omega⟩, fun p hp => ?_⟩
    rw [show (List.replicate ((I.length : Int)).toNat [D.non]).flatten = (List.replicate I.length (none : Option Nat)).map optNatD by rw [show ((I.length : Int)).toNat = I.length by omega, flat_rep1, List.map_replicate]; rfl]
    subst hE
    dsimp only [List.set_cons_succ, List.set_cons_zero]
    refine seq_hide fun E' hE => ?_
    walk_at "dd"
    unfold overF at q
    have hzl : (R.zip M).length = R.length := by rw [List.length_zip]; omega
    refine ⟨⟨by omega, by omega⟩, for_rng (fun k ρ' C' => C' = cput C p (.lst ((((R.zip M).take k).foldl (fun o q => o.set q.1 q.2) (List.replicate I.length none)).map optNatD)) ∧ ∃ o7 o8, ρ' = [some (.lst (I.map pairD)), some (.int (a : Int)), some (.int (b : Int)), some (.lst (L.map optNatD)), some (.lst (R.map natD)), some (.lst (M.map optNatD)), some (.ptr p), o7, o8]) ⟨rfl, _, _, rfl⟩ ?_ ?_⟩
    · rintro k ρ' C' hk ⟨rfl, o7, o8, rfl⟩
      rw [Int.zero_add]
      obtain ⟨r, hr⟩ : ∃ r, R[k]? = some r := ⟨_, List.getElem?_eq_getElem (by omega)⟩
      obtain ⟨o, ho2⟩ : ∃ o, M[k]? = some o := ⟨_, List.getElem?_eq_getElem (by omega)⟩
      have hz : (R.zip M)[k]? = some (r, o) := by rw [List.getElem?_zip_eq_some]; exact ⟨hr, ho2⟩
      have hsl := over_len I.length ((R.zip M).take k)
      have hrl := hRlt r (List.mem_of_getElem? hr)
      rw [take_snoc hz, List.foldl_append]
      simp only [List.foldl_cons, List.foldl_nil]
      clear hz hRlt q
      generalize ((R.zip M).take k).foldl (fun o q => o.set q.1 q.2) (List.replicate I.length none) = S at hsl
      have hix : ixN I.length (r : Int) = some r := ixN_nat (by omega)
      have hnr : natD r = .int (r : Int) := rfl
      walk_at "dd"
      exact ⟨by rw [List.map_set], _, _, rfl⟩
    · rintro ρ' C' ⟨rfl, o7, o8, rfl⟩
      rw [show ((R.length : Int)).toNat = (R.zip M).length by omega, List.take_length]
      subst hE
      walk_at "dd"
      exact ⟨C, Sub.new hp, hp, C, Sub.refl _, q⟩)

def R_law_over (A : Ad) : DSp := fun ds C P => ∃ I a b, ds = [ivsD I, .int (a : Nat), .int (b : Nat)] ∧ I.length ≤ 1000 ∧ IvOk I ∧ a ≤ 1000 ∧ b ≤ 1000 ∧ P (overD a b I) C
theorem len_law_over (A : Ad) : ∀ ds C P, R_law_over A ds C P → ds.length = 3 := by rintro _ _ _ ⟨I, c, b, rfl, _⟩; rfl
theorem ok_law_over (T : Txt K mg A) : FnOk P w K mg base CX0 3 A.a_law_over A.d_law_over ["intervals", "first", "second"] (spD K (R_law_over A)) :=
  ok_D T.F_law_over sc_law_over (len_law_over A) (fun cdv Ar outer s H E hr =>
    ds_consL (ds_set 3 sc_law_over.nd (d_call (ok_limited T) (hr.mono (by decide)) T.g_limited T.F_limited.kp T.b_limited (d_cons (d_var 0) (d_cons (d_var 1) (d_nil)))))
    (ds_consL (ds_setLc 4 rfl sc_law_over.nd rfl rfl (sw_true rfl rfl rfl (by decide +kernel)) (di_rng1 (by rfl) T.z_range (d_cons (d_callB call_len s_len (by rfl) T.z_len (by decide +kernel) (d_cons (d_var 0) (d_nil))) (d_nil))) (blkOk_by (own := [("number", 8)]) (N := ["intervals", "first", "second", "main", "rest", "late", "over", "place", "number"]) (sc := defScope s_law_over) (by decide +kernel)) (by decide) (fun _ _ _ _ _ => dg_name 8 sc_law_over.nd) (fun _ _ _ _ _ => dts_one (d_tcmp op_isN s_isN (d_ix ix_seq s_ix (d_var 3) (d_var 8)) (d_non))) (fun _ _ _ _ _ => d_var 8))
    (ds_consL (ds_set 5 sc_law_over.nd (d_call (ok_limited T) (hr.mono (by decide)) T.g_limited T.F_limited.kp T.b_limited (d_cons (d_lc rfl sc_law_over.nd (di_list (d_var 4)) (blkOk_by (own := [("number", 8)]) (N := ["intervals", "first", "second", "main", "rest", "late", "over", "place", "number"]) (sc := defScope s_law_over) (by decide +kernel)) (by decide) (fun _ _ _ _ _ => dg_name 8 sc_law_over.nd) (fun _ _ _ _ _ => dts_nil) (fun _ _ _ _ _ => d_ix ix_seq s_ix (d_var 0) (d_var 8))) (d_cons (d_var 2) (d_nil)))))
    (ds_consL (ds_set 6 sc_law_over.nd (d_repC (d_cons (d_non) (d_nil)) (d_callB call_len s_len (by rfl) T.z_len (by decide +kernel) (d_cons (d_var 0) (d_nil)))))
    (ds_consL (ds_for PassesOwn.never rfl (di_rng1 (by rfl) T.z_range (d_cons (d_callB call_len s_len (by rfl) T.z_len (by decide +kernel) (d_cons (d_var 4) (d_nil))) (d_nil))) (dg_name 7 sc_law_over.nd)
      (ds_one (ds_setL (d_var 6) (d_ix ix_seq s_ix (d_var 4) (d_var 7)) (d_ix ix_seq s_ix (d_var 5) (d_var 7)))))
    (ds_frz (ds_one (ds_ret (d_tup (d_cons (d_var 3) (d_cons (d_var 6) (d_nil)))))) 6)))))) (fun ds C Pk h => by
    obtain ⟨I, a, b, rfl, hl, ho, ha, hb, q⟩ := h
    simp only [ivsD]
    refine seq_hide fun E' hE => ?_
    walk_at "dd"
    refine ⟨I, a, rfl, hl, ho, ha, ?_⟩
    have hLl := (lim_ok a I.length (ordT I) (ord_ok ho)).ll
    unfold overD at q
    generalize (limF a I.length (ordT I)).2 = L at hLl q
    subst hE
    dsimp only [List.set_cons_succ, List.set_cons_zero]
    refine seq_hide fun E' hE => ?_
    walk_at "dd"
    refine ⟨⟨by omega, by omega⟩, lc_rng (fun z => if L[z.toNat]? = some none then some (.int z) else none) (by omega) (fun j C1 Q hj hs hQ => ?_) ?_⟩
    · rw [Int.zero_add] at hQ ⊢
      rw [Int.toNat_natCast] at hQ
      obtain ⟨o, ho2⟩ : ∃ o, L[j]? = some o := ⟨_, List.getElem?_eq_getElem (by omega)⟩
      rw [ho2] at hQ
      clear hj hs
      cases o with
      | none =>
        have hnn : optNatD none = .non := rfl
        rw [if_pos rfl] at hQ
        walk_at "dd"
      | some p =>
        have hnn : optNatD (some p) = .int (p : Int) := rfl
        rw [if_neg (by simp)] at hQ
        walk_at "dd"
    have f1 : (List.range ((I.length : Int)).toNat).filterMap (fun k : Nat => if L[(0 + (k : Int)).toNat]? = some none then some (D.int (0 + (k : Int))) else none) = (restF L).map natD := by
      rw [show ((I.length : Int)).toNat = L.length by omega]
      unfold restF
      rw [← filterMap_if (fun k : Nat => L[k]? = some none) natD]
      congr 1
      funext k
      rw [Int.zero_add, Int.toNat_natCast]
      rfl
    rw [f1]
    clear f1
    have hRl := rest_len L
    have hRlt : ∀ k ∈ restF L, k < I.length := fun k hk => by have := rest_lt hk; omega
    generalize restF L = R at hRl hRlt q
    subst hE
    dsimp only
    refine seq_hide fun E' hE => ?_
    walk_at "dd"
    refine lc_map (enc := natD) (L := R) (fun k : Nat => (I[k]?).map pairD) (fun _ _ => trivial) (by omega) (fun j k C1 Q hj hs hQ => ?_) ?_
    · have hkl := hRlt k (List.mem_of_getElem? hj)
      obtain ⟨x, hx⟩ : ∃ x, I[k]? = some x := ⟨_, List.getElem?_eq_getElem hkl⟩
      rw [hx] at hQ
      clear hj hs hRlt q
      simp only [natD]
      walk_at "dd"
      exact hQ
    have hJl := get_all I R hRlt
    have hJg : IvOk (R.filterMap fun k => I[k]?) := fun e he => by
      obtain ⟨k, _, hk⟩ := List.mem_filterMap.mp he
      exact ho e (List.mem_of_getElem? hk)
    have f2 : R.filterMap (fun k => (I[k]?).map pairD) = (R.filterMap fun k => I[k]?).map pairD := by rw [List.map_filterMap]
    rw [f2]
    clear f2
    generalize R.filterMap (fun k => I[k]?) = J at hJl hJg q
    refine ⟨J, b, rfl, by omega, hJg, hb, ?_⟩
    have hMl := (lim_ok b J.length (ordT J) (ord_ok hJg)).ll
    generalize (limF b J.length (ordT J)).2 = M at hMl q
    subst hE
    dsimp only [List.set_cons_succ, List.set_cons_zero]
    refine seq_hide fun E' hE => ?_
    walk_at "dd"
    refine ⟨⟨by omega, by omega, by omega⟩, fun p hp => ?_⟩
    rw [show (List.replicate ((I.length : Int)).toNat [D.non]).flatten = (List.replicate I.length (none : Option Nat)).map optNatD by rw [show ((I.length : Int)).toNat = I.length by omega, flat_rep1, List.map_replicate]; rfl]
    subst hE
    dsimp only [List.set_cons_succ, List.set_cons_zero]
    refine seq_hide fun E' hE => ?_
    walk_at "dd"
    unfold overF at q
    have hzl : (R.zip M).length = R.length := by rw [List.length_zip]; omega
    refine ⟨⟨by omega, by omega⟩, for_rng (fun k ρ' C' => C' = cput C p (.lst ((((R.zip M).take k).foldl (fun o q => o.set q.1 q.2) (List.replicate I.length none)).map optNatD)) ∧ ∃ o7 o8, ρ' = [some (.lst (I.map pairD)), some (.int (a : Int)), some (.int (b : Int)), some (.lst (L.map optNatD)), some (.lst (R.map natD)), some (.lst (M.map optNatD)), some (.ptr p), o7, o8]) ⟨rfl, _, _, rfl⟩ ?_ ?_⟩
    · rintro k ρ' C' hk ⟨rfl, o7, o8, rfl⟩
      rw [Int.zero_add]
      obtain ⟨r, hr⟩ : ∃ r, R[k]? = some r := ⟨_, List.getElem?_eq_getElem (by omega)⟩
      obtain ⟨o, ho2⟩ : ∃ o, M[k]? = some o := ⟨_, List.getElem?_eq_getElem (by omega)⟩
      have hz : (R.zip M)[k]? = some (r, o) := by rw [List.getElem?_zip_eq_some]; exact ⟨hr, ho2⟩
      have hsl := over_len I.length ((R.zip M).take k)
      have hrl := hRlt r (List.mem_of_getElem? hr)
      rw [take_snoc hz, List.foldl_append]
      simp only [List.foldl_cons, List.foldl_nil]
      clear hz hRlt q
      generalize ((R.zip M).take k).foldl (fun o q => o.set q.1 q.2) (List.replicate I.length none) = S at hsl
      have hix : ixN I.length (r : Int) = some r := ixN_nat (by omega)
      have hnr : natD r = .int (r : Int) := rfl
      walk_at "dd"
      exact ⟨by rw [List.map_set], _, _, rfl⟩
    · rintro ρ' C' ⟨rfl, o7, o8, rfl⟩
      rw [show ((R.length : Int)).toNat = (R.zip M).length by omega, List.take_length]
      subst hE
      walk_at "dd"
      exact ⟨C, Sub.new hp, hp, C, Sub.refl _, q⟩)

def R_law_fits (A : Ad) : DSp := fun ds C P => ∃ I c, ds = [ivsD I, .int (c : Nat)] ∧ I.length ≤ 1000 ∧ P (.bl (fitsB I c)) C
theorem len_law_fits (A : Ad) : ∀ ds C P, R_law_fits A ds C P → ds.length = 2 := by rintro _ _ _ ⟨I, c, rfl, _⟩; rfl
theorem ok_law_fits (T : Txt K mg A) : FnOk P w K mg base CX0 1 A.a_law_fits A.d_law_fits ["chosen", "count"] (spD K (R_law_fits A)) :=
  ok_D T.F_law_fits sc_law_fits (len_law_fits A) (fun cdv Ar outer s H E hr =>
    ds_consL (ds_for PassesOwn.never rfl (di_list (d_var 0)) (dg_tup rfl (dgs_cons (dg_name 2 sc_law_fits.nd) (dgs_cons (dg_name 3 sc_law_fits.nd) (dgs_nil))))
      (ds_one (ds_if (d_tcmp op_gt s_gt (d_callB call_len s_len (by rfl) T.z_len (by decide +kernel) (d_cons (d_lc rfl sc_law_fits.nd (di_list (d_var 0)) (blkOk_by (own := [("one", 4), ("other", 5)]) (N := ["chosen", "count", "begin", "spare", "one", "other"]) (sc := defScope s_law_fits) (by decide +kernel)) (by decide) (fun _ _ _ _ _ => dg_tup rfl (dgs_cons (dg_name 4 sc_law_fits.nd) (dgs_cons (dg_name 5 sc_law_fits.nd) (dgs_nil)))) (fun _ _ _ _ _ => dts_one (d_chainT op_le s_le op_lt s_lt (d_var 4) (d_var 2) (d_var 5))) (fun _ _ _ _ _ => d_int)) (d_nil))) (d_var 1))
        (ds_one (ds_ret (d_bl)))
        (ds_nil))))
    (ds_one (ds_ret (d_bl)))) (fun ds C Pk h => by
    obtain ⟨I, c, rfl, hl, q⟩ := h
    simp only [ivsD]
    refine seq_hide fun E' hE => ?_
    walk_at "dd"
    refine for_map (fun k ρ' C' => C' = C ∧ (∀ e ∈ I.take k, loadF I e.1 ≤ (c : Int)) ∧ ∃ o1 o2 o3 o4, ρ' = [some (.lst (I.map pairD)), some (.int (c : Int)), o1, o2, o3, o4]) ⟨rfl, fun e he => absurd he (by simp), _, _, _, _, rfl⟩ ?_ ?_
    · rintro k x ρ' C' hk ⟨rfl, hall, o1, o2, o3, o4, rfl⟩
      have hxm := List.mem_of_getElem? hk
      rw [take_snoc hk]
      clear hk
      simp only [pairD]
      walk_at "dd"
      refine lc_map (fun e : Iv => if e.1 ≤ x.1 ∧ x.1 < e.2 then some (.int 1) else none) (fun _ _ => trivial) (by omega) (fun j e C2 Q hj hs hQ => ?_) ?_
      · clear hj hall hxm
        by_cases z1 : e.1 ≤ x.1
        · by_cases z2 : x.1 < e.2
          · rw [if_pos ⟨z1, z2⟩] at hQ
            simp only [pairD]
            walk_at "dd"
          · rw [if_neg (fun z => z2 z.2)] at hQ
            simp only [pairD]
            walk_at "dd"
        · rw [if_neg (fun z => z1 z.1)] at hQ
          simp only [pairD]
          walk_at "dd"
      rw [ones_map (fun e : Iv => e.1 ≤ x.1 ∧ x.1 < e.2) I]
      have e2 : ((List.replicate (I.filter fun e : Iv => decide (e.1 ≤ x.1 ∧ x.1 < e.2)).length (1 : Int)).length : Int) = loadF I x.1 := by rw [List.length_replicate]; rfl
      by_cases g : loadF I x.1 > (c : Int)
      · have hf : fitsB I c = false := by
          unfold fitsB
          rw [List.all_eq_false]
          exact ⟨x, hxm, by simp only [decide_eq_true_eq]; omega⟩
        rw [hf] at q
        clear hall hxm hf
        subst hE
        walk_at "dd"
        exact ⟨_, Sub.refl _, q⟩
      · have hall2 : ∀ e ∈ I.take k ++ [x], loadF I e.1 ≤ (c : Int) := fun e he => by
          rcases List.mem_append.mp he with he | he
          · exact hall e he
          · simp only [List.mem_cons, List.not_mem_nil, or_false] at he; subst he; omega
        clear hall hxm
        walk_at "dd"
        exact ⟨hall2, _, _, _, _, rfl⟩
    · rintro ρ' C' ⟨rfl, hall, o1, o2, o3, o4, rfl⟩
      rw [List.take_length] at hall
      have hf : fitsB I c = true := by
        unfold fitsB
        rw [List.all_eq_true]
        exact fun e he => by simpa using hall e he
      rw [hf] at q
      clear hall
      subst hE
      walk_at "dd"
      exact ⟨_, Sub.refl _, q⟩)

def R_law_most (A : Ad) : DSp := fun ds C P => ∃ I c, ds = [ivsD I, .int (c : Nat)] ∧ I.length ≤ 9 ∧ IvOk I ∧ P (.int (keptF c (ordT I) : Nat)) C
theorem len_law_most (A : Ad) : ∀ ds C P, R_law_most A ds C P → ds.length = 2 := by rintro _ _ _ ⟨I, c, rfl, _⟩; rfl
theorem ok_law_most (T : Txt K mg A) : FnOk P w K mg base CX0 2 A.a_law_most A.d_law_most ["intervals", "count"] (spD K (R_law_most A)) :=
  ok_D T.F_law_most sc_law_most (len_law_most A) (fun cdv Ar outer s H E hr =>
    ds_cons (ds_set 2 sc_law_most.nd (d_int))
    (ds_cons (ds_set 3 sc_law_most.nd (d_lst (d_cons (d_lst (d_nil)) (d_nil))))
    (ds_consL (ds_for PassesOwn.never rfl (di_list (d_var 0)) (dg_name 4 sc_law_most.nd)
      (ds_one (ds_set 3 sc_law_most.nd (d_op op_catS s_cat (d_var 3) (d_lc rfl sc_law_most.nd (di_list (d_var 3)) (blkOk_by (own := [("chosen", 5)]) (N := ["intervals", "count", "best", "choices", "interval", "chosen"]) (sc := defScope s_law_most) (by decide +kernel)) (by decide) (fun _ _ _ _ _ => dg_name 5 sc_law_most.nd) (fun _ _ _ _ _ => dts_nil) (fun _ _ _ _ _ => d_op op_catS s_cat (d_var 5) (d_lst (d_cons (d_var 4) (d_nil)))))))))
    (ds_consL (ds_for PassesOwn.never rfl (di_list (d_var 3)) (dg_name 5 sc_law_most.nd)
      (ds_one (ds_if ((d_and (d_tcmp op_gt s_gt (d_callB call_len s_len (by rfl) T.z_len (by decide +kernel) (d_cons (d_var 5) (d_nil))) (d_var 2)) (d_and1 (d_tval (d_call (ok_law_fits T) (hr.mono (by decide)) T.g_law_fits T.F_law_fits.kp T.b_law_fits (d_cons (d_var 5) (d_cons (d_var 1) (d_nil))))))).pt)
        (ds_one (ds_set 2 sc_law_most.nd (d_callB call_len s_len (by rfl) T.z_len (by decide +kernel) (d_cons (d_var 5) (d_nil)))))
        (ds_nil))))
    (ds_one (ds_ret (d_var 2))))))) (fun ds C Pk h => by
    obtain ⟨I, c, rfl, hl, ho, q⟩ := h
    simp only [ivsD]
    refine seq_hide fun E' hE => ?_
    walk_at "dd"
    subst hE
    dsimp only
    refine seq_hide fun E' hE => ?_
    walk_at "dd"
    subst hE
    dsimp only [List.set_cons_succ, List.set_cons_zero]
    refine seq_hide fun E' hE => ?_
    walk_at "dd"
    refine for_map (fun k ρ' C' => C' = C ∧ ∃ o1 o2, ρ' = [some (.lst (I.map pairD)), some (.int (c : Int)), some (.int 0), some (.lst ((chF (I.take k)).map ivsD)), o1, o2]) ⟨rfl, _, _, rfl⟩ ?_ ?_
    · rintro k x ρ' C' hk ⟨rfl, o1, o2, rfl⟩
      have hkl := (List.getElem?_eq_some_iff.mp hk).1
      have hcl : (chF (I.take k)).length ≤ 512 := by
        rw [ch_len, List.length_take]
        have : 2 ^ min k I.length ≤ 2 ^ 9 := Nat.pow_le_pow_right (by decide) (by omega)
        omega
      have hsh := ch_short (I.take k)
      rw [take_snoc hk, ch_snoc]
      clear hk
      have hcs : ∀ q ∈ chF (I.take k), q.length ≤ 9 := fun q hq => by have := (hsh q hq).1; rw [List.length_take] at this; omega
      clear hsh
      generalize chF (I.take k) = W at hcl hcs
      walk_at "dd"
      refine lc_map (enc := ivsD) (L := W) (fun q : List Iv => some (ivsD (q ++ [x]))) (fun _ _ => trivial) (by omega) (fun j e C2 Q hj hs hQ => ?_) ?_
      · have hel := hcs e (List.mem_of_getElem? hj)
        clear hj hcs
        simp only [ivsD] at hQ ⊢
        rw [List.map_append] at hQ
        walk_at "dd"
        exact ⟨by omega, hQ⟩
      have f1 : W.filterMap (fun q => some (ivsD (q ++ [x]))) = (W.map fun q => q ++ [x]).map ivsD := by
        rw [List.map_map]
        exact congrFun (List.filterMap_eq_map (f := fun q : List Iv => ivsD (q ++ [x]))) W
      rw [f1]
      clear f1
      walk_at "dd"
      refine ⟨by omega, ?_⟩
      rw [List.map_append]
      exact ⟨_, _, rfl⟩
    rintro ρ' C0 ⟨rfl, o1, o2, rfl⟩
    rw [List.take_length]
    have hcs : ∀ q ∈ chF I, q.length ≤ 9 := fun q hq => by have := (ch_short I q hq).1; omega
    rw [← most_eq ho] at q
    generalize chF I = W at hcs q
    subst hE
    dsimp only
    refine seq_hide fun E' hE => ?_
    walk_at "dd"
    refine for_map (enc := ivsD) (L := W) (fun k ρ' C' => C' = C0 ∧ ∃ o1 o2, ρ' = [some (.lst (I.map pairD)), some (.int (c : Int)), some (.int (((W.take k).foldl (bestL c) 0 : Nat) : Int)), some (.lst (W.map ivsD)), o1, o2]) ⟨rfl, _, _, rfl⟩ ?_ ?_
    · rintro k x ρ' C' hk ⟨rfl, o1, o2, rfl⟩
      have hxl := hcs x (List.mem_of_getElem? hk)
      rw [take_snoc hk, List.foldl_append]
      simp only [List.foldl_cons, List.foldl_nil]
      clear hk
      generalize (W.take k).foldl (bestL c) 0 = b
      simp only [ivsD]
      by_cases g : x.length > b
      · have g' : (x.length : Int) > (b : Int) := by omega
        cases hf : fitsB x c with
        | true =>
          have e1 : bestL c b x = x.length := if_pos ⟨g, hf⟩
          rw [e1]
          clear e1
          walk_at "dd"
          refine ⟨x, c, rfl, by omega, ?_⟩
          rw [hf]
          walk_at "dd"
          exact ⟨_, _, rfl⟩
        | false =>
          have e1 : bestL c b x = b := if_neg (fun z => by rw [hf] at z; cases z.2)
          rw [e1]
          clear e1
          walk_at "dd"
          refine ⟨x, c, rfl, by omega, ?_⟩
          rw [hf]
          walk_at "dd"
          exact ⟨_, _, rfl⟩
      · have g' : ¬ (x.length : Int) > (b : Int) := by omega
        have e1 : bestL c b x = b := if_neg (fun z => g z.1)
        rw [e1]
        clear e1
        walk_at "dd"
        exact ⟨_, _, rfl⟩
    · rintro ρ' C' ⟨rfl, o1, o2, rfl⟩
      rw [List.take_length]
      subst hE
      walk_at "dd"
      exact ⟨_, Sub.refl _, q⟩)

def R_turns (A : Ad) : DSp := fun ds C P => ∃ I, ds = [ivsD I] ∧ I.length ≤ 1000 ∧ P (.lst ((turnsF I).map D.int)) C
theorem len_turns (A : Ad) : ∀ ds C P, R_turns A ds C P → ds.length = 1 := by rintro _ _ _ ⟨I, rfl, _⟩; rfl
theorem ok_turns (T : Txt K mg A) : FnOk P w K mg base CX0 1 A.a_turns A.d_turns ["intervals"] (spD K (R_turns A)) :=
  ok_D T.F_turns sc_turns (len_turns A) (fun cdv Ar outer s H E hr =>
    ds_consL (ds_set 1 sc_turns.nd (d_lstC (d_nil)))
    (ds_consL (ds_for PassesOwn.never rfl (di_list (d_var 0)) (dg_tup rfl (dgs_cons (dg_name 2 sc_turns.nd) (dgs_cons (dg_name 3 sc_turns.nd) (dgs_nil))))
      (ds_one (ds_expr (d_extend (d_var 1) (d_cons (d_lst (d_cons (d_var 2) (d_cons (d_var 3) (d_nil)))) (d_nil))))))
    (ds_consL (ds_set 4 sc_turns.nd (d_lstC (d_nil)))
    (ds_consL (ds_for PassesOwn.never rfl (di_list (d_callB cr_sortedI s_sortI (by rfl) T.z_sorted (by decide +kernel) (d_cons (d_var 1) (d_nil)))) (dg_name 5 sc_turns.nd)
      (ds_one (ds_if ((d_or (d_tcmp (op_eqD hr.units) s_eqD (d_var 4) (d_lst (d_nil))) (d_or1 (d_tcmp op_ne s_ne (d_ix ix_seq s_ix (d_var 4) (d_un un_neg s_neg (d_int))) (d_var 5)))).pt)
        (ds_one (ds_expr (d_bmL PySem.F.plainAttrs_list PySem.F.slot_list_append PySem.F.type_list_append mt_append s_append (d_var 4) (d_cons (d_var 5) (d_nil)))))
        (ds_nil))))
    (ds_one (ds_retF (d_var 4))))))) (fun ds C Pk h => by
    obtain ⟨I, rfl, hl, q⟩ := h
    simp only [ivsD]
    refine seq_hide fun E' hE => ?_
    walk_at "dd"
    intro p hp
    subst hE
    dsimp only
    refine seq_hide fun E' hE => ?_
    walk_at "dd"
    refine for_map (fun k ρ' C' => C' = cput C p (.lst ((endsF (I.take k)).map D.int)) ∧ (endsF (I.take k)).length ≤ 2 * k ∧ ∃ o1 o2, ρ' = [some (.lst (I.map pairD)), some (.ptr p), o1, o2, none, none]) ⟨rfl, Nat.le_refl _, _, _, rfl⟩ ?_ ?_
    · rintro k x ρ' C' hk ⟨rfl, hb, o1, o2, rfl⟩
      have hkl := (List.getElem?_eq_some_iff.mp hk).1
      rw [take_snoc hk]
      clear hk
      have e1 : endsF (I.take k ++ [x]) = endsF (I.take k) ++ [x.1, x.2] := by
        unfold endsF
        rw [List.flatMap_append]
        simp
      rw [e1]
      clear e1
      generalize endsF (I.take k) = v at hb
      simp only [pairD]
      walk_at "dd"
      exact ⟨by omega, by rw [List.map_append]; rfl, by simp; omega, _, _, rfl⟩
    rintro ρ' C' ⟨rfl, hb, o1', o2', rfl⟩
    rw [List.take_length] at hb ⊢
    have n0 : ∀ c, cput C p c p = some c := fun c => cput_same
    subst hE
    dsimp only
    refine seq_hide fun E' hE => ?_
    walk_at "dd"
    intro p2 hp2
    have n1 : p ≠ p2 := cell_ne (n0 _) hp2
    subst hE
    dsimp only [List.set_cons_succ, List.set_cons_zero]
    refine seq_hide fun E' hE => ?_
    walk_at "dd"
    refine ⟨_, ints_ptr (ns := endsF I) (by rw [cput_ne n1, n0]), ?_⟩
    dsimp only
    have hlen : (sortI (endsF I)).length = (endsF I).length := (sortI_perm _).length_eq
    have hde : ∀ k x, (sortI (endsF I))[k]? = some x → dedupF ((sortI (endsF I)).take (k + 1)) = if (dedupF ((sortI (endsF I)).take k)).getLast? = some x then dedupF ((sortI (endsF I)).take k) else dedupF ((sortI (endsF I)).take k) ++ [x] := fun k x hk => by
      rw [take_snoc hk]
      unfold dedupF
      rw [List.foldl_append]
      rfl
    have hdl : ∀ P : List Int, (dedupF P).length ≤ P.length := fun P => ded_len P
    refine for_map (fun k ρ' C' => C' = cput (cput C p (.lst ((endsF I).map D.int))) p2 (.lst ((dedupF ((sortI (endsF I)).take k)).map D.int)) ∧ ∃ o1, ρ' = [some (.lst (I.map pairD)), some (.ptr p), o1', o2', some (.ptr p2), o1]) ⟨rfl, _, rfl⟩ ?_ ?_
    · rintro k x ρ' C' hk ⟨rfl, o3, rfl⟩
      have hkl := (List.getElem?_eq_some_iff.mp hk).1
      rw [hde k x hk]
      have hf := hdl ((sortI (endsF I)).take k)
      rw [List.length_take] at hf
      clear hk hde hdl
      generalize dedupF ((sortI (endsF I)).take k) = f at hf
      have e0 := eqb_lst_nil D.int f
      rcases List.eq_nil_or_concat f with z | ⟨f0, y, z⟩
      · subst z
        have e1 : (D.lst []).eqb (.lst []) = true := by decide +kernel
        rw [if_neg (by simp)]
        walk_at "dd"
        refine ⟨1, by decide, dat_nil, dat_nil, ?_⟩
        try walk_at "dd"
        exact ⟨by decide, _, rfl⟩
      · rw [List.concat_eq_append] at z
        subst z
        have e1 : (f0 ++ [y]).isEmpty = false := by simp
        rw [List.getLast?_concat]
        walk_at "dd"
        refine ⟨1, by decide, dat_ints _, dat_nil, ?_⟩
        have e6 : List.map D.int (f0 ++ [y]) = List.map D.int f0 ++ [D.int y] := by rw [List.map_append]; rfl
        rw [e6]
        clear e0 e1 e6
        rw [List.length_append] at hf
        simp only [List.length_cons, List.length_nil] at hf
        by_cases hg : y = x
        · rw [if_pos (congrArg some hg)]
          walk_at "dd"
          exact ⟨by rw [List.map_append]; rfl, _, rfl⟩
        · rw [if_neg (fun z => hg (Option.some.inj z))]
          walk_at "dd"
          exact ⟨by simp only [List.length_append, List.length_map, List.length_cons, List.length_nil]; omega, by rw [List.map_append, List.map_append]; rfl, _, rfl⟩
    · rintro ρ' C' ⟨rfl, o3, rfl⟩
      rw [List.take_length]
      subst hE
      walk_at "dd"
      exact ⟨_, Sub.new hp2, hp2, C, Sub.new hp, q⟩)

def R_load_at (A : Ad) : DSp := fun ds C P => ∃ I c, ds = [ivsD I, .int c] ∧ I.length ≤ 1000 ∧ P (.int (loadF I c)) C
theorem len_load_at (A : Ad) : ∀ ds C P, R_load_at A ds C P → ds.length = 2 := by rintro _ _ _ ⟨I, c, rfl, _⟩; rfl
theorem ok_load_at (T : Txt K mg A) : FnOk P w K mg base CX0 1 A.a_load_at A.d_load_at ["intervals", "clock"] (spD K (R_load_at A)) :=
  ok_D T.F_load_at sc_load_at (len_load_at A) (fun cdv Ar outer s H E hr =>
    ds_cons (ds_set 2 sc_load_at.nd (d_int))
    (ds_consL (ds_for PassesOwn.never rfl (di_list (d_var 0)) (dg_tup rfl (dgs_cons (dg_name 3 sc_load_at.nd) (dgs_cons (dg_name 4 sc_load_at.nd) (dgs_nil))))
      (ds_one (ds_if (d_chainT op_le s_le op_lt s_lt (d_var 3) (d_var 1) (d_var 4))
        (ds_one (ds_set 2 sc_load_at.nd (d_op op_add s_add (d_var 2) (d_int))))
        (ds_nil))))
    (ds_one (ds_ret (d_var 2))))) (fun ds C Pk h => by
    obtain ⟨I, c, rfl, hl, q⟩ := h
    simp only [ivsD]
    refine seq_hide fun E' hE => ?_
    walk_at "dd"
    subst hE
    dsimp only
    refine seq_hide fun E' hE => ?_
    walk_at "dd"
    refine for_map (fun k ρ' C' => C' = C ∧ ∃ o1 o2, ρ' = [some (.lst (I.map pairD)), some (.int c), some (.int (loadF (I.take k) c)), o1, o2]) ⟨rfl, _, _, rfl⟩ ?_ ?_
    · rintro k e ρ' C' hk ⟨rfl, o1, o2, rfl⟩
      rw [take_snoc hk]
      clear hk
      have e1 : loadF (I.take k ++ [e]) c = if e.1 ≤ c ∧ c < e.2 then loadF (I.take k) c + 1 else loadF (I.take k) c := by
        unfold loadF
        rw [List.filter_append, List.length_append]
        by_cases g : e.1 ≤ c ∧ c < e.2
        · rw [if_pos g, List.filter_cons_of_pos (by simpa using g)]
          simp
        · rw [if_neg g, List.filter_cons_of_neg (by simpa using g)]
          simp
      rw [e1]
      clear e1
      generalize loadF (I.take k) c = v
      simp only [pairD]
      by_cases g1 : e.1 ≤ c
      · by_cases g2 : c < e.2
        · rw [if_pos ⟨g1, g2⟩]
          walk_at "dd"
          exact ⟨_, _, rfl⟩
        · rw [if_neg (fun z => g2 z.2)]
          walk_at "dd"
          exact ⟨_, _, rfl⟩
      · rw [if_neg (fun z => g1 z.1)]
        walk_at "dd"
        exact ⟨_, _, rfl⟩
    · rintro ρ' C' ⟨rfl, o1, o2, rfl⟩
      rw [List.take_length]
      subst hE
      walk_at "dd"
      exact ⟨_, Sub.refl _, q⟩)

def R_load_steps (A : Ad) : DSp := fun ds C P => ∃ I, ds = [ivsD I] ∧ I.length ≤ 1000 ∧ P (.lst ((stepsF I).map pairD)) C
theorem len_load_steps (A : Ad) : ∀ ds C P, R_load_steps A ds C P → ds.length = 1 := by rintro _ _ _ ⟨I, rfl, _⟩; rfl
theorem ok_load_steps (T : Txt K mg A) : FnOk P w K mg base CX0 2 A.a_load_steps A.d_load_steps ["intervals"] (spD K (R_load_steps A)) :=
  ok_D T.F_load_steps sc_load_steps (len_load_steps A) (fun cdv Ar outer s H E hr =>
    ds_consL (ds_set 1 sc_load_steps.nd (d_lstC (d_nil)))
    (ds_cons (ds_set 2 sc_load_steps.nd (d_int))
    (ds_consL (ds_for PassesOwn.never rfl (di_list (d_call (ok_turns T) (hr.mono (by decide)) T.g_turns T.F_turns.kp T.b_turns (d_cons (d_var 0) (d_nil)))) (dg_name 3 sc_load_steps.nd)
      (ds_consL (ds_set 4 sc_load_steps.nd (d_call (ok_load_at T) (hr.mono (by decide)) T.g_load_at T.F_load_at.kp T.b_load_at (d_cons (d_var 0) (d_cons (d_var 3) (d_nil)))))
      (ds_one (ds_if (d_tcmp op_ne s_ne (d_var 4) (d_var 2))
        (ds_cons (ds_expr (d_bmL PySem.F.plainAttrs_list PySem.F.slot_list_append PySem.F.type_list_append mt_append s_append (d_var 1) (d_cons (d_tup (d_cons (d_var 3) (d_cons (d_var 4) (d_nil)))) (d_nil))))
        (ds_one (ds_set 2 sc_load_steps.nd (d_var 4))))
        (ds_nil)))))
    (ds_one (ds_retF (d_var 1)))))) (fun ds C Pk h => by
    obtain ⟨I, rfl, hl, q⟩ := h
    simp only [ivsD]
    refine seq_hide fun E' hE => ?_
    walk_at "dd"
    intro p hp
    subst hE
    dsimp only
    refine seq_hide fun E' hE => ?_
    walk_at "dd"
    subst hE
    dsimp only
    refine seq_hide fun E' hE => ?_
    walk_at "dd"
    refine ⟨I, rfl, hl, ?_⟩
    walk_at "dd"
    have htl := turns_len I
    refine for_map (fun k ρ' C' => C' = cput C p (.lst ((((turnsF I).take k).foldl (stepF I) ([], 0)).1.map pairD)) ∧ (((turnsF I).take k).foldl (stepF I) ([], 0)).1.length ≤ k ∧ ∃ o1 o2, ρ' = [some (.lst (I.map pairD)), some (.ptr p), some (.int (((turnsF I).take k).foldl (stepF I) ([], 0)).2), o1, o2]) ⟨rfl, Nat.le_refl _, _, _, rfl⟩ ?_ ?_
    · rintro k c ρ' C' hk ⟨rfl, hb, o1, o2, rfl⟩
      have hkl := (List.getElem?_eq_some_iff.mp hk).1
      rw [take_snoc hk, List.foldl_append]
      simp only [List.foldl_cons, List.foldl_nil]
      clear hk
      generalize ((turnsF I).take k).foldl (stepF I) ([], 0) = f at hb
      have e1 : stepF I f c = if loadF I c ≠ f.2 then (f.1 ++ [(c, loadF I c)], loadF I c) else f := rfl
      rw [e1]
      clear e1
      refine seq_hide fun E2 hE2 => ?_
      walk_at "dd"
      refine ⟨I, c, rfl, hl, ?_⟩
      subst hE2
      dsimp only [List.set_cons_succ, List.set_cons_zero]
      generalize loadF I c = v
      by_cases g : v = f.2
      · rw [if_neg (fun z => z g)]
        walk_at "dd"
        exact ⟨by omega, _, _, rfl⟩
      · rw [if_pos g]
        walk_at "dd"
        exact ⟨by omega, by rw [List.map_append]; rfl, by simp; omega, _, _, rfl⟩
    · rintro ρ' C' ⟨rfl, hb, o1, o2, rfl⟩
      rw [List.take_length]
      subst hE
      walk_at "dd"
      exact ⟨C, Sub.new hp, hp, C, Sub.refl _, q⟩)

def R_peak (A : Ad) : DSp := fun ds C P => ∃ I, ds = [ivsD I] ∧ I.length ≤ 1000 ∧ P (bestD (peakF I)) C
theorem len_peak (A : Ad) : ∀ ds C P, R_peak A ds C P → ds.length = 1 := by rintro _ _ _ ⟨I, rfl, _⟩; rfl
theorem ok_peak (T : Txt K mg A) : FnOk P w K mg base CX0 3 A.a_peak A.d_peak ["intervals"] (spD K (R_peak A)) :=
  ok_D T.F_peak sc_peak (len_peak A) (fun cdv Ar outer s H E hr =>
    ds_cons (ds_set 1 sc_peak.nd (d_tup (d_cons (d_int) (d_cons (d_non) (d_nil)))))
    (ds_consL (ds_for PassesOwn.never rfl (di_list (d_call (ok_load_steps T) (hr.mono (by decide)) T.g_load_steps T.F_load_steps.kp T.b_load_steps (d_cons (d_var 0) (d_nil)))) (dg_tup rfl (dgs_cons (dg_name 2 sc_peak.nd) (dgs_cons (dg_name 3 sc_peak.nd) (dgs_nil))))
      (ds_one (ds_if (d_tcmp op_gt s_gt (d_var 3) (d_ix ix_seq s_ix (d_var 1) (d_int)))
        (ds_one (ds_set 1 sc_peak.nd (d_tup (d_cons (d_var 3) (d_cons (d_var 2) (d_nil))))))
        (ds_nil))))
    (ds_one (ds_ret (d_var 1))))) (fun ds C Pk h => by
    obtain ⟨I, rfl, hl, q⟩ := h
    refine seq_hide fun E' hE => ?_
    walk_at "dd"
    subst hE
    dsimp only
    refine seq_hide fun E' hE => ?_
    walk_at "dd"
    refine ⟨I, rfl, hl, ?_⟩
    walk_at "dd"
    refine for_map (fun k ρ' C' => C' = C ∧ ∃ o1 o2, ρ' = [some (ivsD I), some (bestD (((stepsF I).take k).foldl pkF (0, none))), o1, o2]) ⟨rfl, _, _, rfl⟩ ?_ ?_
    · rintro k x ρ' C' hk ⟨rfl, o1, o2, rfl⟩
      rw [take_snoc hk, List.foldl_append]
      clear hk
      simp only [List.foldl_cons, List.foldl_nil]
      generalize ((stepsF I).take k).foldl pkF (0, none) = b
      have e1 : pkF b x = if x.2 > b.1 then (x.2, some x.1) else b := rfl
      rw [e1]
      clear e1
      simp only [pairD]
      by_cases g : x.2 > b.1
      · rw [if_pos g]
        simp only [bestD, optIntD]
        walk_at "dd"
        exact ⟨_, _, rfl⟩
      · rw [if_neg g]
        simp only [bestD]
        walk_at "dd"
        exact ⟨_, _, rfl⟩
    · rintro ρ' C' ⟨rfl, o1, o2, rfl⟩
      rw [List.take_length]
      subst hE
      walk_at "dd"
      exact ⟨_, Sub.refl _, q⟩)

def R_lost_count (A : Ad) : DSp := fun ds C P => ∃ I c, ds = [ivsD I, .int (c : Nat)] ∧ I.length ≤ 1000 ∧ IvOk I ∧ c ≤ 1000 ∧ P (.int (lostF (limF c I.length (ordT I)).2)) C
theorem len_lost_count (A : Ad) : ∀ ds C P, R_lost_count A ds C P → ds.length = 2 := by rintro _ _ _ ⟨I, c, rfl, _⟩; rfl
theorem ok_lost_count (T : Txt K mg A) : FnOk P w K mg base CX0 3 A.a_lost_count A.d_lost_count ["intervals", "count"] (spD K (R_lost_count A)) :=
  ok_D T.F_lost_count sc_lost_count (len_lost_count A) (fun cdv Ar outer s H E hr =>
    ds_cons (ds_set 2 sc_lost_count.nd (d_int))
    (ds_consL (ds_for PassesOwn.never rfl (di_list (d_call (ok_limited T) (hr.mono (by decide)) T.g_limited T.F_limited.kp T.b_limited (d_cons (d_var 0) (d_cons (d_var 1) (d_nil))))) (dg_name 3 sc_lost_count.nd)
      (ds_one (ds_if (d_tcmp op_isN s_isN (d_var 3) (d_non))
        (ds_one (ds_set 2 sc_lost_count.nd (d_op op_add s_add (d_var 2) (d_int))))
        (ds_nil))))
    (ds_one (ds_ret (d_var 2))))) (fun ds C Pk h => by
    obtain ⟨I, c, rfl, hl, ho, hc, q⟩ := h
    refine seq_hide fun E' hE => ?_
    walk_at "dd"
    subst hE
    dsimp only
    refine seq_hide fun E' hE => ?_
    walk_at "dd"
    refine ⟨I, c, rfl, hl, ho, hc, ?_⟩
    dsimp only
    generalize (limF c I.length (ordT I)).2 = L at q
    refine for_map (fun k ρ' C' => C' = C ∧ ∃ o1, ρ' = [some (ivsD I), some (.int (c : Int)), some (.int (lostF (L.take k))), o1]) ⟨rfl, _, rfl⟩ ?_ ?_
    · rintro k o ρ' C' hk ⟨rfl, o1, rfl⟩
      rw [take_snoc hk]
      have e1 : lostF (L.take k ++ [o]) = lostF (L.take k) + if o.isNone = true then 1 else 0 := by
        unfold lostF
        rw [List.filter_append, List.length_append]
        cases o <;> simp
      rw [e1]
      clear hk e1
      generalize lostF (L.take k) = v
      cases o with
      | none =>
        simp only [optNatD]
        walk_at "dd"
        exact ⟨_, rfl⟩
      | some p =>
        rw [if_neg (by simp), Int.add_zero]
        simp only [optNatD]
        walk_at "dd"
        exact ⟨_, rfl⟩
    · rintro ρ' C' ⟨rfl, o1, rfl⟩
      rw [List.take_length]
      subst hE
      walk_at "dd"
      exact ⟨_, Sub.refl _, q⟩)

def R_least_places (A : Ad) : DSp := fun ds C P => ∃ I s, ds = [ivsD I, .int s] ∧ I.length ≤ 1000 ∧ IvOk I ∧ 0 ≤ s ∧ P (.int (leastF I s : Nat)) C
theorem len_least_places (A : Ad) : ∀ ds C P, R_least_places A ds C P → ds.length = 2 := by rintro _ _ _ ⟨I, c, rfl, _⟩; rfl
theorem ok_least_places (T : Txt K mg A) : FnOk P w K mg base CX0 4 A.a_least_places A.d_least_places ["intervals", "share"] (spD K (R_least_places A)) :=
  ok_D T.F_least_places sc_least_places (len_least_places A) (fun cdv Ar outer s H E hr =>
    ds_consL (ds_asg (d_call (ok_peak T) (hr.mono (by decide)) T.g_peak T.F_peak.kp T.b_peak (d_cons (d_var 0) (d_nil))) (dg_tup rfl (dgs_cons (dg_name 2 sc_least_places.nd) (dgs_cons (dg_name 3 sc_least_places.nd) (dgs_nil)))))
    (ds_consL (ds_for PassesOwn.never rfl (di_rng1 (by rfl) T.z_range (d_cons (d_var 2) (d_nil))) (dg_name 4 sc_least_places.nd)
      (ds_one (ds_if (d_tcmp op_le s_le (d_op op_mul s_mul (d_int) (d_call (ok_lost_count T) (hr.mono (by decide)) T.g_lost_count T.F_lost_count.kp T.b_lost_count (d_cons (d_var 0) (d_cons (d_var 4) (d_nil))))) (d_op op_mul s_mul (d_var 1) (d_callB call_len s_len (by rfl) T.z_len (by decide +kernel) (d_cons (d_var 0) (d_nil)))))
        (ds_one (ds_ret (d_var 4)))
        (ds_nil))))
    (ds_one (ds_ret (d_var 2))))) (fun ds C Pk h => by
    obtain ⟨I, s, rfl, hl, ho, hs, q⟩ := h
    simp only [ivsD]
    refine seq_hide fun E' hE => ?_
    walk_at "dd"
    refine ⟨I, rfl, hl, ?_⟩
    have hn := needed_eq ho
    have hmI := arr_len I.length (ordT I)
    rw [ord_len] at hmI
    have hcp := cond_peak ho hs
    unfold bestD
    rw [hn]
    generalize (peakF I).2 = o
    generalize (arrF I.length (ordT I)).1.length = m at hmI hcp
    clear hn
    walk_at "dd"
    subst hE
    dsimp only [List.set_cons_succ, List.set_cons_zero]
    refine seq_hide fun E' hE => ?_
    walk_at "dd"
    refine ⟨⟨by omega, by omega⟩, for_rng (fun k ρ' C' => C' = C ∧ (∀ j, j < k → condF I s j = false) ∧ ∃ o1 o2, ρ' = [some (.lst (I.map pairD)), some (.int s), some (.int (m : Int)), o1, o2]) ⟨rfl, fun j hj => absurd hj (Nat.not_lt_zero _), _, _, rfl⟩ ?_ ?_⟩
    · rintro k ρ' C' hk ⟨rfl, hno, o1, o2, rfl⟩
      rw [Int.zero_add]
      walk_at "dd"
      refine ⟨I, k, rfl, hl, ho, by omega, ?_⟩
      have hlb : lostF (limF k I.length (ordT I)).2 ≤ 1000 := by
        have := (lim_ok k I.length (ordT I) (ord_ok ho)).ll
        unfold lostF
        have h2 := List.length_filter_le (fun o : Option Nat => o.isNone) (limF k I.length (ordT I)).2
        omega
      have hlb0 : 0 ≤ lostF (limF k I.length (ordT I)).2 := by unfold lostF; omega
      have hcd : condF I s k = decide (1000 * lostF (limF k I.length (ordT I)).2 ≤ s * (I.length : Int)) := rfl
      generalize lostF (limF k I.length (ordT I)).2 = lo at hlb hlb0 hcd
      walk_at "dd"
      refine ⟨cmul_r (by omega) (by omega), cmul_r (by omega) (by omega), ?_⟩
      by_cases g : 1000 * lo ≤ s * (I.length : Int)
      · rw [if_pos g]
        rw [decide_eq_true g] at hcd
        rw [least_at (by omega) hcd hno] at q
        subst hE
        exact ⟨_, Sub.refl _, q⟩
      · rw [if_neg g]
        rw [decide_eq_false g] at hcd
        refine ⟨fun j hj => ?_, _, _, rfl⟩
        by_cases z : j = k
        · subst z; exact hcd
        · exact hno j (by omega)
    · rintro ρ' C' ⟨rfl, hno, o1, o2, rfl⟩
      rw [least_at hmI hcp fun j hj => hno j (by omega)] at q
      subst hE
      walk_at "dd"
      exact ⟨_, Sub.refl _, q⟩)

def R_law_least (A : Ad) : DSp := fun ds C P => ∃ I s, ds = [ivsD I, .int s] ∧ I.length ≤ 1000 ∧ IvOk I ∧ 0 ≤ s ∧ P (.int (leastF I s : Nat)) C
theorem len_law_least (A : Ad) : ∀ ds C P, R_law_least A ds C P → ds.length = 2 := by rintro _ _ _ ⟨I, c, rfl, _⟩; rfl
theorem ok_law_least (T : Txt K mg A) : FnOk P w K mg base CX0 4 A.a_law_least A.d_law_least ["intervals", "share"] (spD K (R_law_least A)) :=
  ok_D T.F_law_least sc_law_least (len_law_least A) (fun cdv Ar outer s H E hr =>
    ds_consL (ds_for PassesOwn.never rfl (di_rng1 (by rfl) T.z_range (d_cons (d_op op_add s_add (d_callB call_len s_len (by rfl) T.z_len (by decide +kernel) (d_cons (d_var 0) (d_nil))) (d_int)) (d_nil))) (dg_name 2 sc_law_least.nd)
      (ds_one (ds_if (d_tcmp op_le s_le (d_op op_mul s_mul (d_int) (d_call (ok_lost_count T) (hr.mono (by decide)) T.g_lost_count T.F_lost_count.kp T.b_lost_count (d_cons (d_var 0) (d_cons (d_var 2) (d_nil))))) (d_op op_mul s_mul (d_var 1) (d_callB call_len s_len (by rfl) T.z_len (by decide +kernel) (d_cons (d_var 0) (d_nil)))))
        (ds_one (ds_ret (d_var 2)))
        (ds_nil))))
    (ds_one (ds_ret (d_non)))) (fun ds C Pk h => by
    obtain ⟨I, s, rfl, hl, ho, hs, q⟩ := h
    simp only [ivsD]
    refine seq_hide fun E' hE => ?_
    walk_at "dd"
    have hmI := arr_len I.length (ordT I)
    rw [ord_len] at hmI
    have hcp := cond_peak ho hs
    generalize (arrF I.length (ordT I)).1.length = m at hmI hcp
    refine ⟨⟨by omega, by omega⟩, for_rng (fun k ρ' C' => C' = C ∧ (∀ j, j < k → condF I s j = false) ∧ ∃ o1, ρ' = [some (.lst (I.map pairD)), some (.int s), o1]) ⟨rfl, fun j hj => absurd hj (Nat.not_lt_zero _), _, rfl⟩ ?_ ?_⟩
    · rintro k ρ' C' hk ⟨rfl, hno, o1, rfl⟩
      rw [Int.zero_add]
      walk_at "dd"
      refine ⟨I, k, rfl, hl, ho, by omega, ?_⟩
      have hlb : lostF (limF k I.length (ordT I)).2 ≤ 1000 := by
        have := (lim_ok k I.length (ordT I) (ord_ok ho)).ll
        unfold lostF
        have h2 := List.length_filter_le (fun o : Option Nat => o.isNone) (limF k I.length (ordT I)).2
        omega
      have hlb0 : 0 ≤ lostF (limF k I.length (ordT I)).2 := by unfold lostF; omega
      have hcd : condF I s k = decide (1000 * lostF (limF k I.length (ordT I)).2 ≤ s * (I.length : Int)) := rfl
      generalize lostF (limF k I.length (ordT I)).2 = lo at hlb hlb0 hcd
      walk_at "dd"
      refine ⟨cmul_r (by omega) (by omega), cmul_r (by omega) (by omega), ?_⟩
      by_cases g : 1000 * lo ≤ s * (I.length : Int)
      · rw [if_pos g]
        rw [decide_eq_true g] at hcd
        rw [least_at (by omega) hcd hno] at q
        subst hE
        exact ⟨_, Sub.refl _, q⟩
      · rw [if_neg g]
        rw [decide_eq_false g] at hcd
        refine ⟨fun j hj => ?_, _, rfl⟩
        by_cases z : j = k
        · subst z; exact hcd
        · exact hno j (by omega)
    · rintro ρ' C' ⟨rfl, hno, o1, rfl⟩
      have := hno m (by omega)
      rw [hcp] at this
      cases this)

def R_law (A : Ad) : DSp := fun ds C P => ∃ ns : List Int, ds = [.lst (ns.map D.int)] ∧ ns.length ≤ 63 ∧ ∀ C', P (.bl true) C'
theorem len_law (A : Ad) : ∀ ds C P, R_law A ds C P → ds.length = 1 := by rintro _ _ _ ⟨ns, rfl, _⟩; rfl
theorem law_go (A : Ad) : ∀ (ns : List Int) (P : DK), ns.length ≤ 63 → (∀ C', P (.bl true) C') → R_law A [.lst (ns.map D.int)] (fun _ => none) P := fun ns P hl k => ⟨ns, rfl, hl, k⟩

theorem ok_law (T : Txt K mg A) : FnOk P w K mg base CX0 5 A.a_law A.d_law ["script"] (spD K (R_law A)) :=
  ok_D T.F_law sc_law (len_law A) (fun cdv Ar outer s H E hr =>
    ds_consL (ds_for PassesOwn.never rfl (di_rng1 (by rfl) T.z_range (d_cons (d_callB (call_min2 rfl) s_min2 (by rfl) T.z_min (by decide +kernel) (d_cons (d_int) (d_cons (d_op op_add s_add (d_int) (d_callB call_len s_len (by rfl) T.z_len (by decide +kernel) (d_cons (d_var 0) (d_nil)))) (d_nil)))) (d_nil))) (dg_name 1 sc_law.nd)
      (ds_consL (ds_set 2 sc_law.nd (d_call (ok_law_state T) (hr.mono (by decide)) T.g_law_state T.F_law_state.kp T.b_law_state (d_cons (d_call (ok_law_cell T) (hr.mono (by decide)) T.g_law_cell T.F_law_cell.kp T.b_law_cell (d_cons (d_var 0) (d_cons (d_var 1) (d_nil)))) (d_cons (d_var 1) (d_nil)))))
      (ds_consL (ds_set 3 sc_law.nd (d_call (ok_law_intervals T) (hr.mono (by decide)) T.g_law_intervals T.F_law_intervals.kp T.b_law_intervals (d_cons (d_var 2) (d_cons (d_call (ok_law_digit T) (hr.mono (by decide)) T.g_law_digit T.F_law_digit.kp T.b_law_digit (d_cons (d_var 2) (d_cons (d_int) (d_nil)))) (d_cons (d_int) (d_nil))))))
      (ds_consL (ds_for PassesOwn.never rfl (di_rng1 (by rfl) T.z_range (d_cons (d_int) (d_nil))) (dg_name 4 sc_law.nd)
        (ds_one (ds_if (d_tcmp op_ne s_ne (d_call (ok_most_kept T) (hr.mono (by decide)) T.g_most_kept T.F_most_kept.kp T.b_most_kept (d_cons (d_var 3) (d_cons (d_var 4) (d_nil)))) (d_call (ok_law_most T) (hr.mono (by decide)) T.g_law_most T.F_law_most.kp T.b_law_most (d_cons (d_var 3) (d_cons (d_var 4) (d_nil)))))
          (ds_one (ds_ret (d_bl)))
          (ds_nil))))
      (ds_consL (ds_set 5 sc_law.nd (d_op op_catS s_cat (d_var 3) (d_call (ok_law_intervals T) (hr.mono (by decide)) T.g_law_intervals T.F_law_intervals.kp T.b_law_intervals (d_cons (d_var 2) (d_cons (d_call (ok_law_digit T) (hr.mono (by decide)) T.g_law_digit T.F_law_digit.kp T.b_law_digit (d_cons (d_var 2) (d_cons (d_int) (d_nil)))) (d_cons (d_int) (d_nil)))))))
      (ds_consL (ds_if (d_tcmp op_ne s_ne (d_call (ok_most_kept T) (hr.mono (by decide)) T.g_most_kept T.F_most_kept.kp T.b_most_kept (d_cons (d_var 5) (d_cons (d_ix ix_seq s_ix (d_call (ok_peak T) (hr.mono (by decide)) T.g_peak T.F_peak.kp T.b_peak (d_cons (d_var 5) (d_nil))) (d_int)) (d_nil)))) (d_callB call_len s_len (by rfl) T.z_len (by decide +kernel) (d_cons (d_var 5) (d_nil))))
        (ds_one (ds_ret (d_bl)))
        (ds_nil))
      (ds_consL (ds_for PassesOwn.never rfl (di_tup (d_tup (d_cons (d_int) (d_cons (d_int) (d_cons (d_int) (d_cons (d_int) (d_cons (d_int) (d_cons (d_int) (d_nil))))))))) (dg_name 6 sc_law.nd)
        (ds_one (ds_if (d_tcmp op_ne s_ne (d_call (ok_least_places T) (hr.mono (by decide)) T.g_least_places T.F_least_places.kp T.b_least_places (d_cons (d_var 5) (d_cons (d_var 6) (d_nil)))) (d_call (ok_law_least T) (hr.mono (by decide)) T.g_law_least T.F_law_least.kp T.b_law_least (d_cons (d_var 5) (d_cons (d_var 6) (d_nil)))))
          (ds_one (ds_ret (d_bl)))
          (ds_nil))))
      (ds_consL (ds_set 7 sc_law.nd (d_call (ok_law_digit T) (hr.mono (by decide)) T.g_law_digit T.F_law_digit.kp T.b_law_digit (d_cons (d_var 2) (d_cons (d_int) (d_nil)))))
      (ds_consL (ds_set 8 sc_law.nd (d_call (ok_law_digit T) (hr.mono (by decide)) T.g_law_digit T.F_law_digit.kp T.b_law_digit (d_cons (d_var 2) (d_cons (d_int) (d_nil)))))
      (ds_consL (ds_if (d_tcmp (op_neD hr.units) s_neD (d_call (ok_overflowing T) (hr.mono (by decide)) T.g_overflowing T.F_overflowing.kp T.b_overflowing (d_cons (d_var 5) (d_cons (d_var 7) (d_cons (d_var 8) (d_nil))))) (d_call (ok_law_over T) (hr.mono (by decide)) T.g_law_over T.F_law_over.kp T.b_law_over (d_cons (d_var 5) (d_cons (d_var 7) (d_cons (d_var 8) (d_nil))))))
        (ds_one (ds_ret (d_bl)))
        (ds_nil))
      (ds_one (ds_if (d_tcmp op_lt s_lt (d_call (ok_most_kept T) (hr.mono (by decide)) T.g_most_kept T.F_most_kept.kp T.b_most_kept (d_cons (d_var 5) (d_cons (d_var 7) (d_nil)))) (d_op op_sub s_sub (d_callB call_len s_len (by rfl) T.z_len (by decide +kernel) (d_cons (d_var 5) (d_nil))) (d_call (ok_lost_count T) (hr.mono (by decide)) T.g_lost_count T.F_lost_count.kp T.b_lost_count (d_cons (d_var 5) (d_cons (d_var 7) (d_nil))))))
        (ds_one (ds_ret (d_bl)))
        (ds_nil)))))))))))))
    (ds_one (ds_ret (d_bl)))) (fun ds C Pk h => by
    obtain ⟨ns, rfl, hl, q⟩ := h
    refine seq_hide fun E' hE => ?_
    walk_at "dd"
    refine ⟨⟨by omega, by omega⟩, for_rng (fun k ρ' C' => (∃ o1 o2 o3 o4 o5 o6 o7 o8, ρ' = [some (.lst (ns.map D.int)), o1, o2, o3, o4, o5, o6, o7, o8])) ⟨_, _, _, _, _, _, _, _, rfl⟩ ?_ ?_⟩
    · rintro k ρ' C1 hk ⟨o1, o2, o3, o4, o5, o6, o7, o8, rfl⟩
      refine seq_hide fun E2 hE2 => ?_
      walk_at "dd"
      refine ⟨ns, (k : Int), rfl, hl, by omega, fun v => ⟨v, (k : Int), rfl, by omega, by omega, fun ps s hs hp => ?_⟩⟩
      subst hE2
      dsimp only [List.set_cons_succ, List.set_cons_zero]
      generalize hC : cput C1 ps (.lst [.int s]) = C2
      have h1 : C2 ps = some (.lst [.int s]) := by rw [← hC, cput_same]
      clear hC hp
      refine seq_hide fun E2 hE2 => ?_
      walk_at "dd"
      refine ⟨ps, s, 10, rfl, h1, hs, by decide, by decide, fun m s2 hm0 hm9 hs2 => ?_⟩
      refine ⟨ps, s2, m, 14, rfl, by decide, by decide, cput_same, hs2, hm0, by omega, fun I s3 hI hg hs3 => ?_⟩
      rw [cput_cput]
      have h3 : cput C2 ps (.lst [.int s3]) ps = some (.lst [.int s3]) := cput_same
      generalize cput C2 ps (.lst [.int s3]) = C3 at h3 ⊢
      clear h1
      have hI9 : I.length ≤ 9 := by omega
      clear hI
      subst hE2
      dsimp only [List.set_cons_succ, List.set_cons_zero]
      refine seq_hide fun E2 hE2 => ?_
      walk_at "dd"
      refine ⟨by decide, for_rng (fun c ρ' C' => C' = C3 ∧ ∃ o4, ρ' = [some (.lst (ns.map D.int)), some (.int (k : Int)), some (.ptr ps), some (ivsD I), o4, o5, o6, o7, o8]) ⟨rfl, _, rfl⟩ ?_ ?_⟩
      · rintro c ρ' C' hc ⟨rfl, o4, rfl⟩
        rw [Int.zero_add]
        walk_at "dd"
        refine ⟨I, c, rfl, by omega, hg, I, c, rfl, hI9, hg, ?_⟩
        walk_at "dd"
        exact ⟨_, rfl⟩
      rintro ρ' C0 ⟨rfl, o4, rfl⟩
      subst hE2
      dsimp only
      refine seq_hide fun E2 hE2 => ?_
      simp only [ivsD]
      walk_at "dd"
      refine ⟨ps, s3, 20, rfl, h3, hs3, by decide, by decide, fun m2 s4 hm20 hm29 hs4 => ?_⟩
      refine ⟨ps, s4, m2, 50, rfl, by decide, by decide, cput_same, hs4, hm20, by omega, fun I2 s5 hI2 hg2 hs5 => ?_⟩
      rw [cput_cput]
      have h5 : cput C0 ps (.lst [.int s5]) ps = some (.lst [.int s5]) := cput_same
      generalize cput C0 ps (.lst [.int s5]) = C5 at h5 ⊢
      clear h3
      simp only [ivsD]
      walk_at "dd"
      rw [← List.map_append]
      have hJl : (I ++ I2).length ≤ 40 := by rw [List.length_append]; omega
      have hJg : IvOk (I ++ I2) := fun e he => by
        rcases List.mem_append.mp he with he | he
        · exact hg e he
        · exact hg2 e he
      refine ⟨by omega, ?_⟩
      generalize I ++ I2 = J at hJl hJg
      subst hE2
      dsimp only [List.set_cons_succ, List.set_cons_zero]
      have hpk := kept_peak hJg
      have hpn := needed_eq hJg
      obtain ⟨pm, hpm⟩ : ∃ pm : Nat, (peakF J).1 = pm := ⟨_, hpn⟩
      rw [hpm, Int.toNat_natCast] at hpk
      clear hpn
      refine seq_hide fun E2 hE2 => ?_
      walk_at "dd"
      refine ⟨J, rfl, by omega, ?_⟩
      unfold bestD
      walk_at "dd"
      refine ⟨J, pm, rfl, by omega, hJg, ?_⟩
      walk_at "dd"
      subst hE2
      dsimp only
      refine seq_hide fun E2 hE2 => ?_
      walk_at "dd"
      refine for_map (enc := D.int) (L := [0, 1, 100, 333, 500, 1000]) (fun j ρ' C' => C' = C5 ∧ ∃ o6, ρ' = [some (.lst (ns.map D.int)), some (.int (k : Int)), some (.ptr ps), some (.lst (I.map pairD)), o4, some (.lst (J.map pairD)), o6, o7, o8]) ⟨rfl, _, rfl⟩ ?_ ?_
      · rintro j sh ρ' C' hj ⟨rfl, o6, rfl⟩
        have hsh : 0 ≤ sh := by
          have := List.mem_of_getElem? hj
          simp only [List.mem_cons, List.not_mem_nil, or_false] at this
          omega
        walk_at "dd"
        refine ⟨J, sh, rfl, by omega, hJg, hsh, J, sh, rfl, by omega, hJg, hsh, ?_⟩
        walk_at "dd"
        exact ⟨_, rfl⟩
      rintro ρ' C6 ⟨rfl, o6, rfl⟩
      subst hE2
      dsimp only
      refine seq_hide fun E2 hE2 => ?_
      walk_at "dd"
      refine ⟨ps, s5, 4, rfl, h5, hs5, by decide, by decide, fun a s6 ha0 ha9 hs6 => ?_⟩
      have h6 : cput C6 ps (.lst [.int s6]) ps = some (.lst [.int s6]) := cput_same
      generalize cput C6 ps (.lst [.int s6]) = C7 at h6 ⊢
      clear h5
      obtain ⟨a, rfl⟩ : ∃ n : Nat, a = n := ⟨a.toNat, by omega⟩
      subst hE2
      dsimp only [List.set_cons_succ, List.set_cons_zero]
      refine seq_hide fun E2 hE2 => ?_
      walk_at "dd"
      refine ⟨ps, s6, 4, rfl, h6, hs6, by decide, by decide, fun b s7 hb0 hb9 hs7 => ?_⟩
      generalize cput C7 ps (.lst [.int s7]) = C8
      clear h6
      obtain ⟨b, rfl⟩ : ∃ n : Nat, b = n := ⟨b.toNat, by omega⟩
      subst hE2
      dsimp only [List.set_cons_succ, List.set_cons_zero]
      have hdd : Dat 2 (overD a b J) := by
        unfold overD
        have hod : ∀ L : List (Option Nat), Dat 1 (.lst (L.map optNatD)) := fun L => dat_lst (fun o => by cases o with | none => exact .non | some p => exact .int _) L
        refine .tup fun d hd => ?_
        rcases List.mem_cons.mp hd with rfl | hd
        · exact hod _
        · simp only [List.mem_cons, List.not_mem_nil, or_false] at hd
          subst hd
          exact hod _
      have hde := eqb_self hdd
      have hkl := kept_lost hJg a
      refine seq_hide fun E2 hE2 => ?_
      walk_at "dd"
      refine ⟨J, a, b, rfl, by omega, hJg, by omega, by omega, J, a, b, rfl, by omega, hJg, by omega, by omega, 2, by decide, hdd, hdd, ?_⟩
      rw [if_neg (by change ¬ (!(overD a b J).eqb (overD a b J)) = true; rw [hde]; decide)]
      subst hE2
      walk_at "dd"
      refine ⟨J, a, rfl, by omega, hJg, J, a, rfl, by omega, hJg, by omega, ?_⟩
      have hge : ¬ ((keptF a (ordT J) : Nat) : Int) < (J.length : Int) - lostF (limF a J.length (ordT J)).2 := by omega
      walk_at "dd"
      exact ⟨_, _, _, _, _, _, _, _, rfl⟩
    rintro ρ' C1 ⟨o1, o2, o3, o4, o5, o6, o7, o8, rfl⟩
    subst hE
    walk_at "dd"
    exact ⟨_, Sub.refl _⟩)

end
/-! ### what the top has written, the head -/
theorem all_mk {l : PySem.W.OpenLaw} {w : World} {K : PySem.W.Frag} {h : Heap} {mg : Str → Option Value} {fa : Addr} (X : K.In h) (G : h.Ns mainGlobals mg) (hfa : mg "law" = some (.ref fa))
    {C_BadInterval : Addr}
    {f_law_state : Addr} {od_law_state an_law_state : Option Addr} {sl_law_state : Array (Option Value)} {oc_law_state kV_law_state dc_law_state pm_law_state cd_law_state ct_law_state : Value}
    {f_law_digit : Addr} {od_law_digit an_law_digit : Option Addr} {sl_law_digit : Array (Option Value)} {oc_law_digit kV_law_digit dc_law_digit pm_law_digit cd_law_digit ct_law_digit : Value}
    {f_law_intervals : Addr} {od_law_intervals an_law_intervals : Option Addr} {sl_law_intervals : Array (Option Value)} {oc_law_intervals kV_law_intervals dc_law_intervals pm_law_intervals cd_law_intervals ct_law_intervals : Value}
    {f_law_cell : Addr} {od_law_cell an_law_cell : Option Addr} {sl_law_cell : Array (Option Value)} {oc_law_cell kV_law_cell dc_law_cell pm_law_cell cd_law_cell ct_law_cell : Value}
    {f_check_intervals : Addr} {od_check_intervals an_check_intervals : Option Addr} {sl_check_intervals : Array (Option Value)} {oc_check_intervals kV_check_intervals dc_check_intervals pm_check_intervals cd_check_intervals ct_check_intervals : Value}
    {f_arrivals : Addr} {od_arrivals an_arrivals : Option Addr} {sl_arrivals : Array (Option Value)} {oc_arrivals kV_arrivals dc_arrivals pm_arrivals cd_arrivals ct_arrivals : Value}
    {f_kept_by_ends : Addr} {od_kept_by_ends an_kept_by_ends : Option Addr} {sl_kept_by_ends : Array (Option Value)} {oc_kept_by_ends kV_kept_by_ends dc_kept_by_ends pm_kept_by_ends cd_kept_by_ends ct_kept_by_ends : Value}
    {f_most_kept : Addr} {od_most_kept an_most_kept : Option Addr} {sl_most_kept : Array (Option Value)} {oc_most_kept kV_most_kept dc_most_kept pm_most_kept cd_most_kept ct_most_kept : Value}
    {f_limited : Addr} {od_limited an_limited : Option Addr} {sl_limited : Array (Option Value)} {oc_limited kV_limited dc_limited pm_limited cd_limited ct_limited : Value}
    {f_overflowing : Addr} {od_overflowing an_overflowing : Option Addr} {sl_overflowing : Array (Option Value)} {oc_overflowing kV_overflowing dc_overflowing pm_overflowing cd_overflowing ct_overflowing : Value}
    {f_law_over : Addr} {od_law_over an_law_over : Option Addr} {sl_law_over : Array (Option Value)} {oc_law_over kV_law_over dc_law_over pm_law_over cd_law_over ct_law_over : Value}
    {f_law_fits : Addr} {od_law_fits an_law_fits : Option Addr} {sl_law_fits : Array (Option Value)} {oc_law_fits kV_law_fits dc_law_fits pm_law_fits cd_law_fits ct_law_fits : Value}
    {f_law_most : Addr} {od_law_most an_law_most : Option Addr} {sl_law_most : Array (Option Value)} {oc_law_most kV_law_most dc_law_most pm_law_most cd_law_most ct_law_most : Value}
    {f_turns : Addr} {od_turns an_turns : Option Addr} {sl_turns : Array (Option Value)} {oc_turns kV_turns dc_turns pm_turns cd_turns ct_turns : Value}
    {f_load_at : Addr} {od_load_at an_load_at : Option Addr} {sl_load_at : Array (Option Value)} {oc_load_at kV_load_at dc_load_at pm_load_at cd_load_at ct_load_at : Value}
    {f_load_steps : Addr} {od_load_steps an_load_steps : Option Addr} {sl_load_steps : Array (Option Value)} {oc_load_steps kV_load_steps dc_load_steps pm_load_steps cd_load_steps ct_load_steps : Value}
    {f_peak : Addr} {od_peak an_peak : Option Addr} {sl_peak : Array (Option Value)} {oc_peak kV_peak dc_peak pm_peak cd_peak ct_peak : Value}
    {f_lost_count : Addr} {od_lost_count an_lost_count : Option Addr} {sl_lost_count : Array (Option Value)} {oc_lost_count kV_lost_count dc_lost_count pm_lost_count cd_lost_count ct_lost_count : Value}
    {f_least_places : Addr} {od_least_places an_least_places : Option Addr} {sl_least_places : Array (Option Value)} {oc_least_places kV_least_places dc_least_places pm_least_places cd_least_places ct_least_places : Value}
    {f_law_least : Addr} {od_law_least an_law_least : Option Addr} {sl_law_least : Array (Option Value)} {oc_law_least kV_law_least dc_law_least pm_law_least cd_law_least ct_law_least : Value}
    {f_law : Addr} {od_law an_law : Option Addr} {sl_law : Array (Option Value)} {oc_law kV_law dc_law pm_law cd_law ct_law : Value}
    (aC_BadInterval : PySem.W.nsIn K mainGlobals "BadInterval" = some (some (.ref C_BadInterval)))
    (xi_BadInterval : PySem.W.excIn K C_BadInterval [.type "ValueError", .type "Exception", .type "BaseException", .type "object"] "ValueError.__new__" = true)
    (xb_BadInterval : PySem.W.subIn K (.ref C_BadInterval) (.type "BaseException") = some true)
    (xt_BadInterval : PySem.W.typeIn K (.ref C_BadInterval) = some (.type "type"))
    (xk_BadInterval : PySem.W.keepIn K (.ref C_BadInterval) = true)
    (xc_BadInterval : PySem.W.isClsIn K C_BadInterval = true)
    (z_int : PySem.W.nsIn K mainGlobals "int" = some none)
    (z_len : PySem.W.nsIn K mainGlobals "len" = some none)
    (z_min : PySem.W.nsIn K mainGlobals "min" = some none)
    (z_range : PySem.W.nsIn K mainGlobals "range" = some none)
    (z_sorted : PySem.W.nsIn K mainGlobals "sorted" = some none)
    (a_law_state : PySem.W.nsIn K mainGlobals "_law_state" = some (some (.ref f_law_state)))
    (l_law_state : K.lookup f_law_state = some ⟨oc_law_state, od_law_state, .func (PySem.W.fnOf "_law_state" "_law_state" (defArgs s_law_state) (defBody s_law_state) (defScope s_law_state) .none kV_law_state dc_law_state pm_law_state an_law_state cd_law_state ct_law_state), sl_law_state⟩)
    (c_law_state : PySem.W.codeIn K cd_law_state "_law_state" = true)
    (k_law_state : PySem.W.keepIn K (.ref f_law_state) = true)
    (a_law_digit : PySem.W.nsIn K mainGlobals "_law_digit" = some (some (.ref f_law_digit)))
    (l_law_digit : K.lookup f_law_digit = some ⟨oc_law_digit, od_law_digit, .func (PySem.W.fnOf "_law_digit" "_law_digit" (defArgs s_law_digit) (defBody s_law_digit) (defScope s_law_digit) .none kV_law_digit dc_law_digit pm_law_digit an_law_digit cd_law_digit ct_law_digit), sl_law_digit⟩)
    (c_law_digit : PySem.W.codeIn K cd_law_digit "_law_digit" = true)
    (k_law_digit : PySem.W.keepIn K (.ref f_law_digit) = true)
    (a_law_intervals : PySem.W.nsIn K mainGlobals "_law_intervals" = some (some (.ref f_law_intervals)))
    (l_law_intervals : K.lookup f_law_intervals = some ⟨oc_law_intervals, od_law_intervals, .func (PySem.W.fnOf "_law_intervals" "_law_intervals" (defArgs s_law_intervals) (defBody s_law_intervals) (defScope s_law_intervals) .none kV_law_intervals dc_law_intervals pm_law_intervals an_law_intervals cd_law_intervals ct_law_intervals), sl_law_intervals⟩)
    (c_law_intervals : PySem.W.codeIn K cd_law_intervals "_law_intervals" = true)
    (k_law_intervals : PySem.W.keepIn K (.ref f_law_intervals) = true)
    (a_law_cell : PySem.W.nsIn K mainGlobals "_law_cell" = some (some (.ref f_law_cell)))
    (l_law_cell : K.lookup f_law_cell = some ⟨oc_law_cell, od_law_cell, .func (PySem.W.fnOf "_law_cell" "_law_cell" (defArgs s_law_cell) (defBody s_law_cell) (defScope s_law_cell) .none kV_law_cell dc_law_cell pm_law_cell an_law_cell cd_law_cell ct_law_cell), sl_law_cell⟩)
    (c_law_cell : PySem.W.codeIn K cd_law_cell "_law_cell" = true)
    (k_law_cell : PySem.W.keepIn K (.ref f_law_cell) = true)
    (a_check_intervals : PySem.W.nsIn K mainGlobals "check_intervals" = some (some (.ref f_check_intervals)))
    (l_check_intervals : K.lookup f_check_intervals = some ⟨oc_check_intervals, od_check_intervals, .func (PySem.W.fnOf "check_intervals" "check_intervals" (defArgs s_check_intervals) (defBody s_check_intervals) (defScope s_check_intervals) .none kV_check_intervals dc_check_intervals pm_check_intervals an_check_intervals cd_check_intervals ct_check_intervals), sl_check_intervals⟩)
    (c_check_intervals : PySem.W.codeIn K cd_check_intervals "check_intervals" = true)
    (k_check_intervals : PySem.W.keepIn K (.ref f_check_intervals) = true)
    (a_arrivals : PySem.W.nsIn K mainGlobals "arrivals" = some (some (.ref f_arrivals)))
    (l_arrivals : K.lookup f_arrivals = some ⟨oc_arrivals, od_arrivals, .func (PySem.W.fnOf "arrivals" "arrivals" (defArgs s_arrivals) (defBody s_arrivals) (defScope s_arrivals) .none kV_arrivals dc_arrivals pm_arrivals an_arrivals cd_arrivals ct_arrivals), sl_arrivals⟩)
    (c_arrivals : PySem.W.codeIn K cd_arrivals "arrivals" = true)
    (k_arrivals : PySem.W.keepIn K (.ref f_arrivals) = true)
    (a_kept_by_ends : PySem.W.nsIn K mainGlobals "kept_by_ends" = some (some (.ref f_kept_by_ends)))
    (l_kept_by_ends : K.lookup f_kept_by_ends = some ⟨oc_kept_by_ends, od_kept_by_ends, .func (PySem.W.fnOf "kept_by_ends" "kept_by_ends" (defArgs s_kept_by_ends) (defBody s_kept_by_ends) (defScope s_kept_by_ends) .none kV_kept_by_ends dc_kept_by_ends pm_kept_by_ends an_kept_by_ends cd_kept_by_ends ct_kept_by_ends), sl_kept_by_ends⟩)
    (c_kept_by_ends : PySem.W.codeIn K cd_kept_by_ends "kept_by_ends" = true)
    (k_kept_by_ends : PySem.W.keepIn K (.ref f_kept_by_ends) = true)
    (a_most_kept : PySem.W.nsIn K mainGlobals "most_kept" = some (some (.ref f_most_kept)))
    (l_most_kept : K.lookup f_most_kept = some ⟨oc_most_kept, od_most_kept, .func (PySem.W.fnOf "most_kept" "most_kept" (defArgs s_most_kept) (defBody s_most_kept) (defScope s_most_kept) .none kV_most_kept dc_most_kept pm_most_kept an_most_kept cd_most_kept ct_most_kept), sl_most_kept⟩)
    (c_most_kept : PySem.W.codeIn K cd_most_kept "most_kept" = true)
    (k_most_kept : PySem.W.keepIn K (.ref f_most_kept) = true)
    (a_limited : PySem.W.nsIn K mainGlobals "limited" = some (some (.ref f_limited)))
    (l_limited : K.lookup f_limited = some ⟨oc_limited, od_limited, .func (PySem.W.fnOf "limited" "limited" (defArgs s_limited) (defBody s_limited) (defScope s_limited) .none kV_limited dc_limited pm_limited an_limited cd_limited ct_limited), sl_limited⟩)
    (c_limited : PySem.W.codeIn K cd_limited "limited" = true)
    (k_limited : PySem.W.keepIn K (.ref f_limited) = true)
    (a_overflowing : PySem.W.nsIn K mainGlobals "overflowing" = some (some (.ref f_overflowing)))
    (l_overflowing : K.lookup f_overflowing = some ⟨oc_overflowing, od_overflowing, .func (PySem.W.fnOf "overflowing" "overflowing" (defArgs s_overflowing) (defBody s_overflowing) (defScope s_overflowing) .none kV_overflowing dc_overflowing pm_overflowing an_overflowing cd_overflowing ct_overflowing), sl_overflowing⟩)
    (c_overflowing : PySem.W.codeIn K cd_overflowing "overflowing" = true)
    (k_overflowing : PySem.W.keepIn K (.ref f_overflowing) = true)
    (a_law_over : PySem.W.nsIn K mainGlobals "_law_over" = some (some (.ref f_law_over)))
    (l_law_over : K.lookup f_law_over = some ⟨oc_law_over, od_law_over, .func (PySem.W.fnOf "_law_over" "_law_over" (defArgs s_law_over) (defBody s_law_over) (defScope s_law_over) .none kV_law_over dc_law_over pm_law_over an_law_over cd_law_over ct_law_over), sl_law_over⟩)
    (c_law_over : PySem.W.codeIn K cd_law_over "_law_over" = true)
    (k_law_over : PySem.W.keepIn K (.ref f_law_over) = true)
    (a_law_fits : PySem.W.nsIn K mainGlobals "_law_fits" = some (some (.ref f_law_fits)))
    (l_law_fits : K.lookup f_law_fits = some ⟨oc_law_fits, od_law_fits, .func (PySem.W.fnOf "_law_fits" "_law_fits" (defArgs s_law_fits) (defBody s_law_fits) (defScope s_law_fits) .none kV_law_fits dc_law_fits pm_law_fits an_law_fits cd_law_fits ct_law_fits), sl_law_fits⟩)
    (c_law_fits : PySem.W.codeIn K cd_law_fits "_law_fits" = true)
    (k_law_fits : PySem.W.keepIn K (.ref f_law_fits) = true)
    (a_law_most : PySem.W.nsIn K mainGlobals "_law_most" = some (some (.ref f_law_most)))
    (l_law_most : K.lookup f_law_most = some ⟨oc_law_most, od_law_most, .func (PySem.W.fnOf "_law_most" "_law_most" (defArgs s_law_most) (defBody s_law_most) (defScope s_law_most) .none kV_law_most dc_law_most pm_law_most an_law_most cd_law_most ct_law_most), sl_law_most⟩)
    (c_law_most : PySem.W.codeIn K cd_law_most "_law_most" = true)
    (k_law_most : PySem.W.keepIn K (.ref f_law_most) = true)
    (a_turns : PySem.W.nsIn K mainGlobals "turns" = some (some (.ref f_turns)))
    (l_turns : K.lookup f_turns = some ⟨oc_turns, od_turns, .func (PySem.W.fnOf "turns" "turns" (defArgs s_turns) (defBody s_turns) (defScope s_turns) .none kV_turns dc_turns pm_turns an_turns cd_turns ct_turns), sl_turns⟩)
    (c_turns : PySem.W.codeIn K cd_turns "turns" = true)
    (k_turns : PySem.W.keepIn K (.ref f_turns) = true)
    (a_load_at : PySem.W.nsIn K mainGlobals "load_at" = some (some (.ref f_load_at)))
    (l_load_at : K.lookup f_load_at = some ⟨oc_load_at, od_load_at, .func (PySem.W.fnOf "load_at" "load_at" (defArgs s_load_at) (defBody s_load_at) (defScope s_load_at) .none kV_load_at dc_load_at pm_load_at an_load_at cd_load_at ct_load_at), sl_load_at⟩)
    (c_load_at : PySem.W.codeIn K cd_load_at "load_at" = true)
    (k_load_at : PySem.W.keepIn K (.ref f_load_at) = true)
    (a_load_steps : PySem.W.nsIn K mainGlobals "load_steps" = some (some (.ref f_load_steps)))
    (l_load_steps : K.lookup f_load_steps = some ⟨oc_load_steps, od_load_steps, .func (PySem.W.fnOf "load_steps" "load_steps" (defArgs s_load_steps) (defBody s_load_steps) (defScope s_load_steps) .none kV_load_steps dc_load_steps pm_load_steps an_load_steps cd_load_steps ct_load_steps), sl_load_steps⟩)
    (c_load_steps : PySem.W.codeIn K cd_load_steps "load_steps" = true)
    (k_load_steps : PySem.W.keepIn K (.ref f_load_steps) = true)
    (a_peak : PySem.W.nsIn K mainGlobals "peak" = some (some (.ref f_peak)))
    (l_peak : K.lookup f_peak = some ⟨oc_peak, od_peak, .func (PySem.W.fnOf "peak" "peak" (defArgs s_peak) (defBody s_peak) (defScope s_peak) .none kV_peak dc_peak pm_peak an_peak cd_peak ct_peak), sl_peak⟩)
    (c_peak : PySem.W.codeIn K cd_peak "peak" = true)
    (k_peak : PySem.W.keepIn K (.ref f_peak) = true)
    (a_lost_count : PySem.W.nsIn K mainGlobals "lost_count" = some (some (.ref f_lost_count)))
    (l_lost_count : K.lookup f_lost_count = some ⟨oc_lost_count, od_lost_count, .func (PySem.W.fnOf "lost_count" "lost_count" (defArgs s_lost_count) (defBody s_lost_count) (defScope s_lost_count) .none kV_lost_count dc_lost_count pm_lost_count an_lost_count cd_lost_count ct_lost_count), sl_lost_count⟩)
    (c_lost_count : PySem.W.codeIn K cd_lost_count "lost_count" = true)
    (k_lost_count : PySem.W.keepIn K (.ref f_lost_count) = true)
    (a_least_places : PySem.W.nsIn K mainGlobals "least_places" = some (some (.ref f_least_places)))
    (l_least_places : K.lookup f_least_places = some ⟨oc_least_places, od_least_places, .func (PySem.W.fnOf "least_places" "least_places" (defArgs s_least_places) (defBody s_least_places) (defScope s_least_places) .none kV_least_places dc_least_places pm_least_places an_least_places cd_least_places ct_least_places), sl_least_places⟩)
    (c_least_places : PySem.W.codeIn K cd_least_places "least_places" = true)
    (k_least_places : PySem.W.keepIn K (.ref f_least_places) = true)
    (a_law_least : PySem.W.nsIn K mainGlobals "_law_least" = some (some (.ref f_law_least)))
    (l_law_least : K.lookup f_law_least = some ⟨oc_law_least, od_law_least, .func (PySem.W.fnOf "_law_least" "_law_least" (defArgs s_law_least) (defBody s_law_least) (defScope s_law_least) .none kV_law_least dc_law_least pm_law_least an_law_least cd_law_least ct_law_least), sl_law_least⟩)
    (c_law_least : PySem.W.codeIn K cd_law_least "_law_least" = true)
    (k_law_least : PySem.W.keepIn K (.ref f_law_least) = true)
    (a_law : PySem.W.nsIn K mainGlobals "law" = some (some (.ref f_law)))
    (l_law : K.lookup f_law = some ⟨oc_law, od_law, .func (PySem.W.fnOf "law" "law" (defArgs s_law) (defBody s_law) (defScope s_law) .none kV_law dc_law pm_law an_law cd_law ct_law), sl_law⟩)
    (c_law : PySem.W.codeIn K cd_law "law" = true)
    (k_law : PySem.W.keepIn K (.ref f_law) = true)
    : ∃ (A : Ad) (fd : FuncData), (∀ (s : Shared) (v : Value), BindsTo s fd ⟨[v], []⟩ [("script", v)]) ∧ ∀ base : Heap, K.In base → base.Ns mainGlobals mg → FnOk l.prog w K mg base CX0 5 fa fd ["script"] (spD K (R_law A)) := by
  have e := hfa.symm.trans (PySem.W.mg_of X G a_law)
  cases e
  have F_law_state := fun_mk (st := s_law_state) l_law_state c_law_state k_law_state
  have b_law_state := F_law_state.binds (ps := ["cell", "k"]) fun _ _ _ _ _ _ us hl => match us, hl with | [_, _], _ => rfl
  have F_law_digit := fun_mk (st := s_law_digit) l_law_digit c_law_digit k_law_digit
  have b_law_digit := F_law_digit.binds (ps := ["state", "many"]) fun _ _ _ _ _ _ us hl => match us, hl with | [_, _], _ => rfl
  have F_law_intervals := fun_mk (st := s_law_intervals) l_law_intervals c_law_intervals k_law_intervals
  have b_law_intervals := F_law_intervals.binds (ps := ["state", "many", "wide"]) fun _ _ _ _ _ _ us hl => match us, hl with | [_, _, _], _ => rfl
  have F_law_cell := fun_mk (st := s_law_cell) l_law_cell c_law_cell k_law_cell
  have b_law_cell := F_law_cell.binds (ps := ["script", "k"]) fun _ _ _ _ _ _ us hl => match us, hl with | [_, _], _ => rfl
  have F_check_intervals := fun_mk (st := s_check_intervals) l_check_intervals c_check_intervals k_check_intervals
  have b_check_intervals := F_check_intervals.binds (ps := ["intervals"]) fun _ _ _ _ _ _ us hl => match us, hl with | [_], _ => rfl
  have F_arrivals := fun_mk (st := s_arrivals) l_arrivals c_arrivals k_arrivals
  have b_arrivals := F_arrivals.binds (ps := ["intervals"]) fun _ _ _ _ _ _ us hl => match us, hl with | [_], _ => rfl
  have F_kept_by_ends := fun_mk (st := s_kept_by_ends) l_kept_by_ends c_kept_by_ends k_kept_by_ends
  have b_kept_by_ends := F_kept_by_ends.binds (ps := ["intervals", "count"]) fun _ _ _ _ _ _ us hl => match us, hl with | [_, _], _ => rfl
  have F_most_kept := fun_mk (st := s_most_kept) l_most_kept c_most_kept k_most_kept
  have b_most_kept := F_most_kept.binds (ps := ["intervals", "count"]) fun _ _ _ _ _ _ us hl => match us, hl with | [_, _], _ => rfl
  have F_limited := fun_mk (st := s_limited) l_limited c_limited k_limited
  have b_limited := F_limited.binds (ps := ["intervals", "count"]) fun _ _ _ _ _ _ us hl => match us, hl with | [_, _], _ => rfl
  have F_overflowing := fun_mk (st := s_overflowing) l_overflowing c_overflowing k_overflowing
  have b_overflowing := F_overflowing.binds (ps := ["intervals", "first", "second"]) fun _ _ _ _ _ _ us hl => match us, hl with | [_, _, _], _ => rfl
  have F_law_over := fun_mk (st := s_law_over) l_law_over c_law_over k_law_over
  have b_law_over := F_law_over.binds (ps := ["intervals", "first", "second"]) fun _ _ _ _ _ _ us hl => match us, hl with | [_, _, _], _ => rfl
  have F_law_fits := fun_mk (st := s_law_fits) l_law_fits c_law_fits k_law_fits
  have b_law_fits := F_law_fits.binds (ps := ["chosen", "count"]) fun _ _ _ _ _ _ us hl => match us, hl with | [_, _], _ => rfl
  have F_law_most := fun_mk (st := s_law_most) l_law_most c_law_most k_law_most
  have b_law_most := F_law_most.binds (ps := ["intervals", "count"]) fun _ _ _ _ _ _ us hl => match us, hl with | [_, _], _ => rfl
  have F_turns := fun_mk (st := s_turns) l_turns c_turns k_turns
  have b_turns := F_turns.binds (ps := ["intervals"]) fun _ _ _ _ _ _ us hl => match us, hl with | [_], _ => rfl
  have F_load_at := fun_mk (st := s_load_at) l_load_at c_load_at k_load_at
  have b_load_at := F_load_at.binds (ps := ["intervals", "clock"]) fun _ _ _ _ _ _ us hl => match us, hl with | [_, _], _ => rfl
  have F_load_steps := fun_mk (st := s_load_steps) l_load_steps c_load_steps k_load_steps
  have b_load_steps := F_load_steps.binds (ps := ["intervals"]) fun _ _ _ _ _ _ us hl => match us, hl with | [_], _ => rfl
  have F_peak := fun_mk (st := s_peak) l_peak c_peak k_peak
  have b_peak := F_peak.binds (ps := ["intervals"]) fun _ _ _ _ _ _ us hl => match us, hl with | [_], _ => rfl
  have F_lost_count := fun_mk (st := s_lost_count) l_lost_count c_lost_count k_lost_count
  have b_lost_count := F_lost_count.binds (ps := ["intervals", "count"]) fun _ _ _ _ _ _ us hl => match us, hl with | [_, _], _ => rfl
  have F_least_places := fun_mk (st := s_least_places) l_least_places c_least_places k_least_places
  have b_least_places := F_least_places.binds (ps := ["intervals", "share"]) fun _ _ _ _ _ _ us hl => match us, hl with | [_, _], _ => rfl
  have F_law_least := fun_mk (st := s_law_least) l_law_least c_law_least k_law_least
  have b_law_least := F_law_least.binds (ps := ["intervals", "share"]) fun _ _ _ _ _ _ us hl => match us, hl with | [_, _], _ => rfl
  have F_law := fun_mk (st := s_law) l_law c_law k_law
  have b_law := F_law.binds (ps := ["script"]) fun _ _ _ _ _ _ us hl => match us, hl with | [_], _ => rfl
  let A : Ad := { a_law_state := f_law_state, d_law_state := PySem.W.fnOf "_law_state" "_law_state" (defArgs s_law_state) (defBody s_law_state) (defScope s_law_state) .none kV_law_state dc_law_state pm_law_state an_law_state cd_law_state ct_law_state, a_law_digit := f_law_digit, d_law_digit := PySem.W.fnOf "_law_digit" "_law_digit" (defArgs s_law_digit) (defBody s_law_digit) (defScope s_law_digit) .none kV_law_digit dc_law_digit pm_law_digit an_law_digit cd_law_digit ct_law_digit, a_law_intervals := f_law_intervals, d_law_intervals := PySem.W.fnOf "_law_intervals" "_law_intervals" (defArgs s_law_intervals) (defBody s_law_intervals) (defScope s_law_intervals) .none kV_law_intervals dc_law_intervals pm_law_intervals an_law_intervals cd_law_intervals ct_law_intervals, a_law_cell := f_law_cell, d_law_cell := PySem.W.fnOf "_law_cell" "_law_cell" (defArgs s_law_cell) (defBody s_law_cell) (defScope s_law_cell) .none kV_law_cell dc_law_cell pm_law_cell an_law_cell cd_law_cell ct_law_cell, a_check_intervals := f_check_intervals, d_check_intervals := PySem.W.fnOf "check_intervals" "check_intervals" (defArgs s_check_intervals) (defBody s_check_intervals) (defScope s_check_intervals) .none kV_check_intervals dc_check_intervals pm_check_intervals an_check_intervals cd_check_intervals ct_check_intervals, a_arrivals := f_arrivals, d_arrivals := PySem.W.fnOf "arrivals" "arrivals" (defArgs s_arrivals) (defBody s_arrivals) (defScope s_arrivals) .none kV_arrivals dc_arrivals pm_arrivals an_arrivals cd_arrivals ct_arrivals, a_kept_by_ends := f_kept_by_ends, d_kept_by_ends := PySem.W.fnOf "kept_by_ends" "kept_by_ends" (defArgs s_kept_by_ends) (defBody s_kept_by_ends) (defScope s_kept_by_ends) .none kV_kept_by_ends dc_kept_by_ends pm_kept_by_ends an_kept_by_ends cd_kept_by_ends ct_kept_by_ends, a_most_kept := f_most_kept, d_most_kept := PySem.W.fnOf "most_kept" "most_kept" (defArgs s_most_kept) (defBody s_most_kept) (defScope s_most_kept) .none kV_most_kept dc_most_kept pm_most_kept an_most_kept cd_most_kept ct_most_kept, a_limited := f_limited, d_limited := PySem.W.fnOf "limited" "limited" (defArgs s_limited) (defBody s_limited) (defScope s_limited) .none kV_limited dc_limited pm_limited an_limited cd_limited ct_limited, a_overflowing := f_overflowing, d_overflowing := PySem.W.fnOf "overflowing" "overflowing" (defArgs s_overflowing) (defBody s_overflowing) (defScope s_overflowing) .none kV_overflowing dc_overflowing pm_overflowing an_overflowing cd_overflowing ct_overflowing, a_law_over := f_law_over, d_law_over := PySem.W.fnOf "_law_over" "_law_over" (defArgs s_law_over) (defBody s_law_over) (defScope s_law_over) .none kV_law_over dc_law_over pm_law_over an_law_over cd_law_over ct_law_over, a_law_fits := f_law_fits, d_law_fits := PySem.W.fnOf "_law_fits" "_law_fits" (defArgs s_law_fits) (defBody s_law_fits) (defScope s_law_fits) .none kV_law_fits dc_law_fits pm_law_fits an_law_fits cd_law_fits ct_law_fits, a_law_most := f_law_most, d_law_most := PySem.W.fnOf "_law_most" "_law_most" (defArgs s_law_most) (defBody s_law_most) (defScope s_law_most) .none kV_law_most dc_law_most pm_law_most an_law_most cd_law_most ct_law_most, a_turns := f_turns, d_turns := PySem.W.fnOf "turns" "turns" (defArgs s_turns) (defBody s_turns) (defScope s_turns) .none kV_turns dc_turns pm_turns an_turns cd_turns ct_turns, a_load_at := f_load_at, d_load_at := PySem.W.fnOf "load_at" "load_at" (defArgs s_load_at) (defBody s_load_at) (defScope s_load_at) .none kV_load_at dc_load_at pm_load_at an_load_at cd_load_at ct_load_at, a_load_steps := f_load_steps, d_load_steps := PySem.W.fnOf "load_steps" "load_steps" (defArgs s_load_steps) (defBody s_load_steps) (defScope s_load_steps) .none kV_load_steps dc_load_steps pm_load_steps an_load_steps cd_load_steps ct_load_steps, a_peak := f_peak, d_peak := PySem.W.fnOf "peak" "peak" (defArgs s_peak) (defBody s_peak) (defScope s_peak) .none kV_peak dc_peak pm_peak an_peak cd_peak ct_peak, a_lost_count := f_lost_count, d_lost_count := PySem.W.fnOf "lost_count" "lost_count" (defArgs s_lost_count) (defBody s_lost_count) (defScope s_lost_count) .none kV_lost_count dc_lost_count pm_lost_count an_lost_count cd_lost_count ct_lost_count, a_least_places := f_least_places, d_least_places := PySem.W.fnOf "least_places" "least_places" (defArgs s_least_places) (defBody s_least_places) (defScope s_least_places) .none kV_least_places dc_least_places pm_least_places an_least_places cd_least_places ct_least_places, a_law_least := f_law_least, d_law_least := PySem.W.fnOf "_law_least" "_law_least" (defArgs s_law_least) (defBody s_law_least) (defScope s_law_least) .none kV_law_least dc_law_least pm_law_least an_law_least cd_law_least ct_law_least, a_law := fa, d_law := PySem.W.fnOf "law" "law" (defArgs s_law) (defBody s_law) (defScope s_law) .none kV_law dc_law pm_law an_law cd_law ct_law, C_BadInterval := C_BadInterval }
  have T : Txt K mg A := { F_law_state := F_law_state, b_law_state := b_law_state, g_law_state := PySem.W.mg_of X G a_law_state, F_law_digit := F_law_digit, b_law_digit := b_law_digit, g_law_digit := PySem.W.mg_of X G a_law_digit, F_law_intervals := F_law_intervals, b_law_intervals := b_law_intervals, g_law_intervals := PySem.W.mg_of X G a_law_intervals, F_law_cell := F_law_cell, b_law_cell := b_law_cell, g_law_cell := PySem.W.mg_of X G a_law_cell, F_check_intervals := F_check_intervals, b_check_intervals := b_check_intervals, g_check_intervals := PySem.W.mg_of X G a_check_intervals, F_arrivals := F_arrivals, b_arrivals := b_arrivals, g_arrivals := PySem.W.mg_of X G a_arrivals, F_kept_by_ends := F_kept_by_ends, b_kept_by_ends := b_kept_by_ends, g_kept_by_ends := PySem.W.mg_of X G a_kept_by_ends, F_most_kept := F_most_kept, b_most_kept := b_most_kept, g_most_kept := PySem.W.mg_of X G a_most_kept, F_limited := F_limited, b_limited := b_limited, g_limited := PySem.W.mg_of X G a_limited, F_overflowing := F_overflowing, b_overflowing := b_overflowing, g_overflowing := PySem.W.mg_of X G a_overflowing, F_law_over := F_law_over, b_law_over := b_law_over, g_law_over := PySem.W.mg_of X G a_law_over, F_law_fits := F_law_fits, b_law_fits := b_law_fits, g_law_fits := PySem.W.mg_of X G a_law_fits, F_law_most := F_law_most, b_law_most := b_law_most, g_law_most := PySem.W.mg_of X G a_law_most, F_turns := F_turns, b_turns := b_turns, g_turns := PySem.W.mg_of X G a_turns, F_load_at := F_load_at, b_load_at := b_load_at, g_load_at := PySem.W.mg_of X G a_load_at, F_load_steps := F_load_steps, b_load_steps := b_load_steps, g_load_steps := PySem.W.mg_of X G a_load_steps, F_peak := F_peak, b_peak := b_peak, g_peak := PySem.W.mg_of X G a_peak, F_lost_count := F_lost_count, b_lost_count := b_lost_count, g_lost_count := PySem.W.mg_of X G a_lost_count, F_least_places := F_least_places, b_least_places := b_least_places, g_least_places := PySem.W.mg_of X G a_least_places, F_law_least := F_law_least, b_law_least := b_law_least, g_law_least := PySem.W.mg_of X G a_law_least, F_law := F_law, b_law := b_law, g_law := PySem.W.mg_of X G a_law, g_BadInterval := PySem.W.mg_of X G aC_BadInterval, x_BadInterval := ⟨xi_BadInterval, xb_BadInterval, xt_BadInterval, xk_BadInterval⟩, z_int := PySem.W.mg_none_of X G z_int, z_len := PySem.W.mg_none_of X G z_len, z_min := PySem.W.mg_none_of X G z_min, z_range := PySem.W.mg_none_of X G z_range, z_sorted := PySem.W.mg_none_of X G z_sorted }
  exact ⟨A, A.d_law, fun s v => .of_eq rfl, fun base _ _ => ok_law T⟩
theorem walk {l : PySem.W.OpenLaw} {q : Program} {loose : List Str} {XP : (Str → Option Value) → Heap → Prop} {YP : World → Heap → Prop} {d : DefRec} {K : Params → PySem.W.Frag} (hn : l.most = some 63) (hdf : d.params.defaults = [])
    (hY : ∀ (w : World) (h : Heap), YP w h → (K w.params).In h)
    (F : ∀ (w : World) (mg : Str → Option Value) (fa : Addr) (h : Heap), (K w.params).In h → h.Ns mainGlobals mg → mg d.name = some (.ref fa) →
      ∃ (A : Ad) (fd : FuncData), (∀ (s : Shared) (u : Value), BindsTo s fd ⟨[u], []⟩ [("script", u)]) ∧ ∀ base : Heap, (K w.params).In base → base.Ns mainGlobals mg → FnOk l.prog w (K w.params) mg base CX0 5 fa fd ["script"] (spD (K w.params) (R_law A))) :
    PySem.W.WalkO q loose XP YP l.row.toRowW d [] (fun f vs => PySem.call f vs) :=
  L2.walk_of (n := 63) (k := 5) (x := "script") (CX := fun _ => CX0) (sp := fun w => spLawD (K w.params)) hn (by decide) hdf ⟨rfl, by decide, by decide⟩ hY (fun w mg fa h KX G hm => by
    obtain ⟨A, fd, b, G⟩ := F w mg fa h KX G hm
    exact ⟨fd, b, fun base h1 h2 => (G base h1 h2).imp (spLaw_imp (R_law A) (law_go A))⟩) (fun _ _ a ns hl _ hS => ⟨a, ns, rfl, hS, hl, fun _ => rfl⟩) fun _ _ _ _ _ z => z
end Law

open PySem PySem.W PyProof.Rows in
set_option maxRecDepth 100000 in
set_option maxHeartbeats 0 in
theorem PySem.Challenge.cw_copperhouse_k20_how_many_places_holds : PySem.Challenge.rw_copperhouse_k20_how_many_places.Holds := by
  w_on; o_law; k_head; (case hw => w_witness2)
  k_fill
  refine Law.walk (l := PySem.Challenge.rw_copperhouse_k20_how_many_places) rfl rfl (fun w h Y => PySem.W.kIn_of Y) ?F
  case F =>
    intro w mg fa h KX G hmg
    refine' Law.all_mk KX G hmg ?aC_BadInterval ?xi_BadInterval ?xb_BadInterval ?xt_BadInterval ?xk_BadInterval ?xc_BadInterval ?z_int ?z_len ?z_min ?z_range ?z_sorted ?a_law_state ?l_law_state ?c_law_state ?k_law_state ?a_law_digit ?l_law_digit ?c_law_digit ?k_law_digit ?a_law_intervals ?l_law_intervals ?c_law_intervals ?k_law_intervals ?a_law_cell ?l_law_cell ?c_law_cell ?k_law_cell ?a_check_intervals ?l_check_intervals ?c_check_intervals ?k_check_intervals ?a_arrivals ?l_arrivals ?c_arrivals ?k_arrivals ?a_kept_by_ends ?l_kept_by_ends ?c_kept_by_ends ?k_kept_by_ends ?a_most_kept ?l_most_kept ?c_most_kept ?k_most_kept ?a_limited ?l_limited ?c_limited ?k_limited ?a_overflowing ?l_overflowing ?c_overflowing ?k_overflowing ?a_law_over ?l_law_over ?c_law_over ?k_law_over ?a_law_fits ?l_law_fits ?c_law_fits ?k_law_fits ?a_law_most ?l_law_most ?c_law_most ?k_law_most ?a_turns ?l_turns ?c_turns ?k_turns ?a_load_at ?l_load_at ?c_load_at ?k_load_at ?a_load_steps ?l_load_steps ?c_load_steps ?k_load_steps ?a_peak ?l_peak ?c_peak ?k_peak ?a_lost_count ?l_lost_count ?c_lost_count ?k_lost_count ?a_least_places ?l_least_places ?c_least_places ?k_least_places ?a_law_least ?l_law_least ?c_law_least ?k_law_least ?a_law ?l_law ?c_law ?k_law
    (case aC_BadInterval => k_is)
    (case xi_BadInterval => k_exc)
    (case xb_BadInterval => k_is)
    (case xt_BadInterval => k_is)
    (case xk_BadInterval => k_is)
    (case xc_BadInterval => k_is)
    (case z_int => k_is)
    (case z_len => k_is)
    (case z_min => k_is)
    (case z_range => k_is)
    (case z_sorted => k_is)
    (case a_law_state => k_is)
    (case l_law_state => k_is)
    (case c_law_state => k_is)
    (case k_law_state => k_is)
    (case a_law_digit => k_is)
    (case l_law_digit => k_is)
    (case c_law_digit => k_is)
    (case k_law_digit => k_is)
    (case a_law_intervals => k_is)
    (case l_law_intervals => k_is)
    (case c_law_intervals => k_is)
    (case k_law_intervals => k_is)
    (case a_law_cell => k_is)
    (case l_law_cell => k_is)
    (case c_law_cell => k_is)
    (case k_law_cell => k_is)
    (case a_check_intervals => k_is)
    (case l_check_intervals => k_is)
    (case c_check_intervals => k_is)
    (case k_check_intervals => k_is)
    (case a_arrivals => k_is)
    (case l_arrivals => k_is)
    (case c_arrivals => k_is)
    (case k_arrivals => k_is)
    (case a_kept_by_ends => k_is)
    (case l_kept_by_ends => k_is)
    (case c_kept_by_ends => k_is)
    (case k_kept_by_ends => k_is)
    (case a_most_kept => k_is)
    (case l_most_kept => k_is)
    (case c_most_kept => k_is)
    (case k_most_kept => k_is)
    (case a_limited => k_is)
    (case l_limited => k_is)
    (case c_limited => k_is)
    (case k_limited => k_is)
    (case a_overflowing => k_is)
    (case l_overflowing => k_is)
    (case c_overflowing => k_is)
    (case k_overflowing => k_is)
    (case a_law_over => k_is)
    (case l_law_over => k_is)
    (case c_law_over => k_is)
    (case k_law_over => k_is)
    (case a_law_fits => k_is)
    (case l_law_fits => k_is)
    (case c_law_fits => k_is)
    (case k_law_fits => k_is)
    (case a_law_most => k_is)
    (case l_law_most => k_is)
    (case c_law_most => k_is)
    (case k_law_most => k_is)
    (case a_turns => k_is)
    (case l_turns => k_is)
    (case c_turns => k_is)
    (case k_turns => k_is)
    (case a_load_at => k_is)
    (case l_load_at => k_is)
    (case c_load_at => k_is)
    (case k_load_at => k_is)
    (case a_load_steps => k_is)
    (case l_load_steps => k_is)
    (case c_load_steps => k_is)
    (case k_load_steps => k_is)
    (case a_peak => k_is)
    (case l_peak => k_is)
    (case c_peak => k_is)
    (case k_peak => k_is)
    (case a_lost_count => k_is)
    (case l_lost_count => k_is)
    (case c_lost_count => k_is)
    (case k_lost_count => k_is)
    (case a_least_places => k_is)
    (case l_least_places => k_is)
    (case c_least_places => k_is)
    (case k_least_places => k_is)
    (case a_law_least => k_is)
    (case l_law_least => k_is)
    (case c_law_least => k_is)
    (case k_law_least => k_is)
    (case a_law => k_is)
    (case l_law => k_is)
    (case c_law => k_is)
    (case k_law => k_is)
