import PyProof.Rows.All
import Wide.All
import OpenK.AllK
import Wide.FinOn
import HandS.ForMost
import HandS.Exc
import HandS.TryOnly
import HandS.ExcOwn
import HandS.WordsExc
import HandS.CallSlots
import HandS.Wide
import HandS.SortInts
import PyProof.Rows.SeqMore
import KE.SortData
import HandS.TupAny
import HandS.Flt
import HandS.More
import HandS.Conv
import HandS.TupLen
import KE.KEqDict
import HandS.DeepEq
import KE.DataMinMax
import PySem.Challenge.RW_copperhouse_k28_alarms_of_a_watch

set_option Elab.async false
set_option linter.all false
set_option maxRecDepth 100000
set_option maxHeartbeats 4000000
/-! A layer of plain data over the hand layer: values as trees (D), what may still change as cells, readings that speak of these alone. -/
namespace DD
open PySem L2

/-! ### data -/
inductive D where
  | non | bl (b : Bool) | int (i : Int) | str (x : Str)
  | tup (xs : List D) | lst (xs : List D) | ins (C : Addr) (fs : List (String × D)) | ptr (a : Addr) | ktup (xs : List D)
  | dK (kvs : List (L2.Key × D)) | dT (kvs : List (List L2.Key × D))
instance : Inhabited D := ⟨.non⟩
inductive Cell where
  | lst (xs : List D) | ins (C : Addr) (fs : List (String × D)) | dK (kvs : List (L2.Key × D)) | dT (kvs : List (List L2.Key × D))
  | lK (kvs : List (L2.Key × D)) (od : Obj) (vs : List (L2.Key × V)) | lT (kvs : List (List L2.Key × D)) (od : Obj) (vs : List (List L2.Key × V))
abbrev Cells := Addr → Option Cell
abbrev DEnv := List (Option D)
def cput (C : Cells) (a : Addr) (c : Cell) : Cells := fun b => if b = a then some c else C b
theorem cput_same {C : Cells} {a : Addr} {c : Cell} : cput C a c a = some c := by unfold cput; rw [if_pos rfl]
theorem cput_ne {C : Cells} {a b : Addr} {c : Cell} (h : b ≠ a) : cput C a c b = C b := by unfold cput; rw [if_neg h]
theorem cput_cput {C : Cells} {a : Addr} {c d : Cell} : cput (cput C a c) a d = cput C a d := by
  funext b; unfold cput; split <;> rfl
/-- nothing more is claimed -/
def Sub (C C' : Cells) : Prop := ∀ a c, C a = some c → C' a = some c
theorem Sub.refl (C : Cells) : Sub C C := fun _ _ h => h
theorem Sub.trans {A B C : Cells} (h : Sub A B) (g : Sub B C) : Sub A C := fun a c e => g a c (h a c e)
theorem Sub.new {C : Cells} {a : Addr} {c : Cell} (h : C a = none) : Sub C (cput C a c) := fun b d e => by
  by_cases q : b = a
  · rw [q, h] at e; cases e
  · rw [cput_ne q]; exact e
theorem Sub.put {C C' : Cells} {a : Addr} {c : Cell} (s : Sub C C') (h : C a = none) : Sub C (cput C' a c) := fun b d e => by
  by_cases q : b = a
  · rw [q, h] at e; cases e
  · rw [cput_ne q]; exact s b d e
theorem cell_ne {C : Cells} {a b : Addr} {c : Cell} (h : C a = some c) (g : C b = none) : a ≠ b := fun e => by
  rw [e, g] at h; cases h
theorem cell_ne' {C : Cells} {a b : Addr} {c : Cell} (h : C a = some c) (g : C b = none) : b ≠ a := fun e => cell_ne h g e.symm

/-! ### heaps: what is known stays -/
/-- what may be locked for a while -/
def lockable : HO → Bool
  | .dK _ => true
  | .dT _ => true
  | _ => false
def Ex (H H' : Hp) : Prop := ∀ a o, H a = some o → H' a = some o ∨ (lockable o = true ∧ ∃ od, H' a = some (.frz od o))
theorem Ex.refl (H : Hp) : Ex H H := fun _ _ h => .inl h
theorem Ex.trans {H H1 H2 : Hp} (a : Ex H H1) (b : Ex H1 H2) : Ex H H2 := fun x o h => by
  rcases a x o h with h1 | ⟨l, od, h1⟩
  · exact b x o h1
  · rcases b x _ h1 with h2 | ⟨l2, _⟩
    · exact .inr ⟨l, od, h2⟩
    · cases l2
theorem Ex.nd {H H' : Hp} (e : Ex H H') {a : Addr} {o : HO} (h : H a = some o) (n : lockable o = false) : H' a = some o := by
  rcases e a o h with h1 | ⟨l, _⟩
  · exact h1
  · rw [n] at l; cases l
theorem Ex.some {H H' : Hp} (e : Ex H H') {a : Addr} {o : HO} (h : H a = some o) : ∃ u, H' a = some u := by
  rcases e a o h with h1 | ⟨_, od, h1⟩
  · exact ⟨_, h1⟩
  · exact ⟨_, h1⟩
theorem Ex.new {H : Hp} {p : Addr} {o : HO} (h : H p = none) : Ex H (upd H p o) := fun a u e => by
  rw [upd_ne (ne_of_none e h)]
  exact .inl e
theorem Ex.mut {H H' : Hp} {p : Addr} {o : HO} (e : Ex H H') (h : H p = none) : Ex H (upd H' p o) := fun a u ha => by
  rw [upd_ne (ne_of_none ha h)]
  exact e a u ha
theorem Ex.free {H H' : Hp} {p : Addr} (e : Ex H H') (h : H' p = none) : H p = none := by
  cases h1 : H p with
  | none => rfl
  | some o =>
    obtain ⟨u, h2⟩ := e.some h1
    rw [h2] at h
    cases h
theorem ex_rd {H H' : Hp} {a : Addr} {u : HO} (e : Ex H H') (h : Rd H a u) : Rd H' a u := by
  rcases h with h | ⟨o, h⟩
  · rcases e a _ h with h1 | ⟨_, od, h1⟩
    · exact Or.inl h1
    · exact Or.inr ⟨od, h1⟩
  · exact Or.inr ⟨o, e.nd h rfl⟩
theorem ex_l {K : PySem.W.Frag} {H H' : Hp} {a : Addr} {xs : List V} (e : Ex H H') (h : SqL K H a xs) : SqL K H' a xs := by
  rcases h with h | h
  · exact Or.inl (ex_rd e h)
  · exact Or.inr h
theorem ex_t {K : PySem.W.Frag} {H H' : Hp} {a : Addr} {xs : List V} (e : Ex H H') (h : SqT K H a xs) : SqT K H' a xs := by
  rcases h with h | h
  · exact Or.inl (ex_rd e h)
  · exact Or.inr h

/-! ### what a value stands for -/
mutual
inductive Rep (K : PySem.W.Frag) (F : Hp) : V → D → Prop
  | non : Rep K F .non .non
  | bl (b : Bool) : Rep K F (.bl b) (.bl b)
  | int (i : Int) : Rep K F (.int i) (.int i)
  | str (x : Str) : Rep K F (.str x) (.str x)
  | tup {a : Addr} {xs : List V} {ds : List D} : F a = some (.tup xs) → RepL K F xs ds → Rep K F (.ref a) (.tup ds)
  | ktup {a : Addr} {xs : List V} {ds : List D} : SqT K F a xs → RepL K F xs ds → Rep K F (.ref a) (.ktup ds)
  | lst {a : Addr} {xs : List V} {ds : List D} : SqL K F a xs → RepL K F xs ds → Rep K F (.ref a) (.lst ds)
  | ins {a C dx : Addr} {gs : List (Str × V)} {fs : List (String × D)} : F a = some (.ins C dx gs) → RepF K F gs fs → Rep K F (.ref a) (.ins C fs)
  | ptr (a : Addr) : Rep K F (.ref a) (.ptr a)
  | dK {a : Addr} {od : Obj} {vs : List (L2.Key × V)} {kvs : List (L2.Key × D)} : F a = some (.frz od (.dK vs)) → RepK K F vs kvs → Rep K F (.ref a) (.dK kvs)
  | dT {a : Addr} {od : Obj} {vs : List (List L2.Key × V)} {kvs : List (List L2.Key × D)} : F a = some (.frz od (.dT vs)) → RepT K F vs kvs → Rep K F (.ref a) (.dT kvs)
inductive RepL (K : PySem.W.Frag) (F : Hp) : List V → List D → Prop
  | nil : RepL K F [] []
  | cons {v : V} {vs : List V} {d : D} {ds : List D} : Rep K F v d → RepL K F vs ds → RepL K F (v :: vs) (d :: ds)
inductive RepF (K : PySem.W.Frag) (F : Hp) : List (Str × V) → List (String × D) → Prop
  | nil : RepF K F [] []
  | cons {f : String} {v : V} {vs : List (Str × V)} {d : D} {ds : List (String × D)} : Rep K F v d → RepF K F vs ds → RepF K F ((Str.ofString f, v) :: vs) ((f, d) :: ds)
inductive RepK (K : PySem.W.Frag) (F : Hp) : List (L2.Key × V) → List (L2.Key × D) → Prop
  | nil : RepK K F [] []
  | cons {k : L2.Key} {v : V} {vs : List (L2.Key × V)} {d : D} {ds : List (L2.Key × D)} : Rep K F v d → RepK K F vs ds → RepK K F ((k, v) :: vs) ((k, d) :: ds)
inductive RepT (K : PySem.W.Frag) (F : Hp) : List (List L2.Key × V) → List (List L2.Key × D) → Prop
  | nil : RepT K F [] []
  | cons {k : List L2.Key} {v : V} {vs : List (List L2.Key × V)} {d : D} {ds : List (List L2.Key × D)} : Rep K F v d → RepT K F vs ds → RepT K F ((k, v) :: vs) ((k, d) :: ds)
end
mutual
theorem Rep.mono {K : PySem.W.Frag} {F F' : Hp} (e : Ex F F') : ∀ {v : V} {d : D}, Rep K F v d → Rep K F' v d
  | _, _, .non => .non
  | _, _, .bl b => .bl b
  | _, _, .int i => .int i
  | _, _, .str x => .str x
  | _, _, .tup h r => .tup (e.nd h rfl) (RepL.mono e r)
  | _, _, .ktup h r => .ktup (ex_t e h) (RepL.mono e r)
  | _, _, .lst h r => .lst (ex_l e h) (RepL.mono e r)
  | _, _, .ins h r => .ins (e.nd h rfl) (RepF.mono e r)
  | _, _, .ptr a => .ptr a
  | _, _, .dK h r => .dK (e.nd h rfl) (RepK.mono e r)
  | _, _, .dT h r => .dT (e.nd h rfl) (RepT.mono e r)
theorem RepL.mono {K : PySem.W.Frag} {F F' : Hp} (e : Ex F F') : ∀ {v : List V} {d : List D}, RepL K F v d → RepL K F' v d
  | _, _, .nil => .nil
  | _, _, .cons h r => .cons (Rep.mono e h) (RepL.mono e r)
theorem RepF.mono {K : PySem.W.Frag} {F F' : Hp} (e : Ex F F') : ∀ {v : List (Str × V)} {d : List (String × D)}, RepF K F v d → RepF K F' v d
  | _, _, .nil => .nil
  | _, _, .cons h r => .cons (Rep.mono e h) (RepF.mono e r)
theorem RepK.mono {K : PySem.W.Frag} {F F' : Hp} (e : Ex F F') : ∀ {v : List (L2.Key × V)} {d : List (L2.Key × D)}, RepK K F v d → RepK K F' v d
  | _, _, .nil => .nil
  | _, _, .cons h r => .cons (Rep.mono e h) (RepK.mono e r)
theorem RepT.mono {K : PySem.W.Frag} {F F' : Hp} (e : Ex F F') : ∀ {v : List (List L2.Key × V)} {d : List (List L2.Key × D)}, RepT K F v d → RepT K F' v d
  | _, _, .nil => .nil
  | _, _, .cons h r => .cons (Rep.mono e h) (RepT.mono e r)
end
section
variable {K : PySem.W.Frag} {F : Hp}
theorem RepL.length : ∀ {xs : List V} {ds : List D}, RepL K F xs ds → xs.length = ds.length
  | _, _, .nil => rfl
  | _, _, .cons _ r => congrArg (· + 1) r.length
theorem RepL.get : ∀ {xs : List V} {ds : List D} {i : Nat} {d : D}, RepL K F xs ds → ds[i]? = some d → ∃ v, xs[i]? = some v ∧ Rep K F v d
  | _, _, _, _, .nil, e => by simp at e
  | _, _, 0, _, .cons h _, e => by simp at e; subst e; exact ⟨_, rfl, h⟩
  | _, _, i + 1, _, .cons _ r, e => by
    obtain ⟨v, h1, h2⟩ := RepL.get (i := i) r (by simpa using e)
    exact ⟨v, by simpa using h1, h2⟩
theorem RepL.getV : ∀ {xs : List V} {ds : List D} {i : Nat} {v : V}, RepL K F xs ds → xs[i]? = some v → ∃ d, ds[i]? = some d ∧ Rep K F v d
  | _, _, _, _, .nil, e => by simp at e
  | _, _, 0, _, .cons h _, e => by simp at e; subst e; exact ⟨_, rfl, h⟩
  | _, _, i + 1, _, .cons _ r, e => by
    obtain ⟨d, h1, h2⟩ := RepL.getV (i := i) r (by simpa using e)
    exact ⟨d, by simpa using h1, h2⟩
theorem RepL.append : ∀ {xs ys : List V} {ds es : List D}, RepL K F xs ds → RepL K F ys es → RepL K F (xs ++ ys) (ds ++ es)
  | _, _, _, _, .nil, s => s
  | _, _, _, _, .cons h r, s => .cons h (RepL.append r s)
theorem RepL.set {v : V} {d : D} (h : Rep K F v d) : ∀ {xs : List V} {ds : List D} (i : Nat), RepL K F xs ds → RepL K F (xs.set i v) (ds.set i d)
  | _, _, _, .nil => .nil
  | _, _, 0, .cons _ r => .cons h r
  | _, _, i + 1, .cons q r => .cons q (RepL.set h i r)
theorem RepL.drop : ∀ {xs : List V} {ds : List D} (n : Nat), RepL K F xs ds → RepL K F (xs.drop n) (ds.drop n)
  | _, _, 0, r => r
  | _, _, _ + 1, .nil => .nil
  | _, _, n + 1, .cons _ r => RepL.drop n r
theorem RepL.take : ∀ {xs : List V} {ds : List D} (n : Nat), RepL K F xs ds → RepL K F (xs.take n) (ds.take n)
  | _, _, 0, _ => .nil
  | _, _, _ + 1, .nil => .nil
  | _, _, n + 1, .cons h r => .cons h (RepL.take n r)
theorem RepL.dropLast {xs : List V} {ds : List D} (h : RepL K F xs ds) : RepL K F xs.dropLast ds.dropLast := by
  rw [List.dropLast_eq_take, List.dropLast_eq_take, h.length]
  exact h.take _
theorem RepL.reverse : ∀ {xs : List V} {ds : List D}, RepL K F xs ds → RepL K F xs.reverse ds.reverse
  | _, _, .nil => .nil
  | _, _, .cons h r => by
    rw [List.reverse_cons, List.reverse_cons]
    exact r.reverse.append (.cons h .nil)
theorem RepL.ints : ∀ ns : List Int, RepL K F (ns.map V.int) (ns.map D.int)
  | [] => .nil
  | n :: r => .cons (.int n) (RepL.ints r)
theorem RepL.of_ints : ∀ {ns : List Int} {xs : List V}, RepL K F xs (ns.map D.int) → xs = ns.map V.int
  | [], _, .nil => rfl
  | n :: r, _, .cons h t => by
    cases h
    rw [RepL.of_ints t] <;> rfl
theorem RepL.of_strs : ∀ {ns : List Str} {xs : List V}, RepL K F xs (ns.map D.str) → xs = ns.map V.str
  | [], _, .nil => rfl
  | n :: r, _, .cons h t => by
    cases h
    rw [RepL.of_strs t] <;> rfl
theorem RepL.rep {v : V} {d : D} (h : Rep K F v d) : ∀ n, RepL K F (List.replicate n v) (List.replicate n d)
  | 0 => .nil
  | n + 1 => .cons h (RepL.rep h n)
end
theorem ofString_inj {a b : String} (h : Str.ofString a = Str.ofString b) : a = b := by
  rw [Str.ofString_eq_toList, Str.ofString_eq_toList] at h
  have h2 : a.toList.map Char.toNat = b.toList.map Char.toNat := by
    have := congrArg Str.cps h
    simpa using congrArg Array.toList this
  have inj : ∀ l m : List Char, l.map Char.toNat = m.map Char.toNat → l = m := by
    intro l
    induction l with
    | nil => intro m e; cases m with
      | nil => rfl
      | cons _ _ => simp at e
    | cons c r ih => intro m e; cases m with
      | nil => simp at e
      | cons d s =>
        simp only [List.map_cons, List.cons.injEq] at e
        have q : c = d := by
          have := e.1
          exact Char.ext (UInt32.toNat_inj.mp this)
        rw [q, ih s e.2]
  have h3 := inj _ _ h2
  have := congrArg String.ofList h3
  simpa using this
theorem ofString_eq_iff {a b : String} : (Str.ofString a = Str.ofString b) = (a = b) := propext ⟨ofString_inj, fun h => by rw [h]⟩
section
variable {K : PySem.W.Frag} {F : Hp}
theorem RepF.length : ∀ {xs : List (Str × V)} {ds : List (String × D)}, RepF K F xs ds → xs.length = ds.length
  | _, _, .nil => rfl
  | _, _, .cons _ r => congrArg (· + 1) r.length
theorem RepF.lookup {f : String} : ∀ {xs : List (Str × V)} {ds : List (String × D)} {d : D}, RepF K F xs ds → ds.lookup f = some d → ∃ v, xs.lookup (Str.ofString f) = some v ∧ Rep K F v d
  | _, _, _, .nil, e => by simp at e
  | _, _, d, .cons (f := g) h r, e => by
    by_cases q : f = g
    · subst q
      simp only [List.lookup, beq_self_eq_true] at e ⊢
      cases e
      exact ⟨_, rfl, h⟩
    · have b1 : (f == g) = false := beq_eq_false_iff_ne.mpr q
      have b2 : (Str.ofString f == Str.ofString g) = false := beq_eq_false_iff_ne.mpr fun e => q (ofString_inj e)
      simp only [List.lookup, b1, b2] at e ⊢
      exact RepF.lookup r e
theorem RepF.lookup_none {f : String} : ∀ {xs : List (Str × V)} {ds : List (String × D)}, RepF K F xs ds → ds.lookup f = none → xs.lookup (Str.ofString f) = none
  | _, _, .nil, _ => rfl
  | _, _, .cons (f := g) h r, e => by
    by_cases q : f = g
    · subst q
      simp only [List.lookup, beq_self_eq_true] at e
      cases e
    · have b1 : (f == g) = false := beq_eq_false_iff_ne.mpr q
      have b2 : (Str.ofString f == Str.ofString g) = false := beq_eq_false_iff_ne.mpr fun e => q (ofString_inj e)
      simp only [List.lookup, b1, b2] at e ⊢
      exact RepF.lookup_none r e
end
/-- an attribute stored -/
def dput (f : String) (v : D) : List (String × D) → List (String × D)
  | [] => [(f, v)]
  | (g, x) :: r => if g = f then (g, v) :: r else (g, x) :: dput f v r
theorem RepF.put {K : PySem.W.Frag} {F : Hp} {f : String} {v : V} {d : D} (h : Rep K F v d) : ∀ {xs : List (Str × V)} {ds : List (String × D)}, RepF K F xs ds → RepF K F (putF (Str.ofString f) v xs) (dput f d ds)
  | _, _, .nil => .cons h .nil
  | _, _, .cons (f := g) q r => by
    by_cases e : g = f
    · subst e
      simp only [putF, dput, if_true]
      exact .cons h r
    · have e2 : ¬ Str.ofString g = Str.ofString f := fun z => e (ofString_inj z)
      simp only [putF, dput, if_neg e, if_neg e2]
      exact .cons q (RepF.put h r)

/-! ### the state: frozen heap F, cells C, heap H; slots -/
def RepC (K : PySem.W.Frag) (F H : Hp) (a : Addr) : Cell → Prop
  | .lst ds => ∃ xs, H a = some (.lst xs) ∧ RepL K F xs ds
  | .ins C fs => ∃ dx gs, H a = some (.ins C dx gs) ∧ RepF K F gs fs
  | .dK kvs => ∃ vs, H a = some (.dK vs) ∧ RepK K F vs kvs
  | .dT kvs => ∃ vs, H a = some (.dT vs) ∧ RepT K F vs kvs
  | .lK kvs od vs => H a = some (.frz od (.dK vs)) ∧ RepK K F vs kvs
  | .lT kvs od vs => H a = some (.frz od (.dT vs)) ∧ RepT K F vs kvs
structure Hs (K : PySem.W.Frag) (F : Hp) (C : Cells) (H : Hp) : Prop where
  ex : Ex F H
  cell : ∀ a c, C a = some c → F a = none ∧ RepC K F H a c
def EnvR (K : PySem.W.Frag) (F : Hp) (σ : L2.St) (ρ : DEnv) : Prop := σ.length = ρ.length ∧ ∀ (i : Nat) (d : D), ρ[i]? = some (some d) → ∃ v, σ[i]? = some (some v) ∧ Rep K F v d
section
variable {K : PySem.W.Frag} {F F' H H' : Hp} {C C' : Cells} {σ : L2.St} {ρ : DEnv} {a : Addr} {c : Cell}
theorem RepC.ex (e : Ex F F') {H : Hp} : ∀ {c : Cell}, RepC K F H a c → RepC K F' H a c
  | .lst _, ⟨xs, h, r⟩ => ⟨xs, h, r.mono e⟩
  | .ins _ _, ⟨dx, gs, h, r⟩ => ⟨dx, gs, h, r.mono e⟩
  | .dK _, ⟨vs, h, r⟩ => ⟨vs, h, r.mono e⟩
  | .dT _, ⟨vs, h, r⟩ => ⟨vs, h, r.mono e⟩
  | .lK _ _ _, ⟨h, r⟩ => ⟨h, r.mono e⟩
  | .lT _ _ _, ⟨h, r⟩ => ⟨h, r.mono e⟩
theorem RepC.at (h : H' a = H a) : ∀ {c : Cell}, RepC K F H a c → RepC K F H' a c
  | .lst _, ⟨xs, q, r⟩ => ⟨xs, h.trans q, r⟩
  | .ins _ _, ⟨dx, gs, q, r⟩ => ⟨dx, gs, h.trans q, r⟩
  | .dK _, ⟨vs, q, r⟩ => ⟨vs, h.trans q, r⟩
  | .dT _, ⟨vs, q, r⟩ => ⟨vs, h.trans q, r⟩
  | .lK _ _ _, ⟨q, r⟩ => ⟨h.trans q, r⟩
  | .lT _ _ _, ⟨q, r⟩ => ⟨h.trans q, r⟩
theorem RepC.some : ∀ {c : Cell}, RepC K F H a c → ∃ o, H a = Option.some o
  | .lst _, ⟨_, h, _⟩ => ⟨_, h⟩
  | .ins _ _, ⟨_, _, h, _⟩ => ⟨_, h⟩
  | .dK _, ⟨_, h, _⟩ => ⟨_, h⟩
  | .dT _, ⟨_, h, _⟩ => ⟨_, h⟩
  | .lK _ _ _, ⟨h, _⟩ => ⟨_, h⟩
  | .lT _ _ _, ⟨h, _⟩ => ⟨_, h⟩
theorem Hs.sub (h : Hs K F C H) (s : Sub C' C) : Hs K F C' H := ⟨h.ex, fun a c e => h.cell a c (s a c e)⟩
theorem Hs.fresh (h : Hs K F C H) {p : Addr} (hp : H p = none) : F p = none ∧ C p = none := by
  refine ⟨h.ex.free hp, ?_⟩
  cases e : C p with
  | none => rfl
  | some c =>
    obtain ⟨_, r⟩ := h.cell p c e
    obtain ⟨o, q⟩ := r.some
    rw [hp] at q; cases q
/-- a new frozen object -/
theorem Hs.lay (h : Hs K F C H) {p : Addr} {o : HO} (hp : H p = none) : Ex F (upd F p o) ∧ Hs K (upd F p o) C (upd H p o) := by
  obtain ⟨f0, c0⟩ := h.fresh hp
  refine ⟨Ex.new f0, fun a u e => ?_, fun a c e => ?_⟩
  · by_cases q : a = p
    · subst q; rw [upd_same] at e ⊢; exact .inl e
    · rw [upd_ne q] at e ⊢; exact h.ex a u e
  · have q : a ≠ p := cell_ne e c0
    obtain ⟨f1, r⟩ := h.cell a c e
    exact ⟨by rw [upd_ne q]; exact f1, (r.ex (Ex.new f0)).at (upd_ne q)⟩
/-- a new cell, or a cell that changes -/
theorem Hs.put (h : Hs K F C H) {p : Addr} {o : HO} {c : Cell} (hp : F p = none) (hc : RepC K F (upd H p o) p c) : Hs K F (cput C p c) (upd H p o) := by
  refine ⟨h.ex.mut hp, fun a d e => ?_⟩
  by_cases q : a = p
  · subst q
    rw [cput_same] at e; cases e
    exact ⟨hp, hc⟩
  · rw [cput_ne q] at e
    obtain ⟨f1, r⟩ := h.cell a d e
    exact ⟨f1, r.at (upd_ne q)⟩
/-- a cell that is not to change any more -/
theorem Hs.freeze (h : Hs K F C H) {p : Addr} {c : Cell} (e : C p = some c) (hs : Sub C' C) (hn : C' p = none) : ∃ o, H p = some o ∧ Ex F (upd F p o) ∧ Hs K (upd F p o) C' H ∧ upd F p o p = some o ∧ RepC K F H p c := by
  obtain ⟨f0, r⟩ := h.cell p c e
  obtain ⟨o, ho⟩ := r.some
  refine ⟨o, ho, Ex.new f0, ⟨fun a u q => ?_, fun a d q => ?_⟩, upd_same, r⟩
  · by_cases z : a = p
    · subst z; rw [upd_same] at q; cases q; exact .inl ho
    · rw [upd_ne z] at q; exact h.ex a u q
  · have z : a ≠ p := cell_ne q hn
    obtain ⟨f1, r1⟩ := h.cell a d (hs a d q)
    exact ⟨by rw [upd_ne z]; exact f1, r1.ex (Ex.new f0)⟩
theorem EnvR.mono (e : Ex F F') (h : EnvR K F σ ρ) : EnvR K F' σ ρ := ⟨h.1, fun i d q => by
  obtain ⟨v, h1, h2⟩ := h.2 i d q
  exact ⟨v, h1, h2.mono e⟩⟩
theorem EnvR.set {v : V} {d : D} {i : Nat} (h : EnvR K F σ ρ) (r : Rep K F v d) : EnvR K F (σ.set i (some v)) (ρ.set i (some d)) := by
  refine ⟨by rw [List.length_set, List.length_set]; exact h.1, fun j u q => ?_⟩
  by_cases e : i = j
  · subst e
    have hl : i < ρ.length := by
      rcases Nat.lt_or_ge i ρ.length with z | z
      · exact z
      · rw [List.getElem?_eq_none (by rw [List.length_set]; exact z)] at q; cases q
    rw [List.getElem?_set_self hl] at q
    cases q
    exact ⟨v, by rw [List.getElem?_set_self (by rw [h.1]; exact hl)], r⟩
  · rw [List.getElem?_set_ne e] at q
    obtain ⟨w, h1, h2⟩ := h.2 j u q
    exact ⟨w, by rw [List.getElem?_set_ne e]; exact h1, h2⟩
/-- slots may be forgotten -/
def Fgt (ρ ρ' : DEnv) : Prop := ρ.length = ρ'.length ∧ ∀ (i : Nat) (d : D), ρ'[i]? = some (some d) → ρ[i]? = some (some d)
theorem EnvR.fgt {ρ' : DEnv} (h : EnvR K F σ ρ) (f : Fgt ρ ρ') : EnvR K F σ ρ' := ⟨h.1.trans f.1, fun i d q => h.2 i d (f.2 i d q)⟩
end
end DD

set_option Elab.async false
set_option linter.all false
set_option maxRecDepth 100000
set_option maxHeartbeats 4000000
/-! Readings over data: expressions, tests, arguments. -/
namespace DD
open PySem L2 PyProof.Rows

abbrev DK := D → Cells → Prop
abbrev DX := Value → List (String × D) → DEnv → Cells → Prop
abbrev DE := DEnv → Cells → DK → DX → Prop
abbrev DA := DEnv → Cells → (List D → Cells → Prop) → DX → Prop
abbrev DT := DEnv → Cells → (Bool → Cells → Prop) → DX → Prop
structure DEnds where
  nx : DEnv → Cells → Prop
  rt : DK
  bk : DEnv → Cells → Prop
  ct : DEnv → Cells → Prop
  ex : DX
abbrev DS := DEnds → DEnv → Cells → Prop
abbrev DR2 := D → D → Cells → DK → Prop
abbrev DR1 := D → Cells → DK → Prop
abbrev DRA := List D → Cells → DK → Prop

/-- an exception's own fields -/
def XRep (K : PySem.W.Frag) (F H : Hp) (d : Option Addr) (fs : List (String × D)) : Prop := fs = [] ∨ ∃ dd gs, d = some dd ∧ H dd = some (.xd gs) ∧ RepF K F gs fs
def ExR (K : PySem.W.Frag) (F : Hp) (W : WX) (PX : DX) : Prop :=
  ∀ cls d fs σ F' H ρ C, Ex F F' → Hs K F' C H → EnvR K F' σ ρ → XRep K F' H d fs → PX cls fs ρ C → W cls d σ H
theorem ExR.mono {K : PySem.W.Frag} {F F' : Hp} {W : WX} {PX : DX} (e : Ex F F') (h : ExR K F W PX) : ExR K F' W PX :=
  fun cls d fs σ F1 H ρ C e1 => h cls d fs σ F1 H ρ C (e.trans e1)
/-- what is wanted of a value, of arguments, of a truth -/
def Kont (K : PySem.W.Frag) (F : Hp) (P : DK) (Q : VK) : Prop := ∀ v F' H' d C', Ex F F' → Hs K F' C' H' → Rep K F' v d → P d C' → Q v H'
def KontA (K : PySem.W.Frag) (F : Hp) (P : List D → Cells → Prop) (Q : List V → Hp → Prop) : Prop := ∀ vs F' H' ds C', Ex F F' → Hs K F' C' H' → RepL K F' vs ds → P ds C' → Q vs H'
def KontT (K : PySem.W.Frag) (F : Hp) (P : Bool → Cells → Prop) (Q : Bool → Hp → Prop) : Prop := ∀ b F' H' C', Ex F F' → Hs K F' C' H' → P b C' → Q b H'
theorem Kont.mono {K : PySem.W.Frag} {F F' : Hp} {P : DK} {Q : VK} (e : Ex F F') (h : Kont K F P Q) : Kont K F' P Q := fun v F1 H1 d C1 e1 => h v F1 H1 d C1 (e.trans e1)
theorem KontA.mono {K : PySem.W.Frag} {F F' : Hp} {P : List D → Cells → Prop} {Q : List V → Hp → Prop} (e : Ex F F') (h : KontA K F P Q) : KontA K F' P Q := fun v F1 H1 d C1 e1 => h v F1 H1 d C1 (e.trans e1)
theorem KontT.mono {K : PySem.W.Frag} {F F' : Hp} {P : Bool → Cells → Prop} {Q : Bool → Hp → Prop} (e : Ex F F') (h : KontT K F P Q) : KontT K F' P Q := fun v F1 H1 C1 e1 => h v F1 H1 C1 (e.trans e1)

def tE (K : PySem.W.Frag) (W : WX) (w : DE) : TE := fun σ H Q => ∃ F C ρ P PX, Hs K F C H ∧ EnvR K F σ ρ ∧ ExR K F W PX ∧ w ρ C P PX ∧ Kont K F P Q
def tA (K : PySem.W.Frag) (W : WX) (w : DA) : TA := fun σ H Q => ∃ F C ρ P PX, Hs K F C H ∧ EnvR K F σ ρ ∧ ExR K F W PX ∧ w ρ C P PX ∧ KontA K F P Q
def tT (K : PySem.W.Frag) (W : WX) (w : DT) : TT := fun σ H Q => ∃ F C ρ P PX, Hs K F C H ∧ EnvR K F σ ρ ∧ ExR K F W PX ∧ w ρ C P PX ∧ KontT K F P Q

/-! ### weaker readings -/
section
variable {X : Cx}
theorem PE.imp {e : Expr} {t t' : TE} (h : PE X e t) (i : ∀ σ H Q, t' σ H Q → t σ H Q) : PE X e t' := ⟨fun pins s σ H Q I w => h.run pins s σ H Q I (i σ H Q w)⟩
theorem PT.imp {e : Expr} {t t' : TT} (h : PT X e t) (i : ∀ σ H Q, t' σ H Q → t σ H Q) : PT X e t' := ⟨fun pins s σ H Q I w => h.run pins s σ H Q I (i σ H Q w)⟩
theorem PW.imp {e : Expr} {t t' : TT} (h : PW X e t) (i : ∀ σ H Q, t' σ H Q → t σ H Q) : PW X e t' := ⟨fun wh pins s σ H Q I w => h.run wh pins s σ H Q I (i σ H Q w)⟩
theorem PA.imp {e : List Expr} {t t' : TA} (h : PA X e t) (i : ∀ σ H Q, t' σ H Q → t σ H Q) : PA X e t' := ⟨fun pos pins s σ H Q I w => h.run pos pins s σ H Q I (i σ H Q w)⟩
theorem PS.imp {e : Stmt} {t t' : TS} (h : PS X e t) (i : ∀ D σ H, t' D σ H → t D σ H) : PS X e t' := ⟨fun pins s σ H D I w => h.run pins s σ H D I (i D σ H w)⟩
theorem PSs.imp {e : List Stmt} {t t' : TS} (h : PSs X e t) (i : ∀ D σ H, t' D σ H → t D σ H) : PSs X e t' := ⟨fun pins s σ H D I w => h.run pins s σ H D I (i D σ H w)⟩
end

/-! ### names, constants, arguments -/
def wVar (i : Nat) (ρ : DEnv) (C : Cells) (P : DK) (_ : DX) : Prop := match (ρ[i]? : Option (Option D)) with | some (some d) => P d C | _ => False
def wC (d : D) (_ : DEnv) (C : Cells) (P : DK) (_ : DX) : Prop := P d C
def wNil (_ : DEnv) (C : Cells) (P : List D → Cells → Prop) (_ : DX) : Prop := P [] C
def wCons (a : DE) (r : DA) (ρ : DEnv) (C : Cells) (P : List D → Cells → Prop) (PX : DX) : Prop := a ρ C (fun d C1 => r ρ C1 (fun ds C2 => P (d :: ds) C2) PX) PX
section
variable {X : Cx} {W : WX} {K : PySem.W.Frag}
theorem i_var {i : Nat} {σ : L2.St} {H : Hp} {Q : VK} (h : tE K W (wVar i) σ H Q) : tVar i σ H Q := by
  obtain ⟨F, C, ρ, P, PX, hs, en, xr, w, k⟩ := h
  unfold wVar at w
  split at w
  · rename_i d q
    obtain ⟨v, h1, r⟩ := en.2 i d q
    exact ⟨v, h1, k v F H d C (Ex.refl F) hs r w⟩
  · exact w.elim
theorem d_var (i : Nat) {x : Str} {pos : Pos} (hN : X.N[i]? = some x := by rfl) (hv : Vis X.env.scope x := by first | exact Or.inl rfl | exact Or.inr (Or.inl rfl) | exact Or.inr (Or.inr rfl)) (hd : (x == ("__debug__" : Str)) = false := by decide)
    (hcd : (x == ("__classdict__" : Str)) = false := by decide) : PE X (.Name x pos) (tE X.K W (wVar i)) := PE.imp (pe_var hN hv hd hcd) fun _ _ _ => i_var
theorem i_c {v : V} {d : D} (r : ∀ F, Rep K F v d) {σ : L2.St} {H : Hp} {Q : VK} (h : tE K W (wC d) σ H Q) : tC v σ H Q := by
  obtain ⟨F, C, ρ, P, PX, hs, en, xr, w, k⟩ := h
  exact k v F H d C (Ex.refl F) hs (r F) w
theorem d_int {i j pos} : PE X (.Constant (.int i) j pos) (tE X.K W (wC (.int i))) := PE.imp pe_int fun _ _ _ => i_c fun _ => .int i
theorem d_bl {b j pos} : PE X (.Constant (.bool b) j pos) (tE X.K W (wC (.bl b))) := PE.imp pe_bl fun _ _ _ => i_c fun _ => .bl b
theorem d_non {j pos} : PE X (.Constant .none j pos) (tE X.K W (wC .non)) := PE.imp pe_non fun _ _ _ => i_c fun _ => .non
theorem d_str {x j pos} : PE X (.Constant (.str x) j pos) (tE X.K W (wC (.str x))) := PE.imp pe_str fun _ _ _ => i_c fun _ => .str x
/-- a module's name -/
theorem d_glob {x : Str} {v : V} {d : D} {u : Value} {pos : Pos} (hg : Gl X x) (hm : X.mg x = some u) (r : RelV v u) (hr : ∀ F, Rep X.K F v d) (hd : (x == ("__debug__" : Str)) = false := by decide) : PE X (.Name x pos) (tE X.K W (wC d)) :=
  PE.imp (pe_glob hg hm r hd) fun _ _ _ => i_c hr
theorem d_nil : PA X [] (tA X.K W wNil) := PA.imp pa_nil fun σ H Q ⟨F, C, ρ, P, PX, hs, en, xr, w, k⟩ => k [] F H [] C (Ex.refl F) hs .nil w
theorem i_cons {wa : DE} {wr : DA} {σ : L2.St} {H : Hp} {Q : List V → Hp → Prop} (h : tA K W (wCons wa wr) σ H Q) : tCons (tE K W wa) (tA K W wr) σ H Q := by
  obtain ⟨F, C, ρ, P, PX, hs, en, xr, w, k⟩ := h
  exact ⟨F, C, ρ, _, PX, hs, en, xr, w, fun v F1 H1 d C1 e1 h1 rd q => ⟨F1, C1, ρ, _, PX, h1, en.mono e1, xr.mono e1, q, fun vs F2 H2 ds C2 e2 h2 rl q2 => k (v :: vs) F2 H2 (d :: ds) C2 (e1.trans e2) h2 (.cons (rd.mono e2) rl) q2⟩⟩
theorem d_cons {e : Expr} {es : List Expr} {wa : DE} {wr : DA} (ha : PE X e (tE X.K W wa)) (hr : PA X es (tA X.K W wr)) (hs : starEach (e :: es) X.env = (false, eval e X.env) :: starEach es X.env := by rfl) : PA X (e :: es) (tA X.K W (wCons wa wr)) :=
  PA.imp (pa_cons ha hr hs) fun _ _ _ => i_cons
end

/-! ### operators -/
/-- an operation on two values, its reading on data -/
def SimR (K : PySem.W.Frag) (r : R2) (rd : DR2) : Prop := ∀ F C H x y dx dy P Q, Hs K F C H → Rep K F x dx → Rep K F y dy → rd dx dy C P → Kont K F P Q → r x y H Q
def Sim1 (K : PySem.W.Frag) (r : V → Hp → VK → Prop) (rd : DR1) : Prop := ∀ F C H x dx P Q, Hs K F C H → Rep K F x dx → rd dx C P → Kont K F P Q → r x H Q
def SimA (K : PySem.W.Frag) (r : List V → Hp → VK → Prop) (rd : DRA) : Prop := ∀ F C H xs ds P Q, Hs K F C H → RepL K F xs ds → rd ds C P → Kont K F P Q → r xs H Q
def wOp (r : DR2) (a b : DE) (ρ : DEnv) (C : Cells) (P : DK) (PX : DX) : Prop := a ρ C (fun x C1 => b ρ C1 (fun y C2 => r x y C2 P) PX) PX
def wUn (r : DR1) (a : DE) (ρ : DEnv) (C : Cells) (P : DK) (PX : DX) : Prop := a ρ C (fun x C1 => r x C1 P) PX
def wCB (r : DRA) (a : DA) (ρ : DEnv) (C : Cells) (P : DK) (PX : DX) : Prop := a ρ C (fun xs C1 => r xs C1 P) PX
section
variable {X : Cx} {W : WX} {K : PySem.W.Frag} {a b : Expr} {wa wb : DE} {pos : Pos}
theorem i_op {r : R2} {rd : DR2} (hr : SimR K r rd) {σ : L2.St} {H : Hp} {Q : VK} (h : tE K W (wOp rd wa wb) σ H Q) : tOp r (tE K W wa) (tE K W wb) σ H Q := by
  obtain ⟨F, C, ρ, P, PX, hs, en, xr, w, k⟩ := h
  exact ⟨F, C, ρ, _, PX, hs, en, xr, w, fun v F1 H1 d C1 e1 h1 rd1 q => ⟨F1, C1, ρ, _, PX, h1, en.mono e1, xr.mono e1, q, fun u F2 H2 du C2 e2 h2 ru q2 => hr F2 C2 H2 v u d du P Q h2 (rd1.mono e2) ru q2 (k.mono (e1.trans e2))⟩⟩
theorem i_un {r : V → Hp → VK → Prop} {rd : DR1} (hr : Sim1 K r rd) {σ : L2.St} {H : Hp} {Q : VK} (h : tE K W (wUn rd wa) σ H Q) : tUn r (tE K W wa) σ H Q := by
  obtain ⟨F, C, ρ, P, PX, hs, en, xr, w, k⟩ := h
  exact ⟨F, C, ρ, _, PX, hs, en, xr, w, fun v F1 H1 d C1 e1 h1 rd1 q => hr F1 C1 H1 v d P Q h1 rd1 q (k.mono e1)⟩
theorem i_cb {r : List V → Hp → VK → Prop} {rd : DRA} {wr : DA} (hr : SimA K r rd) {σ : L2.St} {H : Hp} {Q : VK} (h : tE K W (wCB rd wr) σ H Q) : tCB r (tA K W wr) σ H Q := by
  obtain ⟨F, C, ρ, P, PX, hs, en, xr, w, k⟩ := h
  exact ⟨F, C, ρ, _, PX, hs, en, xr, w, fun v F1 H1 d C1 e1 h1 rd1 q => hr F1 C1 H1 v d P Q h1 rd1 q (k.mono e1)⟩
/-- e1 op e2 -/
theorem d_op {op : Operator} {r : R2} {rd : DR2} (ho : OpR X (binaryOp op) r) (hr : SimR X.K r rd) (ha : PE X a (tE X.K W wa)) (hb : PE X b (tE X.K W wb)) : PE X (.BinOp a op b pos) (tE X.K W (wOp rd wa wb)) :=
  PE.imp (pe_op ho ha hb) fun _ _ _ => i_op hr
theorem d_un {op : UnaryOp} {r : V → Hp → VK → Prop} {rd : DR1} (ho : UnR X (unaryOp op) r) (hr : Sim1 X.K r rd) (ha : PE X a (tE X.K W wa)) : PE X (.UnaryOp op a pos) (tE X.K W (wUn rd wa)) :=
  PE.imp (pe_un ho ha) fun _ _ _ => i_un hr
/-- e1 < e2 and the like, as a value -/
theorem d_cmp {op : CmpOp} {r : R2} {rd : DR2} (ho : OpR X (compareOp op) r) (hr : SimR X.K r rd) (ha : PE X a (tE X.K W wa)) (hb : PE X b (tE X.K W wb)) (hm : behindInMarks op b = false := by first | exact nobehind _ (by decide) (by decide) | rfl) :
    PE X (.Compare a [op] [b] pos) (tE X.K W (wOp rd wa wb)) := PE.imp (pe_cmpR ho ha hb hm) fun _ _ _ => i_op hr
/-- a subscript -/
theorem d_ix {r : R2} {rd : DR2} (ho : IxR X r) (hr : SimR X.K r rd) (ha : PE X a (tE X.K W wa)) (hb : PE X b (tE X.K W wb)) (hs : PlainIx b := by exact fun _ _ => rfl) : PE X (.Subscript a b pos) (tE X.K W (wOp rd wa wb)) :=
  PE.imp (pe_ix ho ha hb hs) fun _ _ _ => i_op hr
/-- a built-in function by its name -/
theorem d_callB {r : List V → Hp → VK → Prop} {rd : DRA} {id : String} {x : Str} {p : Pos} {e : Expr} {es : List Expr} {wr : DA} (hc : CallR X (.builtin id) r) (hr : SimA X.K r rd) (hg : Gl X x) (hm : X.mg x = none) (hv : bootBuiltins x = some (.builtin id)) (ha : PA X (e :: es) (tA X.K W wr)) (hn : x ≠ "__name__" := by decide) (hdb : (x == ("__debug__" : Str)) = false := by decide)
    (he : starEach (e :: es) X.env = (false, eval e X.env) :: starEach es X.env := by rfl) (hpl : (backTo pos (starEach es X.env)).any (·.1) = false := by rfl) : PE X (.Call (.Name x p) (e :: es) [] pos) (tE X.K W (wCB rd wr)) :=
  PE.imp (pe_callB hc hg hm hv ha hn hdb he hpl) fun _ _ _ => i_cb hr
theorem d_callTy {r : List V → Hp → VK → Prop} {rd : DRA} {T : String} {x : Str} {p : Pos} {e : Expr} {es : List Expr} {wr : DA} (hc : CallR X (.type T) r) (hr : SimA X.K r rd) (hg : Gl X x) (hm : X.mg x = none) (hv : bootBuiltins x = some (.type T)) (ha : PA X (e :: es) (tA X.K W wr)) (hn : x ≠ "__name__" := by decide) (hdb : (x == ("__debug__" : Str)) = false := by decide)
    (he : starEach (e :: es) X.env = (false, eval e X.env) :: starEach es X.env := by rfl) (hpl : (backTo pos (starEach es X.env)).any (·.1) = false := by rfl) : PE X (.Call (.Name x p) (e :: es) [] pos) (tE X.K W (wCB rd wr)) :=
  PE.imp (pe_callTy hc hg hm hv ha hn hdb he hpl) fun _ _ _ => i_cb hr
end

/-! ### whole numbers -/
def dI (c : Int → Int → Prop) (g : Int → Int → D) (x : D) (y : D) (C : Cells) (P : DK) : Prop := match x, y with | .int i, .int j => c i j ∧ P (g i j) C | _, _ => False
def dI0 (g : Int → Int → D) (x : D) (y : D) (C : Cells) (P : DK) : Prop := match x, y with | .int i, .int j => P (g i j) C | _, _ => False
def dU (g : Int → D) (x : D) (C : Cells) (P : DK) : Prop := match x with | .int i => P (g i) C | _ => False
section
variable {K : PySem.W.Frag}
theorem simI {c : Int → Int → Prop} {g : Int → Int → V} {gd : Int → Int → D} (h : ∀ i j F, Rep K F (g i j) (gd i j)) : SimR K (rI c g) (dI c gd) := fun F C H x y dx dy P Q hs rx ry w k => by
  cases rx <;> cases ry <;> first | exact w.elim | exact ⟨_, _, rfl, rfl, w.1, k _ F H _ C (Ex.refl F) hs (h _ _ F) w.2⟩
theorem simI0 {g : Int → Int → V} {gd : Int → Int → D} (h : ∀ i j F, Rep K F (g i j) (gd i j)) : SimR K (rI0 g) (dI0 gd) := fun F C H x y dx dy P Q hs rx ry w k => by
  cases rx <;> cases ry <;> first | exact w.elim | exact ⟨_, _, rfl, rfl, k _ F H _ C (Ex.refl F) hs (h _ _ F) w⟩
theorem simU {g : Int → V} {gd : Int → D} (h : ∀ i F, Rep K F (g i) (gd i)) : Sim1 K (rU g) (dU gd) := fun F C H x dx P Q hs rx w k => by
  cases rx <;> first | exact w.elim | exact ⟨_, rfl, k _ F H _ C (Ex.refl F) hs (h _ F) w⟩
abbrev dAdd : DR2 := dI0 fun i j => .int (i + j)
abbrev dSub : DR2 := dI0 fun i j => .int (i - j)
abbrev dMul : DR2 := dI CMul fun i j => .int (i * j)
abbrev dDiv : DR2 := dI CDiv fun i j => .int (i / j)
abbrev dMod : DR2 := dI (fun _ j => 0 < j) fun i j => .int (i % j)
abbrev dLt : DR2 := dI0 fun i j => .bl (decide (i < j))
abbrev dLe : DR2 := dI0 fun i j => .bl (decide (i ≤ j))
abbrev dGt : DR2 := dI0 fun i j => .bl (decide (j < i))
abbrev dGe : DR2 := dI0 fun i j => .bl (decide (j ≤ i))
theorem s_add : SimR K (rI0 fun i j => .int (i + j)) dAdd := simI0 fun _ _ _ => .int _
theorem s_sub : SimR K (rI0 fun i j => .int (i - j)) dSub := simI0 fun _ _ _ => .int _
theorem s_mul : SimR K (rI CMul fun i j => .int (i * j)) dMul := simI fun _ _ _ => .int _
theorem s_div : SimR K (rI CDiv fun i j => .int (i / j)) dDiv := simI fun _ _ _ => .int _
theorem s_mod : SimR K (rI (fun _ j => 0 < j) fun i j => .int (i % j)) dMod := simI fun _ _ _ => .int _
theorem s_lt : SimR K (rI0 fun i j => .bl (decide (i < j))) dLt := simI0 fun _ _ _ => .bl _
theorem s_le : SimR K (rI0 fun i j => .bl (decide (i ≤ j))) dLe := simI0 fun _ _ _ => .bl _
theorem s_gt : SimR K (rI0 fun i j => .bl (decide (j < i))) dGt := simI0 fun _ _ _ => .bl _
theorem s_ge : SimR K (rI0 fun i j => .bl (decide (j ≤ i))) dGe := simI0 fun _ _ _ => .bl _
abbrev dNeg : DR1 := dU fun i => .int (-i)
theorem s_neg : Sim1 K (rU fun i => .int (-i)) dNeg := simU fun _ _ => .int _
end

/-! ### == of scalars, is None -/
def dEqv (neg : Bool) (x : D) (y : D) (C : Cells) (P : DK) : Prop := match x, y with
  | .int i, .int j => P (.bl (neg ^^ decide (i = j))) C
  | .str i, .str j => P (.bl (neg ^^ decide (i = j))) C
  | .bl i, .bl j => P (.bl (neg ^^ decide (i = j))) C
  | .non, .non => P (.bl (neg ^^ true)) C
  | .non, .int _ => P (.bl (neg ^^ false)) C
  | .int _, .non => P (.bl (neg ^^ false)) C
  | .non, .str _ => P (.bl (neg ^^ false)) C
  | .str _, .non => P (.bl (neg ^^ false)) C
  | .non, .bl _ => P (.bl (neg ^^ false)) C
  | .bl _, .non => P (.bl (neg ^^ false)) C
  | .int _, .str _ => P (.bl (neg ^^ false)) C
  | .str _, .int _ => P (.bl (neg ^^ false)) C
  | _, _ => False
abbrev dEq := dEqv false
abbrev dNe := dEqv true
def dIsN (neg : Bool) (x : D) (y : D) (C : Cells) (P : DK) : Prop := match y with
  | .non => match x with
    | .non => P (.bl (neg ^^ true)) C
    | _ => P (.bl (neg ^^ false)) C
  | _ => False
section
variable {K : PySem.W.Frag}
theorem s_eq : SimR K rEq dEq := fun F C H x y dx dy P Q hs rx ry w k => by
  cases rx <;> cases ry <;> first
    | exact w.elim
    | (refine ⟨rfl, ?_⟩
       have z := k _ F H _ C (Ex.refl F) hs (.bl _) w
       simp only [reduceCtorEq, V.int.injEq, V.str.injEq, V.bl.injEq, decide_true, decide_false, Bool.false_xor] at z ⊢
       exact z)
theorem s_ne : SimR K rNe dNe := fun F C H x y dx dy P Q hs rx ry w k => by
  cases rx <;> cases ry <;> first
    | exact w.elim
    | (refine ⟨rfl, ?_⟩
       have z := k _ F H _ C (Ex.refl F) hs (.bl _) w
       simp only [reduceCtorEq, V.int.injEq, V.str.injEq, V.bl.injEq, decide_true, decide_false, Bool.true_xor] at z ⊢
       exact z)
theorem s_isN : SimR K (fun x y H Q => y = .non ∧ Q (.bl (decide (x = .non))) H) (dIsN false) := fun F C H x y dx dy P Q hs rx ry w k => by
  cases ry <;> first
    | exact w.elim
    | (refine ⟨rfl, ?_⟩
       cases rx <;>
       (have z := k _ F H _ C (Ex.refl F) hs (.bl _) w
        simp only [reduceCtorEq, decide_true, decide_false, Bool.false_xor] at z ⊢
        exact z))
theorem s_notN : SimR K (fun x y H Q => y = .non ∧ Q (.bl (!decide (x = .non))) H) (dIsN true) := fun F C H x y dx dy P Q hs rx ry w k => by
  cases ry <;> first
    | exact w.elim
    | (refine ⟨rfl, ?_⟩
       cases rx <;>
       (have z := k _ F H _ C (Ex.refl F) hs (.bl _) w
        simp only [reduceCtorEq, decide_true, decide_false, Bool.true_xor] at z ⊢
        exact z))
end

/-! ### tests -/
def wTest (e : DE) (ρ : DEnv) (C : Cells) (P : Bool → Cells → Prop) (PX : DX) : Prop := e ρ C (fun x C1 => match x with | .bl k => P k C1 | _ => False) PX
def wAnd (t u : DT) (ρ : DEnv) (C : Cells) (P : Bool → Cells → Prop) (PX : DX) : Prop := t ρ C (fun b C1 => if b = true then u ρ C1 P PX else P false C1) PX
def wOr (t u : DT) (ρ : DEnv) (C : Cells) (P : Bool → Cells → Prop) (PX : DX) : Prop := t ρ C (fun b C1 => if b = true then P true C1 else u ρ C1 P PX) PX
def wNot (t : DT) (ρ : DEnv) (C : Cells) (P : Bool → Cells → Prop) (PX : DX) : Prop := t ρ C (fun b C1 => P (!b) C1) PX
def wIf (t : DT) (a b : DE) (ρ : DEnv) (C : Cells) (P : DK) (PX : DX) : Prop := t ρ C (fun k C1 => if k = true then a ρ C1 P PX else b ρ C1 P PX) PX
section
variable {X : Cx} {W : WX} {K : PySem.W.Frag} {a b : Expr} {wa wb : DE} {pos : Pos} {t u : DT} {rest : List Expr}
theorem i_test {σ : L2.St} {H : Hp} {Q : Bool → Hp → Prop} (h : tT K W (wTest wa) σ H Q) : tE K W wa σ H fun x H' => ∃ k, x = .bl k ∧ Q k H' := by
  obtain ⟨F, C, ρ, P, PX, hs, en, xr, w, k⟩ := h
  refine ⟨F, C, ρ, _, PX, hs, en, xr, w, fun v F1 H1 d C1 e1 h1 r q => ?_⟩
  cases r <;> first | exact q.elim | exact ⟨_, rfl, k _ F1 H1 C1 e1 h1 q⟩
/-- a comparison as a test -/
theorem d_tcmp {op : CmpOp} {r : R2} {rd : DR2} (ho : OpR X (compareOp op) r) (hr : SimR X.K r rd) (ha : PE X a (tE X.K W wa)) (hb : PE X b (tE X.K W wb)) (hm : behindInMarks op b = false := by first | exact nobehind _ (by decide) (by decide) | rfl) :
    PT X (.Compare a [op] [b] pos) (tT X.K W (wTest (wOp rd wa wb))) := PT.imp (pt_cmpR ho ha hb hm) fun σ H Q h => by
  have z := i_test h
  obtain ⟨F, C, ρ, P, PX, hs, en, xr, w, k⟩ := z
  exact i_op hr ⟨F, C, ρ, P, PX, hs, en, xr, w, k⟩
/-- an expression that gives True or False, as a test -/
theorem d_tval {e : Expr} (h : PE X e (tE X.K W wa)) (he : ∀ whole, isTrue e X.env whole = (do let v ← whole; standAt e.pos; holding [v] (truthy v)) := by intro _; rfl) : PT X e (tT X.K W (wTest wa)) :=
  PT.imp (pt_val h he) fun _ _ _ => i_test
theorem i_and {σ : L2.St} {H : Hp} {Q : Bool → Hp → Prop} (h : tT K W (wAnd t u) σ H Q) : tAnd (tT K W t) (tT K W u) σ H Q := by
  obtain ⟨F, C, ρ, P, PX, hs, en, xr, w, k⟩ := h
  refine ⟨F, C, ρ, _, PX, hs, en, xr, w, fun b F1 H1 C1 e1 h1 q => ?_⟩
  cases b with
  | true =>
    rw [if_pos rfl] at q
    rw [if_pos rfl]
    exact ⟨F1, C1, ρ, P, PX, h1, en.mono e1, xr.mono e1, q, k.mono e1⟩
  | false =>
    rw [if_neg Bool.false_ne_true] at q
    rw [if_neg Bool.false_ne_true]
    exact k _ F1 H1 C1 e1 h1 q
theorem i_or {σ : L2.St} {H : Hp} {Q : Bool → Hp → Prop} (h : tT K W (wOr t u) σ H Q) : tOr (tT K W t) (tT K W u) σ H Q := by
  obtain ⟨F, C, ρ, P, PX, hs, en, xr, w, k⟩ := h
  refine ⟨F, C, ρ, _, PX, hs, en, xr, w, fun b F1 H1 C1 e1 h1 q => ?_⟩
  cases b with
  | false =>
    rw [if_neg Bool.false_ne_true] at q
    rw [if_neg Bool.false_ne_true]
    exact ⟨F1, C1, ρ, P, PX, h1, en.mono e1, xr.mono e1, q, k.mono e1⟩
  | true =>
    rw [if_pos rfl] at q
    rw [if_pos rfl]
    exact k _ F1 H1 C1 e1 h1 q
theorem d_and1 (ha : PT X a (tT X.K W t)) : PW X (.BoolOp .And [a] pos) (tT X.K W t) := pw_and1 ha
theorem d_or1 (ha : PT X a (tT X.K W t)) : PW X (.BoolOp .Or [a] pos) (tT X.K W t) := pw_or1 ha
theorem d_and (ha : PT X a (tT X.K W t)) (hb : PW X (.BoolOp .And (b :: rest) pos) (tT X.K W u)) : PW X (.BoolOp .And (a :: b :: rest) pos) (tT X.K W (wAnd t u)) := PW.imp (pw_and ha hb) fun _ _ _ => i_and
theorem d_or (ha : PT X a (tT X.K W t)) (hb : PW X (.BoolOp .Or (b :: rest) pos) (tT X.K W u)) : PW X (.BoolOp .Or (a :: b :: rest) pos) (tT X.K W (wOr t u)) := PW.imp (pw_or ha hb) fun _ _ _ => i_or
theorem d_not (ha : PT X a (tT X.K W t)) : PT X (.UnaryOp .Not a pos) (tT X.K W (wNot t)) := PT.imp (pt_not ha) fun σ H Q ⟨F, C, ρ, P, PX, hs, en, xr, w, k⟩ =>
  ⟨F, C, ρ, _, PX, hs, en, xr, w, fun b F1 H1 C1 e1 h1 q => k _ F1 H1 C1 e1 h1 q⟩
theorem d_ifE {c : Expr} (hc : PT X c (tT X.K W t)) (ha : PE X a (tE X.K W wa)) (hb : PE X b (tE X.K W wb)) : PE X (.IfExp c a b pos) (tE X.K W (wIf t wa wb)) := PE.imp (pe_ifExp hc ha hb) fun σ H Q ⟨F, C, ρ, P, PX, hs, en, xr, w, k⟩ =>
  ⟨F, C, ρ, _, PX, hs, en, xr, w, fun b F1 H1 C1 e1 h1 q => by
    cases b with
    | true =>
      rw [if_pos rfl] at q
      rw [if_pos rfl]
      exact ⟨F1, C1, ρ, P, PX, h1, en.mono e1, xr.mono e1, q, k.mono e1⟩
    | false =>
      rw [if_neg Bool.false_ne_true] at q
      rw [if_neg Bool.false_ne_true]
      exact ⟨F1, C1, ρ, P, PX, h1, en.mono e1, xr.mono e1, q, k.mono e1⟩⟩
/-- and, or, not as values of True and False -/
def wAndV (a b : DE) (ρ : DEnv) (C : Cells) (P : DK) (PX : DX) : Prop := a ρ C (fun x C1 => match x with | .bl k => if k = true then b ρ C1 P PX else P (.bl false) C1 | _ => False) PX
def wOrV (a b : DE) (ρ : DEnv) (C : Cells) (P : DK) (PX : DX) : Prop := a ρ C (fun x C1 => match x with | .bl k => if k = true then P (.bl true) C1 else b ρ C1 P PX | _ => False) PX
def wNotV (a : DE) (ρ : DEnv) (C : Cells) (P : DK) (PX : DX) : Prop := a ρ C (fun x C1 => match x with | .bl k => P (.bl (!k)) C1 | _ => False) PX
theorem d_one {op} (h : PE X a (tE X.K W wa)) : PE X (.BoolOp op [a] pos) (tE X.K W wa) := pe_one h
theorem d_andV (ha : PE X a (tE X.K W wa)) (hb : PE X (.BoolOp .And (b :: rest) pos) (tE X.K W wb)) : PE X (.BoolOp .And (a :: b :: rest) pos) (tE X.K W (wAndV wa wb)) := PE.imp (pe_and ha hb) fun σ H Q ⟨F, C, ρ, P, PX, hs, en, xr, w, k⟩ =>
  ⟨F, C, ρ, _, PX, hs, en, xr, w, fun v F1 H1 d C1 e1 h1 r q => by
    cases r <;> first | exact q.elim | skip
    rename_i b
    refine ⟨b, rfl, ?_⟩
    cases b with
    | true => exact ⟨F1, C1, ρ, P, PX, h1, en.mono e1, xr.mono e1, q, k.mono e1⟩
    | false => exact k _ F1 H1 _ C1 e1 h1 (.bl _) q⟩
theorem d_orV (ha : PE X a (tE X.K W wa)) (hb : PE X (.BoolOp .Or (b :: rest) pos) (tE X.K W wb)) : PE X (.BoolOp .Or (a :: b :: rest) pos) (tE X.K W (wOrV wa wb)) := PE.imp (pe_or ha hb) fun σ H Q ⟨F, C, ρ, P, PX, hs, en, xr, w, k⟩ =>
  ⟨F, C, ρ, _, PX, hs, en, xr, w, fun v F1 H1 d C1 e1 h1 r q => by
    cases r <;> first | exact q.elim | skip
    rename_i b
    refine ⟨b, rfl, ?_⟩
    cases b with
    | false => exact ⟨F1, C1, ρ, P, PX, h1, en.mono e1, xr.mono e1, q, k.mono e1⟩
    | true => exact k _ F1 H1 _ C1 e1 h1 (.bl _) q⟩
theorem d_notV (ha : PE X a (tE X.K W wa)) : PE X (.UnaryOp .Not a pos) (tE X.K W (wNotV wa)) := PE.imp (pe_not ha) fun σ H Q ⟨F, C, ρ, P, PX, hs, en, xr, w, k⟩ =>
  ⟨F, C, ρ, _, PX, hs, en, xr, w, fun v F1 H1 d C1 e1 h1 r q => by
    cases r <;> first | exact q.elim | skip
    exact ⟨_, rfl, k _ F1 H1 _ C1 e1 h1 (.bl _) q⟩⟩
end
/-- a < b < c -/
def wChain (r r' : DR2) (a b c : DE) (ρ : DEnv) (C : Cells) (P : DK) (PX : DX) : Prop := a ρ C (fun x C1 => b ρ C1 (fun y C2 => r x y C2 fun z C3 => match z with
  | .bl k => if k = true then c ρ C3 (fun u C4 => r' y u C4 P) PX else P (.bl false) C3
  | _ => False) PX) PX

/-! ### displays -/
def wTup (a : DA) (ρ : DEnv) (C : Cells) (P : DK) (PX : DX) : Prop := a ρ C (fun ds C1 => ds.length ≤ 100000 ∧ P (.tup ds) C1) PX
def wLst (a : DA) (ρ : DEnv) (C : Cells) (P : DK) (PX : DX) : Prop := a ρ C (fun ds C1 => ds.length ≤ 100000 ∧ P (.lst ds) C1) PX
/-- a list that is still to change -/
def wLstC (a : DA) (ρ : DEnv) (C : Cells) (P : DK) (PX : DX) : Prop := a ρ C (fun ds C1 => ds.length ≤ 100000 ∧ ∀ p, C1 p = none → P (.ptr p) (cput C1 p (.lst ds))) PX
theorem sz_of {n : Nat} (h : n ≤ 100000) : n ≤ sizeLine := Nat.le_trans h (by decide)
theorem sz_lt {n : Nat} (h : n < 100000) : n < sizeLine := Nat.lt_of_lt_of_le h (by decide)
section
variable {X : Cx} {W : WX} {K : PySem.W.Frag} {es : List Expr} {wr : DA} {pos : Pos}
theorem Hs.newL {F : Hp} {C : Cells} {H : Hp} {xs : List V} {ds : List D} (h : Hs K F C H) (r : RepL K F xs ds) {p : Addr} (hp : H p = none) : Ex F (upd F p (.lst xs)) ∧ Hs K (upd F p (.lst xs)) C (upd H p (.lst xs)) ∧ Rep K (upd F p (.lst xs)) (.ref p) (.lst ds) := by
  obtain ⟨e, h2⟩ := h.lay (o := .lst xs) hp
  exact ⟨e, h2, .lst (.of upd_same) (r.mono e)⟩
theorem Hs.newT {F : Hp} {C : Cells} {H : Hp} {xs : List V} {ds : List D} (h : Hs K F C H) (r : RepL K F xs ds) {p : Addr} (hp : H p = none) : Ex F (upd F p (.tup xs)) ∧ Hs K (upd F p (.tup xs)) C (upd H p (.tup xs)) ∧ Rep K (upd F p (.tup xs)) (.ref p) (.tup ds) := by
  obtain ⟨e, h2⟩ := h.lay (o := .tup xs) hp
  exact ⟨e, h2, .tup upd_same (r.mono e)⟩
theorem Hs.newC {F : Hp} {C : Cells} {H : Hp} {xs : List V} {ds : List D} (h : Hs K F C H) (r : RepL K F xs ds) {p : Addr} (hp : H p = none) : C p = none ∧ Hs K F (cput C p (.lst ds)) (upd H p (.lst xs)) :=
  ⟨(h.fresh hp).2, h.put (h.fresh hp).1 ⟨xs, upd_same, r⟩⟩
theorem d_tup {x1} (h : PA X es (tA X.K W wr)) : PE X (.Tuple es x1 pos) (tE X.K W (wTup wr)) := PE.imp (pe_tup h) fun σ H Q ⟨F, C, ρ, P, PX, hs, en, xr, w, k⟩ =>
  ⟨F, C, ρ, _, PX, hs, en, xr, w, fun vs F1 H1 ds C1 e1 h1 r q => ⟨by rw [r.length]; exact sz_of q.1, fun p hp => by
    obtain ⟨e2, h2, r2⟩ := h1.newT r hp
    exact k _ _ _ _ C1 (e1.trans e2) h2 r2 q.2⟩⟩
theorem d_lst (h : PA X es (tA X.K W wr)) : PE X (.List es pos) (tE X.K W (wLst wr)) := PE.imp (pe_lst h) fun σ H Q ⟨F, C, ρ, P, PX, hs, en, xr, w, k⟩ =>
  ⟨F, C, ρ, _, PX, hs, en, xr, w, fun vs F1 H1 ds C1 e1 h1 r q => ⟨by rw [r.length]; exact sz_of q.1, fun p hp => by
    obtain ⟨e2, h2, r2⟩ := h1.newL r hp
    exact k _ _ _ _ C1 (e1.trans e2) h2 r2 q.2⟩⟩
theorem d_lstC (h : PA X es (tA X.K W wr)) : PE X (.List es pos) (tE X.K W (wLstC wr)) := PE.imp (pe_lst h) fun σ H Q ⟨F, C, ρ, P, PX, hs, en, xr, w, k⟩ =>
  ⟨F, C, ρ, _, PX, hs, en, xr, w, fun vs F1 H1 ds C1 e1 h1 r q => ⟨by rw [r.length]; exact sz_of q.1, fun p hp => by
    obtain ⟨c0, h2⟩ := h1.newC r hp
    exact k _ _ _ _ _ e1 h2 (.ptr p) (q.2 p c0)⟩⟩
theorem d_chain {op op' : CmpOp} {r r' : R2} {rd rd' : DR2} {a b c : Expr} {wa wb wc : DE} (ho : OpR X (compareOp op) r) (hr : SimR X.K r rd) (ho' : OpR X (compareOp op') r') (hr' : SimR X.K r' rd')
    (h : PE X (.Compare a [op, op'] [b, c] pos) (tChain r r' (tE X.K W wa) (tE X.K W wb) (tE X.K W wc))) : PE X (.Compare a [op, op'] [b, c] pos) (tE X.K W (wChain rd rd' wa wb wc)) := PE.imp h fun σ H Q ⟨F, C, ρ, P, PX, hs, en, xr, w, k⟩ =>
  ⟨F, C, ρ, _, PX, hs, en, xr, w, fun v F1 H1 d C1 e1 h1 rd1 q => ⟨F1, C1, ρ, _, PX, h1, en.mono e1, xr.mono e1, q, fun u F2 H2 du C2 e2 h2 ru q2 => hr F2 C2 H2 v u d du _ _ h2 (rd1.mono e2) ru q2 fun z F3 H3 dz C3 e3 h3 rz q3 => by
    cases rz <;> first | exact q3.elim | skip
    rename_i b
    refine ⟨b, rfl, ?_⟩
    cases b with
    | true => exact ⟨F3, C3, ρ, _, PX, h3, en.mono ((e1.trans e2).trans e3), xr.mono ((e1.trans e2).trans e3), q3, fun u4 F4 H4 d4 C4 e4 h4 r4 q4 => hr' F4 C4 H4 u u4 du d4 P Q h4 (ru.mono (e3.trans e4)) r4 q4 (k.mono (((e1.trans e2).trans e3).trans e4))⟩
    | false => exact k _ F3 H3 _ C3 ((e1.trans e2).trans e3) h3 (.bl _) q3⟩⟩
end
end DD

set_option Elab.async false
set_option linter.all false
set_option maxRecDepth 100000
set_option maxHeartbeats 4000000
/-! Readings over data: statements, targets, loops. -/
namespace DD
open PySem L2 PyProof.Rows

section
variable {X : Cx} {W : WX} {K : PySem.W.Frag}
theorem i_chain {r r' : R2} {rd rd' : DR2} {wa wb wc : DE} (hr : SimR K r rd) (hr' : SimR K r' rd') {σ : L2.St} {H : Hp} {Q : VK} (h : tE K W (wChain rd rd' wa wb wc) σ H Q) : tChain r r' (tE K W wa) (tE K W wb) (tE K W wc) σ H Q := by
  obtain ⟨F, C, ρ, P, PX, hs, en, xr, w, k⟩ := h
  exact ⟨F, C, ρ, _, PX, hs, en, xr, w, fun v F1 H1 d C1 e1 h1 rd1 q => ⟨F1, C1, ρ, _, PX, h1, en.mono e1, xr.mono e1, q, fun u F2 H2 du C2 e2 h2 ru q2 => hr F2 C2 H2 v u d du _ _ h2 (rd1.mono e2) ru q2 fun z F3 H3 dz C3 e3 h3 rz q3 => by
    cases rz <;> first | exact q3.elim | skip
    rename_i b
    refine ⟨b, rfl, ?_⟩
    cases b with
    | true => exact ⟨F3, C3, ρ, _, PX, h3, en.mono ((e1.trans e2).trans e3), xr.mono ((e1.trans e2).trans e3), q3, fun u4 F4 H4 d4 C4 e4 h4 r4 q4 => hr' F4 C4 H4 u u4 du d4 P Q h4 (ru.mono (e3.trans e4)) r4 q4 (k.mono (((e1.trans e2).trans e3).trans e4))⟩
    | false => exact k _ F3 H3 _ C3 ((e1.trans e2).trans e3) h3 (.bl _) q3⟩⟩
theorem d_chainE {op op' : CmpOp} {r r' : R2} {rd rd' : DR2} {a b c : Expr} {wa wb wc : DE} {pos : Pos} (ho : OpR X (compareOp op) r) (hr : SimR X.K r rd) (ho' : OpR X (compareOp op') r') (hr' : SimR X.K r' rd') (ha : PE X a (tE X.K W wa)) (hb : PE X b (tE X.K W wb)) (hc : PE X c (tE X.K W wc))
    (hm : lastMarks [op, op'] [b, c] = false := by with_unfolding_all rfl) : PE X (.Compare a [op, op'] [b, c] pos) (tE X.K W (wChain rd rd' wa wb wc)) := PE.imp (pe_chain ho ho' ha hb hc hm) fun _ _ _ => i_chain hr hr'
theorem d_chainT {op op' : CmpOp} {r r' : R2} {rd rd' : DR2} {a b c : Expr} {wa wb wc : DE} {pos : Pos} (ho : OpR X (compareOp op) r) (hr : SimR X.K r rd) (ho' : OpR X (compareOp op') r') (hr' : SimR X.K r' rd') (ha : PE X a (tE X.K W wa)) (hb : PE X b (tE X.K W wb)) (hc : PE X c (tE X.K W wc))
    (hm : lastMarks [op, op'] [b, c] = false := by with_unfolding_all rfl) : PT X (.Compare a [op, op'] [b, c] pos) (tT X.K W (wTest (wChain rd rd' wa wb wc))) := PT.imp (pt_chain ho ho' ha hb hc hm) fun σ H Q h => by
  obtain ⟨F, C, ρ, P, PX, hs, en, xr, w, k⟩ := i_test h
  exact i_chain hr hr' ⟨F, C, ρ, P, PX, hs, en, xr, w, k⟩
end

/-! ### statements -/
def KontS (K : PySem.W.Frag) (F : Hp) (P : DEnv → Cells → Prop) (Q : L2.St → Hp → Prop) : Prop := ∀ σ F' H ρ C, Ex F F' → Hs K F' C H → EnvR K F' σ ρ → P ρ C → Q σ H
theorem KontS.mono {K : PySem.W.Frag} {F F' : Hp} {P : DEnv → Cells → Prop} {Q : L2.St → Hp → Prop} (e : Ex F F') (h : KontS K F P Q) : KontS K F' P Q := fun σ F1 H ρ C e1 => h σ F1 H ρ C (e.trans e1)
structure EndsR (K : PySem.W.Frag) (F : Hp) (DE : DEnds) (D : Ends) : Prop where
  nx : KontS K F DE.nx D.nx
  rt : Kont K F DE.rt D.rt
  bk : KontS K F DE.bk D.bk
  ct : KontS K F DE.ct D.ct
theorem EndsR.mono {K : PySem.W.Frag} {F F' : Hp} {DE : DEnds} {D : Ends} (e : Ex F F') (h : EndsR K F DE D) : EndsR K F' DE D := ⟨h.nx.mono e, h.rt.mono e, h.bk.mono e, h.ct.mono e⟩
def tS (K : PySem.W.Frag) (W : WX) (w : DS) : TS := fun D σ H => ∃ F C ρ DE, Hs K F C H ∧ EnvR K F σ ρ ∧ ExR K F W DE.ex ∧ w DE ρ C ∧ EndsR K F DE D

def wNext (E : DEnds) (ρ : DEnv) (C : Cells) : Prop := E.nx ρ C
def wSeq (a b : DS) (E : DEnds) (ρ : DEnv) (C : Cells) : Prop := a { E with nx := fun ρ' C' => b E ρ' C' } ρ C
/-- the same, a place to stop at -/
def wSeqL (a b : DS) (E : DEnds) (ρ : DEnv) (C : Cells) : Prop := a { E with nx := fun ρ' C' => b E ρ' C' } ρ C
def wBreak (E : DEnds) (ρ : DEnv) (C : Cells) : Prop := E.bk ρ C
def wCont (E : DEnds) (ρ : DEnv) (C : Cells) : Prop := E.ct ρ C
def wDrop (e : DE) (E : DEnds) (ρ : DEnv) (C : Cells) : Prop := e ρ C (fun _ C1 => E.nx ρ C1) E.ex
def wRet (e : DE) (E : DEnds) (ρ : DEnv) (C : Cells) : Prop := e ρ C E.rt E.ex
def wRetN (E : DEnds) (_ : DEnv) (C : Cells) : Prop := E.rt .non C
def wIfS (t : DT) (a b : DS) (E : DEnds) (ρ : DEnv) (C : Cells) : Prop := t ρ C (fun k C1 => if k = true then a E ρ C1 else b E ρ C1) E.ex
/-- a list that was built, handed back: it does not change any more -/
def wRetF (e : DE) (E : DEnds) (ρ : DEnv) (C : Cells) : Prop := e ρ C (fun d C1 => match d with
  | .ptr p => match C1 p with
    | some (.lst ds) => ∃ C2, Sub C2 C1 ∧ C2 p = none ∧ E.rt (.lst ds) C2
    | some (.dK kvs) => ∃ C2, Sub C2 C1 ∧ C2 p = none ∧ E.rt (.dK kvs) C2
    | some (.dT kvs) => ∃ C2, Sub C2 C1 ∧ C2 p = none ∧ E.rt (.dT kvs) C2
    | some (.ins Cl fs) => ∃ C2, Sub C2 C1 ∧ C2 p = none ∧ E.rt (.ins Cl fs) C2
    | _ => False
  | d => E.rt d C1) E.ex
/-- a cell that does not change any more: what the name at i holds is data from here on -/
def wFrz (i : Nat) (E : DEnds) (ρ : DEnv) (C : Cells) : Prop := match (ρ[i]? : Option (Option D)) with
  | some (some (.ptr p)) => match C p with
    | some (.lst ds) => ∃ C2, Sub C2 C ∧ C2 p = none ∧ E.nx (ρ.set i (some (.lst ds))) C2
    | some (.dK kvs) => ∃ C2, Sub C2 C ∧ C2 p = none ∧ E.nx (ρ.set i (some (.dK kvs))) C2
    | some (.dT kvs) => ∃ C2, Sub C2 C ∧ C2 p = none ∧ E.nx (ρ.set i (some (.dT kvs))) C2
    | some (.ins Cl fs) => ∃ C2, Sub C2 C ∧ C2 p = none ∧ E.nx (ρ.set i (some (.ins Cl fs))) C2
    | _ => False
  | _ => False
/-- a cell's content as data -/
def Cell.toD : Cell → D
  | .lst ds => .lst ds
  | .ins C fs => .ins C fs
  | .dK kvs => .dK kvs
  | .dT kvs => .dT kvs
  | .lK kvs _ _ => .dK kvs
  | .lT kvs _ _ => .dT kvs
section
variable {X : Cx} {W : WX} {K : PySem.W.Frag} {st : Stmt} {rest : List Stmt} {a b : DS} {e : Expr} {we : DE} {t : DT} {pos : Pos}
theorem ds_nil : PSs X [] (tS X.K W wNext) := PSs.imp pss_nil fun D σ H ⟨F, C, ρ, DE, hs, en, xr, w, er⟩ => er.nx σ F H ρ C (Ex.refl F) hs en w
theorem ds_cons (h1 : PS X st (tS X.K W a)) (h2 : PSs X rest (tS X.K W b)) : PSs X (st :: rest) (tS X.K W (wSeq a b)) := PSs.imp (pss_cons h1 h2) fun D σ H ⟨F, C, ρ, DE, hs, en, xr, w, er⟩ =>
  ⟨F, C, ρ, { DE with nx := fun ρ' C' => b DE ρ' C' }, hs, en, xr, w, ⟨fun σ1 F1 H1 ρ1 C1 e1 h1 n1 q => ⟨F1, C1, ρ1, DE, h1, n1, xr.mono e1, q, er.mono e1⟩, er.rt, er.bk, er.ct⟩⟩
theorem ds_consL (h1 : PS X st (tS X.K W a)) (h2 : PSs X rest (tS X.K W b)) : PSs X (st :: rest) (tS X.K W (wSeqL a b)) := ds_cons h1 h2
theorem ds_one (h1 : PS X st (tS X.K W a)) : PSs X [st] (tS X.K W a) := pss_one h1
theorem ds_pass : PS X (.Pass pos) (tS X.K W wNext) := PS.imp ps_pass fun D σ H ⟨F, C, ρ, DE, hs, en, xr, w, er⟩ => er.nx σ F H ρ C (Ex.refl F) hs en w
theorem ds_break : PS X (.Break pos) (tS X.K W wBreak) := PS.imp ps_break fun D σ H ⟨F, C, ρ, DE, hs, en, xr, w, er⟩ => er.bk σ F H ρ C (Ex.refl F) hs en w
theorem ds_continue : PS X (.Continue pos) (tS X.K W wCont) := PS.imp ps_continue fun D σ H ⟨F, C, ρ, DE, hs, en, xr, w, er⟩ => er.ct σ F H ρ C (Ex.refl F) hs en w
theorem ds_doc {x j pos'} : PS X (.Expr (.Constant (.str x) j pos) pos') (tS X.K W wNext) := PS.imp ps_doc fun D σ H ⟨F, C, ρ, DE, hs, en, xr, w, er⟩ => er.nx σ F H ρ C (Ex.refl F) hs en w
theorem ds_expr (he : PE X e (tE X.K W we)) (hs : swapsWith e none pos.line X.env = pure false := by rfl) : PS X (.Expr e pos) (tS X.K W (wDrop we)) := PS.imp (ps_expr he hs) fun D σ H ⟨F, C, ρ, DE, hs, en, xr, w, er⟩ =>
  ⟨F, C, ρ, _, _, hs, en, xr, w, fun v F1 H1 d C1 e1 h1 r q => er.nx σ F1 H1 ρ C1 e1 h1 (en.mono e1) q⟩
theorem ds_ret (he : PE X e (tE X.K W we)) : PS X (.Return (some e) pos) (tS X.K W (wRet we)) := PS.imp (ps_ret he) fun D σ H ⟨F, C, ρ, DE, hs, en, xr, w, er⟩ => ⟨F, C, ρ, _, _, hs, en, xr, w, er.rt⟩
theorem ds_retN : PS X (.Return none pos) (tS X.K W wRetN) := PS.imp ps_retN fun D σ H ⟨F, C, ρ, DE, hs, en, xr, w, er⟩ => er.rt _ F H _ C (Ex.refl F) hs .non w
/-- a dict that is not to change any more is locked for good -/
def Fz (Q : Hp → Prop) (H : Hp) : Prop := Q H ∨ ∃ d u, H d = some u ∧ Mut (some u) ∧ ∀ od, Q (upd H d (.frz od u))
theorem ps_fz {t : TS} (h : PS X st t) : PS X st (fun D σ H => t { D with rt := fun v H' => Fz (D.rt v) H' } σ H) := ⟨fun pins s σ H D I w => by
  refine thn (h.run pins s σ H _ I w) fun f s1 q => ?_
  cases f with
  | next => exact q
  | brk => exact q
  | cont => exact q
  | ret v =>
    obtain ⟨x, σ', H', I2, r, q⟩ := q
    rcases q with q | ⟨d, u, hd, mu, q⟩
    · exact ⟨x, σ', H', I2, r, q⟩
    · obtain ⟨od, I3⟩ := I2.lock hd mu
      exact ⟨x, σ', _, I3, r, q od⟩⟩
theorem pe_fz {t : TE} (h : PE X e t) : PE X e (fun σ H Q => t σ H fun v H' => Fz (Q v) H') := ⟨fun pins s σ H Q I w => by
  refine thn (h.run pins s σ H _ I w) fun u s1 ⟨x, H1, I1, rx, q⟩ => ?_
  rcases q with q | ⟨d, o, hd, mu, q⟩
  · exact ⟨x, H1, I1, rx, q⟩
  · obtain ⟨od, I3⟩ := I1.lock hd mu
    exact ⟨x, _, I3, rx, q od⟩⟩
theorem pss_fz {t : TS} (h : PSs X rest t) : PSs X rest (fun D σ H => Fz (t D σ) H) := ⟨fun pins s σ H D I w => by
  rcases w with w | ⟨d, u, hd, mu, w⟩
  · exact h.run pins s σ H D I w
  · obtain ⟨od, I3⟩ := I.lock hd mu
    exact h.run pins s σ _ D I3 (w od)⟩
theorem frz_go {F H : Hp} {C C2 : Cells} {p : Addr} {c : Cell} (h : Hs K F C H) (e : C p = some c) (s : Sub C2 C) (n : C2 p = none) (hc : match c with | .dK _ => False | .dT _ => False | _ => True) :
    ∃ F2, Ex F F2 ∧ Hs K F2 C2 H ∧ Rep K F2 (.ref p) c.toD := by
  obtain ⟨o, ho, ex, h2, f, r⟩ := h.freeze e s n
  refine ⟨_, ex, h2, ?_⟩
  have r := r.ex ex
  cases c with
  | lst ds => obtain ⟨xs, q, r⟩ := r; rw [ho] at q; cases q; exact .lst (.of f) r
  | ins _ ds => obtain ⟨dx, xs, q, r⟩ := r; rw [ho] at q; cases q; exact .ins f r
  | lK ds od vs => obtain ⟨q, r⟩ := r; rw [ho] at q; cases q; exact .dK f r
  | lT ds od vs => obtain ⟨q, r⟩ := r; rw [ho] at q; cases q; exact .dT f r
  | dK ds => exact hc.elim
  | dT ds => exact hc.elim
theorem frz_dic {F H : Hp} {C C2 : Cells} {p : Addr} {o : HO} (h : Hs K F C H) (f0 : F p = none) (s : Sub C2 C) (n : C2 p = none) (od : Obj) : Ex F (upd F p (.frz od o)) ∧ Hs K (upd F p (.frz od o)) C2 (upd H p (.frz od o)) := by
  refine ⟨Ex.new f0, fun a u q => ?_, fun a d q => ?_⟩
  · by_cases z : a = p
    · subst z; rw [upd_same] at q ⊢; exact .inl q
    · rw [upd_ne z] at q ⊢; exact h.ex a u q
  · have z : a ≠ p := cell_ne q n
    obtain ⟨f1, r1⟩ := h.cell a d (s a d q)
    exact ⟨by rw [upd_ne z]; exact f1, (r1.ex (Ex.new f0)).at (upd_ne z)⟩
/-- a cell handed on as data: as it is, or locked -/
theorem frz_any {F H : Hp} {C C2 : Cells} {p : Addr} {c : Cell} (h : Hs K F C H) (e : C p = some c) (s : Sub C2 C) (n : C2 p = none) {Q : Hp → Prop} (k : ∀ F2 H2, Ex F F2 → Hs K F2 C2 H2 → Rep K F2 (.ref p) c.toD → Q H2) : Fz Q H := by
  cases c with
  | dK t =>
    obtain ⟨f0, vs, h1, h2⟩ := h.cell p _ e
    refine .inr ⟨p, _, h1, trivial, fun od => ?_⟩
    obtain ⟨e2, h3⟩ := frz_dic (o := .dK vs) h f0 s n od
    exact k _ _ e2 h3 (.dK upd_same (h2.mono e2))
  | dT t =>
    obtain ⟨f0, vs, h1, h2⟩ := h.cell p _ e
    refine .inr ⟨p, _, h1, trivial, fun od => ?_⟩
    obtain ⟨e2, h3⟩ := frz_dic (o := .dT vs) h f0 s n od
    exact k _ _ e2 h3 (.dT upd_same (h2.mono e2))
  | _ =>
    obtain ⟨F2, e2, h2, r2⟩ := frz_go h e s n trivial
    exact .inl (k F2 H e2 h2 r2)
theorem ds_retF (he : PE X e (tE X.K W we)) : PS X (.Return (some e) pos) (tS X.K W (wRetF we)) := PS.imp (ps_fz (ps_ret he)) fun D σ H ⟨F, C, ρ, DE, hs, en, xr, w, er⟩ => ⟨F, C, ρ, _, _, hs, en, xr, w, fun v F1 H1 d C1 e1 h1 r q => by
    cases r <;> first
      | (exact .inl (er.rt _ F1 H1 _ C1 e1 h1 (by constructor <;> assumption) q))
      | (rename_i p
         revert q
         show (match C1 p with | some (.lst ds) => _ | some (.dK ds) => _ | some (.dT ds) => _ | some (.ins Cl ds) => _ | _ => False) → _
         cases ec : C1 p with
         | none => exact fun z => z.elim
         | some c =>
           cases c <;> first | exact fun z => z.elim |
           (rintro ⟨C2, s2, n2, q⟩
            exact frz_any h1 ec s2 n2 fun F2 H2 e2 h2 r2 => er.rt _ F2 H2 _ C2 (e1.trans e2) h2 r2 q))⟩
theorem ds_frz {w : DS} (h : PSs X rest (tS X.K W w)) (i : Nat) : PSs X rest (tS X.K W (wSeq (wFrz i) w)) := PSs.imp (pss_fz h) fun Dn σ H ⟨F, C, ρ, DE, hs, en, xr, q, er⟩ => by
  revert q
  show (match (ρ[i]? : Option (Option D)) with | some (some (.ptr p)) => _ | _ => False) → _
  split
  · rename_i p hp
    obtain ⟨v, hv, rv⟩ := en.2 i _ hp
    cases rv
    show (match C p with | some (.lst ds) => _ | some (.dK ds) => _ | some (.dT ds) => _ | some (.ins Cl ds) => _ | _ => False) → _
    cases ec : C p with
    | none => exact fun z => z.elim
    | some c =>
      cases c <;> first | exact fun z => z.elim |
      (rintro ⟨C2, s2, n2, q⟩
       refine frz_any hs ec s2 n2 fun F2 H2 e2 h2 r2 => ?_
       have en2 := (en.mono e2).set (i := i) r2
       have es : σ.set i (some (.ref p)) = σ := by
         refine List.ext_getElem? fun j => ?_
         by_cases ij : i = j
         · subst ij
           have hl : i < σ.length := by
             rcases Nat.lt_or_ge i σ.length with z | z
             · exact z
             · rw [List.getElem?_eq_none z] at hv; cases hv
           rw [List.getElem?_set_self hl, hv]
         · rw [List.getElem?_set_ne ij]
       rw [es] at en2
       exact ⟨F2, C2, _, DE, h2, en2, xr.mono e2, q, er.mono e2⟩)
  · exact fun z => z.elim
theorem ds_if {c : Expr} {p q : List Stmt} (hc : PT X c (tT X.K W t)) (ha : PSs X p (tS X.K W a)) (hb : PSs X q (tS X.K W b)) : PS X (.If c p q pos) (tS X.K W (wIfS t a b)) := PS.imp (ps_if hc ha hb) fun D σ H ⟨F, C, ρ, DE, hs, en, xr, w, er⟩ =>
  ⟨F, C, ρ, _, _, hs, en, xr, w, fun k F1 H1 C1 e1 h1 q => by
    cases k with
    | true =>
      rw [if_pos rfl] at q
      rw [if_pos rfl]
      exact ⟨F1, C1, ρ, DE, h1, en.mono e1, xr.mono e1, q, er.mono e1⟩
    | false =>
      rw [if_neg Bool.false_ne_true] at q
      rw [if_neg Bool.false_ne_true]
      exact ⟨F1, C1, ρ, DE, h1, en.mono e1, xr.mono e1, q, er.mono e1⟩⟩
end

/-! ### targets -/
inductive Tgt where
  | name (i : Nat)
  | tup (ts : List Tgt)
mutual
def Tgt.tg (K : PySem.W.Frag) : Tgt → TG
  | .name i => gName i
  | .tup ts => gTup K ts.length (tgs K ts)
def tgs (K : PySem.W.Frag) : List Tgt → TGs
  | [] => gNil
  | t :: r => gCons (t.tg K) (tgs K r)
end
mutual
def Tgt.dg : Tgt → D → DEnv → Option DEnv
  | .name i, d, ρ => some (ρ.set i (some d))
  | .tup ts, d, ρ => match d with
    | .tup ds => dgs ts ds ρ
    | .ktup ds => dgs ts ds ρ
    | _ => none
def dgs : List Tgt → List D → DEnv → Option DEnv
  | [], ds, ρ => match ds with
    | [] => some ρ
    | _ => none
  | t :: r, ds, ρ => match ds with
    | d :: ds => match t.dg d ρ with
      | some ρ' => dgs r ds ρ'
      | none => none
    | [] => none
end
mutual
def Tgt.slots : Tgt → List Nat
  | .name i => [i]
  | .tup ts => slotsAll ts
def slotsAll : List Tgt → List Nat
  | [] => []
  | t :: r => t.slots ++ slotsAll r
end
theorem wipe_at (σ : L2.St) : ∀ (vs : List Nat) (j : Nat), (wipe σ vs)[j]? = if j ∈ vs then (σ[j]?).map (fun _ => none) else σ[j]?
  | [], j => by simp [wipe]
  | v :: vs, j => by
    show ((wipe σ vs).set v none)[j]? = _
    rw [List.getElem?_set, wipe_at σ vs j, wipe_length]
    by_cases h : v = j
    · subst h
      rw [if_pos rfl, if_pos (List.mem_cons_self)]
      by_cases hl : v < σ.length
      · rw [if_pos hl, List.getElem?_eq_getElem hl]; rfl
      · rw [if_neg hl, List.getElem?_eq_none (by omega)]; rfl
    · rw [if_neg h]
      by_cases hm : j ∈ vs
      · rw [if_pos hm, if_pos (List.mem_cons_of_mem _ hm)]
      · rw [if_neg hm, if_neg (by simp only [List.mem_cons, not_or]; exact ⟨fun e => h e.symm, hm⟩)]
theorem wipe_set {σ : L2.St} {vs : List Nat} {i : Nat} {x : Option V} (h : i ∈ vs) : wipe (σ.set i x) vs = wipe σ vs := by
  refine List.ext_getElem? fun j => ?_
  rw [wipe_at, wipe_at]
  by_cases hj : j ∈ vs
  · rw [if_pos hj, if_pos hj, List.getElem?_set]
    by_cases e : i = j
    · subst e
      rw [if_pos rfl]
      by_cases hl : i < σ.length
      · rw [if_pos hl, List.getElem?_eq_getElem hl]; rfl
      · rw [if_neg hl, List.getElem?_eq_none (by omega)]
    · rw [if_neg e]
  · rw [if_neg hj, if_neg hj, List.getElem?_set_ne (fun e => hj (by rw [← e]; exact h))]
theorem wipe_wipe (σ : L2.St) (vs : List Nat) : wipe (wipe σ vs) vs = wipe σ vs := by
  refine List.ext_getElem? fun j => ?_
  rw [wipe_at, wipe_at]
  by_cases hj : j ∈ vs
  · rw [if_pos hj, if_pos hj]
    cases σ[j]? <;> rfl
  · rw [if_neg hj, if_neg hj]
section
variable {K : PySem.W.Frag} {F H : Hp}
mutual
theorem tg_ok {Q : L2.St → Hp → Prop} : ∀ (t : Tgt) {v : V} {d : D} {σ : L2.St} {ρ ρ' : DEnv}, Ex F H → Rep K F v d → EnvR K F σ ρ → t.dg d ρ = some ρ' → (∀ σ', EnvR K F σ' ρ' → (∀ vs, (∀ i ∈ t.slots, i ∈ vs) → wipe σ' vs = wipe σ vs) → Q σ' H) → (t.tg K) v σ H Q
  | .name i, v, d, σ, ρ, ρ', ex, r, en, h, k => by
    simp only [Tgt.dg, Option.some.injEq] at h
    subst h
    show Q (σ.set i (some v)) H
    exact k _ (en.set r) fun vs hv => wipe_set (hv i (by simp [Tgt.slots]))
  | .tup ts, v, d, σ, ρ, ρ', ex, r, en, h, k => by
    simp only [Tgt.dg] at h
    cases r <;> first | (simp at h; done) | skip
    · rename_i a xs ds hq hr
      simp only at h
      simp only [Tgt.tg]
      refine ⟨a, xs, rfl, .of (ex.nd hq rfl), ?_, tgs_ok ts ex hr en h (fun σ' e' hw => k σ' e' (by simpa only [Tgt.slots] using hw))⟩
      rw [hr.length]
      exact dgs_len ts h
    · rename_i a xs ds hq hr
      simp only at h
      simp only [Tgt.tg]
      refine ⟨a, xs, rfl, ex_t ex hq, ?_, tgs_ok ts ex hr en h (fun σ' e' hw => k σ' e' (by simpa only [Tgt.slots] using hw))⟩
      rw [hr.length]
      exact dgs_len ts h
theorem tgs_ok {Q : L2.St → Hp → Prop} : ∀ (ts : List Tgt) {vs : List V} {ds : List D} {σ : L2.St} {ρ ρ' : DEnv}, Ex F H → RepL K F vs ds → EnvR K F σ ρ → dgs ts ds ρ = some ρ' → (∀ σ', EnvR K F σ' ρ' → (∀ ws, (∀ i ∈ slotsAll ts, i ∈ ws) → wipe σ' ws = wipe σ ws) → Q σ' H) → (tgs K ts) vs σ H Q
  | [], vs, ds, σ, ρ, ρ', ex, r, en, h, k => by
    cases r with
    | nil =>
      simp only [dgs, Option.some.injEq] at h
      subst h
      simp only [tgs]
      exact ⟨rfl, k σ en fun _ _ => rfl⟩
    | cons _ _ => simp [dgs] at h
  | t :: rest, vs, ds, σ, ρ, ρ', ex, r, en, h, k => by
    cases r with
    | nil => simp [dgs] at h
    | cons r1 r2 =>
      simp only [dgs] at h
      split at h
      · rename_i ρ1 h1
        simp only [tgs]
        refine ⟨_, _, rfl, tg_ok t ex r1 en h1 fun σ1 en1 hw1 => tgs_ok rest ex r2 en1 h fun σ2 en2 hw2 => k σ2 en2 fun ws hin => ?_⟩
        simp only [slotsAll, List.mem_append] at hin
        rw [hw2 ws (fun i hi => hin i (.inr hi)), hw1 ws (fun i hi => hin i (.inl hi))]
      · cases h
theorem dgs_len : ∀ (ts : List Tgt) {ds : List D} {ρ ρ' : DEnv}, dgs ts ds ρ = some ρ' → ds.length = ts.length
  | [], ds, ρ, ρ', h => by
    cases ds with
    | nil => rfl
    | cons _ _ => simp [dgs] at h
  | t :: rest, ds, ρ, ρ', h => by
    cases ds with
    | nil => simp [dgs] at h
    | cons d ds =>
      simp only [dgs] at h
      split at h
      · exact congrArg (· + 1) (dgs_len rest h)
      · cases h
end
end
section
variable {X : Cx} {pos : Pos}
theorem dg_name {x : Str} (i : Nat) (hN : X.N.Nodup) (hi : X.N[i]? = some x := by rfl) (hx : Loc X.env.scope x := by first | exact Or.inl rfl | exact Or.inr rfl) (hf : X.fn x = true ∨ X.env.scope.names.lookup x = some .local := by first | exact .inl rfl | exact .inr rfl | assumption) : PG X (.Name x pos) (Tgt.tg X.K (.name i)) := by
  simp only [Tgt.tg]
  exact pg_name hN hi hx hf
theorem dgs_nil : PGs X [] (tgs X.K []) := by
  simp only [tgs]
  exact pgs_nil
theorem dgs_cons {e : Expr} {es : List Expr} {t : Tgt} {r : List Tgt} (h1 : PG X e (t.tg X.K)) (h2 : PGs X es (tgs X.K r))
    (hs : (assignEach (e :: es) X.env).map (·.2) = assign e X.env :: (assignEach es X.env).map (·.2) := by rfl) : PGs X (e :: es) (tgs X.K (t :: r)) := by
  simp only [tgs]
  exact pgs_cons h1 h2 hs
theorem dg_tup {es : List Expr} {k : Nat} {ts : List Tgt} (hc : X.calm = true) (h : PGs X es (tgs X.K ts))
    (hn : (assignEach es X.env).length = ts.length := by rfl) (hst : (assignEach es X.env).findIdx? (·.1) = none := by rfl) : PG X (.Tuple es k pos) (Tgt.tg X.K (.tup ts)) := by
  simp only [Tgt.tg]
  exact pg_tup hc h hn hst
end
/-- target = e -/
def wAsg (e : DE) (t : Tgt) (E : DEnds) (ρ : DEnv) (C : Cells) : Prop := e ρ C (fun d C1 => match t.dg d ρ with | some ρ' => E.nx ρ' C1 | none => False) E.ex
def wSet (i : Nat) (e : DE) (E : DEnds) (ρ : DEnv) (C : Cells) : Prop := e ρ C (fun d C1 => E.nx (ρ.set i (some d)) C1) E.ex
/-- name op= e -/
def wAug (i : Nat) (e : DE) (r : DR2) (E : DEnds) (ρ : DEnv) (C : Cells) : Prop := match (ρ[i]? : Option (Option D)) with
  | some (some x) => e ρ C (fun y C1 => r x y C1 (fun z C2 => E.nx (ρ.set i (some z)) C2)) E.ex
  | _ => False
section
variable {X : Cx} {W : WX} {K : PySem.W.Frag} {e : Expr} {we : DE} {pos : Pos}
theorem ds_asg {tg : Expr} {t : Tgt} (he : PE X e (tE X.K W we)) (hg : PG X tg (t.tg X.K)) (hs : swapsWithSole [tg] e pos.line X.env = pure false := by rfl) (hw : swappedStores [tg] e X.env = pure none := by rfl)
    (h1 : (assignEach [tg] X.env).map (·.2) = [assign tg X.env] := by rfl) : PS X (.Assign [tg] e pos) (tS X.K W (wAsg we t)) := PS.imp (ps_asg he hg hs hw h1) fun D σ H ⟨F, C, ρ, DE, hs, en, xr, w, er⟩ =>
  ⟨F, C, ρ, _, _, hs, en, xr, w, fun v F1 H1 d C1 e1 h1 r q => by
    revert q
    dsimp only
    split
    · rename_i ρ' hd
      exact fun q => tg_ok t h1.ex r (en.mono e1) hd fun σ' en' _ => er.nx σ' F1 H1 ρ' C1 e1 h1 en' q
    · exact fun z => z.elim⟩
/-- name = e -/
theorem ds_set (i : Nat) {x : Str} {pos' : Pos} (hN : X.N.Nodup) (he : PE X e (tE X.K W we)) (hi : X.N[i]? = some x := by rfl) (hx : Loc X.env.scope x := by first | exact Or.inl rfl | exact Or.inr rfl) (hs : swapsWith e (some (.Name x pos')) pos.line X.env = pure false := by rfl) (hf : X.fn x = true ∨ X.env.scope.names.lookup x = some .local := by first | exact .inl rfl | exact .inr rfl | assumption) :
    PS X (.Assign [.Name x pos'] e pos) (tS X.K W (wSet i we)) := PS.imp (ps_set hN hi hx he hs hf) fun D σ H ⟨F, C, ρ, DE, hs, en, xr, w, er⟩ =>
  ⟨F, C, ρ, _, _, hs, en, xr, w, fun v F1 H1 d C1 e1 h1 r q => er.nx _ F1 H1 _ C1 e1 h1 ((en.mono e1).set r) q⟩
theorem ds_aug (i : Nat) {x : Str} {op : Operator} {ti : TIp} {rd : DR2} {pos' : Pos} (hN : X.N.Nodup) (ho : PIp X op ti) (hr : SimR X.K ti rd) (he : PE X e (tE X.K W we)) (hi : X.N[i]? = some x := by rfl) (hx : Loc X.env.scope x := by first | exact Or.inl rfl | exact Or.inr rfl) (hf : X.fn x = true ∨ X.env.scope.names.lookup x = some .local := by first | exact .inl rfl | exact .inr rfl | assumption) :
    PS X (.AugAssign (.Name x pos') op e pos) (tS X.K W (wAug i we rd)) := PS.imp (ps_aug hN hi hx he ho hf) fun Dn σ H ⟨F, C, ρ, DE, hs, en, xr, w, er⟩ => by
  revert w
  show (match (ρ[i]? : Option (Option D)) with | some (some x) => _ | _ => False) → _
  split
  · rename_i x hx
    intro w
    obtain ⟨v, hv, rv⟩ := en.2 i _ hx
    exact ⟨v, hv, F, C, ρ, _, _, hs, en, xr, w, fun u F1 H1 d C1 e1 h1 r q => hr F1 C1 H1 v u x d _ _ h1 (rv.mono e1) r q fun z F2 H2 dz C2 e2 h2 rz q2 => er.nx _ F2 H2 _ C2 (e1.trans e2) h2 ((en.mono (e1.trans e2)).set rz) q2⟩
  · exact fun z => z.elim
theorem s_ipAdd : SimR K (ipI fun i j => i + j) dAdd := fun F C H x y dx dy P Q hs rx ry w k => by
  cases rx <;> cases ry <;> first | exact w.elim | exact ⟨_, _, rfl, rfl, k _ F H _ C (Ex.refl F) hs (.int _) w⟩
theorem s_ipSub : SimR K (ipI fun i j => i - j) dSub := fun F C H x y dx dy P Q hs rx ry w k => by
  cases rx <;> cases ry <;> first | exact w.elim | exact ⟨_, _, rfl, rfl, k _ F H _ C (Ex.refl F) hs (.int _) w⟩
end

/-! ### what is walked -/
structure DIt where
  items : List D
  still : Cells → Prop
abbrev DI := DEnv → Cells → (DIt → Cells → Prop) → DX → Prop
def ItR (K : PySem.W.Frag) (F : Hp) (J : It) (Jd : DIt) : Prop := ∀ F' H C, Ex F F' → Hs K F' C H → Jd.still C →
  (∀ (i : Nat) (d : D), Jd.items[i]? = some d → J.go i H ∧ ∀ x H', J.yld i H x H' → ∃ F'', Ex F' F'' ∧ Hs K F'' C H' ∧ Rep K F'' x d) ∧ J.stop Jd.items.length H
theorem ItR.mono {K : PySem.W.Frag} {F F' : Hp} {J : It} {Jd : DIt} (e : Ex F F') (h : ItR K F J Jd) : ItR K F' J Jd := fun F1 H C e1 => h F1 H C (e.trans e1)
def tI (K : PySem.W.Frag) (W : WX) (w : DI) : TI := fun σ H R => ∃ F C ρ P PX, Hs K F C H ∧ EnvR K F σ ρ ∧ ExR K F W PX ∧ w ρ C P PX ∧ ∀ J F' H' Jd C', Ex F F' → Hs K F' C' H' → ItR K F' J Jd → P Jd C' → R J H'
theorem PI.imp {X : Cx} {tg it : Expr} {t t' : TI} (h : PI X tg it t) (i : ∀ σ H R, t' σ H R → t σ H R) : PI X tg it t' := ⟨fun pins s σ H R I w => h.run pins s σ H R I (i σ H R w)⟩
def frozen : Cells → Prop := fun _ => True
/-- a list, frozen or a cell -/
def wItL (e : DE) (ρ : DEnv) (C : Cells) (P : DIt → Cells → Prop) (PX : DX) : Prop := e ρ C (fun d C1 => match d with
  | .lst ds => P ⟨ds, frozen⟩ C1
  | .ptr a => match C1 a with
    | some (.lst ds) => P ⟨ds, fun C' => C' a = some (.lst ds)⟩ C1
    | _ => False
  | _ => False) PX
def wItT (e : DE) (ρ : DEnv) (C : Cells) (P : DIt → Cells → Prop) (PX : DX) : Prop := e ρ C (fun d C1 => match d with
  | .tup ds => P ⟨ds, frozen⟩ C1
  | .ktup ds => P ⟨ds, frozen⟩ C1
  | _ => False) PX
def rngD (lo : Int) (n : Nat) : List D := (List.range n).map fun (k : Nat) => D.int (lo + (k : Int))
def wRng1 (a : DA) (ρ : DEnv) (C : Cells) (P : DIt → Cells → Prop) (PX : DX) : Prop := a ρ C (fun ds C1 => match ds with
  | [.int j] => (-(2 ^ 62) ≤ j ∧ j < 2 ^ 62) ∧ P ⟨rngD 0 j.toNat, frozen⟩ C1
  | _ => False) PX
def wRng2 (a : DA) (ρ : DEnv) (C : Cells) (P : DIt → Cells → Prop) (PX : DX) : Prop := a ρ C (fun ds C1 => match ds with
  | [.int i, .int j] => (-(2 ^ 62) ≤ i ∧ i < 2 ^ 62 ∧ -(2 ^ 62) ≤ j ∧ j < 2 ^ 62) ∧ P ⟨rngD i (j - i).toNat, frozen⟩ C1
  | _ => False) PX
theorem rngD_len (lo : Int) (n : Nat) : (rngD lo n).length = n := by simp [rngD]
theorem rngD_get {lo : Int} {n i : Nat} {d : D} (h : (rngD lo n)[i]? = some d) : i < n ∧ d = .int (lo + (i : Int)) := by
  unfold rngD at h
  rw [List.getElem?_map] at h
  rcases Nat.lt_or_ge i n with z | z
  · rw [List.getElem?_range z] at h
    exact ⟨z, (Option.some.inj h).symm⟩
  · rw [List.getElem?_eq_none (by simpa using z)] at h; cases h
section
variable {X : Cx} {W : WX} {K : PySem.W.Frag} {e tg : Expr} {we : DE} {wr : DA} {pos : Pos}
theorem itr_lst {F : Hp} {a : Addr} {xs : List V} {ds : List D} (h : SqL K F a xs) (r : RepL K F xs ds) : ItR K F (Itl K a) ⟨ds, frozen⟩ := fun F' H C e hs _ => by
  have hH : SqL K H a xs := ex_l hs.ex (ex_l e h)
  refine ⟨fun i d hd => ?_, ⟨xs, hH, by rw [r.length]; exact Nat.le_refl _⟩⟩
  obtain ⟨v, hv, rv⟩ := r.get hd
  refine ⟨⟨xs, v, hH, hv⟩, fun x H' y => ?_⟩
  obtain ⟨rfl, y⟩ := y
  have := y xs hH
  rw [hv] at this
  cases this
  exact ⟨F', Ex.refl _, hs, rv.mono e⟩
theorem itr_cell {F : Hp} {a : Addr} {ds : List D} : ItR K F (Itl K a) ⟨ds, fun C' => C' a = some (.lst ds)⟩ := fun F' H C e hs hc => by
  obtain ⟨_, xs, hx, r⟩ := hs.cell a _ hc
  have hH : SqL K H a xs := .of hx
  refine ⟨fun i d hd => ?_, ⟨xs, hH, by rw [r.length]; exact Nat.le_refl _⟩⟩
  obtain ⟨v, hv, rv⟩ := r.get hd
  refine ⟨⟨xs, v, hH, hv⟩, fun x H' y => ?_⟩
  obtain ⟨rfl, y⟩ := y
  have := y xs hH
  rw [hv] at this
  cases this
  exact ⟨F', Ex.refl _, hs, rv⟩
theorem itr_tup {F : Hp} {a : Addr} {xs : List V} {ds : List D} (h : SqT K F a xs) (r : RepL K F xs ds) : ItR K F (Itt K a) ⟨ds, frozen⟩ := fun F' H C e hs _ => by
  have hH : SqT K H a xs := ex_t hs.ex (ex_t e h)
  refine ⟨fun i d hd => ?_, ⟨xs, hH, by rw [r.length]; exact Nat.le_refl _⟩⟩
  obtain ⟨v, hv, rv⟩ := r.get hd
  refine ⟨⟨xs, v, hH, hv⟩, fun x H' y => ?_⟩
  obtain ⟨rfl, y⟩ := y
  have := y xs hH
  rw [hv] at this
  cases this
  exact ⟨F', Ex.refl _, hs, rv.mono e⟩
theorem itr_rng {F : Hp} {lo : Int} {n : Nat} : ItR K F (Itr lo n) ⟨rngD lo n, frozen⟩ := fun F' H C e hs _ => by
  refine ⟨fun i d hd => ?_, by show n ≤ (rngD lo n).length; rw [rngD_len]; exact Nat.le_refl _⟩
  obtain ⟨hi, rfl⟩ := rngD_get hd
  refine ⟨hi, fun x H' y => ?_⟩
  obtain ⟨rfl, rfl⟩ := y
  exact ⟨F', Ex.refl _, hs, .int _⟩
theorem di_list (he : PE X e (tE X.K W we)) : PI X tg e (tI X.K W (wItL we)) := PI.imp (pi_list he) fun σ H R ⟨F, C, ρ, P, PX, hs, en, xr, w, k⟩ =>
  ⟨F, C, ρ, _, PX, hs, en, xr, w, fun v F1 H1 d C1 e1 h1 r q => by
    cases r <;> first | exact q.elim | skip
    · rename_i a xs ds hq hr
      exact ⟨a, rfl, ⟨xs, ex_l h1.ex hq⟩, k _ F1 H1 _ C1 e1 h1 (itr_lst hq hr) q⟩
    · rename_i a
      revert q
      dsimp only
      split
      · rename_i ds hc
        intro q
        obtain ⟨_, xs, hx, r⟩ := h1.cell a _ hc
        exact ⟨a, rfl, ⟨xs, .of hx⟩, k _ F1 H1 _ C1 e1 h1 itr_cell q⟩
      · exact fun z => z.elim⟩
theorem di_tup (he : PE X e (tE X.K W we)) : PI X tg e (tI X.K W (wItT we)) := PI.imp (pi_tup he) fun σ H R ⟨F, C, ρ, P, PX, hs, en, xr, w, k⟩ =>
  ⟨F, C, ρ, _, PX, hs, en, xr, w, fun v F1 H1 d C1 e1 h1 r q => by
    cases r <;> first | exact q.elim | skip
    · rename_i a xs ds hq hr
      exact ⟨a, rfl, ⟨xs, .of (h1.ex.nd hq rfl)⟩, k _ F1 H1 _ C1 e1 h1 (itr_tup (.of hq) hr) q⟩
    · rename_i a xs ds hq hr
      exact ⟨a, rfl, ⟨xs, ex_t h1.ex hq⟩, k _ F1 H1 _ C1 e1 h1 (itr_tup hq hr) q⟩⟩
theorem di_rng1 {a : Expr} {p : Pos} (hg : Gl X "range") (hm : X.mg "range" = none) (ha : PA X [a] (tA X.K W wr)) (hs : starEach [a] X.env = [(false, eval a X.env)] := by rfl) : PI X tg (.Call (.Name "range" p) [a] [] pos) (tI X.K W (wRng1 wr)) :=
  PI.imp (pi_range1 hg hm ha hs) fun σ H R ⟨F, C, ρ, P, PX, hs, en, xr, w, k⟩ => ⟨F, C, ρ, _, PX, hs, en, xr, w, fun v F1 H1 d C1 e1 h1 r q => by
    revert q
    dsimp only
    split
    · intro q
      rename_i j
      cases r with
      | cons r1 r2 =>
        cases r1; cases r2
        exact ⟨j, rfl, q.1.1, q.1.2, k _ F1 H1 _ C1 e1 h1 itr_rng q.2⟩
    · exact fun z => z.elim⟩
theorem di_rng2 {a b : Expr} {p : Pos} (hg : Gl X "range") (hm : X.mg "range" = none) (ha : PA X [a, b] (tA X.K W wr)) (hs : starEach [a, b] X.env = [(false, eval a X.env), (false, eval b X.env)] := by rfl) (hs2 : starEach [b] X.env = [(false, eval b X.env)] := by rfl) : PI X tg (.Call (.Name "range" p) [a, b] [] pos) (tI X.K W (wRng2 wr)) :=
  PI.imp (pi_range2 hg hm ha hs hs2) fun σ H R ⟨F, C, ρ, P, PX, hs, en, xr, w, k⟩ => ⟨F, C, ρ, _, PX, hs, en, xr, w, fun v F1 H1 d C1 e1 h1 r q => by
    revert q
    dsimp only
    split
    · intro q
      rename_i i j
      cases r with
      | cons r1 r2 =>
        cases r1
        cases r2 with
        | cons r2 r3 =>
          cases r2; cases r3
          exact ⟨i, j, rfl, q.1, k _ F1 H1 _ C1 e1 h1 itr_rng q.2⟩
    · exact fun z => z.elim⟩
end

/-! ### loops -/
def ForG (J : DIt) (t : Tgt) (b : DS) (E : DEnds) (ρ : DEnv) (C1 : Cells) : Prop := ∃ Inv : Nat → DEnv → Cells → Prop, Inv 0 ρ C1 ∧ (∀ i ρ' C', Inv i ρ' C' → J.still C') ∧
  (∀ i d ρ' C', J.items[i]? = some d → Inv i ρ' C' → match t.dg d ρ' with
    | some ρ2 => b { nx := Inv (i + 1), ct := Inv (i + 1), bk := E.nx, rt := E.rt, ex := E.ex } ρ2 C'
    | none => False) ∧
  (∀ ρ' C', Inv J.items.length ρ' C' → E.nx ρ' C')
def wFor (wi : DI) (t : Tgt) (b : DS) (E : DEnds) (ρ : DEnv) (C : Cells) : Prop := wi ρ C (fun J C1 => ForG J t b E ρ C1) E.ex
def wWhile (t : DT) (b : DS) (E : DEnds) (ρ : DEnv) (C : Cells) : Prop := ∃ Inv : Nat → DEnv → Cells → Prop, (∃ m, Inv m ρ C) ∧ ∀ m ρ' C', Inv m ρ' C' → t ρ' C' (fun k C1 => if k = true then
    b { nx := fun ρ2 C2 => ∃ m', m' < m ∧ Inv m' ρ2 C2, ct := fun ρ2 C2 => ∃ m', m' < m ∧ Inv m' ρ2 C2, bk := E.nx, rt := E.rt, ex := E.ex } ρ' C1 else E.nx ρ' C1) E.ex
section
variable {X : Cx} {W : WX} {wb : DS} {pos : Pos}
theorem ds_for {tg iter : Expr} {body : List Stmt} {wi : DI} {t : Tgt} (hp : PassesOwn (model X.prog X.w) X.A X.env X.xe) (hc : X.calm = true) (hi : PI X tg iter (tI X.K W wi)) (hg : PG X tg (t.tg X.K)) (hb : PSs X body (tS X.K W wb))
    (hs : ∀ x, foldedSetIterable iter X.env x = pure x := by intro _; rfl) : PS X (.For tg iter body [] pos) (tS X.K W (wFor wi t wb)) := PS.imp (ps_for hp hc hi hg hb hs) fun D σ H ⟨F, C, ρ, DE, hs, en, xr, w, er⟩ =>
  ⟨F, C, ρ, _, _, hs, en, xr, w, fun J F1 H1 Jd C1 e1 h1 ir q => by
    obtain ⟨Inv, i0, st, turn, done⟩ := q
    refine ⟨fun i m σ' H' => m = Jd.items.length - i ∧ i ≤ Jd.items.length ∧ ∃ F' ρ' C', Ex F1 F' ∧ Hs X.K F' C' H' ∧ EnvR X.K F' σ' ρ' ∧ Inv i ρ' C', ⟨_, rfl, Nat.zero_le _, F1, ρ, C1, Ex.refl _, h1, en.mono e1, i0⟩, ?_⟩
    rintro i m σ' H' ⟨rfl, hl, F', ρ', C', e', h', n', p⟩
    obtain ⟨go, stop⟩ := ir F' H' C' e' h' (st i ρ' C' p)
    by_cases hi : i = Jd.items.length
    · subst hi
      exact .inl ⟨stop, er.nx σ' F' H' ρ' C' (e1.trans e') h' n' (done ρ' C' p)⟩
    · have hlt : i < Jd.items.length := by omega
      have hd : Jd.items[i]? = some Jd.items[i] := List.getElem?_eq_getElem hlt
      obtain ⟨g1, g2⟩ := go i _ hd
      have q := turn i _ ρ' C' hd p
      refine .inr ⟨g1, fun σ2 H2 => ∃ F2 ρ2 C2, Ex F' F2 ∧ Hs X.K F2 C2 H2 ∧ EnvR X.K F2 σ2 ρ2 ∧ Inv (i + 1) ρ2 C2, ?_, ?_⟩
      · rintro σ2 H2 ⟨F2, ρ2, C2, e2, h2, n2, p2⟩
        exact ⟨_, by omega, rfl, hlt, F2, ρ2, C2, e'.trans e2, h2, n2, p2⟩
      · intro x H2 hy
        obtain ⟨F2, e2, h2, rx⟩ := g2 x H2 hy
        revert q
        split
        · rename_i ρ2 hdg
          intro q
          refine tg_ok t h2.ex rx (n'.mono e2) hdg fun σ2 en2 _ => ?_
          exact ⟨F2, C', ρ2, { nx := Inv (i + 1), ct := Inv (i + 1), bk := DE.nx, rt := DE.rt, ex := DE.ex }, h2, en2, xr.mono ((e1.trans e').trans e2), q, ⟨fun σ3 F3 H3 ρ3 C3 e3 h3 n3 p3 => ⟨F3, ρ3, C3, e2.trans e3, h3, n3, p3⟩, er.rt.mono ((e1.trans e').trans e2), er.nx.mono ((e1.trans e').trans e2), fun σ3 F3 H3 ρ3 C3 e3 h3 n3 p3 => ⟨F3, ρ3, C3, e2.trans e3, h3, n3, p3⟩⟩⟩
        · exact fun z => z.elim⟩
theorem ds_while {c : Expr} {body : List Stmt} {t : DT} (hp : PassesOwn (model X.prog X.w) X.A X.env X.xe) (hc : PT X c (tT X.K W t)) (hb : PSs X body (tS X.K W wb)) : PS X (.While c body [] pos) (tS X.K W (wWhile t wb)) := PS.imp (ps_while hp hc hb) fun D σ H ⟨F, C, ρ, DE, hs, en, xr, w, er⟩ => by
  obtain ⟨Inv, ⟨m0, i0⟩, turn⟩ := w
  refine ⟨fun m σ' H' => ∃ F' ρ' C', Ex F F' ∧ Hs X.K F' C' H' ∧ EnvR X.K F' σ' ρ' ∧ Inv m ρ' C', ⟨m0, F, ρ, C, Ex.refl _, hs, en, i0⟩, ?_⟩
  rintro m σ' H' ⟨F', ρ', C', e', h', n', p⟩
  refine ⟨F', C', ρ', _, _, h', n', xr.mono e', turn m ρ' C' p, fun k F1 H1 C1 e1 h1 q => ?_⟩
  cases k with
  | true =>
    rw [if_pos rfl] at q
    rw [if_pos rfl]
    refine ⟨fun σ2 H2 => ∃ m', m' < m ∧ ∃ F2 ρ2 C2, Ex F F2 ∧ Hs X.K F2 C2 H2 ∧ EnvR X.K F2 σ2 ρ2 ∧ Inv m' ρ2 C2, fun _ _ z => z, ?_⟩
    exact ⟨F1, C1, ρ', { nx := fun ρ2 C2 => ∃ m', m' < m ∧ Inv m' ρ2 C2, ct := fun ρ2 C2 => ∃ m', m' < m ∧ Inv m' ρ2 C2, bk := DE.nx, rt := DE.rt, ex := DE.ex }, h1, n'.mono e1, xr.mono (e'.trans e1), q, ⟨fun σ3 F3 H3 ρ3 C3 e3 h3 n3 ⟨m', hm, p3⟩ => ⟨m', hm, F3, ρ3, C3, (e'.trans e1).trans e3, h3, n3, p3⟩, er.rt.mono (e'.trans e1), er.nx.mono (e'.trans e1), fun σ3 F3 H3 ρ3 C3 e3 h3 n3 ⟨m', hm, p3⟩ => ⟨m', hm, F3, ρ3, C3, (e'.trans e1).trans e3, h3, n3, p3⟩⟩⟩
  | false =>
    rw [if_neg Bool.false_ne_true] at q
    rw [if_neg Bool.false_ne_true]
    exact er.nx σ' F1 H1 ρ' C1 (e'.trans e1) h1 (n'.mono e1) q
end
end DD

set_option Elab.async false
set_option linter.all false
set_option maxRecDepth 100000
set_option maxHeartbeats 4000000
/-! Readings over data: calls of defs, classes, attributes; a def keeps its promise. -/
namespace DD
open PySem L2 PyProof.Rows

abbrev DSp := List D → Cells → DK → Prop
abbrev XC := Value → List (String × D) → Cells → Prop
abbrev DSpX := List D → Cells → DK → XC → Prop
def KontX (K : PySem.W.Frag) (F : Hp) (PX : XC) (E : XK) : Prop := ∀ cls d fs F' H C, Ex F F' → Hs K F' C H → XRep K F' H d fs → PX cls fs C → E cls d H
/-- a promise over data; of a def that may raise -/
def spD (K : PySem.W.Frag) (R : DSp) : Sp := fun vs H Q _ => ∃ F C ds P, Hs K F C H ∧ RepL K F vs ds ∧ R ds C P ∧ Kont K F P Q
def spX (K : PySem.W.Frag) (R : DSpX) : Sp := fun vs H Q E => ∃ F C ds P PX, Hs K F C H ∧ RepL K F vs ds ∧ R ds C P PX ∧ Kont K F P Q ∧ KontX K F PX E

/-! ### calls -/
def wCall (R : DSp) (dd : List D) (a : DA) (ρ : DEnv) (C : Cells) (P : DK) (PX : DX) : Prop := a ρ C (fun ds C1 => R (ds ++ dd) C1 P) PX
def wCallX (R : DSpX) (dd : List D) (a : DA) (ρ : DEnv) (C : Cells) (P : DK) (PX : DX) : Prop := a ρ C (fun ds C1 => R (ds ++ dd) C1 P (fun cls fs C2 => PX cls fs ρ C2)) PX
/-- it is an instance of the class at Cl without an attribute of this name of its own -/
def isIns (Cl : Addr) (m : String) (o : D) (C : Cells) : Prop := match o with
  | .ins c fs => c = Cl ∧ fs.lookup m = none
  | .ptr p => match C p with
    | some (.ins c fs) => c = Cl ∧ fs.lookup m = none
    | _ => False
  | _ => False
def wMeth (Cl : Addr) (m : String) (R : DSp) (dd : List D) (o : DE) (a : DA) (ρ : DEnv) (C : Cells) (P : DK) (PX : DX) : Prop := o ρ C (fun x C1 => isIns Cl m x C1 ∧ a ρ C1 (fun ds C2 => R (x :: (ds ++ dd)) C2 P) PX) PX
def wMethX (Cl : Addr) (m : String) (R : DSpX) (dd : List D) (o : DE) (a : DA) (ρ : DEnv) (C : Cells) (P : DK) (PX : DX) : Prop := o ρ C (fun x C1 => isIns Cl m x C1 ∧ a ρ C1 (fun ds C2 => R (x :: (ds ++ dd)) C2 P (fun cls fs C3 => PX cls fs ρ C3)) PX) PX
/-- a new instance: a cell; one that does not change any more behind __init__ -/
def wMake (Cl : Addr) (R : DSp) (dd : List D) (a : DA) (ρ : DEnv) (C : Cells) (P : DK) (PX : DX) : Prop := a ρ C (fun ds C1 => ∀ p, C1 p = none → R (.ptr p :: (ds ++ dd)) (cput C1 p (.ins Cl [])) (fun r C2 => r = .non ∧ P (.ptr p) C2)) PX
def frzP (P : DK) (p : Addr) (C2 : Cells) : Prop := match C2 p with
  | some (.ins c fs) => ∃ C3, Sub C3 C2 ∧ C3 p = none ∧ P (.ins c fs) C3
  | _ => False
def wMakeF (Cl : Addr) (R : DSp) (dd : List D) (a : DA) (ρ : DEnv) (C : Cells) (P : DK) (PX : DX) : Prop := a ρ C (fun ds C1 => ∀ p, C1 p = none → R (.ptr p :: (ds ++ dd)) (cput C1 p (.ins Cl [])) (fun r C2 => r = .non ∧ frzP P p C2)) PX
def wMakeX (Cl : Addr) (R : DSpX) (dd : List D) (a : DA) (ρ : DEnv) (C : Cells) (P : DK) (PX : DX) : Prop := a ρ C (fun ds C1 => ∀ p, C1 p = none → R (.ptr p :: (ds ++ dd)) (cput C1 p (.ins Cl [])) (fun r C2 => r = .non ∧ P (.ptr p) C2) (fun cls fs C3 => PX cls fs ρ C3)) PX
def wMakeXF (Cl : Addr) (R : DSpX) (dd : List D) (a : DA) (ρ : DEnv) (C : Cells) (P : DK) (PX : DX) : Prop := a ρ C (fun ds C1 => ∀ p, C1 p = none → R (.ptr p :: (ds ++ dd)) (cput C1 p (.ins Cl [])) (fun r C2 => r = .non ∧ frzP P p C2) (fun cls fs C3 => PX cls fs ρ C3)) PX

section
variable {X : Cx} {W : WX} {K : PySem.W.Frag} {k : Nat} {f Cl : Addr} {fd : FuncData} {ps : List Str} {R : DSp} {RX : DSpX} {dvs : List V} {dd : List D} {dsv : List Value} {x m : Str} {p pos apos : Pos} {e o : Expr} {es : List Expr} {wa : DE} {wr : DA}
theorem KontX.of {F : Hp} {W : WX} {PX : DX} {σ : L2.St} {ρ : DEnv} (xr : ExR K F W PX) (en : EnvR K F σ ρ) : KontX K F (fun cls fs C2 => PX cls fs ρ C2) (WE W σ) :=
  fun cls d fs F' H C e hs r q => xr cls d fs σ F' H ρ C e hs (en.mono e) r q
theorem d_call (G : FnOk X.prog X.w X.K X.mg X.base CX0 k f fd ps (spD X.K R)) (hr : Room k X.A) (hm : X.mg x = some (.ref f)) (hk : PySem.W.keepIn X.K (.ref f) = true) (hb : Binds X.K fd ps dsv) (ha : PA X (e :: es) (tA X.K W wr)) (hd : Vals dvs dsv := by exact .nil) (hdd : ∀ F, RepL X.K F dvs dd := by exact fun _ => .nil) (hg : Gl X x := by rfl)
    (hdb : (x == ("__debug__" : Str)) = false := by decide) (he : starEach (e :: es) X.env = (false, eval e X.env) :: starEach es X.env := by rfl) (hpl : (backTo pos (starEach es X.env)).any (·.1) = false := by rfl) :
    PE X (.Call (.Name x p) (e :: es) [] pos) (tE X.K W (wCall R dd wr)) := PE.imp (pe_call (E := E0) G hr hg hm hk hb hd pass0 ha hdb he hpl) fun σ H Q ⟨F, C, ρ, P, PX, hs, en, xr, w, k⟩ =>
  ⟨F, C, ρ, _, PX, hs, en, xr, w, fun vs F1 H1 ds C1 e1 h1 r q => ⟨F1, C1, ds ++ dd, P, h1, r.append (hdd F1), q, k.mono e1⟩⟩
theorem d_call0 (G : FnOk X.prog X.w X.K X.mg X.base CX0 k f fd ps (spD X.K R)) (hr : Room k X.A) (hm : X.mg x = some (.ref f)) (hk : PySem.W.keepIn X.K (.ref f) = true) (hb : Binds X.K fd ps dsv) (hd : Vals dvs dsv := by exact .nil) (hdd : ∀ F, RepL X.K F dvs dd := by exact fun _ => .nil) (hg : Gl X x := by rfl)
    (hdb : (x == ("__debug__" : Str)) = false := by decide) : PE X (.Call (.Name x p) [] [] pos) (tE X.K W (wCall R dd wNil)) := PE.imp (pe_call0 (E := E0) G hr hg hm hk hb hd pass0 hdb) fun σ H Q ⟨F, C, ρ, P, PX, hs, en, xr, w, k⟩ =>
  ⟨F, C, dd, P, hs, by exact (hdd F), by exact w, k⟩
theorem d_callX (tk : Takes X W) (G : FnOk X.prog X.w X.K X.mg X.base (L2.CX X.prog X.w) k f fd ps (spX X.K RX)) (hr : Room k X.A) (hm : X.mg x = some (.ref f)) (hk : PySem.W.keepIn X.K (.ref f) = true) (hb : Binds X.K fd ps dsv) (ha : PA X (e :: es) (tA X.K W wr)) (hd : Vals dvs dsv := by exact .nil) (hdd : ∀ F, RepL X.K F dvs dd := by exact fun _ => .nil) (hg : Gl X x := by rfl)
    (hdb : (x == ("__debug__" : Str)) = false := by decide) (he : starEach (e :: es) X.env = (false, eval e X.env) :: starEach es X.env := by rfl) (hpl : (backTo pos (starEach es X.env)).any (·.1) = false := by rfl) :
    PE X (.Call (.Name x p) (e :: es) [] pos) (tE X.K W (wCallX RX dd wr)) := PE.imp (pe_callSD (E := WE W) G hr hg hm hk hb hd (fun σ => passAt tk σ) ha hdb he hpl) fun σ H Q ⟨F, C, ρ, P, PX, hs, en, xr, w, k⟩ =>
  ⟨F, C, ρ, _, PX, hs, en, xr, w, fun vs F1 H1 ds C1 e1 h1 r q => ⟨F1, C1, ds ++ dd, P, _, h1, r.append (hdd F1), q, k.mono e1, KontX.of (xr.mono e1) (en.mono e1)⟩⟩
theorem ins_of {F H : Hp} {C : Cells} {v : V} {d : D} (hs : Hs K F C H) (r : Rep K F v d) {mm : String} (h : isIns Cl mm d C) : ∃ a dx gs, v = .ref a ∧ H a = some (.ins Cl dx gs) ∧ gs.lookup (Str.ofString mm) = none := by
  cases r <;> first | exact h.elim | skip
  · rename_i a c dx gs fs hf rf
    obtain ⟨rfl, hl⟩ := h
    exact ⟨a, dx, gs, rfl, hs.ex.nd hf rfl, rf.lookup_none hl⟩
  · rename_i a
    revert h
    show (match C a with | some (.ins c fs) => _ | _ => False) → _
    split
    · rename_i c fs hc
      rintro ⟨rfl, hl⟩
      obtain ⟨_, dx, gs, hg, rf⟩ := hs.cell a _ hc
      exact ⟨a, dx, gs, rfl, hg, rf.lookup_none hl⟩
    · exact fun z => z.elim
theorem d_meth {mm : String} {pl : Sem Bool} (c : Cls X.K Cl) (hm : Meth X.K Cl (Str.ofString mm) f) (G : FnOk X.prog X.w X.K X.mg X.base CX0 k f fd ps (spD X.K R)) (hr : Room k X.A) (hb : Binds X.K fd ps dsv) (ho : PE X o (tE X.K W wa)) (ha : PA X (e :: es) (tA X.K W wr)) (hd : Vals dvs dsv := by exact .nil) (hdd : ∀ F, RepL X.K F dvs dd := by exact fun _ => .nil)
    (hst : starEach (e :: es) X.env = (false, eval e X.env) :: starEach es X.env := by rfl) (hpl : (backTo pos (starEach es X.env)).any (·.1) = false := by rfl)
    (ht : eval (.Call (.Attribute o (Str.ofString mm) apos) (e :: es) [] pos) X.env = (do
      let ov ← eval o X.env
      standAt apos.atName
      let (f, first) ← holding [ov] (getMethod ov (Str.ofString mm) pl)
      callWith pos f first (backTo pos (starEach (e :: es) X.env)) (backToKw pos (keywordEach [] X.env))) := by rfl) :
    PE X (.Call (.Attribute o (Str.ofString mm) apos) (e :: es) [] pos) (tE X.K W (wMeth Cl mm R dd wa wr)) := PE.imp (pe_meth (pl := pl) (E := E0) ho c hm G hr hb hd pass0 ha hst hpl ht) fun σ H Q ⟨F, C, ρ, P, PX, hs, en, xr, w, k⟩ =>
  ⟨F, C, ρ, _, PX, hs, en, xr, w, fun v F1 H1 d C1 e1 h1 rv q => by
    obtain ⟨qi, q⟩ := q
    obtain ⟨a, dx, gs, ev, ha, hl⟩ := ins_of h1 rv qi
    exact ⟨a, dx, gs, ev, ha, hl, F1, C1, ρ, _, PX, h1, en.mono e1, xr.mono e1, q, fun vs F2 H2 ds C2 e2 h2 rl q2 => ⟨F2, C2, d :: (ds ++ dd), P, h2, .cons (rv.mono e2) (rl.append (hdd F2)), q2, k.mono (e1.trans e2)⟩⟩⟩
theorem d_meth0 {mm : String} {pl : Sem Bool} (c : Cls X.K Cl) (hm : Meth X.K Cl (Str.ofString mm) f) (G : FnOk X.prog X.w X.K X.mg X.base CX0 k f fd ps (spD X.K R)) (hr : Room k X.A) (hb : Binds X.K fd ps dsv) (ho : PE X o (tE X.K W wa)) (hd : Vals dvs dsv := by exact .nil) (hdd : ∀ F, RepL X.K F dvs dd := by exact fun _ => .nil)
    (ht : eval (.Call (.Attribute o (Str.ofString mm) apos) [] [] pos) X.env = (do
      let ov ← eval o X.env
      standAt apos.atName
      let (f, first) ← holding [ov] (getMethod ov (Str.ofString mm) pl)
      callWith pos f first (backTo pos (starEach [] X.env)) (backToKw pos (keywordEach [] X.env))) := by rfl) :
    PE X (.Call (.Attribute o (Str.ofString mm) apos) [] [] pos) (tE X.K W (wMeth Cl mm R dd wa wNil)) := PE.imp (pe_meth0 (pl := pl) (E := E0) ho c hm G hr hb hd pass0 ht) fun σ H Q ⟨F, C, ρ, P, PX, hs, en, xr, w, k⟩ =>
  ⟨F, C, ρ, _, PX, hs, en, xr, w, fun v F1 H1 d C1 e1 h1 rv q => by
    obtain ⟨qi, q⟩ := q
    obtain ⟨a, dx, gs, ev, ha, hl⟩ := ins_of h1 rv qi
    exact ⟨a, dx, gs, ev, ha, hl, F1, C1, d :: dd, P, h1, .cons rv (hdd F1), q, k.mono e1⟩⟩
/-- a method that may raise -/
theorem pe_methSD {ta : TE} {t : TA} {E : L2.St → XK} {pl : Sem Bool} {sp : Sp} {CX : CXT} (he : PE X o ta) (c : Cls X.K Cl) (hm : Meth X.K Cl m f) (F : FnOk X.prog X.w X.K X.mg X.base CX k f fd ps sp) (hr : Room k X.A) (hb : Binds X.K fd ps dsv) (hd : Vals dvs dsv) (hx : ∀ σ, PassesAt CX X σ (E σ)) (ha : PA X (e :: es) t)
    (hst : starEach (e :: es) X.env = (false, eval e X.env) :: starEach es X.env := by rfl) (hpl : (backTo pos (starEach es X.env)).any (·.1) = false := by rfl)
    (ht : eval (.Call (.Attribute o m apos) (e :: es) [] pos) X.env = (do
      let ov ← eval o X.env
      standAt apos.atName
      let (f, first) ← holding [ov] (getMethod ov m pl)
      callWith pos f first (backTo pos (starEach (e :: es) X.env)) (backToKw pos (keywordEach [] X.env))) := by rfl) :
    PE X (.Call (.Attribute o m apos) (e :: es) [] pos) (fun σ H Q => ta σ H fun x H1 => ∃ a dx fs, x = .ref a ∧ H1 a = some (.ins Cl dx fs) ∧ fs.lookup m = none ∧ t σ H1 fun vs H2 => sp (x :: (vs ++ dvs)) H2 Q (E σ)) := by
  refine ⟨fun pins s σ H Q I h => ?_⟩
  refine PySem.W.methodCall_KW (pl := pl) (thn (he.run pins s σ H _ I h) fun u s1 ⟨x, H1, I1, rx, a, dx, fs, ex, ea, l, q⟩ => ?_) ht
  subst ex
  obtain rfl : u = Value.ref a := rx
  refine getmeth_ok I1 ea c hm l ?_
  refine PySem.W.callWith_K (first := [.ref a]) (h₀ := X.base) I.ok.mod.kin hm.kp (thn (ha.run pos pins s1 σ H1 _ I1 q) fun us s2 ⟨vs, H2, I2, r, q2⟩ => ⟨I2.kIn, ?_⟩) hst hpl
  exact run_fnSD (us := .ref a :: us) (vs := .ref a :: vs) F hr hb hd (hx σ) I2 (.cons rfl r) q2
theorem pe_methSD0 {ta : TE} {E : L2.St → XK} {pl : Sem Bool} {sp : Sp} {CX : CXT} (he : PE X o ta) (c : Cls X.K Cl) (hm : Meth X.K Cl m f) (F : FnOk X.prog X.w X.K X.mg X.base CX k f fd ps sp) (hr : Room k X.A) (hb : Binds X.K fd ps dsv) (hd : Vals dvs dsv) (hx : ∀ σ, PassesAt CX X σ (E σ))
    (ht : eval (.Call (.Attribute o m apos) [] [] pos) X.env = (do
      let ov ← eval o X.env
      standAt apos.atName
      let (f, first) ← holding [ov] (getMethod ov m pl)
      callWith pos f first (backTo pos (starEach [] X.env)) (backToKw pos (keywordEach [] X.env))) := by rfl) :
    PE X (.Call (.Attribute o m apos) [] [] pos) (fun σ H Q => ta σ H fun x H1 => ∃ a dx fs, x = .ref a ∧ H1 a = some (.ins Cl dx fs) ∧ fs.lookup m = none ∧ sp (x :: dvs) H1 Q (E σ)) := by
  refine ⟨fun pins s σ H Q I h => ?_⟩
  refine PySem.W.methodCall_KW (pl := pl) (thn (he.run pins s σ H _ I h) fun u s1 ⟨x, H1, I1, rx, a, dx, fs, ex, ea, l, q⟩ => ?_) ht
  subst ex
  obtain rfl : u = Value.ref a := rx
  refine getmeth_ok I1 ea c hm l ?_
  exact PySem.W.callWith_K0 (first := [.ref a]) I1.kIn hm.kp (run_fnSD (us := [.ref a]) (vs := [.ref a]) F hr hb hd (hx σ) I1 (.cons rfl .nil) q)
theorem d_methX {mm : String} {pl : Sem Bool} (tk : Takes X W) (c : Cls X.K Cl) (hm : Meth X.K Cl (Str.ofString mm) f) (G : FnOk X.prog X.w X.K X.mg X.base (L2.CX X.prog X.w) k f fd ps (spX X.K RX)) (hr : Room k X.A) (hb : Binds X.K fd ps dsv) (ho : PE X o (tE X.K W wa)) (ha : PA X (e :: es) (tA X.K W wr)) (hd : Vals dvs dsv := by exact .nil) (hdd : ∀ F, RepL X.K F dvs dd := by exact fun _ => .nil)
    (hst : starEach (e :: es) X.env = (false, eval e X.env) :: starEach es X.env := by rfl) (hpl : (backTo pos (starEach es X.env)).any (·.1) = false := by rfl)
    (ht : eval (.Call (.Attribute o (Str.ofString mm) apos) (e :: es) [] pos) X.env = (do
      let ov ← eval o X.env
      standAt apos.atName
      let (f, first) ← holding [ov] (getMethod ov (Str.ofString mm) pl)
      callWith pos f first (backTo pos (starEach (e :: es) X.env)) (backToKw pos (keywordEach [] X.env))) := by rfl) :
    PE X (.Call (.Attribute o (Str.ofString mm) apos) (e :: es) [] pos) (tE X.K W (wMethX Cl mm RX dd wa wr)) := PE.imp (pe_methSD (pl := pl) (E := WE W) ho c hm G hr hb hd (fun σ => passAt tk σ) ha hst hpl ht) fun σ H Q ⟨F, C, ρ, P, PX, hs, en, xr, w, k⟩ =>
  ⟨F, C, ρ, _, PX, hs, en, xr, w, fun v F1 H1 d C1 e1 h1 rv q => by
    obtain ⟨qi, q⟩ := q
    obtain ⟨a, dx, gs, ev, ha, hl⟩ := ins_of h1 rv qi
    exact ⟨a, dx, gs, ev, ha, hl, F1, C1, ρ, _, PX, h1, en.mono e1, xr.mono e1, q, fun vs F2 H2 ds C2 e2 h2 rl q2 => ⟨F2, C2, d :: (ds ++ dd), P, _, h2, .cons (rv.mono e2) (rl.append (hdd F2)), q2, k.mono (e1.trans e2), KontX.of (xr.mono (e1.trans e2)) (en.mono (e1.trans e2))⟩⟩⟩
theorem d_methX0 {mm : String} {pl : Sem Bool} (tk : Takes X W) (c : Cls X.K Cl) (hm : Meth X.K Cl (Str.ofString mm) f) (G : FnOk X.prog X.w X.K X.mg X.base (L2.CX X.prog X.w) k f fd ps (spX X.K RX)) (hr : Room k X.A) (hb : Binds X.K fd ps dsv) (ho : PE X o (tE X.K W wa)) (hd : Vals dvs dsv := by exact .nil) (hdd : ∀ F, RepL X.K F dvs dd := by exact fun _ => .nil)
    (ht : eval (.Call (.Attribute o (Str.ofString mm) apos) [] [] pos) X.env = (do
      let ov ← eval o X.env
      standAt apos.atName
      let (f, first) ← holding [ov] (getMethod ov (Str.ofString mm) pl)
      callWith pos f first (backTo pos (starEach [] X.env)) (backToKw pos (keywordEach [] X.env))) := by rfl) :
    PE X (.Call (.Attribute o (Str.ofString mm) apos) [] [] pos) (tE X.K W (wMethX Cl mm RX dd wa wNil)) := PE.imp (pe_methSD0 (pl := pl) (E := WE W) ho c hm G hr hb hd (fun σ => passAt tk σ) ht) fun σ H Q ⟨F, C, ρ, P, PX, hs, en, xr, w, k⟩ =>
  ⟨F, C, ρ, _, PX, hs, en, xr, w, fun v F1 H1 d C1 e1 h1 rv q => by
    obtain ⟨qi, q⟩ := q
    obtain ⟨a, dx, gs, ev, ha, hl⟩ := ins_of h1 rv qi
    exact ⟨a, dx, gs, ev, ha, hl, F1, C1, d :: dd, P, _, h1, .cons rv (hdd F1), q, k.mono e1, KontX.of (xr.mono e1) (en.mono e1)⟩⟩
/-- an object that no data speaks of -/
theorem Hs.skip {F : Hp} {C : Cells} {H : Hp} (h : Hs K F C H) {p : Addr} {o : HO} (hp : H p = none) : Hs K F C (upd H p o) := by
  obtain ⟨f0, c0⟩ := h.fresh hp
  exact ⟨h.ex.mut f0, fun a c e => ⟨(h.cell a c e).1, (h.cell a c e).2.at (upd_ne (cell_ne e c0))⟩⟩
theorem Hs.inst {F : Hp} {C : Cells} {H : Hp} (h : Hs K F C H) {q dx : Addr} (hq : H q = none) (hd : H dx = none) (ne : dx ≠ q) : C q = none ∧ Hs K F (cput C q (.ins Cl [])) (upd (upd H dx (.own q)) q (.ins Cl dx [])) := by
  obtain ⟨f0, c0⟩ := h.fresh hq
  refine ⟨c0, ?_⟩
  exact (h.skip (o := .own q) hd).put (c := .ins Cl []) f0 ⟨dx, [], upd_same, .nil⟩
theorem frz_kont {F : Hp} {P : DK} {Q : VK} {q : Addr} (k : Kont K F P Q) : Kont K F (fun r C2 => r = .non ∧ frzP P q C2) (fun v H2 => v = .non ∧ Q (.ref q) H2) := fun v F2 H2 d C2 e2 h2 rv ⟨ed, z⟩ => by
  subst ed
  cases rv
  refine ⟨rfl, ?_⟩
  revert z
  unfold frzP
  split
  · rename_i c fs hc
    rintro ⟨C3, s3, n3, z⟩
    obtain ⟨F3, e3, h3, r3⟩ := frz_go h2 hc s3 n3 trivial
    exact k _ F3 H2 _ C3 (e2.trans e3) h3 r3 z
  · exact fun z => z.elim
theorem ptr_kont {F : Hp} {P : DK} {Q : VK} {q : Addr} (k : Kont K F P Q) : Kont K F (fun r C2 => r = .non ∧ P (.ptr q) C2) (fun v H2 => v = .non ∧ Q (.ref q) H2) := fun v F2 H2 d C2 e2 h2 rv ⟨ed, z⟩ => by
  subst ed
  cases rv
  exact ⟨rfl, k _ F2 H2 _ C2 e2 h2 (.ptr q) z⟩
theorem d_make (M : Mk X.K Cl f) (G : FnOk X.prog X.w X.K X.mg X.base CX0 k f fd ps (spD X.K R)) (hr : Room (k + 1) X.A) (hm : X.mg x = some (.ref Cl)) (hb : Binds X.K fd ps dsv) (ha : PA X (e :: es) (tA X.K W wr)) (hd : Vals dvs dsv := by exact .nil) (hdd : ∀ F, RepL X.K F dvs dd := by exact fun _ => .nil) (hg : Gl X x := by rfl)
    (hdb : (x == ("__debug__" : Str)) = false := by decide) (he : starEach (e :: es) X.env = (false, eval e X.env) :: starEach es X.env := by rfl) (hpl : (backTo pos (starEach es X.env)).any (·.1) = false := by rfl) :
    PE X (.Call (.Name x p) (e :: es) [] pos) (tE X.K W (wMake Cl R dd wr)) := PE.imp (pe_make (E := E0) M G hr hg hm hb hd pass0 ha hdb he hpl) fun σ H Q ⟨F, C, ρ, P, PX, hs, en, xr, w, k⟩ =>
  ⟨F, C, ρ, _, PX, hs, en, xr, w, fun vs F1 H1 ds C1 e1 h1 r q => fun z dx hz hdx ne => by
    obtain ⟨c0, h2⟩ := h1.inst (Cl := Cl) hz hdx ne
    exact ⟨F1, _, .ptr z :: (ds ++ dd), _, h2, .cons (.ptr z) (r.append (hdd F1)), q z c0, ptr_kont (k.mono e1)⟩⟩
theorem d_make0 (M : Mk X.K Cl f) (G : FnOk X.prog X.w X.K X.mg X.base CX0 k f fd ps (spD X.K R)) (hr : Room (k + 1) X.A) (hm : X.mg x = some (.ref Cl)) (hb : Binds X.K fd ps dsv) (hd : Vals dvs dsv := by exact .nil) (hdd : ∀ F, RepL X.K F dvs dd := by exact fun _ => .nil) (hg : Gl X x := by rfl)
    (hdb : (x == ("__debug__" : Str)) = false := by decide) : PE X (.Call (.Name x p) [] [] pos) (tE X.K W (wMake Cl R dd wNil)) := PE.imp (pe_make0 (E := E0) M G hr hg hm hb hd pass0 hdb) fun σ H Q ⟨F, C, ρ, P, PX, hs, en, xr, w, k⟩ => fun z dx hz hdx ne => by
    obtain ⟨c0, h2⟩ := hs.inst (Cl := Cl) hz hdx ne
    exact ⟨F, _, .ptr z :: dd, _, h2, .cons (.ptr z) (hdd F), w z c0, ptr_kont k⟩
theorem d_makeF (M : Mk X.K Cl f) (G : FnOk X.prog X.w X.K X.mg X.base CX0 k f fd ps (spD X.K R)) (hr : Room (k + 1) X.A) (hm : X.mg x = some (.ref Cl)) (hb : Binds X.K fd ps dsv) (ha : PA X (e :: es) (tA X.K W wr)) (hd : Vals dvs dsv := by exact .nil) (hdd : ∀ F, RepL X.K F dvs dd := by exact fun _ => .nil) (hg : Gl X x := by rfl)
    (hdb : (x == ("__debug__" : Str)) = false := by decide) (he : starEach (e :: es) X.env = (false, eval e X.env) :: starEach es X.env := by rfl) (hpl : (backTo pos (starEach es X.env)).any (·.1) = false := by rfl) :
    PE X (.Call (.Name x p) (e :: es) [] pos) (tE X.K W (wMakeF Cl R dd wr)) := PE.imp (pe_make (E := E0) M G hr hg hm hb hd pass0 ha hdb he hpl) fun σ H Q ⟨F, C, ρ, P, PX, hs, en, xr, w, k⟩ =>
  ⟨F, C, ρ, _, PX, hs, en, xr, w, fun vs F1 H1 ds C1 e1 h1 r q => fun z dx hz hdx ne => by
    obtain ⟨c0, h2⟩ := h1.inst (Cl := Cl) hz hdx ne
    exact ⟨F1, _, .ptr z :: (ds ++ dd), _, h2, .cons (.ptr z) (r.append (hdd F1)), q z c0, frz_kont (k.mono e1)⟩⟩
end

/-! ### attributes -/
/-- the attribute f of an instance of the class at Cl -/
def fldOf (Cl : Addr) (f : String) (o : D) (C : Cells) : Option D := match o with
  | .ins c fs => if c = Cl then fs.lookup f else none
  | .ptr p => match C p with
    | some (.ins c fs) => if c = Cl then fs.lookup f else none
    | _ => none
  | _ => none
def wFld (Cl : Addr) (f : String) (o : DE) (ρ : DEnv) (C : Cells) (P : DK) (PX : DX) : Prop := o ρ C (fun x C1 => match fldOf Cl f x C1 with
  | some d => P d C1
  | none => False) PX
def wFldSet (Cl : Addr) (f : String) (o v : DE) (E : DEnds) (ρ : DEnv) (C : Cells) : Prop := v ρ C (fun d C1 => o ρ C1 (fun x C2 => match x with
  | .ptr p => match C2 p with
    | some (.ins c fs) => c = Cl ∧ fs.length < 1000 ∧ E.nx ρ (cput C2 p (.ins Cl (dput f d fs)))
    | _ => False
  | _ => False) E.ex) E.ex
section
variable {X : Cx} {W : WX} {K : PySem.W.Frag} {Cl : Addr} {f : String} {o value : Expr} {wa wv : DE} {pos pos' : Pos}
theorem fld_of {F H : Hp} {C : Cells} {v : V} {x d : D} (hs : Hs K F C H) (r : Rep K F v x) (h : fldOf Cl f x C = some d) : ∃ a dx gs u, v = .ref a ∧ H a = some (.ins Cl dx gs) ∧ gs.lookup (Str.ofString f) = some u ∧ Rep K F u d := by
  cases r <;> first | (simp [fldOf] at h; done) | skip
  · rename_i a c dx gs fs hf rf
    simp only [fldOf] at h
    split at h
    · rename_i e
      subst e
      obtain ⟨u, hu, ru⟩ := rf.lookup h
      exact ⟨a, dx, gs, u, rfl, hs.ex.nd hf rfl, hu, ru⟩
    · cases h
  · rename_i a
    simp only [fldOf] at h
    split at h
    · rename_i c fs hc
      split at h
      · rename_i e
        subst e
        obtain ⟨_, dx, gs, hg, rf⟩ := hs.cell a _ hc
        obtain ⟨u, hu, ru⟩ := rf.lookup h
        exact ⟨a, dx, gs, u, rfl, hg, hu, ru⟩
      · cases h
    · cases h
theorem d_fld (c : Cls X.K Cl) (n : NoAttr X.K Cl (Str.ofString f)) (he : PE X o (tE X.K W wa)) (hb : attributeBase o (Str.ofString f) X.env (eval o X.env) = eval o X.env := by rfl) : PE X (.Attribute o (Str.ofString f) pos) (tE X.K W (wFld Cl f wa)) :=
  PE.imp (pe_fld he hb) fun σ H Q ⟨F, C, ρ, P, PX, hs, en, xr, w, k⟩ => ⟨F, C, ρ, _, PX, hs, en, xr, w, fun v F1 H1 d C1 e1 h1 r q => by
    revert q
    dsimp only
    split
    · rename_i u hu
      intro q
      obtain ⟨a, dx, gs, u', rfl, ha, hl, ru⟩ := fld_of h1 r hu
      exact ⟨a, Cl, dx, gs, u', rfl, ha, c, n, hl, k u' F1 H1 u C1 e1 h1 ru q⟩
    · exact fun z => z.elim⟩
theorem ds_fld (c : Cls X.K Cl) (n : NoAttr X.K Cl (Str.ofString f)) (ho : PE X o (tE X.K W wa)) (hv : PE X value (tE X.K W wv)) (hs : swapsWith value (some (.Attribute o (Str.ofString f) pos')) pos.line X.env = pure false := by rfl) :
    PS X (.Assign [.Attribute o (Str.ofString f) pos'] value pos) (tS X.K W (wFldSet Cl f wa wv)) := PS.imp (ps_fld ho hv hs) fun Dn σ H ⟨F, C, ρ, DE, hs, en, xr, w, er⟩ =>
  ⟨F, C, ρ, _, _, hs, en, xr, w, fun y F1 H1 d C1 e1 h1 ry q => ⟨F1, C1, ρ, _, _, h1, en.mono e1, xr.mono e1, q, fun v F2 H2 x C2 e2 h2 rx q2 => by
    cases rx <;> first | exact q2.elim | skip
    rename_i p
    revert q2
    show (match C2 p with | some (.ins c fs) => _ | _ => False) → _
    split
    · rename_i cl fs hc
      rintro ⟨rfl, hl, q2⟩
      obtain ⟨f0, dx, gs, hg, rf⟩ := h2.cell p _ hc
      have h3 := h2.put (o := .ins cl dx (putF (Str.ofString f) y gs)) (c := .ins cl (dput f d fs)) f0 ⟨dx, _, upd_same, rf.put (ry.mono e2)⟩
      exact ⟨p, cl, dx, gs, rfl, hg, c, n, by rw [rf.length]; exact hl, er.nx σ F2 _ ρ _ (e1.trans e2) h3 (en.mono (e1.trans e2)) q2⟩
    · exact fun z => z.elim⟩⟩
end

/-! ### a def's body keeps its promise -/
def endsD (P : DK) : DEnds := { nx := fun _ C' => ∃ C2, Sub C2 C' ∧ P .non C2, rt := fun d C' => ∃ C2, Sub C2 C' ∧ P d C2, bk := fun _ _ => False, ct := fun _ _ => False, ex := fun _ _ _ _ => False }
def endsX (P : DK) (PX : XC) : DEnds := { nx := fun _ C' => ∃ C2, Sub C2 C' ∧ P .non C2, rt := fun d C' => ∃ C2, Sub C2 C' ∧ P d C2, bk := fun _ _ => False, ct := fun _ _ => False, ex := fun cls fs _ C' => ∃ C2, Sub C2 C' ∧ PX cls fs C2 }
def startD (N : List Str) (ds : List D) : DEnv := ds.map some ++ List.replicate (N.length - ds.length) none
theorem start_ok {K : PySem.W.Frag} {F : Hp} {N : List Str} {vs : List V} {ds : List D} (r : RepL K F vs ds) : EnvR K F (L2.start N vs) (startD N ds) := by
  have hl := r.length
  refine ⟨by simp [L2.start, startD, hl], fun i d h => ?_⟩
  unfold startD at h
  unfold L2.start
  rcases Nat.lt_or_ge i ds.length with z | z
  · rw [List.getElem?_append_left (by simpa using z), List.getElem?_map] at h
    cases e : ds[i]? with
    | none => rw [e] at h; cases h
    | some d' =>
      rw [e] at h
      simp only [Option.map_some, Option.some.injEq] at h
      subst h
      obtain ⟨v, hv, rv⟩ := r.get e
      exact ⟨v, by rw [List.getElem?_append_left (by simpa [hl] using z), List.getElem?_map, hv]; rfl, rv⟩
  · rw [List.getElem?_append_right (by simpa using z)] at h
    have := List.mem_of_getElem? h
    simp at this
section
variable {P : Program} {w : World} {K : PySem.W.Frag} {mg : Str → Option Value} {base : Heap} {x qual : Str} {st : Stmt} {f : Addr} {fd : FuncData} {N ps : List Str} {k : Nat} {R : DSp} {RX : DSpX} {ws : DS}
abbrev W0 : WX := fun _ _ _ _ => False
theorem ok_D (F : Fun K x qual st f fd) (S : FnScope N ps (defScope st)) (len : ∀ ds C Pk, R ds C Pk → ds.length = ps.length)
    (hbody : ∀ (cdv : Value) (A : Around) (outer : List Env) (s : Shared) (H : Hp) (E : XK), Room k (A.deeper (envOfC qual (defScope st) s.heap.objs.size f cdv)) → PSs (cxOf CX0 P w K mg base N qual (defScope st) f cdv A outer s H E).nox (defBody st) (tS K W0 ws))
    (hw : ∀ ds C Pk, R ds C Pk → ws (endsD Pk) (startD N ds) C) : FnOk P w K mg base CX0 (k + 1) f fd ps (spD K R) := by
  refine F.ok S (fun vs H Q E ⟨F1, C, ds, Pk, hs, r, h, _⟩ => by rw [r.length]; exact len ds C Pk h) fun cdv A outer s H vs Q E hr ⟨F1, C, ds, Pk, hs, r, h, kk⟩ => ?_
  refine ⟨_, hbody cdv A outer s H E hr, F1, C, startD N ds, endsD Pk, hs, start_ok r, fun _ _ _ _ _ _ _ _ _ _ _ _ z => z.elim, hw ds C Pk h, ?_⟩
  exact ⟨fun σ F2 H2 ρ C2 e2 h2 n2 ⟨C3, s3, q⟩ => kk _ F2 H2 _ C3 e2 (h2.sub s3) .non q, fun v F2 H2 d C2 e2 h2 rv ⟨C3, s3, q⟩ => kk v F2 H2 d C3 e2 (h2.sub s3) rv q, fun _ _ _ _ _ _ _ _ z => z.elim, fun _ _ _ _ _ _ _ _ z => z.elim⟩
/-- what leaves this def -/
abbrev WD (E : XK) : WX := fun cls d _ H => E cls d H
theorem ok_DX (F : Fun K x qual st f fd) (S : FnScope N ps (defScope st)) (len : ∀ ds C Pk PX, RX ds C Pk PX → ds.length = ps.length)
    (hbody : ∀ (cdv : Value) (A : Around) (outer : List Env) (s : Shared) (H : Hp) (E : XK), Room k (A.deeper (envOfC qual (defScope st) s.heap.objs.size f cdv)) → Takes (cxOf (L2.CX P w) P w K mg base N qual (defScope st) f cdv A outer s H E) (WD E) →
      PSs (cxOf (L2.CX P w) P w K mg base N qual (defScope st) f cdv A outer s H E) (defBody st) (tS K (WD E) ws))
    (hw : ∀ ds C Pk PX, RX ds C Pk PX → ws (endsX Pk PX) (startD N ds) C) : FnOk P w K mg base (L2.CX P w) (k + 1) f fd ps (spX K RX) := by
  refine F.okX S (fun vs H Q E ⟨F1, C, ds, Pk, PX, hs, r, h, _⟩ => by rw [r.length]; exact len ds C Pk PX h) fun cdv A outer s H vs Q E hr ⟨F1, C, ds, Pk, PX, hs, r, h, kk, kx⟩ => ?_
  refine ⟨_, hbody cdv A outer s H E hr (takes_of rfl rfl rfl rfl), F1, C, startD N ds, endsX Pk PX, hs, start_ok r, fun cls d fs σ F2 H2 ρ C2 e2 h2 n2 rx ⟨C3, s3, q⟩ => kx cls d fs F2 H2 C3 e2 (h2.sub s3) rx q, hw ds C Pk PX h, ?_⟩
  exact ⟨fun σ F2 H2 ρ C2 e2 h2 n2 ⟨C3, s3, q⟩ => kk _ F2 H2 _ C3 e2 (h2.sub s3) .non q, fun v F2 H2 d C2 e2 h2 rv ⟨C3, s3, q⟩ => kk v F2 H2 d C3 e2 (h2.sub s3) rv q, fun _ _ _ _ _ _ _ _ z => z.elim, fun _ _ _ _ _ _ _ _ z => z.elim⟩
end
end DD

set_option Elab.async false
set_option linter.all false
set_option maxRecDepth 100000
set_option maxHeartbeats 4000000
/-! Readings over data: lists, tuples, built-ins, equality, comprehensions. -/
namespace DD
open PySem L2 PyProof.Rows

/-! ### sequences -/
def seqOf (x : D) (C : Cells) : Option (List D) := match x with
  | .lst ds => some ds
  | .ptr a => match C a with
    | some (.lst ds) => some ds
    | _ => none
  | _ => none
/-- a list or a tuple -/
def itsOf (x : D) (C : Cells) : Option (List D) := match x with
  | .tup ds => some ds
  | .ktup ds => some ds
  | x => seqOf x C
section
variable {K : PySem.W.Frag} {F H : Hp} {C : Cells} {v : V} {x : D} {ds : List D}
theorem seq_of (hs : Hs K F C H) (r : Rep K F v x) (h : seqOf x C = some ds) : ∃ a xs, v = .ref a ∧ SqL K H a xs ∧ RepL K F xs ds := by
  cases r <;> first | (simp [seqOf] at h; done) | skip
  · rename_i a xs ds' hq hr
    simp only [seqOf, Option.some.injEq] at h
    subst h
    exact ⟨a, xs, rfl, ex_l hs.ex hq, hr⟩
  · rename_i a
    simp only [seqOf] at h
    split at h
    · rename_i ds' hc
      simp only [Option.some.injEq] at h
      subst h
      obtain ⟨_, xs, hx, r⟩ := hs.cell a _ hc
      exact ⟨a, xs, rfl, .of hx, r⟩
    · cases h
theorem its_of (hs : Hs K F C H) (r : Rep K F v x) (h : itsOf x C = some ds) : ∃ a xs, v = .ref a ∧ (SqL K H a xs ∨ SqT K H a xs) ∧ RepL K F xs ds := by
  have go : seqOf x C = some ds → ∃ a xs, v = .ref a ∧ (SqL K H a xs ∨ SqT K H a xs) ∧ RepL K F xs ds := fun h => by
    obtain ⟨a, xs, h1, h2, h3⟩ := seq_of hs r h
    exact ⟨a, xs, h1, .inl h2, h3⟩
  cases r <;> first
    | exact go h
    | (rename_i a xs ds' hq hr
       simp only [itsOf, Option.some.injEq] at h
       subst h
       exact ⟨a, xs, rfl, .inr (by first | exact .of (hs.ex.nd hq rfl) | exact ex_t hs.ex hq), hr⟩)
theorem atI_rep {xs : List V} {d : D} {i : Int} (r : RepL K F xs ds) (h : atI ds i = some d) : ∃ u, atI xs i = some u ∧ Rep K F u d := by
  unfold atI at h ⊢
  rw [r.length]
  cases e : ixN ds.length i with
  | none => rw [e] at h; cases h
  | some j =>
    rw [e] at h
    exact r.get h
end
/-- len(x) -/
def lenOf (x : D) (C : Cells) : Option Nat := match x with
  | .str z => if z.length ≤ 100000 then some z.length else none
  | x => (itsOf x C).map (·.length)
def dLen (ds : List D) (C : Cells) (P : DK) : Prop := match ds with
  | [x] => match lenOf x C with
    | some n => P (.int n) C
    | none => False
  | _ => False
/-- x[i] -/
def itemOf (x : D) (C : Cells) (i : Int) : Option D := match x with
  | .str z => if z.length ≤ 100000 then (atI z.cps.toList i).map fun c => .str ⟨#[c]⟩ else none
  | x => (itsOf x C).bind fun ds => atI ds i
def dIx (x : D) (y : D) (C : Cells) (P : DK) : Prop := match y with
  | .int i => match itemOf x C i with
    | some d => P d C
    | none => False
  | _ => False
section
variable {K : PySem.W.Frag}
theorem RepL.one {F : Hp} {xs : List V} {x : D} (r : RepL K F xs [x]) : ∃ v, xs = [v] ∧ Rep K F v x := by
  cases r with
  | cons r1 r2 =>
    cases r2
    exact ⟨_, rfl, r1⟩
theorem s_len : SimA K (fun xs H Q => ∃ x n, xs = [x] ∧ LenV K x H n ∧ Q (.int n) H) dLen := fun F C H xs ds P Q hs r w k => by
  revert w
  unfold dLen
  split
  · rename_i x
    split
    · rename_i n hn
      intro w
      obtain ⟨v, rfl, r1⟩ := r.one
      refine ⟨v, n, rfl, ?_, k _ F H _ C (Ex.refl F) hs (.int _) w⟩
      have go : ∀ ds', itsOf x C = some ds' → n = ds'.length → LenV K v H n := fun ds' e en => by
        obtain ⟨a, xs, rfl, h2, h3⟩ := its_of hs r1 e
        show (∃ xs, SqL K H a xs ∧ n = xs.length) ∨ ∃ xs, SqT K H a xs ∧ n = xs.length
        rcases h2 with h2 | h2
        · exact .inl ⟨xs, h2, by rw [en, h3.length]⟩
        · exact .inr ⟨xs, h2, by rw [en, h3.length]⟩
      cases r1 <;> first
        | (simp only [lenOf, Option.map_eq_some_iff] at hn
           obtain ⟨ds', e1, e2⟩ := hn
           exact go ds' e1 e2.symm)
        | (simp only [lenOf] at hn
           split at hn
           · rename_i hz
             cases hn
             exact ⟨sz_of hz, rfl⟩
           · cases hn)
    · exact fun z => z.elim
  · exact fun z => z.elim
theorem s_ix : SimR K (rIx K) dIx := fun F C H x y dx dy P Q hs rx ry w k => by
  revert w
  unfold dIx
  split
  · rename_i i
    cases ry
    split
    · rename_i d hd
      intro w
      have go : ∀ ds', itsOf dx C = some ds' → atI ds' i = some d → rIx K x (.int i) H Q := fun ds' e en => by
        obtain ⟨a, xs, rfl, h2, h3⟩ := its_of hs rx e
        obtain ⟨u, hu, ru⟩ := atI_rep h3 en
        rcases h2 with h2 | h2
        · exact .inl ⟨a, xs, i, u, rfl, rfl, h2, hu, k u F H d C (Ex.refl F) hs ru w⟩
        · exact .inr (.inl ⟨a, xs, i, u, rfl, rfl, h2, hu, k u F H d C (Ex.refl F) hs ru w⟩)
      cases rx <;> first
        | (simp only [itemOf, Option.bind_eq_some_iff] at hd
           obtain ⟨ds', e1, e2⟩ := hd
           exact go ds' e1 e2)
        | (simp only [itemOf] at hd
           split at hd
           · rename_i hz
             rw [Option.map_eq_some_iff] at hd
             obtain ⟨c, hc, rfl⟩ := hd
             exact .inr (.inr ⟨_, i, c, rfl, rfl, sz_of hz, hc, k _ F H _ C (Ex.refl F) hs (.str _) w⟩)
           · cases hd)
    · exact fun z => z.elim
  · exact fun z => z.elim
end

/-! ### a list that changes -/
def wSetL (o i e : DE) (E : DEnds) (ρ : DEnv) (C : Cells) : Prop := e ρ C (fun d C1 => o ρ C1 (fun x C2 => i ρ C2 (fun y C3 => match x, y with
  | .ptr a, .int n => match C3 a with
    | some (.lst ds) => match ixN ds.length n with
      | some j => E.nx ρ (cput C3 a (.lst (ds.set j d)))
      | none => False
    | _ => False
  | _, _ => False) E.ex) E.ex) E.ex
/-- o[i] op= e -/
def wAugL (o i e : DE) (r : DR2) (E : DEnds) (ρ : DEnv) (C : Cells) : Prop := o ρ C (fun x C1 => i ρ C1 (fun y C2 => match x, y with
  | .ptr a, .int n => match C2 a with
    | some (.lst ds) => match atI ds n with
      | some d => e ρ C2 (fun z C3 => r d z C3 (fun u C4 => match C4 a with
        | some (.lst ds') => match ixN ds'.length n with
          | some j => E.nx ρ (cput C4 a (.lst (ds'.set j u)))
          | none => False
        | _ => False)) E.ex
      | none => False
    | _ => False
  | _, _ => False) E.ex) E.ex
abbrev DRM := D → List D → Cells → DK → Prop
def isSeq (x : D) (C : Cells) : Prop := (seqOf x C).isSome = true
/-- a list's method -/
def wBML (r : DRM) (o : DE) (a : DA) (ρ : DEnv) (C : Cells) (P : DK) (PX : DX) : Prop := o ρ C (fun x C1 => isSeq x C1 ∧ a ρ C1 (fun ds C2 => r x ds C2 P) PX) PX
def SimM (K : PySem.W.Frag) (r : V → List V → Hp → VK → Prop) (rd : DRM) : Prop := ∀ F C H x dx xs ds P Q, Hs K F C H → Rep K F x dx → RepL K F xs ds → rd dx ds C P → Kont K F P Q → r x xs H Q
def dAppend (x : D) (ds : List D) (C : Cells) (P : DK) : Prop := match x, ds with
  | .ptr a, [d] => match C a with
    | some (.lst xs) => xs.length < 100000 ∧ P .non (cput C a (.lst (xs ++ [d])))
    | _ => False
  | _, _ => False
def dPop (x : D) (ds : List D) (C : Cells) (P : DK) : Prop := match x, ds with
  | .ptr a, [] => match C a with
    | some (.lst xs) => match xs[xs.length - 1]? with
      | some d => P d (cput C a (.lst xs.dropLast))
      | none => False
    | _ => False
  | _, _ => False
section
variable {X : Cx} {W : WX} {K : PySem.W.Frag} {o i e : Expr} {es : List Expr} {wo wi we : DE} {wr : DA} {pos tpos apos : Pos}
theorem i_setL {F H : Hp} {C : Cells} {a : Addr} {ds : List D} {d : D} {v : V} {j : Nat} (hs : Hs K F C H) (hc : C a = some (.lst ds)) (rv : Rep K F v d) :
    ∃ xs, H a = some (.lst xs) ∧ xs.length = ds.length ∧ RepL K F xs ds ∧ Hs K F (cput C a (.lst (ds.set j d))) (upd H a (.lst (xs.set j v))) := by
  obtain ⟨f0, xs, hx, r⟩ := hs.cell a _ hc
  exact ⟨xs, hx, r.length, r, hs.put (c := .lst (ds.set j d)) f0 ⟨_, upd_same, r.set rv j⟩⟩
theorem ds_setL (ho : PE X o (tE X.K W wo)) (hi : PE X i (tE X.K W wi)) (he : PE X e (tE X.K W we))
    (ha : ∀ v, assign (.Subscript o i pos) X.env v = (do
      let ov ← holding [v] (eval o X.env)
      let iv ← holding [v, ov] (eval i X.env)
      standAt pos
      holding [v, ov, iv] (setItem ov iv v)
      release [v, ov, iv] []) := by intro _; rfl)
    (hs : swapsWithSole [.Subscript o i pos] e tpos.line X.env = pure false := by rfl) (hw : swappedStores [.Subscript o i pos] e X.env = pure none := by rfl)
    (h1 : (assignEach [.Subscript o i pos] X.env).map (·.2) = [assign (.Subscript o i pos) X.env] := by rfl) : PS X (.Assign [.Subscript o i pos] e tpos) (tS X.K W (wSetL wo wi we)) :=
  PS.imp (ps_asg he (pg_sub ho hi set_list ha) hs hw h1) fun Dn σ H ⟨F, C, ρ, DE, hs, en, xr, w, er⟩ =>
  ⟨F, C, ρ, _, _, hs, en, xr, w, fun v F1 H1 d C1 e1 h1 rv q => ⟨F1, C1, ρ, _, _, h1, en.mono e1, xr.mono e1, q, fun x F2 H2 dx C2 e2 h2 rx q2 => ⟨F2, C2, ρ, _, _, h2, en.mono (e1.trans e2), xr.mono (e1.trans e2), q2, fun y F3 H3 dy C3 e3 h3 ry q3 => by
    revert q3
    dsimp only
    split
    · rename_i a n
      cases ry
      cases rx
      split
      · rename_i ds hc
        split
        · rename_i j hj
          intro q3
          obtain ⟨xs, hx, hl, r, h4⟩ := i_setL (j := j) h3 hc (rv.mono (e2.trans e3))
          exact ⟨a, xs, n, j, rfl, rfl, hx, by rw [hl]; exact hj, er.nx σ F3 _ ρ _ ((e1.trans e2).trans e3) h4 (en.mono ((e1.trans e2).trans e3)) q3⟩
        · exact fun z => z.elim
      · exact fun z => z.elim
    · exact fun z => z.elim⟩⟩⟩
theorem get_list : PGet X (rIxL X.K) := by
  intro pins s σ H x y v u Q I rx ry h
  obtain ⟨p, xs, i, z, rfl, rfl, hq, he, q⟩ := h
  cases rx
  obtain ⟨t, rfl⟩ := ry
  obtain ⟨its, r, pl, hz⟩ := I.list hq
  obtain ⟨j, h1, h2, h3, h4, h5⟩ := atI_get he
  obtain ⟨w, ew, rw'⟩ := r.get h2
  have hl := r.length
  have hn := line63
  have fin : EP X pins σ Q w s := ⟨z, H, I, rw', q⟩
  by_cases h0 : 0 ≤ i
  · have hj : i.toNat = j := by
      rw [seqIndex_of h0 h5] at h1
      exact Option.some.inj h1
    exact wpAny_getItem_list (x := w) pl.isList h0 (by omega) (by rw [hj]; simpa using ew) fin
  · have hj : (i + (its.toArray.size : Int)).toNat = j := by
      rw [seqIndex_neg (by omega) h4] at h1
      rw [List.size_toArray, ← hl]
      exact Option.some.inj h1
    exact wpAny_getItem_list_neg (x := w) pl.isList (by omega) (by rw [List.size_toArray] <;> omega) (by omega) (by rw [hj]; simpa using ew) fin
theorem ds_augL {op : Operator} {ti : TIp} {rd : DR2} (ho : PE X o (tE X.K W wo)) (hi : PE X i (tE X.K W wi)) (he : PE X e (tE X.K W we)) (hp : PIp X op ti) (hr : SimR X.K ti rd)
    (ha : ∀ ov iv new, augStore i ov iv new = (do holding [new, ov, iv] (setItem ov iv new); release [new, ov, iv] []; pure .next) := by intros; rfl) : PS X (.AugAssign (.Subscript o i tpos) op e pos) (tS X.K W (wAugL wo wi we rd)) :=
  PS.imp (ps_augS ho hi get_list he hp set_list ha) fun Dn σ H ⟨F, C, ρ, DE, hs, en, xr, w, er⟩ =>
  ⟨F, C, ρ, _, _, hs, en, xr, w, fun x F1 H1 dx C1 e1 h1 rx q => ⟨F1, C1, ρ, _, _, h1, en.mono e1, xr.mono e1, q, fun y F2 H2 dy C2 e2 h2 ry q2 => by
    revert q2
    dsimp only
    split
    · rename_i a n
      cases ry
      cases rx
      split
      · rename_i ds hc
        split
        · rename_i d hd
          intro q2
          obtain ⟨f0, xs, hx, r⟩ := h2.cell a _ hc
          obtain ⟨u, hu, ru⟩ := atI_rep r hd
          refine ⟨a, xs, n, u, rfl, rfl, .of hx, hu, F2, C2, ρ, _, _, h2, en.mono (e1.trans e2), xr.mono (e1.trans e2), q2, fun z F3 H3 dz C3 e3 h3 rz q3 => hr F3 C3 H3 u z d dz _ _ h3 (ru.mono e3) rz q3 fun g F4 H4 dg C4 e4 h4 rg q4 => ?_⟩
          revert q4
          split
          · rename_i ds' hc'
            split
            · rename_i j hj
              intro q4
              obtain ⟨xs', hx', hl', r', h5⟩ := i_setL (j := j) h4 hc' rg
              have ee := ((e1.trans e2).trans e3).trans e4
              exact ⟨a, xs', n, j, rfl, rfl, hx', by rw [hl']; exact hj, er.nx σ F4 _ ρ _ ee h5 (en.mono ee) q4⟩
            · exact fun z => z.elim
          · exact fun z => z.elim
        · exact fun z => z.elim
      · exact fun z => z.elim
    · exact fun z => z.elim⟩⟩
theorem isSeq_ty {F H : Hp} {C : Cells} {v : V} {x : D} (hs : Hs K F C H) (r : Rep K F v x) (h : isSeq x C) : tyV K "list" v H := by
  unfold isSeq at h
  obtain ⟨ds, hd⟩ := Option.isSome_iff_exists.mp h
  obtain ⟨a, xs, rfl, h2, _⟩ := seq_of hs r hd
  exact .inl ⟨rfl, xs, h2⟩
theorem d_bmL {id : String} {name : Str} {r : V → List V → Hp → VK → Prop} {rd : DRM} (pa : PlainAttrs "list") (slot : Slot "list" name id) (hty : typeOf (.builtin id) = pure (.type "method_descriptor")) (hm : MtR X id r) (hr : SimM X.K r rd) (ho : PE X o (tE X.K W wo)) (ha : PA X (e :: es) (tA X.K W wr))
    (hbase : attributeBase o name X.env (eval o X.env) = eval o X.env := by rfl)
    (hfew : ((backTo pos (starEach (e :: es) X.env)).all (fun x => !x.1) && (backToKw pos (keywordEach [] X.env)).all (fun x => x.1.isSome)
      && decide ((e :: es).length + ([] : List Keyword).length + (if ([] : List Keyword).isEmpty then 0 else 1) < 30)) = true := by rfl)
    (hline : (apos.endLine == pos.line) = true := by rfl) (hs : starEach (e :: es) X.env = (false, eval e X.env) :: starEach es X.env := by rfl) (hplain : (backTo pos (starEach es X.env)).any (·.1) = false := by rfl) :
    PE X (.Call (.Attribute o name apos) (e :: es) [] pos) (tE X.K W (wBML rd wo wr)) :=
  PE.imp (pe_bm pa slot hty hm ho ha hbase hfew hline hs hplain) fun σ H Q ⟨F, C, ρ, P, PX, hs, en, xr, w, k⟩ => ⟨F, C, ρ, _, PX, hs, en, xr, w, fun v F1 H1 d C1 e1 h1 rv q => ⟨isSeq_ty h1 rv q.1, F1, C1, ρ, _, PX, h1, en.mono e1, xr.mono e1, q.2, fun vs F2 H2 ds C2 e2 h2 rl q2 => hr F2 C2 H2 v d vs ds P Q h2 (rv.mono e2) rl q2 (k.mono (e1.trans e2))⟩⟩
theorem d_bmL0 {id : String} {name : Str} {r : V → List V → Hp → VK → Prop} {rd : DRM} (pa : PlainAttrs "list") (slot : Slot "list" name id) (hty : typeOf (.builtin id) = pure (.type "method_descriptor")) (hm : MtR X id r) (hr : SimM X.K r rd) (ho : PE X o (tE X.K W wo))
    (hbase : attributeBase o name X.env (eval o X.env) = eval o X.env := by rfl) (hline : (apos.endLine == pos.line) = true := by rfl) : PE X (.Call (.Attribute o name apos) [] [] pos) (tE X.K W (wBML rd wo wNil)) :=
  PE.imp (pe_bm0 pa slot hty hm ho hbase hline) fun σ H Q ⟨F, C, ρ, P, PX, hs, en, xr, w, k⟩ => ⟨F, C, ρ, _, PX, hs, en, xr, w, fun v F1 H1 d C1 e1 h1 rv q => ⟨isSeq_ty h1 rv q.1, hr F1 C1 H1 v d [] [] P Q h1 rv .nil q.2 (k.mono e1)⟩⟩
theorem s_append : SimM K rAppend dAppend := fun F C H x dx xs ds P Q hs rx rl w k => by
  revert w
  unfold dAppend
  split
  · rename_i a d
    cases rx
    split
    · rename_i ys hc
      rintro ⟨hl, w⟩
      cases rl with
      | cons r1 r2 =>
        cases r2
        obtain ⟨f0, zs, hx, r⟩ := hs.cell a _ hc
        exact ⟨a, zs, _, rfl, rfl, hx, by rw [r.length]; exact sz_lt hl, k _ F _ _ _ (Ex.refl F) (hs.put (c := .lst (ys ++ [d])) f0 ⟨_, upd_same, r.append (.cons r1 .nil)⟩) .non w⟩
    · exact fun z => z.elim
  · exact fun z => z.elim
theorem s_pop : SimM K rPop dPop := fun F C H x dx xs ds P Q hs rx rl w k => by
  revert w
  unfold dPop
  split
  · rename_i a
    cases rx
    cases rl
    split
    · rename_i ys hc
      split
      · rename_i d hd
        intro w
        obtain ⟨f0, zs, hx, r⟩ := hs.cell a _ hc
        obtain ⟨u, hu, ru⟩ := r.get hd
        exact ⟨a, zs, u, rfl, rfl, hx, by rw [r.length]; exact hu, k _ F _ _ _ (Ex.refl F) (hs.put (c := .lst ys.dropLast) f0 ⟨_, upd_same, r.dropLast⟩) ru w⟩
      · exact fun z => z.elim
    · exact fun z => z.elim
  · exact fun z => z.elim
end
/-! ### + and * of lists, slices, list(..) -/
def dCat (x : D) (y : D) (C : Cells) (P : DK) : Prop := match seqOf x C, seqOf y C with
  | some xs, some ys => xs.length + ys.length ≤ 100000 ∧ P (.lst (xs ++ ys)) C
  | _, _ => False
def rCatS (K : PySem.W.Frag) : R2 := fun x y H Q => ∃ l b xs zs, x = .ref l ∧ y = .ref b ∧ SqL K H l xs ∧ SqL K H b zs ∧ xs.length + zs.length ≤ sizeLine ∧ ∀ p, H p = none → Q (.ref p) (upd H p (.lst (xs ++ zs)))
theorem op_catS {X : Cx} : OpR X (binaryOp .Add) (rCatS X.K) := by
  intro pins s σ H x y v u Q I rx ry h
  obtain ⟨l, b, xs, zs, rfl, rfl, hH, hB, hz, q⟩ := h
  cases rx
  cases ry
  obtain ⟨its, r, pl, _⟩ := I.list hH
  obtain ⟨its2, r2, pl2, _⟩ := I.list hB
  obtain ⟨⟨cls, dd, data, sl⟩, ho, hc, n, hd⟩ := id pl.isList
  obtain ⟨⟨cls2, dd2, data2, sl2⟩, ho2, hc2, n2, hd2⟩ := id pl2.isList
  simp only at hc hd hc2 hd2
  subst hc hd hc2 hd2
  have hl := r.length
  have hl2 := r2.length
  have e : its.toArray ++ its2.toArray = (its ++ its2).toArray := by simp
  refine concat_meets ⟨_, ho, rfl⟩ ⟨_, ho2, rfl⟩ noFill_list_add seq_list_add PySem.F.slot_list_add PySem.F.entry_list_add (PySem.F.args_list_add_2 _ _) (list_addW l b its.toArray its2.toArray n n2 dd dd2 sl sl2 (by rw [List.size_toArray, List.size_toArray]; omega)) ⟨ho, ho2, ?_⟩
  rw [e]
  exact ⟨.ref _, _, I.lnew (t' := s.toks) (r.append r2) (by rw [List.length_append]; omega), rfl, q _ I.fresh⟩
section
variable {X : Cx} {W : WX} {K : PySem.W.Frag}
theorem s_cat : SimR K (rCatS K) dCat := fun F C H x y dx dy P Q hs rx ry w k => by
  revert w
  unfold dCat
  split
  · rename_i xs ys h1 h2
    rintro ⟨hz, w⟩
    obtain ⟨a, us, rfl, hu, ru⟩ := seq_of hs rx h1
    obtain ⟨b, vs, rfl, hv, rv⟩ := seq_of hs ry h2
    refine ⟨a, b, us, vs, rfl, rfl, hu, hv, by rw [ru.length, rv.length]; exact sz_of hz, fun p hp => ?_⟩
    obtain ⟨e2, h3, r3⟩ := hs.newL (ru.append rv) hp
    exact k _ _ _ _ C e2 h3 r3 w
  · exact fun z => z.elim
/-- [e, ..] * n, the new list frozen, or a cell -/
def wRep (a : DA) (n : DE) (ρ : DEnv) (C : Cells) (P : DK) (PX : DX) : Prop := a ρ C (fun ds C1 => ds.length ≤ 100000 ∧ n ρ C1 (fun y C2 => match y with
  | .int k => (-(2 ^ 63) ≤ k ∧ k < 2 ^ 63 ∧ ds.length * k.toNat ≤ 100000) ∧ P (.lst (List.replicate k.toNat ds).flatten) C2
  | _ => False) PX) PX
def wRepC (a : DA) (n : DE) (ρ : DEnv) (C : Cells) (P : DK) (PX : DX) : Prop := a ρ C (fun ds C1 => ds.length ≤ 100000 ∧ n ρ C1 (fun y C2 => match y with
  | .int k => (-(2 ^ 63) ≤ k ∧ k < 2 ^ 63 ∧ ds.length * k.toNat ≤ 100000) ∧ ∀ p, C2 p = none → P (.ptr p) (cput C2 p (.lst (List.replicate k.toNat ds).flatten))
  | _ => False) PX) PX
theorem RepL.flat {F : Hp} {xs : List V} {ds : List D} (r : RepL K F xs ds) : ∀ n, RepL K F (List.replicate n xs).flatten (List.replicate n ds).flatten
  | 0 => .nil
  | n + 1 => by
    rw [List.replicate_succ, List.flatten_cons, List.replicate_succ, List.flatten_cons]
    exact r.append (RepL.flat r n)
theorem d_rep {es : List Expr} {b : Expr} {wr : DA} {wb : DE} {pos p2 : Pos} (ha : PA X es (tA X.K W wr)) (hb : PE X b (tE X.K W wb)) : PE X (.BinOp (.List es p2) .Mult b pos) (tE X.K W (wRep wr wb)) :=
  PE.imp (pe_op op_rep (pe_lst ha) hb) fun σ H Q ⟨F, C, ρ, P, PX, hs, en, xr, w, k⟩ => by
  refine ⟨F, C, ρ, _, PX, hs, en, xr, w, fun vs F1 H1 ds C1 e1 h1 r q => ?_⟩
  obtain ⟨hz, q⟩ := q
  refine ⟨by rw [r.length]; exact sz_of hz, fun p hp => ?_⟩
  obtain ⟨e2, h2, r2⟩ := h1.newL r hp
  refine ⟨_, C1, ρ, _, PX, h2, en.mono (e1.trans e2), xr.mono (e1.trans e2), q, fun u F3 H3 dy C3 e3 h3 ry q3 => ?_⟩
  revert q3
  dsimp only
  split
  · rename_i n
    rintro ⟨⟨b1, b2, b3⟩, q3⟩
    cases ry
    refine ⟨p, n, vs, rfl, rfl, h3.ex.nd (e3.nd upd_same rfl) rfl, b1, b2, by rw [r.length]; exact sz_of b3, fun l hl => ?_⟩
    obtain ⟨e4, h4, r4⟩ := h3.newL ((r.mono (e2.trans e3)).flat n.toNat) hl
    exact k _ _ _ _ C3 (((e1.trans e2).trans e3).trans e4) h4 r4 q3
  · exact fun z => z.elim
theorem d_repC {es : List Expr} {b : Expr} {wr : DA} {wb : DE} {pos p2 : Pos} (ha : PA X es (tA X.K W wr)) (hb : PE X b (tE X.K W wb)) : PE X (.BinOp (.List es p2) .Mult b pos) (tE X.K W (wRepC wr wb)) :=
  PE.imp (pe_op op_rep (pe_lst ha) hb) fun σ H Q ⟨F, C, ρ, P, PX, hs, en, xr, w, k⟩ => by
  refine ⟨F, C, ρ, _, PX, hs, en, xr, w, fun vs F1 H1 ds C1 e1 h1 r q => ?_⟩
  obtain ⟨hz, q⟩ := q
  refine ⟨by rw [r.length]; exact sz_of hz, fun p hp => ?_⟩
  obtain ⟨e2, h2, r2⟩ := h1.newL r hp
  refine ⟨_, C1, ρ, _, PX, h2, en.mono (e1.trans e2), xr.mono (e1.trans e2), q, fun u F3 H3 dy C3 e3 h3 ry q3 => ?_⟩
  revert q3
  dsimp only
  split
  · rename_i n
    rintro ⟨⟨b1, b2, b3⟩, q3⟩
    cases ry
    refine ⟨p, n, vs, rfl, rfl, h3.ex.nd (e3.nd upd_same rfl) rfl, b1, b2, by rw [r.length]; exact sz_of b3, fun l hl => ?_⟩
    obtain ⟨c0, h4⟩ := h3.newC ((r.mono (e2.trans e3)).flat n.toNat) hl
    exact k _ _ _ _ _ ((e1.trans e2).trans e3) h4 (.ptr l) (q3 l c0)
  · exact fun z => z.elim
end
/-! ### slices -/
abbrev DO := DEnv → Cells → (Option Int → Cells → Prop) → DX → Prop
def wNoPart (_ : DEnv) (C : Cells) (P : Option Int → Cells → Prop) (_ : DX) : Prop := P none C
def wPart (e : DE) (ρ : DEnv) (C : Cells) (P : Option Int → Cells → Prop) (PX : DX) : Prop := e ρ C (fun d C1 => match d with | .int i => P (some i) C1 | _ => False) PX
def tO (K : PySem.W.Frag) (W : WX) (w : DO) : TO := fun σ H Q => ∃ F C ρ P PX, Hs K F C H ∧ EnvR K F σ ρ ∧ ExR K F W PX ∧ w ρ C P PX ∧ ∀ o F' H' C', Ex F F' → Hs K F' C' H' → P o C' → Q o H'
theorem PO.imp {X : Cx} {e : Option Expr} {t t' : TO} (h : PO X e t) (i : ∀ σ H Q, t' σ H Q → t σ H Q) : PO X e t' := ⟨fun pins s σ H Q I w => h.run pins s σ H Q I (i σ H Q w)⟩
def cutD (xs : List D) (lo hi : Option Int) : List D := (xs.drop (HT.sIx xs.length 0 lo)).take (HT.sIx xs.length xs.length hi - HT.sIx xs.length 0 lo)
def wSl (e : DE) (lo hi : DO) (ρ : DEnv) (C : Cells) (P : DK) (PX : DX) : Prop := e ρ C (fun x C1 => lo ρ C1 (fun l C2 => hi ρ C2 (fun h C3 => match seqOf x C3 with
  | some ds => P (.lst (cutD ds l h)) C3
  | none => False) PX) PX) PX
section
variable {X : Cx} {W : WX} {K : PySem.W.Frag}
theorem do_none : PO X none (tO X.K W wNoPart) := PO.imp po_none fun σ H Q ⟨F, C, ρ, P, PX, hs, en, xr, w, k⟩ => k _ F H C (Ex.refl F) hs w
theorem do_some {e : Expr} {we : DE} (he : PE X e (tE X.K W we)) : PO X (some e) (tO X.K W (wPart we)) := PO.imp (po_some he) fun σ H Q ⟨F, C, ρ, P, PX, hs, en, xr, w, k⟩ =>
  ⟨F, C, ρ, _, PX, hs, en, xr, w, fun v F1 H1 d C1 e1 h1 r q => by
    cases r <;> first | exact q.elim | exact ⟨_, rfl, k _ F1 H1 C1 e1 h1 q⟩⟩
theorem RepL.cut {F : Hp} {xs : List V} {ds : List D} (r : RepL K F xs ds) (lo hi : Option Int) : RepL K F (cutV xs lo hi) (cutD ds lo hi) := by
  unfold cutV cutD
  rw [r.length]
  exact (r.drop _).take _
theorem d_sl {e : Expr} {lo hi : Option Expr} {we : DE} {wl wh : DO} {p2 pos : Pos} (he : PE X e (tE X.K W we)) (hl : PO X lo (tO X.K W wl)) (hh : PO X hi (tO X.K W wh)) : PE X (.Subscript e (.Slice lo hi none p2) pos) (tE X.K W (wSl we wl wh)) :=
  PE.imp (pe_slice sl_list he hl hh) fun σ H Q ⟨F, C, ρ, P, PX, hs, en, xr, w, k⟩ =>
  ⟨F, C, ρ, _, PX, hs, en, xr, w, fun v F1 H1 x C1 e1 h1 rv q => ⟨F1, C1, ρ, _, PX, h1, en.mono e1, xr.mono e1, q, fun l F2 H2 C2 e2 h2 q2 => ⟨F2, C2, ρ, _, PX, h2, en.mono (e1.trans e2), xr.mono (e1.trans e2), q2, fun h F3 H3 C3 e3 h3 q3 => by
    revert q3
    dsimp only
    split
    · rename_i ds hd
      intro q3
      obtain ⟨a, us, rfl, hu, ru⟩ := seq_of h3 (rv.mono (e2.trans e3)) hd
      refine ⟨a, us, rfl, hu, fun p hp => ?_⟩
      obtain ⟨e4, h4, r4⟩ := h3.newL (ru.cut l h) hp
      exact k _ _ _ _ C3 (((e1.trans e2).trans e3).trans e4) h4 r4 q3
    · exact fun z => z.elim⟩⟩⟩
end

/-! ### built-ins -/
/-- list(x): frozen, a cell -/
def dList (ds : List D) (C : Cells) (P : DK) : Prop := match ds with
  | [x] => match itsOf x C with
    | some xs => P (.lst xs) C
    | none => False
  | _ => False
def dListC (ds : List D) (C : Cells) (P : DK) : Prop := match ds with
  | [x] => match itsOf x C with
    | some xs => ∀ p, C p = none → P (.ptr p) (cput C p (.lst xs))
    | none => False
  | _ => False
def dTupleOf (ds : List D) (C : Cells) (P : DK) : Prop := match ds with
  | [x] => match itsOf x C with
    | some xs => P (match x with | .ktup ys => .ktup ys | _ => .tup xs) C
    | none => False
  | _ => False
def dMax2 (ds : List D) (C : Cells) (P : DK) : Prop := match ds with
  | [.int i, .int j] => P (.int (max i j)) C
  | _ => False
def dMin2 (ds : List D) (C : Cells) (P : DK) : Prop := match ds with
  | [.int i, .int j] => P (.int (min i j)) C
  | _ => False
def dAbs (ds : List D) (C : Cells) (P : DK) : Prop := match ds with
  | [.int i] => P (.int i.natAbs) C
  | _ => False
def dInt (ds : List D) (C : Cells) (P : DK) : Prop := match ds with
  | [.int i] => P (.int i) C
  | [.bl b] => P (.int (if b then 1 else 0)) C
  | _ => False
/-- the whole numbers of a list -/
def IntsOf (x : D) (C : Cells) (ns : List Int) : Prop := seqOf x C = some (ns.map D.int)
def dSum (ds : List D) (C : Cells) (P : DK) : Prop := match ds with
  | [x] => ∃ ns, IntsOf x C ns ∧ P (.int ns.sum) C
  | _ => False
def maxI : List Int → Int
  | [] => 0
  | x :: r => r.foldl max x
def minI : List Int → Int
  | [] => 0
  | x :: r => r.foldl min x
def dMaxL (ds : List D) (C : Cells) (P : DK) : Prop := match ds with
  | [x] => ∃ ns, IntsOf x C ns ∧ ns ≠ [] ∧ P (.int (maxI ns)) C
  | _ => False
def dMinL (ds : List D) (C : Cells) (P : DK) : Prop := match ds with
  | [x] => ∃ ns, IntsOf x C ns ∧ ns ≠ [] ∧ P (.int (minI ns)) C
  | _ => False
def sortI (ns : List Int) : List Int := ns.mergeSort (fun a b => decide (a ≤ b))
def dSortI (ds : List D) (C : Cells) (P : DK) : Prop := match ds with
  | [x] => ∃ ns, IntsOf x C ns ∧ P (.lst ((sortI ns).map D.int)) C
  | _ => False
theorem foldl_max_spec : ∀ (r : List Int) (x : Int), (r.foldl max x = x ∨ r.foldl max x ∈ r) ∧ x ≤ r.foldl max x ∧ ∀ y ∈ r, y ≤ r.foldl max x
  | [], x => ⟨.inl rfl, Int.le_refl _, by simp⟩
  | z :: r, x => by
    obtain ⟨h1, h2, h3⟩ := foldl_max_spec r (max x z)
    simp only [List.foldl_cons]
    refine ⟨?_, by omega, fun y hy => ?_⟩
    · rcases h1 with h1 | h1
      · rcases Int.le_total x z with h | h
        · rw [h1, Int.max_eq_right h]; exact .inr List.mem_cons_self
        · rw [h1, Int.max_eq_left h]; exact .inl rfl
      · exact .inr (List.mem_cons_of_mem _ h1)
    · rcases List.mem_cons.mp hy with rfl | hy
      · omega
      · exact h3 y hy
theorem foldl_min_spec : ∀ (r : List Int) (x : Int), (r.foldl min x = x ∨ r.foldl min x ∈ r) ∧ r.foldl min x ≤ x ∧ ∀ y ∈ r, r.foldl min x ≤ y
  | [], x => ⟨.inl rfl, Int.le_refl _, by simp⟩
  | z :: r, x => by
    obtain ⟨h1, h2, h3⟩ := foldl_min_spec r (min x z)
    simp only [List.foldl_cons]
    refine ⟨?_, by omega, fun y hy => ?_⟩
    · rcases h1 with h1 | h1
      · rcases Int.le_total x z with h | h
        · rw [h1, Int.min_eq_left h]; exact .inl rfl
        · rw [h1, Int.min_eq_right h]; exact .inr List.mem_cons_self
      · exact .inr (List.mem_cons_of_mem _ h1)
    · rcases List.mem_cons.mp hy with rfl | hy
      · omega
      · exact h3 y hy
theorem maxI_spec : ∀ {ns : List Int}, ns ≠ [] → maxI ns ∈ ns ∧ ∀ y ∈ ns, y ≤ maxI ns
  | [], h => absurd rfl h
  | x :: r, _ => by
    obtain ⟨h1, h2, h3⟩ := foldl_max_spec r x
    refine ⟨?_, fun y hy => ?_⟩
    · show r.foldl max x ∈ x :: r
      rcases h1 with h1 | h1
      · rw [h1]; exact List.mem_cons_self
      · exact List.mem_cons_of_mem _ h1
    · show y ≤ r.foldl max x
      rcases List.mem_cons.mp hy with rfl | hy
      · exact h2
      · exact h3 y hy
theorem minI_spec : ∀ {ns : List Int}, ns ≠ [] → minI ns ∈ ns ∧ ∀ y ∈ ns, minI ns ≤ y
  | [], h => absurd rfl h
  | x :: r, _ => by
    obtain ⟨h1, h2, h3⟩ := foldl_min_spec r x
    refine ⟨?_, fun y hy => ?_⟩
    · show r.foldl min x ∈ x :: r
      rcases h1 with h1 | h1
      · rw [h1]; exact List.mem_cons_self
      · exact List.mem_cons_of_mem _ h1
    · show r.foldl min x ≤ y
      rcases List.mem_cons.mp hy with rfl | hy
      · exact h2
      · exact h3 y hy
theorem sortI_perm (ns : List Int) : (sortI ns).Perm ns := List.mergeSort_perm ns _
theorem sortI_pair (ns : List Int) : (sortI ns).Pairwise (· ≤ ·) := by
  have h := List.pairwise_mergeSort (le := fun a b : Int => decide (a ≤ b)) (by intro a b c; simp; omega) (by intro a b; simp; omega) ns
  exact h.imp (by intro a b; simp)
theorem sorted_unique : ∀ {xs ys : List Int}, xs.Perm ys → xs.Pairwise (· ≤ ·) → ys.Pairwise (· ≤ ·) → xs = ys := fun {xs ys} p h1 h2 =>
  p.eq_of_pairwise (fun a b _ _ h h' => by omega) h1 h2
section
variable {K : PySem.W.Frag}
theorem ints_of {F H : Hp} {C : Cells} {v : V} {x : D} {ns : List Int} (hs : Hs K F C H) (r : Rep K F v x) (h : IntsOf x C ns) : ∃ a, v = .ref a ∧ SqL K H a (ns.map V.int) := by
  obtain ⟨a, xs, rfl, h2, h3⟩ := seq_of hs r h
  rw [h3.of_ints] at h2
  exact ⟨a, rfl, h2⟩
theorem s_list : SimA K (fun xs H Q => ∃ p ys, xs = [.ref p] ∧ (SqL K H p ys ∨ SqT K H p ys) ∧ ∀ l, H l = none → Q (.ref l) (upd H l (.lst ys))) dList := fun F C H xs ds P Q hs r w k => by
  revert w
  unfold dList
  split
  · split
    · rename_i ys hy
      intro w
      cases r with
      | cons r1 r2 =>
        cases r2
        obtain ⟨a, us, rfl, h2, h3⟩ := its_of hs r1 hy
        refine ⟨a, us, rfl, h2, fun p hp => ?_⟩
        obtain ⟨e4, h4, r4⟩ := hs.newL h3 hp
        exact k _ _ _ _ C e4 h4 r4 w
    · exact fun z => z.elim
  · exact fun z => z.elim
theorem s_listC : SimA K (fun xs H Q => ∃ p ys, xs = [.ref p] ∧ (SqL K H p ys ∨ SqT K H p ys) ∧ ∀ l, H l = none → Q (.ref l) (upd H l (.lst ys))) dListC := fun F C H xs ds P Q hs r w k => by
  revert w
  unfold dListC
  split
  · split
    · rename_i ys hy
      intro w
      cases r with
      | cons r1 r2 =>
        cases r2
        obtain ⟨a, us, rfl, h2, h3⟩ := its_of hs r1 hy
        refine ⟨a, us, rfl, h2, fun p hp => ?_⟩
        obtain ⟨c0, h4⟩ := hs.newC h3 hp
        exact k _ _ _ _ _ (Ex.refl F) h4 (.ptr p) (w p c0)
    · exact fun z => z.elim
  · exact fun z => z.elim
theorem s_max2 : SimA K (fun xs H Q => ∃ i j, xs = [.int i, .int j] ∧ Q (.int (if j > i then j else i)) H) dMax2 := fun F C H xs ds P Q hs r w k => by
  revert w
  unfold dMax2
  split
  · rename_i i j
    intro w
    cases r with
    | cons r1 r2 =>
      cases r1
      cases r2 with
      | cons r3 r4 =>
        cases r3; cases r4
        refine ⟨i, j, rfl, k _ F H _ C (Ex.refl F) hs (.int _) ?_⟩
        rw [show (if j > i then j else i) = max i j by split <;> omega]
        exact w
  · exact fun z => z.elim
theorem s_min2 : SimA K (fun xs H Q => ∃ i j, xs = [.int i, .int j] ∧ Q (.int (if j < i then j else i)) H) dMin2 := fun F C H xs ds P Q hs r w k => by
  revert w
  unfold dMin2
  split
  · rename_i i j
    intro w
    cases r with
    | cons r1 r2 =>
      cases r1
      cases r2 with
      | cons r3 r4 =>
        cases r3; cases r4
        refine ⟨i, j, rfl, k _ F H _ C (Ex.refl F) hs (.int _) ?_⟩
        rw [show (if j < i then j else i) = min i j by split <;> omega]
        exact w
  · exact fun z => z.elim
theorem s_abs : SimA K (fun xs H Q => ∃ i, xs = [.int i] ∧ Q (.int (if i < 0 then -i else i)) H) dAbs := fun F C H xs ds P Q hs r w k => by
  revert w
  unfold dAbs
  split
  · rename_i i
    intro w
    cases r with
    | cons r1 r2 =>
      cases r1; cases r2
      refine ⟨i, rfl, k _ F H _ C (Ex.refl F) hs (.int _) ?_⟩
      rw [show (if i < 0 then -i else i) = (i.natAbs : Int) by split <;> omega]
      exact w
  · exact fun z => z.elim
theorem s_int : SimA K (fun xs H Q => (∃ i, xs = [.int i] ∧ Q (.int i) H) ∨ ∃ k, xs = [.bl k] ∧ Q (.int (if k then 1 else 0)) H) dInt := fun F C H xs ds P Q hs r w k => by
  revert w
  unfold dInt
  split
  · rename_i i
    intro w
    cases r with
    | cons r1 r2 =>
      cases r1; cases r2
      exact .inl ⟨i, rfl, k _ F H _ C (Ex.refl F) hs (.int _) w⟩
  · rename_i b
    intro w
    cases r with
    | cons r1 r2 =>
      cases r1; cases r2
      exact .inr ⟨b, rfl, k _ F H _ C (Ex.refl F) hs (.int _) w⟩
  · exact fun z => z.elim
theorem s_sum : SimA K (rSum K) dSum := fun F C H xs ds P Q hs r w k => by
  revert w
  unfold dSum
  split
  · rintro ⟨ns, hn, w⟩
    cases r with
    | cons r1 r2 =>
      cases r2
      obtain ⟨a, rfl, h2⟩ := ints_of hs r1 hn
      exact ⟨a, ns, rfl, h2, k _ F H _ C (Ex.refl F) hs (.int _) w⟩
  · exact fun z => z.elim
theorem s_maxL : SimA K (rMax K) dMaxL := fun F C H xs ds P Q hs r w k => by
  revert w
  unfold dMaxL
  split
  · rintro ⟨ns, hn, hne, w⟩
    cases r with
    | cons r1 r2 =>
      cases r2
      obtain ⟨a, rfl, h2⟩ := ints_of hs r1 hn
      refine ⟨a, ns, rfl, h2, List.length_pos_iff.mpr hne, fun m hm hle => ?_⟩
      obtain ⟨g1, g2⟩ := maxI_spec hne
      rw [show m = maxI ns from Int.le_antisymm (g2 m hm) (hle _ g1)]
      exact k _ F H _ C (Ex.refl F) hs (.int _) w
  · exact fun z => z.elim
theorem s_minL : SimA K (rMin K) dMinL := fun F C H xs ds P Q hs r w k => by
  revert w
  unfold dMinL
  split
  · rintro ⟨ns, hn, hne, w⟩
    cases r with
    | cons r1 r2 =>
      cases r2
      obtain ⟨a, rfl, h2⟩ := ints_of hs r1 hn
      refine ⟨a, ns, rfl, h2, List.length_pos_iff.mpr hne, fun m hm hle => ?_⟩
      obtain ⟨g1, g2⟩ := minI_spec hne
      rw [show m = minI ns from Int.le_antisymm (hle _ g1) (g2 m hm)]
      exact k _ F H _ C (Ex.refl F) hs (.int _) w
  · exact fun z => z.elim
theorem s_sortI : SimA K (rSortedI K) dSortI := fun F C H xs ds P Q hs r w k => by
  revert w
  unfold dSortI
  split
  · rintro ⟨ns, hn, w⟩
    cases r with
    | cons r1 r2 =>
      cases r2
      obtain ⟨a, rfl, h2⟩ := ints_of hs r1 hn
      refine ⟨a, ns, rfl, h2, fun ns' p hp hr hf => ?_⟩
      have e : ns' = sortI ns := sorted_unique (hp.trans (sortI_perm ns).symm) hr (sortI_pair ns)
      subst e
      obtain ⟨e4, h4, r4⟩ := hs.newL (RepL.ints _) hf
      exact k _ _ _ _ C e4 h4 r4 w
  · exact fun z => z.elim
end
end DD

set_option Elab.async false
set_option linter.all false
set_option maxRecDepth 100000
set_option maxHeartbeats 4000000
/-! Readings over data: == of nested data, in, comprehensions. -/
namespace DD
open PySem L2 PyProof.Rows

mutual
def D.py : D → PyData
  | .non => .none
  | .bl b => .bool b
  | .int i => .int i
  | .str x => .str x
  | .tup xs => .tuple (pys xs)
  | .lst xs => .list (pys xs)
  | .ins _ _ => .dict []
  | .ptr _ => .dict []
  | .dK _ => .dict []
  | .dT _ => .dict []
  | .ktup xs => .tuple (pys xs)
def pys : List D → List PyData
  | [] => []
  | d :: r => d.py :: pys r
end
/-- data of a depth, of nothing but None, bools, ints, texts, lists, tuples -/
inductive Dat : Nat → D → Prop where
  | non {n} : Dat n .non
  | bl {n} (b : Bool) : Dat n (.bl b)
  | int {n} (i : Int) : Dat n (.int i)
  | str {n} {x : Str} (h : PyData.canLay0 (.str x) = true) : Dat n (.str x)
  | tup {n} {ds : List D} (h : ∀ d, d ∈ ds → Dat n d) : Dat (n + 1) (.tup ds)
  | lst {n} {ds : List D} (h : ∀ d, d ∈ ds → Dat n d) : Dat (n + 1) (.lst ds)
  | ktup {n} {ds : List D} (h : ∀ d, d ∈ ds → Dat n d) : Dat (n + 1) (.ktup ds)
theorem dat_mono : ∀ {n m : Nat} {d : D}, Dat n d → n ≤ m → Dat m d
  | _, _, _, .non, _ => .non
  | _, _, _, .bl b, _ => .bl b
  | _, _, _, .int i, _ => .int i
  | _, _, _, .str h, _ => .str h
  | n + 1, m, _, .tup h, l => by
    obtain ⟨k, rfl⟩ : ∃ k, m = k + 1 := ⟨m - 1, by omega⟩
    exact .tup fun d hd => dat_mono (h d hd) (by omega)
  | n + 1, m, _, .lst h, l => by
    obtain ⟨k, rfl⟩ : ∃ k, m = k + 1 := ⟨m - 1, by omega⟩
    exact .lst fun d hd => dat_mono (h d hd) (by omega)
  | n + 1, m, _, .ktup h, l => by
    obtain ⟨k, rfl⟩ : ∃ k, m = k + 1 := ⟨m - 1, by omega⟩
    exact .ktup fun d hd => dat_mono (h d hd) (by omega)
theorem pys_lay {n : Nat} : ∀ ds : List D, (∀ d, d ∈ ds → PyData.canLay0 d.py = true ∧ d.py.depth ≤ n) → PyData.canLayAll0 (pys ds) = true ∧ PyData.depthAll (pys ds) ≤ n
  | [], _ => by simp [pys, PyData.canLayAll0, PyData.depthAll]
  | d :: r, h => by
    obtain ⟨h1, h2⟩ := h d List.mem_cons_self
    obtain ⟨h3, h4⟩ := pys_lay r fun e he => h e (List.mem_cons_of_mem _ he)
    refine ⟨by simp [pys, PyData.canLayAll0, h1, h3], ?_⟩
    simp only [pys, PyData.depthAll]
    omega
theorem dat_lay : ∀ {n : Nat} {d : D}, Dat n d → PyData.canLay0 d.py = true ∧ d.py.depth ≤ n
  | _, _, .non => by simp [D.py, PyData.canLay0, PyData.depth]
  | _, _, .bl b => by simp [D.py, PyData.canLay0, PyData.depth]
  | _, _, .int i => by simp [D.py, PyData.canLay0, PyData.depth]
  | _, _, .str h => ⟨h, by simp [D.py, PyData.depth]⟩
  | n + 1, _, .tup (ds := ds) h => by
    obtain ⟨h1, h2⟩ := pys_lay (n := n) ds fun d hd => dat_lay (h d hd)
    exact ⟨by simp only [D.py, PyData.canLay0, h1], by simp only [D.py, PyData.depth]; omega⟩
  | n + 1, _, .lst (ds := ds) h => by
    obtain ⟨h1, h2⟩ := pys_lay (n := n) ds fun d hd => dat_lay (h d hd)
    exact ⟨by simp only [D.py, PyData.canLay0, h1], by simp only [D.py, PyData.depth]; omega⟩
  | n + 1, _, .ktup (ds := ds) h => by
    obtain ⟨h1, h2⟩ := pys_lay (n := n) ds fun d hd => dat_lay (h d hd)
    exact ⟨by simp only [D.py, PyData.canLay0, h1], by simp only [D.py, PyData.depth]; omega⟩
theorem dat_shaped {n : Nat} {d : D} (h : Dat n d) (hn : n ≤ 60) : SeqAt.shaped d.py = true := by
  obtain ⟨h1, h2⟩ := dat_lay h
  unfold SeqAt.shaped
  rw [h1, decide_eq_true (by omega)]
  rfl
/-- == of data -/
def D.eqb (x y : D) : Bool := PyData.eqv x.py y.py
theorem eqb_self {n : Nat} {d : D} (h : Dat n d) : d.eqb d = true := SeqAt.eqv_refl _ (dat_lay h).1
/-- a list that is a cell, as data -/
def D.res (C : Cells) : D → D
  | .ptr a => match C a with
    | some (.lst ds) => .lst ds
    | _ => .ptr a
  | d => d
def dEqD (neg : Bool) (x : D) (y : D) (C : Cells) (P : DK) : Prop := ∃ n, n ≤ 60 ∧ Dat n (x.res C) ∧ Dat n (y.res C) ∧ P (.bl (neg ^^ (x.res C).eqb (y.res C))) C
section
variable {K : PySem.W.Frag} {F H : Hp} {C : Cells}
theorem dpAll_of {n : Nat} : ∀ {ds : List D} {xs : List V}, (∀ d, d ∈ ds → ∀ v, Rep K F v d → Dp K H v d.py) → RepL K F xs ds → DpAll K H xs (pys ds)
  | [], _, _, .nil => by simp only [pys]; exact .nil
  | d :: r, _, h, .cons h1 h2 => by
    simp only [pys]
    exact .cons (h d List.mem_cons_self _ h1) (dpAll_of (n := n) (fun e he => h e (List.mem_cons_of_mem _ he)) h2)
theorem rep_dp (ex : Ex F H) : ∀ {n : Nat} {d : D}, Dat n d → ∀ v, Rep K F v d → Dp K H v d.py
  | _, _, .non, v, r => by cases r; exact .non
  | _, _, .bl b, v, r => by cases r; exact .bl b
  | _, _, .int i, v, r => by cases r; exact .int i
  | _, _, .str h, v, r => by cases r; exact .str _
  | n + 1, _, .tup h, v, r => by
    cases r with
    | tup hq hr => exact .tup (.of (ex.nd hq rfl)) (dpAll_of (n := n) (fun d hd v r => rep_dp ex (h d hd) v r) hr)
  | n + 1, _, .ktup h, v, r => by
    cases r with
    | ktup hq hr => exact .tup (ex_t ex hq) (dpAll_of (n := n) (fun d hd v r => rep_dp ex (h d hd) v r) hr)
  | n + 1, _, .lst h, v, r => by
    cases r with
    | lst hq hr => exact .lst (ex_l ex hq) (dpAll_of (n := n) (fun d hd v r => rep_dp ex (h d hd) v r) hr)
theorem res_dp (hs : Hs K F C H) {n : Nat} {v : V} {x : D} (r : Rep K F v x) (h : Dat n (x.res C)) : Dp K H v (x.res C).py := by
  cases x with
  | ptr a =>
    cases r
    revert h
    show Dat n (match C a with | some (.lst ds) => .lst ds | _ => .ptr a) → Dp K H (.ref a) (D.py (match C a with | some (.lst ds) => .lst ds | _ => .ptr a))
    split
    · rename_i ds hc
      intro h
      obtain ⟨_, xs, hx, r⟩ := hs.cell a _ hc
      cases h with
      | lst h =>
        rename_i m
        exact .lst (.of hx) (dpAll_of (n := m) (fun d hd v r => rep_dp hs.ex (h d hd) v r) r)
    · intro h; cases h
  | _ => exact rep_dp hs.ex h v r
theorem s_eqD : SimR K (rEqD K) (dEqD false) := fun F C H x y dx dy P Q hs rx ry w k => by
  obtain ⟨n, hn, h1, h2, w⟩ := w
  refine ⟨_, _, res_dp hs rx h1, res_dp hs ry h2, dat_shaped h1 hn, dat_shaped h2 hn, ?_⟩
  rw [Bool.false_xor] at w
  exact k _ F H _ C (Ex.refl F) hs (.bl _) w
theorem s_neD : SimR K (rNeD K) (dEqD true) := fun F C H x y dx dy P Q hs rx ry w k => by
  obtain ⟨n, hn, h1, h2, w⟩ := w
  refine ⟨_, _, res_dp hs rx h1, res_dp hs ry h2, dat_shaped h1 hn, dat_shaped h2 hn, ?_⟩
  rw [Bool.true_xor] at w
  exact k _ F H _ C (Ex.refl F) hs (.bl _) w
end

/-! ### x in xs, of flat things -/
def toV : D → V
  | .non => .non
  | .bl b => .bl b
  | .int i => .int i
  | .str x => .str x
  | _ => .non
def flatD : D → Bool
  | .non => true
  | .bl _ => true
  | .int _ => true
  | .str _ => true
  | _ => false
/-- x is one of the items -/
def inD (x : D) (ds : List D) : Bool := ds.any fun y => eqV (toV y) (toV x)
def dIn (neg : Bool) (x : D) (y : D) (C : Cells) (P : DK) : Prop := match itsOf y C with
  | some ds => flatD x = true ∧ ds.all flatD = true ∧ P (.bl (neg ^^ inD x ds)) C
  | none => False
section
variable {K : PySem.W.Frag} {F H : Hp} {C : Cells}
theorem flat_rep {v : V} {x : D} (r : Rep K F v x) (h : flatD x = true) : v = toV x ∧ flatV v = true := by
  cases r <;> first | exact ⟨rfl, rfl⟩ | cases h
theorem flat_reps : ∀ {xs : List V} {ds : List D}, RepL K F xs ds → ds.all flatD = true → xs = ds.map toV ∧ xs.all flatV = true
  | _, _, .nil, _ => ⟨rfl, rfl⟩
  | _, _, .cons h r, a => by
    simp only [List.all_cons, Bool.and_eq_true] at a
    obtain ⟨e1, f1⟩ := flat_rep h a.1
    obtain ⟨e2, f2⟩ := flat_reps r a.2
    exact ⟨by rw [e1, e2]; rfl, by rw [List.all_cons, f1, f2]; rfl⟩
theorem s_inS {neg : Bool} : SimR K (rIn K neg) (dIn neg) := fun F C H x y dx dy P Q hs rx ry w k => by
  revert w
  unfold dIn
  split
  · rename_i ds hd
    rintro ⟨h1, h2, w⟩
    obtain ⟨a, xs, rfl, hq, hr⟩ := its_of hs ry hd
    obtain ⟨e1, f1⟩ := flat_rep rx h1
    obtain ⟨e2, f2⟩ := flat_reps hr h2
    refine ⟨a, xs, rfl, hq, f1, f2, ?_⟩
    have e : (if neg then !inV x xs else inV x xs) = (neg ^^ inD dx ds) := by
      rw [e1, e2]
      unfold inV inD
      rw [List.any_map]
      cases neg <;> simp [Function.comp_def]
    rw [e]
    exact k _ F H _ C (Ex.refl F) hs (.bl _) w
  · exact fun z => z.elim
end

/-! ### list comprehensions -/
def dwipe (ρ : DEnv) : List Nat → DEnv
  | [] => ρ
  | v :: vs => (dwipe ρ vs).set v none
abbrev noX : DX := fun _ _ _ _ => False
def wYes (_ : DEnv) (C : Cells) (P : Bool → Cells → Prop) (_ : DX) : Prop := P true C
def LcG (J : DIt) (t : Tgt) (wt : DT) (we : DE) (vs : List Nat) (ρ : DEnv) (C1 : Cells) (P : DK) : Prop := ∀ Dl, C1 Dl = none → ∃ Inv : Nat → Cells → Prop, Inv 0 (cput C1 Dl (.lst [])) ∧
  (∀ i C', Inv i C' → J.still C') ∧
  (∀ i d C', J.items[i]? = some d → Inv i C' → match t.dg d (dwipe ρ vs) with
    | some ρ2 => wt ρ2 C' (fun b C2 => if b = true then we ρ2 C2 (fun y C3 => match C3 Dl with
        | some (.lst acc) => acc.length < 100000 ∧ Inv (i + 1) (cput C3 Dl (.lst (acc ++ [y])))
        | _ => False) noX else Inv (i + 1) C2) noX
    | none => False) ∧
  (∀ C', Inv J.items.length C' → match C' Dl with
    | some (.lst acc) => ∃ C4, Sub C4 C' ∧ C4 Dl = none ∧ P (.lst acc) C4
    | _ => False)
def wLc (wi : DI) (t : Tgt) (wt : DT) (we : DE) (vs : List Nat) (ρ : DEnv) (C : Cells) (P : DK) (PX : DX) : Prop := wi ρ C (fun J C1 => LcG J t wt we vs ρ C1 P) PX
theorem EnvR.wipe {K : PySem.W.Frag} {F : Hp} {σ : L2.St} {ρ : DEnv} (h : EnvR K F σ ρ) : ∀ vs, EnvR K F (L2.wipe σ vs) (dwipe ρ vs)
  | [] => h
  | v :: vs => by
    obtain ⟨h1, h2⟩ := EnvR.wipe h vs
    refine ⟨by show ((L2.wipe σ vs).set v none).length = ((dwipe ρ vs).set v none).length; rw [List.length_set, List.length_set]; exact h1, fun i d q => ?_⟩
    have q' : ((dwipe ρ vs).set v none)[i]? = some (some d) := q
    by_cases e : v = i
    · subst e
      rw [List.getElem?_set] at q'
      simp only [if_true] at q'
      split at q' <;> cases q'
    · rw [List.getElem?_set_ne e] at q'
      obtain ⟨w, hw, rw'⟩ := h2 i d q'
      refine ⟨w, ?_, rw'⟩
      show ((L2.wipe σ vs).set v none)[i]? = some (some w)
      rw [List.getElem?_set_ne e]
      exact hw
section
variable {X : Cx} {W : WX} {K : PySem.W.Frag}
theorem i_lc {wi : DI} {t : Tgt} {wt : DT} {we : DE} {vs : List Nat} (ht : ∀ i ∈ t.slots, i ∈ vs) {σ : L2.St} {H : Hp} {Q : VK} (h : tE K W (wLc wi t wt we vs) σ H Q) : tLc (tI K W wi) (t.tg K) (tT K W0 wt) (tE K W0 we) vs σ H Q := by
  obtain ⟨F, C, ρ, P, PX, hs, en, xr, w, k⟩ := h
  refine ⟨F, C, ρ, _, PX, hs, en, xr, w, fun J F1 H1 Jd C1 e1 h1 ir q => fun Dl hD => ?_⟩
  obtain ⟨c0, h2⟩ := h1.newC (xs := []) (ds := []) .nil hD
  obtain ⟨Inv, i0, st, turn, done⟩ := q Dl c0
  refine ⟨fun i m H' => m = Jd.items.length - i ∧ i ≤ Jd.items.length ∧ ∃ F' C', Ex F1 F' ∧ Hs K F' C' H' ∧ Inv i C', ⟨_, rfl, Nat.zero_le _, F1, _, Ex.refl _, h2, i0⟩, ?_⟩
  rintro i m H' ⟨rfl, hl, F', C', e', h', p⟩
  obtain ⟨go, stop⟩ := ir F' H' C' e' h' (st i C' p)
  by_cases hi : i = Jd.items.length
  · subst hi
    have z := done C' p
    revert z
    split
    · rename_i acc hc
      rintro ⟨C4, s4, n4, z⟩
      obtain ⟨F5, e5, h5, r5⟩ := frz_go h' hc s4 n4 trivial
      exact .inl ⟨stop, k _ F5 H' _ C4 ((e1.trans e').trans e5) h5 r5 z⟩
    · exact fun z => z.elim
  · have hlt : i < Jd.items.length := by omega
    have hd : Jd.items[i]? = some Jd.items[i] := List.getElem?_eq_getElem hlt
    obtain ⟨g1, g2⟩ := go i _ hd
    have q := turn i _ C' hd p
    refine .inr ⟨g1, fun H2 => ∃ F2 C2, Ex F' F2 ∧ Hs K F2 C2 H2 ∧ Inv (i + 1) C2, ?_, ?_⟩
    · rintro H2 ⟨F2, C2, e2, h2, p2⟩
      exact ⟨_, by omega, rfl, hlt, F2, C2, e'.trans e2, h2, p2⟩
    · intro x H2 hy
      obtain ⟨F2, e2, h2, rx⟩ := g2 x H2 hy
      revert q
      split
      · rename_i ρ2 hdg
        intro q
        refine tg_ok t h2.ex rx (((en.mono (e1.trans e')).wipe vs).mono e2) hdg fun σ2 en2 hw => ?_
        refine ⟨by rw [hw vs ht, wipe_wipe], ?_⟩
        refine ⟨F2, C', ρ2, _, noX, h2, en2, fun _ _ _ _ _ _ _ _ _ _ _ _ z => z.elim, q, fun b F3 H3 C3 e3 h3 q3 => ?_⟩
        cases b with
        | false =>
          rw [if_neg Bool.false_ne_true] at q3
          rw [if_neg Bool.false_ne_true]
          exact ⟨F3, C3, e2.trans e3, h3, q3⟩
        | true =>
          rw [if_pos rfl] at q3
          rw [if_pos rfl]
          refine ⟨F3, C3, ρ2, _, noX, h3, en2.mono e3, fun _ _ _ _ _ _ _ _ _ _ _ _ z => z.elim, q3, fun y F4 H4 dy C4 e4 h4 ry q4 => ?_⟩
          revert q4
          dsimp only
          split
          · rename_i acc hc
            rintro ⟨hz, q4⟩
            obtain ⟨f0, us, hu, ru⟩ := h4.cell Dl _ hc
            exact ⟨us, hu, by rw [ru.length]; exact sz_lt hz, F4, _, (e2.trans e3).trans e4, h4.put (c := .lst (acc ++ [dy])) f0 ⟨_, upd_same, ru.append (.cons ry .nil)⟩, q4⟩
          · exact fun z => z.elim
      · exact fun z => z.elim
theorem dts_nil : PTs X [] (tT X.K W wYes) := ⟨fun pins s σ H Q I ⟨F, C, ρ, P, PX, hs, en, xr, w, k⟩ => pts_nil.run pins s σ H Q I (k _ F H C (Ex.refl F) hs w)⟩
theorem dts_one {c : Expr} {t : DT} (h : PT X c (tT X.K W t)) : PTs X [c] (tT X.K W t) := pts_one h
theorem d_lc {elt tg iter : Expr} {ifs : List Expr} {scope : Scope} {own : List (Str × Nat)} {pos : Pos} {wi : DI} {t : Tgt} {wt : DT} {we : DE} (hc : X.calm = true) (hN : X.N.Nodup) (hi : PI X tg iter (tI X.K W wi)) (ok : BlkOk X.N X.env.scope scope own) (hsl : ∀ i ∈ t.slots, i ∈ own.map (·.2))
    (hg : ∀ (s : Shared) (H : Hp) (C : Addr) (cl : List (Str × Addr)) (fp : List Addr), PG (X.blk s H scope (compEnvC scope cl C X.env) fp) tg (t.tg X.K)) (ht : ∀ (s : Shared) (H : Hp) (C : Addr) (cl : List (Str × Addr)) (fp : List Addr), PTs (X.blk s H scope (compEnvC scope cl C X.env) fp) ifs (tT X.K W0 wt))
    (he : ∀ (s : Shared) (H : Hp) (C : Addr) (cl : List (Str × Addr)) (fp : List Addr), PE (X.blk s H scope (compEnvC scope cl C X.env) fp) elt (tE X.K W0 we)) (hs : ∀ x, foldedSetIterable iter X.env x = pure x := by intro _; rfl) :
    PE X (.ListComp elt [⟨tg, iter, ifs, 0⟩] scope pos) (tE X.K W (wLc wi t wt we (own.map (·.2)))) := PE.imp (pe_lc hc hN hi ok hg ht he hs) fun _ _ _ => i_lc hsl
theorem ds_setLc (i : Nat) {y : Str} {py : Pos} {elt tg iter : Expr} {ifs : List Expr} {scope : Scope} {own : List (Str × Nat)} {pos spos : Pos} {wi : DI} {t : Tgt} {wt : DT} {we : DE} (hc : X.calm = true) (hN : X.N.Nodup) (hy : X.N[i]? = some y) (hyl : X.env.scope.names.lookup y = some .local)
    (hsw : swapsWith (.ListComp elt [⟨tg, iter, ifs, 0⟩] scope pos) (some (.Name y py)) spos.line X.env = pure true) (hi : PI X tg iter (tI X.K W wi)) (ok : BlkOk X.N X.env.scope scope own) (hsl : ∀ i ∈ t.slots, i ∈ own.map (·.2))
    (hg : ∀ (s : Shared) (H : Hp) (C : Addr) (cl : List (Str × Addr)) (fp : List Addr), PG (X.blk s H scope (compEnvC scope cl C X.env) fp) tg (t.tg X.K)) (ht : ∀ (s : Shared) (H : Hp) (C : Addr) (cl : List (Str × Addr)) (fp : List Addr), PTs (X.blk s H scope (compEnvC scope cl C X.env) fp) ifs (tT X.K W0 wt))
    (he : ∀ (s : Shared) (H : Hp) (C : Addr) (cl : List (Str × Addr)) (fp : List Addr), PE (X.blk s H scope (compEnvC scope cl C X.env) fp) elt (tE X.K W0 we)) (hs : ∀ x, foldedSetIterable iter X.env x = pure x := by intro _; rfl) :
    PS X (.Assign [.Name y py] (.ListComp elt [⟨tg, iter, ifs, 0⟩] scope pos) spos) (tS X.K W (wSet i (wLc wi t wt we (own.map (·.2))))) := PS.imp (ps_setLc hc hN hy hyl hsw hi ok hg ht he hs) fun Dn σ H ⟨F, C, ρ, DE, hs, en, xr, w, er⟩ => by
  have z : tE X.K W (wLc wi t wt we (own.map (·.2))) σ H (fun x H1 => Dn.nx (σ.set i (some x)) H1) := ⟨F, C, ρ, _, _, hs, en, xr, w, fun v F1 H1 d C1 e1 h1 r q => er.nx _ F1 H1 _ C1 e1 h1 ((en.mono e1).set r) q⟩
  exact i_lc hsl z
end
/-- a comprehension that changes nothing -/
theorem lc_pure {t : Tgt} {wt : DT} {we : DE} {vs : List Nat} {J : DIt} {C1 : Cells} {ρ : DEnv} {P : DK} (f : D → Option D) (hf : ∀ C', Sub C1 C' → J.still C') (hn : J.items.length ≤ 100000)
    (h : ∀ (i : Nat) d C' (Q : Option D → Cells → Prop), J.items[i]? = some d → Sub C1 C' → Q (f d) C' → match t.dg d (dwipe ρ vs) with
      | some ρ2 => wt ρ2 C' (fun b C2 => if b = true then we ρ2 C2 (fun y C3 => Q (some y) C3) noX else Q none C2) noX
      | none => False)
    (hP : P (.lst (J.items.filterMap f)) C1) : LcG J t wt we vs ρ C1 P := by
  intro Dl hD
  refine ⟨fun i C' => C' = cput C1 Dl (.lst ((J.items.take i).filterMap f)), by simp, fun i C' e => hf C' (by rw [e]; exact Sub.new hD), fun i d C' hd e => ?_, fun C' e => ?_⟩
  · have ht : J.items.take (i + 1) = J.items.take i ++ [d] := by rw [List.take_succ, hd]; rfl
    refine h i d C' (fun o C3 => match o with
      | some y => match C3 Dl with
        | some (.lst acc) => acc.length < 100000 ∧ cput C3 Dl (.lst (acc ++ [y])) = cput C1 Dl (.lst ((J.items.take (i + 1)).filterMap f))
        | _ => False
      | none => C3 = cput C1 Dl (.lst ((J.items.take (i + 1)).filterMap f))) hd (by rw [e]; exact Sub.new hD) ?_
    split
    · rename_i y hy
      rw [e, cput_same]
      refine ⟨?_, ?_⟩
      · have := List.length_filterMap_le f (J.items.take i)
        have hlt : i < J.items.length := (List.getElem?_eq_some_iff.mp hd).1
        rw [List.length_take] at this
        omega
      · rw [cput_cput, ht, List.filterMap_append]
        simp [hy]
    · rename_i hy
      rw [e, ht, List.filterMap_append]
      simp [hy]
  · rw [e, cput_same, List.take_length]
    exact ⟨C1, Sub.new hD, hD, hP⟩
end DD

set_option Elab.async false
set_option linter.all false
set_option maxRecDepth 100000
set_option maxHeartbeats 4000000
/-! Readings over data: constants of the module, further operators, the law's end, what loops ask. -/
namespace DD
open PySem L2 PyProof.Rows
section
variable {X : Cx} {W : WX} {K : PySem.W.Frag}
/-- a module's whole number -/
theorem d_kint {x : Str} {i : Int} {pos : Pos} (h : ∃ t, X.mg x = some (.int i t)) (hg : Gl X x := by rfl) (hd : (x == ("__debug__" : Str)) = false := by decide) : PE X (.Name x pos) (tE X.K W (wC (.int i))) := by
  obtain ⟨t, h⟩ := h
  exact d_glob (v := .int i) hg h ⟨t, rfl⟩ (fun _ => .int i) hd
/-- // by a divisor below 2 ^ 64 -/
abbrev dDivW : DR2 := dI (fun _ j => 0 < j ∧ j < 18446744073709551616) fun i j => .int (i / j)
theorem s_divW : SimR K (rI CDivW fun i j => .int (i / j)) dDivW := fun F C H x y dx dy P Q hs rx ry w k => by
  cases rx <;> cases ry <;> first
    | exact w.elim
    | exact ⟨_, _, rfl, rfl, wide_div (b := 64) w.1.1 (by have := w.1; omega) (by decide) (by decide), k _ F H _ C (Ex.refl F) hs (.int _) w.2⟩
def dPow : DR2 := dI CPow fun i j => .int (i ^ j.toNat)
theorem s_pow : SimR K (rI CPow fun i j => .int (i ^ j.toNat)) dPow := simI fun _ _ _ => .int _
theorem s_tupleOf : SimA K (fun xs H Q => ∃ p ys, xs = [.ref p] ∧ ((SqL K H p ys ∧ ∀ l, H l = none → Q (.ref l) (upd H l (.tup ys))) ∨ (SqT K H p ys ∧ Q (.ref p) H))) dTupleOf := fun F C H xs ds P Q hs r w k => by
  revert w
  unfold dTupleOf
  split
  · rename_i x
    obtain ⟨v, rfl, r1⟩ := r.one
    have go : ∀ ys, seqOf x C = some ys → P (.tup ys) C → ∃ p zs, [v] = [V.ref p] ∧ ((SqL K H p zs ∧ ∀ l, H l = none → Q (.ref l) (upd H l (.tup zs))) ∨ (SqT K H p zs ∧ Q (.ref p) H)) := fun ys hy w => by
      obtain ⟨a, us, rfl, h2, h3⟩ := seq_of hs r1 hy
      refine ⟨a, us, rfl, .inl ⟨h2, fun p hp => ?_⟩⟩
      obtain ⟨e4, h4, r4⟩ := hs.newT h3 hp
      exact k _ _ _ _ C e4 h4 r4 w
    cases r1 <;> first
      | (split
         · rename_i ys hy
           exact go ys hy
         · exact fun z => z.elim)
      | (rename_i a us ds hq hr
         exact fun w => ⟨a, us, rfl, .inr ⟨.of (hs.ex.nd hq rfl), k _ F H _ C (Ex.refl F) hs (.tup hq hr) w⟩⟩)
      | (rename_i a us ds hq hr
         exact fun w => ⟨a, us, rfl, .inr ⟨ex_t hs.ex hq, k _ F H _ C (Ex.refl F) hs (.ktup hq hr) w⟩⟩)
  · exact fun z => z.elim
/-- a, b = e1, e2 -/
def wPar (i j : Nat) (a : DA) (E : DEnds) (ρ : DEnv) (C : Cells) : Prop := a ρ C (fun ds C1 => match ds with
  | [x, y] => E.nx ((ρ.set i (some x)).set j (some y)) C1
  | _ => False) E.ex
theorem ds_par {i j : Nat} {x y : Str} {a b : Expr} {wr : DA} {px py pt pos : Pos} {kt k2 pt2} (hc : X.calm = true) (hN : X.N.Nodup) (hi : X.N[i]? = some x) (hj : X.N[j]? = some y) (hij : i ≠ j)
    (hx : X.env.scope.names.lookup x = some .local) (hy : X.env.scope.names.lookup y = some .local) (ha : PA X [a, b] (tA X.K W wr))
    (hw : swappedStores [.Tuple [.Name x px, .Name y py] kt pt] (.Tuple [a, b] k2 pt2) X.env = pure (some [x, y]))
    (hs : swapsWithSole [.Tuple [.Name x px, .Name y py] kt pt] (.Tuple [a, b] k2 pt2) pos.line X.env = pure false := by rfl) :
    PS X (.Assign [.Tuple [.Name x px, .Name y py] kt pt] (.Tuple [a, b] k2 pt2) pos) (tS X.K W (wPar i j wr)) := PS.imp (ps_par hc hN hi hj hij hx hy ha hw hs) fun Dn σ H ⟨F, C, ρ, DE, hs, en, xr, w, er⟩ =>
  ⟨F, C, ρ, _, _, hs, en, xr, w, fun vs F1 H1 ds C1 e1 h1 r q => by
    revert q
    dsimp only
    split
    · intro q
      cases r with
      | cons r1 r2 =>
        cases r2 with
        | cons r2 r3 =>
          cases r3
          exact ⟨_, _, rfl, er.nx _ F1 H1 _ C1 e1 h1 (((en.mono e1).set r1).set r2) q⟩
    · exact fun z => z.elim⟩
end

/-! ### the law's own promise -/
def spLawD (K : PySem.W.Frag) : Sp := fun vs H Q _ => ∃ (a : Addr) (ns : List Int), vs = [.ref a] ∧ SqL K H a (ns.map V.int) ∧ ns.length ≤ 63 ∧ ∀ H', Q (.bl true) H'
theorem spLaw_imp {K : PySem.W.Frag} (R : DSp) (go : ∀ (ns : List Int) (P : DK), ns.length ≤ 63 → (∀ C', P (.bl true) C') → R [.lst (ns.map D.int)] (fun _ => none) P) : ∀ vs H Q E, spLawD K vs H Q E → spD K R vs H Q E :=
  fun vs H Q E ⟨a, ns, hv, hs, hl, k⟩ => by
    subst hv
    refine ⟨H, fun _ => none, [.lst (ns.map D.int)], fun d _ => d = .bl true, ⟨Ex.refl H, fun _ _ e => by cases e⟩, .cons (.lst hs (RepL.ints ns)) .nil, go ns _ hl fun _ => rfl, fun v F' H' d C' _ _ r q => ?_⟩
    subst q
    cases r
    exact k H'
end DD

set_option Elab.async false
set_option linter.all false
set_option maxRecDepth 100000
set_option maxHeartbeats 4000000
/-! Readings over data: sorted(..) of data of any kind. -/
namespace DD
open PySem L2 PyProof.Rows PySem.W
def rSortedD (K : PySem.W.Frag) : List V → Hp → VK → Prop := fun vs H Q => ∃ (a : Addr) (xs : List V) (ps : List PyData), vs = [V.ref a] ∧ SqL K H a xs ∧ DpAll K H xs ps ∧ AllAlike ps ∧ Sortable ps ∧ (∀ d ∈ ps, d.depth ≤ 60) ∧
  ∀ p, H p = none → Q (.ref p) (upd H p (.lst (((xs.zip ps).mergeSort (dataLe false Prod.snd)).map Prod.fst)))
theorem dpAll_len {K : PySem.W.Frag} {H : Hp} : ∀ {xs : List V} {ps : List PyData}, DpAll K H xs ps → xs.length = ps.length
  | _, _, .nil => rfl
  | _, _, .cons _ r => congrArg (· + 1) (dpAll_len r)
theorem each_zip {xs : List V} {ps : List PyData} {vs : List Value} : ∀ {xs : List V} {ps : List PyData} {vs : List Value}, Vals xs vs → xs.length = ps.length → EachIs (fun v (b : V × PyData) => RelV b.1 v) vs (xs.zip ps)
  | _, [], _, .nil, _ => .nil
  | _, p :: ps, _, .cons r t, h => .cons r (each_zip (xs := xs) (ps := ps) (vs := vs) t (by simpa using h))
theorem each_reads {X : Cx} {pins : List (Addr × Obj)} {σ : L2.St} {H : Hp} {s : Shared} (I : Inv X pins σ H s) : ∀ {xs : List V} {ps : List PyData} {vs : List Value}, Vals xs vs → DpAll X.K H xs ps → EachIs (fun v (b : V × PyData) => ∃ as, Reads s.heap v b.2 as) vs (xs.zip ps)
  | _, _, _, .nil, .nil => .nil
  | _, _, _, .cons r t, .cons d e => .cons (Dp.reads I _ _ _ d r) (each_reads I t e)
theorem each_vals {bs : List (V × PyData)} {vs : List Value} : ∀ {bs : List (V × PyData)} {vs : List Value}, EachIs (fun v (b : V × PyData) => RelV b.1 v) vs bs → Vals (bs.map Prod.fst) vs
  | _, _, .nil => .nil
  | _, _, .cons r t => .cons r (each_vals (bs := bs) (vs := vs) t)
theorem zip_snd {xs : List V} {ps : List PyData} (h : xs.length = ps.length) : (xs.zip ps).map Prod.snd = ps := List.map_snd_zip (by omega)
theorem cr_sortedD {X : Cx} (hu : X.A.units + 64 < cLine) : CallR X (.builtin "sorted") (rSortedD X.K) := by
  intro pins s σ H vs us Q I r h
  obtain ⟨a, xs, ps, rfl, hs, hd, hal, hk, hdep, q⟩ := h
  obtain ⟨its, rv, hl, hz⟩ := I.list hs
  rw [Vals.ref1 r]
  have hlen := dpAll_len hd
  have hb : (xs.zip ps).length = xs.length := by rw [List.length_zip]; omega
  refine sorted_data (bs := xs.zip ps) (enc := Prod.snd) (R := fun v b => RelV b.1 v) hl.isList (each_zip (xs := xs) (ps := ps) (vs := its) rv hlen) (each_reads I rv hd) (by rw [zip_snd hlen]; exact hal) (by rw [zip_snd hlen]; exact hk) (by rw [hb]; exact hz) (fun b hb => ?_) fun out h1 h2 => ?_
  · have := hdep b.2 (by rw [← zip_snd hlen]; exact List.mem_map_of_mem hb)
    omega
  · obtain ⟨ep, he'⟩ := PyProof.Rows.sortedAll_at s.heap its out.toArray
    have k1 := each_vals (bs := []) (vs := []) h2
    have hlen2 : (((xs.zip ps).mergeSort (dataLe false Prod.snd)).map Prod.fst).length ≤ sizeLine := by
      rw [List.length_map, List.length_mergeSort, hb]; exact hz
    exact ⟨.ref _, upd H (s.heap.objs.size + 1) (.lst (((xs.zip ps).mergeSort (dataLe false Prod.snd)).map Prod.fst)), I.laid (t' := s.toks) (fun _ _ => PyProof.Rows.sortedAll_old) (Nat.le_succ _) ⟨hlen2, out, ep, k1, he'⟩, rfl, q _ (I.hok.fresh (Nat.le_succ _))⟩
/-- sorted(x), data of one kind -/
def leD : D → D → Bool := dataLe false D.py
structure SortsD (ds : List D) : Prop where
  dat : ∃ n, n ≤ 60 ∧ ∀ d ∈ ds, Dat n d
  alike : AllAlike (ds.map D.py)
  ok : Sortable (ds.map D.py)
def dSortD (ds : List D) (C : Cells) (P : DK) : Prop := match ds with
  | [x] => match itsOf x C with
    | some xs => SortsD xs ∧ seqOf x C = some xs ∧ P (.lst (xs.mergeSort leD)) C
    | none => False
  | _ => False
section
variable {K : PySem.W.Frag}
theorem pys_map : ∀ ds : List D, pys ds = ds.map D.py
  | [] => by simp [pys]
  | d :: r => by simp [pys, pys_map r]
theorem RepL.of_zip {F : Hp} : ∀ {L : List (V × D)}, (∀ p ∈ L, Rep K F p.1 p.2) → RepL K F (L.map Prod.fst) (L.map Prod.snd)
  | [], _ => .nil
  | p :: r, h => .cons (h p List.mem_cons_self) (RepL.of_zip fun q hq => h q (List.mem_cons_of_mem _ hq))
theorem RepL.zip_mem {F : Hp} : ∀ {xs : List V} {ds : List D}, RepL K F xs ds → ∀ p ∈ xs.zip ds, Rep K F p.1 p.2
  | _, _, .nil, p, hp => by simp at hp
  | _, _, .cons h r, p, hp => by
    simp only [List.zip_cons_cons, List.mem_cons] at hp
    rcases hp with rfl | hp
    · exact h
    · exact RepL.zip_mem r p hp
theorem RepL.sort {F : Hp} {xs : List V} {ds : List D} (r : RepL K F xs ds) : RepL K F (((xs.zip (pys ds)).mergeSort (dataLe false Prod.snd)).map Prod.fst) (ds.mergeSort leD) := by
  have hl := r.length
  have e1 : xs.zip (pys ds) = (xs.zip ds).map (fun p => (p.1, p.2.py)) := by rw [pys_map, List.zip_map_right]; congr
  have e2 : (((xs.zip ds).map (fun p => (p.1, p.2.py))).mergeSort (dataLe false Prod.snd)) = ((xs.zip ds).mergeSort (fun p q => leD p.2 q.2)).map (fun p => (p.1, p.2.py)) :=
    (List.map_mergeSort (r := fun p q : V × D => leD p.2 q.2) (s := dataLe false Prod.snd) (f := fun p : V × D => (p.1, p.2.py)) (fun a _ b _ => rfl)).symm
  have e3 : ds.mergeSort leD = ((xs.zip ds).mergeSort (fun p q => leD p.2 q.2)).map Prod.snd := by
    have e4 : ds = (xs.zip ds).map Prod.snd := (List.map_snd_zip (by omega)).symm
    conv => lhs; rw [e4]
    exact (List.map_mergeSort (r := fun p q : V × D => leD p.2 q.2) (s := leD) (f := Prod.snd) (fun a _ b _ => rfl)).symm
  rw [e1, e2, e3, List.map_map]
  exact RepL.of_zip (L := (xs.zip ds).mergeSort (fun p q => leD p.2 q.2)) fun p hp => r.zip_mem p (List.mem_mergeSort.mp hp)
theorem s_sortD : SimA K (rSortedD K) dSortD := fun F C H xs ds P Q hs r w k => by
  revert w
  unfold dSortD
  split
  · rename_i x
    split
    · rename_i ys hy
      rintro ⟨⟨⟨n, hn, hd⟩, hal, hok⟩, hsq, w⟩
      obtain ⟨v, rfl, r1⟩ := r.one
      obtain ⟨a, us, rfl, h2, h3⟩ := seq_of hs r1 hsq
      refine ⟨a, us, pys ys, rfl, h2, dpAll_of (n := n) (fun d hd' v r => rep_dp hs.ex (hd d hd') v r) h3, by rw [pys_map]; exact hal, by rw [pys_map]; exact hok, fun d hd' => ?_, fun p hp => ?_⟩
      · rw [pys_map, List.mem_map] at hd'
        obtain ⟨e, he, rfl⟩ := hd'
        have := (dat_lay (hd e he)).2
        omega
      · obtain ⟨e4, h4, r4⟩ := hs.newL h3.sort hp
        exact k _ _ _ _ C e4 h4 r4 w
    · exact fun z => z.elim
  · exact fun z => z.elim
end

/-! ### pairs of whole numbers -/
def pairD (p : Int × Int) : D := .tup [.int p.1, .int p.2]
def lePair (p q : Int × Int) : Bool := decide (p.1 < q.1 ∨ (p.1 = q.1 ∧ p.2 ≤ q.2))
theorem leD_pair (p q : Int × Int) : leD (pairD p) (pairD q) = lePair p q := by
  have := congrFun (congrFun (dataLe_ii (fun p : Int × Int => p.1) (fun p => p.2)) p) q
  exact this
theorem sorts_pairs (ps : List (Int × Int)) : SortsD (ps.map pairD) := by
  refine ⟨⟨1, by decide, fun d hd => ?_⟩, ?_, ?_⟩
  · obtain ⟨p, _, rfl⟩ := List.mem_map.mp hd
    exact .tup fun e he => by
      simp only [List.mem_cons, List.not_mem_nil, or_false] at he
      rcases he with rfl | rfl <;> exact .int _
  · rw [List.map_map]
    exact AllAlike.of fun b b' => by simp [pairD, D.py, pys, alike, alikeAll]
  · rw [List.map_map]
    exact Sortable.tuples fun b => ⟨.int b.1, [.int b.2], by simp [pairD, D.py, pys]⟩
theorem sort_pairs (ps : List (Int × Int)) : (ps.map pairD).mergeSort leD = (ps.mergeSort lePair).map pairD :=
  (List.map_mergeSort (fun a _ b _ => (leD_pair a b).symm)).symm
theorem lePair_sorted (ps : List (Int × Int)) : (ps.mergeSort lePair).Pairwise fun p q => p.1 < q.1 ∨ (p.1 = q.1 ∧ p.2 ≤ q.2) := by
  have h := List.pairwise_mergeSort (le := lePair) (by intro a b c; simp [lePair]; omega) (by intro a b; simp [lePair]; omega) ps
  exact h.imp (by intro a b; simp [lePair])
end DD

set_option Elab.async false
set_option linter.all false
set_option maxRecDepth 100000
set_option maxHeartbeats 4000000
/-! Tools for readings over data: loops, places. -/
namespace DD
open PySem L2

theorem for_rng {lo : Int} {n i : Nat} {b : DS} {E : DEnds} {ρ : DEnv} {C : Cells} (Inv : Nat → DEnv → Cells → Prop) (h0 : Inv 0 ρ C)
    (hs : ∀ (k : Nat) ρ' C', k < n → Inv k ρ' C' → b { nx := Inv (k + 1), ct := Inv (k + 1), bk := E.nx, rt := E.rt, ex := E.ex } (ρ'.set i (some (.int (lo + (k : Int))))) C')
    (hd : ∀ ρ' C', Inv n ρ' C' → E.nx ρ' C') : ForG ⟨rngD lo n, frozen⟩ (.name i) b E ρ C := by
  refine ⟨Inv, h0, fun _ _ _ _ => trivial, fun k d ρ' C' hk hI => ?_, fun ρ' C' hI => hd ρ' C' (by have e := rngD_len lo n; simp only [e] at hI; exact hI)⟩
  obtain ⟨hk2, rfl⟩ := rngD_get hk
  simp only [Tgt.dg]
  exact hs k ρ' C' hk2 hI
theorem for_items {ds : List D} {t : Tgt} {b : DS} {E : DEnds} {ρ : DEnv} {C : Cells} (Inv : Nat → DEnv → Cells → Prop) (h0 : Inv 0 ρ C)
    (hs : ∀ (k : Nat) d ρ' C', ds[k]? = some d → Inv k ρ' C' → match t.dg d ρ' with
      | some ρ2 => b { nx := Inv (k + 1), ct := Inv (k + 1), bk := E.nx, rt := E.rt, ex := E.ex } ρ2 C'
      | none => False)
    (hd : ∀ ρ' C', Inv ds.length ρ' C' → E.nx ρ' C') : ForG ⟨ds, frozen⟩ t b E ρ C := ⟨Inv, h0, fun _ _ _ _ => trivial, hs, hd⟩
theorem for_map {α : Type} {L : List α} {enc : α → D} {t : Tgt} {b : DS} {E : DEnds} {ρ : DEnv} {C : Cells} (Inv : Nat → DEnv → Cells → Prop) (h0 : Inv 0 ρ C)
    (hs : ∀ (k : Nat) a ρ' C', L[k]? = some a → Inv k ρ' C' → match t.dg (enc a) ρ' with
      | some ρ2 => b { nx := Inv (k + 1), ct := Inv (k + 1), bk := E.nx, rt := E.rt, ex := E.ex } ρ2 C'
      | none => False)
    (hd : ∀ ρ' C', Inv L.length ρ' C' → E.nx ρ' C') : ForG ⟨L.map enc, frozen⟩ t b E ρ C := by
  refine for_items Inv h0 (fun k d ρ' C' hk hI => ?_) (fun ρ' C' hI => hd ρ' C' (by rw [List.length_map] at hI; exact hI))
  rw [List.getElem?_map] at hk
  cases hL : L[k]? with
  | none => rw [hL] at hk; cases hk
  | some a =>
    rw [hL] at hk
    simp only [Option.map_some, Option.some.injEq] at hk
    subst hk
    exact hs k a ρ' C' hL hI
/-- a loop over a list that is a cell and stays as it is -/
theorem for_cell {α : Type} {L : List α} {enc : α → D} {a : Addr} {t : Tgt} {b : DS} {E : DEnds} {ρ : DEnv} {C : Cells} (Inv : Nat → DEnv → Cells → Prop) (h0 : Inv 0 ρ C) (hst : ∀ k ρ' C', Inv k ρ' C' → C' a = some (.lst (L.map enc)))
    (hs : ∀ (k : Nat) x ρ' C', L[k]? = some x → Inv k ρ' C' → match t.dg (enc x) ρ' with
      | some ρ2 => b { nx := Inv (k + 1), ct := Inv (k + 1), bk := E.nx, rt := E.rt, ex := E.ex } ρ2 C'
      | none => False)
    (hd : ∀ ρ' C', Inv L.length ρ' C' → E.nx ρ' C') : ForG ⟨L.map enc, fun C' => C' a = some (.lst (L.map enc))⟩ t b E ρ C := by
  refine ⟨Inv, h0, hst, (fun k d ρ' C' hk hI => ?_), (fun ρ' C' hI => hd ρ' C' (by simp only [List.length_map] at hI; exact hI))⟩
  simp only [List.getElem?_map] at hk
  cases hL : L[k]? with
  | none => rw [hL] at hk; cases hk
  | some a =>
    rw [hL] at hk
    simp only [Option.map_some, Option.some.injEq] at hk
    subst hk
    exact hs k a ρ' C' hL hI
/-- a comprehension over a range that changes nothing -/
theorem lc_rng {lo : Int} {n i : Nat} {wt : DT} {we : DE} {vs : List Nat} {C1 : Cells} {ρ : DEnv} {P : DK} (f : Int → Option D) (hn : n ≤ 100000)
    (h : ∀ (k : Nat) C' (Q : Option D → Cells → Prop), k < n → Sub C1 C' → Q (f (lo + (k : Int))) C' →
      wt ((dwipe ρ vs).set i (some (.int (lo + (k : Int))))) C' (fun b C2 => if b = true then we ((dwipe ρ vs).set i (some (.int (lo + (k : Int))))) C2 (fun y C3 => Q (some y) C3) noX else Q none C2) noX)
    (hP : P (.lst ((List.range n).filterMap fun (k : Nat) => f (lo + (k : Int)))) C1) : LcG ⟨rngD lo n, frozen⟩ (.name i) wt we vs ρ C1 P := by
  refine lc_pure (fun d => match d with | .int z => f z | _ => none) (fun _ _ => trivial) (by simpa [rngD_len] using hn) (fun k d C' Q hk hs hq => ?_) ?_
  · obtain ⟨hk2, rfl⟩ := rngD_get hk
    simp only [Tgt.dg]
    exact h k C' Q hk2 hs hq
  · have e : (rngD lo n).filterMap (fun d => match d with | .int z => f z | _ => none) = (List.range n).filterMap fun (k : Nat) => f (lo + (k : Int)) := by
      unfold rngD
      rw [List.filterMap_map]
      rfl
    show P (.lst ((rngD lo n).filterMap (fun d => match d with | .int z => f z | _ => none))) C1
    rw [e]
    exact hP
theorem lc_map {α : Type} {L : List α} {enc : α → D} {st : Cells → Prop} {t : Tgt} {wt : DT} {we : DE} {vs : List Nat} {C1 : Cells} {ρ : DEnv} {P : DK} (f : α → Option D) (hf : ∀ C', Sub C1 C' → st C') (hn : L.length ≤ 100000)
    (h : ∀ (k : Nat) a C' (Q : Option D → Cells → Prop), L[k]? = some a → Sub C1 C' → Q (f a) C' → match t.dg (enc a) (dwipe ρ vs) with
      | some ρ2 => wt ρ2 C' (fun b C2 => if b = true then we ρ2 C2 (fun y C3 => Q (some y) C3) noX else Q none C2) noX
      | none => False)
    (hP : P (.lst (L.filterMap f)) C1) : LcG ⟨L.map enc, st⟩ t wt we vs ρ C1 P := by
  intro Dl hD
  refine ⟨fun i C' => C' = cput C1 Dl (.lst ((L.take i).filterMap f)), by simp, fun i C' e => hf C' (by rw [e]; exact Sub.new hD), fun i d C' hd e => ?_, fun C' e => ?_⟩
  · simp only [List.getElem?_map] at hd
    cases hL : L[i]? with
    | none => rw [hL] at hd; cases hd
    | some a =>
      rw [hL] at hd
      simp only [Option.map_some, Option.some.injEq] at hd
      subst hd
      have ht : L.take (i + 1) = L.take i ++ [a] := by rw [List.take_succ, hL]; rfl
      refine h i a C' (fun o C3 => match o with
        | some y => match C3 Dl with
          | some (.lst acc) => acc.length < 100000 ∧ cput C3 Dl (.lst (acc ++ [y])) = cput C1 Dl (.lst ((L.take (i + 1)).filterMap f))
          | _ => False
        | none => C3 = cput C1 Dl (.lst ((L.take (i + 1)).filterMap f))) hL (by rw [e]; exact Sub.new hD) ?_
      split
      · rename_i y hy
        rw [e, cput_same]
        refine ⟨?_, ?_⟩
        · have := List.length_filterMap_le f (L.take i)
          have hlt : i < L.length := (List.getElem?_eq_some_iff.mp hL).1
          rw [List.length_take] at this
          omega
        · rw [cput_cput, ht, List.filterMap_append]
          simp [hy]
      · rename_i hy
        rw [e, ht, List.filterMap_append]
        simp [hy]
  · simp only [List.length_map, List.take_length] at e
    rw [e, cput_same]
    exact ⟨C1, Sub.new hD, hD, hP⟩
theorem atI_nat' {α : Type} (xs : List α) (j : Nat) : atI xs (j : Int) = xs[j]? := by
  unfold atI ixN
  rw [if_pos (by omega)]
  by_cases h : (j : Int) < xs.length
  · rw [if_pos h]
    simp
  · rw [if_neg h]
    rw [List.getElem?_eq_none (by omega)]
    rfl
theorem atI_at {α : Type} {xs : List α} {i : Int} (h0 : 0 ≤ i) : atI xs i = xs[i.toNat]? := by
  obtain ⟨j, rfl⟩ := Int.eq_ofNat_of_zero_le h0
  rw [atI_nat']
  simp
theorem atI_zero {α : Type} (x : α) (xs : List α) : atI (x :: xs) 0 = some x := by
  rw [atI_at (by omega)]; rfl
theorem ixN_at {n : Nat} {i : Int} (h0 : 0 ≤ i) (h1 : i < n) : ixN n i = some i.toNat := by
  unfold ixN
  rw [if_pos h0, if_pos h1]
theorem ixN_nat {n j : Nat} (h1 : j < n) : ixN n (j : Int) = some j := by
  rw [ixN_at (by omega) (by omega)]; simp
theorem sub_put {C : Cells} {p : Addr} {c : Cell} (h : C p = none) : Sub C (cput C p c) := Sub.new h
theorem seq_hide {a b : DS} {E : DEnds} {ρ : DEnv} {C : Cells} (h : ∀ E', { E with nx := fun ρ' C' => b E ρ' C' } = E' → a E' ρ C) : wSeqL a b E ρ C := h _ rfl
theorem while_hide {t : DT} {b : DS} {E : DEnds} {ρ : DEnv} {C : Cells} (h : ∀ b', b = b' → wWhile t b' E ρ C) : wWhile t b E ρ C := h _ rfl
section
variable {C : Cells} {a Cl : Addr} {ds : List D} {fs : List (String × D)} {f : String} {i : Int}
theorem seqOf_lst : seqOf (.lst ds) C = some ds := rfl
theorem seqOf_ptr : seqOf (.ptr a) C = match C a with | some (.lst ds) => some ds | _ => none := rfl
theorem itsOf_lst : itsOf (.lst ds) C = some ds := rfl
theorem itsOf_tup : itsOf (.tup ds) C = some ds := rfl
theorem itsOf_ptr : itsOf (.ptr a) C = match C a with | some (.lst ds) => some ds | _ => none := rfl
theorem lenOf_lst : lenOf (.lst ds) C = some ds.length := rfl
theorem lenOf_tup : lenOf (.tup ds) C = some ds.length := rfl
theorem lenOf_ptr : lenOf (.ptr a) C = match C a with | some (.lst ds) => some ds.length | _ => none := by
  show Option.map List.length (itsOf (.ptr a) C) = _
  rw [itsOf_ptr]
  split <;> simp_all
theorem lenOf_str {z : Str} (h : z.length ≤ 100000) : lenOf (.str z) C = some z.length := by simp only [lenOf, if_pos h]
theorem itemOf_lst : itemOf (.lst ds) C i = atI ds i := rfl
theorem itemOf_tup : itemOf (.tup ds) C i = atI ds i := rfl
theorem itemOf_ptr : itemOf (.ptr a) C i = match C a with | some (.lst ds) => atI ds i | _ => none := by
  show (itsOf (.ptr a) C).bind (fun ds => atI ds i) = _
  rw [itsOf_ptr]
  split <;> simp_all
theorem itemOf_str {z : Str} (h : z.length ≤ 100000) : itemOf (.str z) C i = (atI z.cps.toList i).map fun c => .str ⟨#[c]⟩ := by simp only [itemOf, if_pos h]
theorem isSeq_ptr : isSeq (.ptr a) C = match C a with | some (.lst _) => True | _ => False := by
  show ((seqOf (.ptr a) C).isSome = true) = _
  rw [seqOf_ptr]
  split <;> simp_all
theorem isSeq_lst : isSeq (.lst ds) C := rfl
theorem fldOf_ins : fldOf Cl f (.ins Cl fs) C = fs.lookup f := by simp only [fldOf, if_true]
theorem fldOf_ptr : fldOf Cl f (.ptr a) C = match C a with | some (.ins c fs) => if c = Cl then fs.lookup f else none | _ => none := rfl
theorem isIns_ins : isIns Cl f (.ins Cl fs) C = (fs.lookup f = none) := by simp only [isIns, true_and]
theorem isIns_ptr : isIns Cl f (.ptr a) C = match C a with | some (.ins c fs) => c = Cl ∧ fs.lookup f = none | _ => False := rfl
theorem res_lst : D.res C (.lst ds) = .lst ds := rfl
theorem res_tup : D.res C (.tup ds) = .tup ds := rfl
theorem res_ptr : D.res C (.ptr a) = match C a with | some (.lst ds) => .lst ds | _ => .ptr a := rfl
end
/-- a product that is no wide one -/
theorem cmul_l {i j : Int} (h : -(2 ^ 64) < i) (h' : i < 2 ^ 64) : CMul i j := .inl ⟨h, h'⟩
theorem cmul_r {i j : Int} (h : -(2 ^ 64) < j) (h' : j < 2 ^ 64) : CMul i j := .inr ⟨h, h'⟩
theorem mod_lo (a : Int) {m : Int} (h : 0 < m) : 0 ≤ a % m := Int.emod_nonneg _ (by omega)
theorem mod_hi (a : Int) {m : Int} (h : 0 < m) : a % m < m := Int.emod_lt_of_pos _ h
end DD

set_option Elab.async false
set_option linter.all false
set_option maxRecDepth 100000
set_option maxHeartbeats 4000000
/-! Tools for readings over data: cells taken away, == of lists, comprehensions over places. -/
namespace DD
open PySem L2
/-- without the cell at p -/
def crem (C : Cells) (p : Addr) : Cells := fun a => if a = p then none else C a
theorem crem_sub (C : Cells) (p : Addr) : Sub (crem C p) C := fun a c h => by
  unfold crem at h
  split at h
  · cases h
  · exact h
theorem crem_same {C : Cells} {p : Addr} : crem C p p = none := by unfold crem; rw [if_pos rfl]
theorem crem_ne {C : Cells} {p a : Addr} (h : a ≠ p) : crem C p a = C a := by unfold crem; rw [if_neg h]
theorem eqv_lists {α : Type} {enc : α → D} [DecidableEq α] (h : ∀ a b, (enc a).eqb (enc b) = decide (a = b)) : ∀ xs ys : List α, PyData.eqvAll (pys (xs.map enc)) (pys (ys.map enc)) = decide (xs = ys)
  | [], [] => by simp [pys, PyData.eqvAll]
  | [], y :: ys => by simp [pys, PyData.eqvAll]
  | x :: xs, [] => by simp [pys, PyData.eqvAll]
  | x :: xs, y :: ys => by
    have e := h x y
    unfold D.eqb at e
    simp only [List.map_cons, pys, PyData.eqvAll, e, eqv_lists h xs ys, List.cons.injEq]
    by_cases h1 : x = y <;> by_cases h2 : xs = ys <;> simp [h1, h2]
theorem eqb_lst {α : Type} {enc : α → D} [DecidableEq α] (h : ∀ a b, (enc a).eqb (enc b) = decide (a = b)) (xs ys : List α) : (D.lst (xs.map enc)).eqb (.lst (ys.map enc)) = decide (xs = ys) := by
  show PyData.eqv (D.lst (xs.map enc)).py (D.lst (ys.map enc)).py = _
  simp only [D.py, PyData.eqv]
  exact eqv_lists h xs ys
theorem eqb_tup {α : Type} {enc : α → D} [DecidableEq α] (h : ∀ a b, (enc a).eqb (enc b) = decide (a = b)) (xs ys : List α) : (D.tup (xs.map enc)).eqb (.tup (ys.map enc)) = decide (xs = ys) := by
  show PyData.eqv (D.tup (xs.map enc)).py (D.tup (ys.map enc)).py = _
  simp only [D.py, PyData.eqv]
  exact eqv_lists h xs ys
theorem eqb_int (a b : Int) : (D.int a).eqb (.int b) = decide (a = b) := by simp [D.eqb, D.py, PyData.eqv]; rfl
theorem eqb_str (a b : Str) : (D.str a).eqb (.str b) = decide (a = b) := by simp [D.eqb, D.py, PyData.eqv]; rfl
theorem eqb_ints (xs ys : List Int) : (D.lst (xs.map D.int)).eqb (.lst (ys.map D.int)) = decide (xs = ys) := eqb_lst eqb_int xs ys
theorem eqb_pair (p q : Int × Int) : (pairD p).eqb (pairD q) = decide (p = q) := by
  have e : (pairD p).eqb (pairD q) = decide ([p.1, p.2] = [q.1, q.2]) := eqb_tup eqb_int [p.1, p.2] [q.1, q.2]
  rw [e]
  cases p; cases q
  simp
theorem eqb_lst_nil {α : Type} (enc : α → D) : ∀ xs : List α, (D.lst (xs.map enc)).eqb (.lst []) = xs.isEmpty
  | [] => by simp [D.eqb, D.py, pys, PyData.eqv, PyData.eqvAll]
  | x :: xs => by simp [D.eqb, D.py, pys, PyData.eqv, PyData.eqvAll]
theorem dat_lst {α : Type} {enc : α → D} {n : Nat} (h : ∀ a, Dat n (enc a)) (xs : List α) : Dat (n + 1) (.lst (xs.map enc)) := .lst fun d hd => by
  obtain ⟨a, _, rfl⟩ := List.mem_map.mp hd
  exact h a
theorem dat_tup {α : Type} {enc : α → D} {n : Nat} (h : ∀ a, Dat n (enc a)) (xs : List α) : Dat (n + 1) (.tup (xs.map enc)) := .tup fun d hd => by
  obtain ⟨a, _, rfl⟩ := List.mem_map.mp hd
  exact h a
theorem dat_ints {n : Nat} (xs : List Int) : Dat (n + 1) (.lst (xs.map D.int)) := dat_lst (fun _ => .int _) xs
theorem dat_nil {n : Nat} : Dat (n + 1) (.lst []) := .lst fun d hd => by cases hd
theorem dat_pair {n : Nat} (p : Int × Int) : Dat (n + 1) (pairD p) := dat_tup (enc := D.int) (fun _ => .int _) [p.1, p.2]
/-- == of two lists of ints -/
theorem range_filterMap {α β : Type} (L : List α) (g : α → Option β) : (List.range L.length).filterMap (fun k => (L[k]?).bind g) = L.filterMap g := by
  suffices h : ∀ n, n ≤ L.length → (List.range n).filterMap (fun k => (L[k]?).bind g) = (L.take n).filterMap g by
    rw [h L.length (Nat.le_refl _), List.take_length]
  intro n
  induction n with
  | zero => intro _; rfl
  | succ n ih =>
    intro hn
    rw [List.range_succ, List.filterMap_append, ih (by omega), List.take_succ, List.filterMap_append]
    have e : L[n]? = some L[n] := List.getElem?_eq_getElem (by omega)
    simp only [e, List.filterMap_cons, List.filterMap_nil, Option.bind_some, Option.toList_some]
theorem take_snoc {α : Type} {L : List α} {k : Nat} {e : α} (h : L[k]? = some e) : L.take (k + 1) = L.take k ++ [e] := by
  rw [List.take_succ, h]; rfl
theorem filterMap_map {α β γ : Type} (L : List α) (g : α → Option β) (f : β → γ) : L.filterMap (fun a => (g a).map f) = (L.filterMap g).map f := by
  rw [List.map_filterMap]
theorem ints_ptr {C : Cells} {a : Addr} {ns : List Int} (h : C a = some (.lst (ns.map D.int))) : IntsOf (.ptr a) C ns := by simp only [IntsOf, seqOf, h]
theorem ints_lst {C : Cells} {ns : List Int} : IntsOf (.lst (ns.map D.int)) C ns := rfl
/-- the first of a sorted list -/
theorem sortI_head {l : List Int} (h : l ≠ []) : ∃ r, sortI l = minI l :: r := by
  obtain ⟨h1, h2⟩ := minI_spec h
  have hp := sortI_perm l
  have hs := sortI_pair l
  cases e : sortI l with
  | nil =>
    rw [e] at hp
    exact absurd hp.symm.eq_nil h
  | cons x r =>
    refine ⟨r, ?_⟩
    rw [e] at hp hs
    have hx : x ∈ l := hp.mem_iff.mp List.mem_cons_self
    have hm : minI l ∈ x :: r := hp.mem_iff.mpr h1
    have hle := h2 x hx
    rcases List.mem_cons.mp hm with q | q
    · rw [q]
    · have := (List.pairwise_cons.mp hs).1 _ q
      rw [show x = minI l by omega]
end DD

set_option Elab.async false
set_option linter.all false
set_option maxRecDepth 100000
set_option maxHeartbeats 4000000
/-! More: range with a step, the last of a list, cuts. -/
namespace DD
open PySem L2

def rngC (lo c : Int) (n : Nat) : List D := (List.range n).map fun (k : Nat) => D.int (lo + (k : Int) * c)
theorem rngC_len (lo c : Int) (n : Nat) : (rngC lo c n).length = n := by simp [rngC]
theorem rngC_get {lo c : Int} {n i : Nat} {d : D} (h : (rngC lo c n)[i]? = some d) : i < n ∧ d = .int (lo + (i : Int) * c) := by
  unfold rngC at h
  rw [List.getElem?_map] at h
  rcases Nat.lt_or_ge i n with z | z
  · rw [List.getElem?_range z] at h
    exact ⟨z, (Option.some.inj h).symm⟩
  · rw [List.getElem?_eq_none (by simpa using z)] at h; cases h
def wRng3 (a : DA) (ρ : DEnv) (C : Cells) (P : DIt → Cells → Prop) (PX : DX) : Prop := a ρ C (fun ds C1 => match ds with
  | [.int i, .int j, .int c] => ∃ n, RgC i j c n ∧ P ⟨rngC i c n, frozen⟩ C1
  | _ => False) PX
theorem itr_rngC {K : PySem.W.Frag} {F : Hp} {lo c : Int} {n : Nat} : ItR K F (Itc lo c n) ⟨rngC lo c n, frozen⟩ := fun F' H C e hs _ => by
  refine ⟨fun i d hd => ?_, by show n ≤ (rngC lo c n).length; rw [rngC_len]; exact Nat.le_refl _⟩
  obtain ⟨hi, rfl⟩ := rngC_get hd
  refine ⟨hi, fun x H' y => ?_⟩
  obtain ⟨rfl, rfl⟩ := y
  exact ⟨F', Ex.refl _, hs, .int _⟩
theorem di_rng3 {X : Cx} {W : WX} {tg : Expr} {wr : DA} {pos : Pos} {a b c : Expr} {p : Pos} (hg : Gl X "range") (hm : X.mg "range" = none) (ha : PA X [a, b, c] (tA X.K W wr))
    (hs : starEach [a, b, c] X.env = (false, eval a X.env) :: starEach [b, c] X.env := by rfl) (hpl : (backTo pos (starEach [b, c] X.env)).any (·.1) = false := by rfl) :
    PI X tg (.Call (.Name "range" p) [a, b, c] [] pos) (tI X.K W (wRng3 wr)) :=
  PI.imp (pi_range3 hg hm ha hs hpl) fun σ H R ⟨F, C, ρ, P, PX, hs, en, xr, w, k⟩ => ⟨F, C, ρ, _, PX, hs, en, xr, w, fun v F1 H1 d C1 e1 h1 r q => by
    revert q
    dsimp only
    split
    · rintro ⟨n, hn, q⟩
      rename_i i j c
      cases r with
      | cons r1 r2 =>
        cases r1
        cases r2 with
        | cons r2 r3 =>
          cases r2
          cases r3 with
          | cons r3 r4 =>
            cases r3; cases r4
            exact ⟨i, j, c, n, rfl, hn, k _ F1 H1 _ C1 e1 h1 itr_rngC q⟩
    · exact fun z => z.elim⟩
theorem for_rngC {lo c : Int} {n i : Nat} {b : DS} {E : DEnds} {ρ : DEnv} {C : Cells} (Inv : Nat → DEnv → Cells → Prop) (h0 : Inv 0 ρ C)
    (hs : ∀ (k : Nat) ρ' C', k < n → Inv k ρ' C' → b { nx := Inv (k + 1), ct := Inv (k + 1), bk := E.nx, rt := E.rt, ex := E.ex } (ρ'.set i (some (.int (lo + (k : Int) * c)))) C')
    (hd : ∀ ρ' C', Inv n ρ' C' → E.nx ρ' C') : ForG ⟨rngC lo c n, frozen⟩ (.name i) b E ρ C := by
  refine ⟨Inv, h0, fun _ _ _ _ => trivial, fun k d ρ' C' hk hI => ?_, fun ρ' C' hI => hd ρ' C' (by have e := rngC_len lo c n; simp only [e] at hI; exact hI)⟩
  obtain ⟨hk2, rfl⟩ := rngC_get hk
  simp only [Tgt.dg]
  exact hs k ρ' C' hk2 hI
theorem rgC_two {n : Nat} (h : n ≤ 1000000) : RgC 0 (n : Int) 2 ((n + 1) / 2) := by
  have e : Builtin.Range.rangeSize 0 (n : Int) 2 = (((n + 1) / 2 : Nat) : Int) := by
    unfold Builtin.Range.rangeSize
    split <;> omega
  refine ⟨by decide, by decide, ?_, e⟩
  unfold Builtin.Range.small
  rw [e]
  have e1 : ((2 : Int) > 0) = True := by simp
  have e2 : Builtin.Range.rangeFitsLong 2 = true := by decide
  have e3 : Builtin.Range.rangeFitsLong 0 = true := by decide
  have e4 : ∀ i : Int, 0 ≤ i → i ≤ 3000000 → Builtin.Range.rangeFitsLong i = true := fun i h1 h2 => by
    simp only [Builtin.Range.rangeFitsLong, Bool.and_eq_true, decide_eq_true_eq]; omega
  rw [e2, e3, e4 _ (by omega) (by omega)]
  simp only [Bool.and_eq_true, Bool.or_eq_true, decide_eq_true_eq, beq_iff_eq, e1, if_true, true_and]
  exact ⟨e4 _ (by omega) (by omega), .inr (e4 _ (by omega) (by omega))⟩

theorem atI_getLast {α : Type} (xs : List α) : atI xs (-1) = xs.getLast? := by
  unfold atI ixN
  rcases List.eq_nil_or_concat xs with h | ⟨r, x, h⟩
  · subst h; rfl
  · subst h
    simp only [List.concat_eq_append, List.length_append, List.length_singleton]
    rw [if_neg (by decide), if_pos (by omega)]
    have : (-1 + ((r.length + 1 : Nat) : Int)).toNat = r.length := by omega
    simp only [Option.bind_some, this]
    simp
theorem atI_snoc {α : Type} (xs : List α) (x : α) : atI (xs ++ [x]) (-1) = some x := by rw [atI_getLast, List.getLast?_concat]
theorem atI_succ {α : Type} (xs : List α) (j : Nat) : atI xs ((j : Int) + 1) = xs[j + 1]? := atI_nat' xs (j + 1)
theorem cut_init (xs : List D) : cutD xs none (some (-1)) = xs.dropLast := by
  unfold cutD
  simp only [HT.sIx, List.drop_zero, Nat.sub_zero]
  rw [if_pos (by decide), List.dropLast_eq_take]
  congr 1
  omega
theorem cut_from (xs : List D) (k : Nat) : cutD xs (some (k : Int)) none = xs.drop k := by
  unfold cutD
  simp only [HT.sIx_nat, HT.sIx_none]
  rw [List.take_of_length_le (by rw [List.length_drop]; omega)]
  rcases Nat.le_total k xs.length with h | h
  · rw [Nat.min_eq_left h]
  · rw [Nat.min_eq_right h, List.drop_eq_nil_of_le (Nat.le_refl _), List.drop_eq_nil_of_le h]
theorem cut_to (xs : List D) (k : Nat) : cutD xs none (some (k : Int)) = xs.take k := by
  unfold cutD
  simp only [HT.sIx_nat, HT.sIx_none, List.drop_zero, Nat.sub_zero]
  rcases Nat.le_total k xs.length with h | h
  · rw [Nat.min_eq_left h]
  · rw [Nat.min_eq_right h, List.take_of_length_le (Nat.le_refl _), List.take_of_length_le h]
end DD

set_option Elab.async false
set_option linter.all false
set_option maxRecDepth 100000
set_option maxHeartbeats 4000000
/-! More: a module's tuple, x in xs of data, tuples put together. -/
namespace DD
open PySem L2 PySem.Spec PyProof.Rows

/-! ### a tuple of the module -/
theorem rep_tupK {K : PySem.W.Frag} {a : Addr} {od : Option Addr} {its : Array Value} {n : Nat} {sl : Array (Option Value)} {vs : List V} {ds : List D} (h : K.lookup a = some ⟨.type "tuple", od, .seq its n, sl⟩) (hs : its.size ≤ sizeLine) (r : Vals vs its.toList)
    (q : ∀ F, RepL K F vs ds) : ∀ F, Rep K F (.ref a) (.ktup ds) := fun F => .ktup (.inr ⟨_, its, n, h, rfl, rfl, hs, r⟩) (q F)
theorem d_kdat {X : Cx} {W : WX} {x : Str} {d : D} {pos : Pos} (h : ∃ a, X.mg x = some (.ref a) ∧ ∀ F, Rep X.K F (.ref a) d) (hg : Gl X x := by rfl) (hd : (x == ("__debug__" : Str)) = false := by decide) : PE X (.Name x pos) (tE X.K W (wC d)) := by
  obtain ⟨a, hm, hr⟩ := h
  exact d_glob hg hm (v := .ref a) rfl hr hd

/-! ### x in xs, data of any depth -/
def rInQ (K : PySem.W.Frag) (neg : Bool) : R2 := fun x y H Q => ∃ d e ds, (e = .list ds ∨ e = .tuple ds) ∧ Dp K H x d ∧ Dp K H y e ∧ SeqAt.shaped d = true ∧ SeqAt.shaped e = true ∧ Q (.bl (neg ^^ ds.any fun z => PyData.eqv z d)) H
theorem room_in_tuple {A : Around} {xs : List PyData} {d : PyData} (hd : SeqAt.shaped d = true) (hu : A.units + 65 < cLine) : A.units + 1 + min (PyData.depthAll xs) d.depth < cLine := by
  unfold SeqAt.shaped at hd
  simp only [Bool.and_eq_true, decide_eq_true_eq] at hd
  have : min (PyData.depthAll xs) d.depth ≤ d.depth := Nat.min_le_right _ _
  omega
theorem op_inQ {X : Cx} (hu : X.A.units + 65 < cLine) : OpR X (compareOp .In) (rInQ X.K false) := by
  intro pins s σ H x y v u Q I rx ry h
  obtain ⟨d, e, ds, he, hd, hq, sd, se, q⟩ := h
  obtain ⟨as, r1⟩ := Dp.reads I d x v hd rx
  obtain ⟨bs, r2⟩ := Dp.reads I e y u hq ry
  rw [Bool.false_xor] at q
  rcases he with rfl | rfl
  · exact SeqAt.in_list_reads r2 r1 (SeqAt.canLay_of_shaped se) (SeqAt.canLay_of_shaped sd) (room_in_tuple sd hu) ⟨.bl _, H, I, rfl, q⟩
  · exact SeqAt.in_tuple_reads r2 r1 (SeqAt.canLay_of_shaped se) (SeqAt.canLay_of_shaped sd) (room_in_tuple sd hu) ⟨.bl _, H, I, rfl, q⟩
theorem op_notInQ {X : Cx} (hu : X.A.units + 65 < cLine) : OpR X (compareOp .NotIn) (rInQ X.K true) := by
  intro pins s σ H x y v u Q I rx ry h
  obtain ⟨d, e, ds, he, hd, hq, sd, se, q⟩ := h
  obtain ⟨as, r1⟩ := Dp.reads I d x v hd rx
  obtain ⟨bs, r2⟩ := Dp.reads I e y u hq ry
  rw [Bool.true_xor] at q
  rcases he with rfl | rfl
  · exact SeqAt.notIn_list_reads r2 r1 (SeqAt.canLay_of_shaped se) (SeqAt.canLay_of_shaped sd) (room_in_tuple sd hu) ⟨.bl _, H, I, rfl, q⟩
  · exact SeqAt.notIn_tuple_reads r2 r1 (SeqAt.canLay_of_shaped se) (SeqAt.canLay_of_shaped sd) (room_in_tuple sd hu) ⟨.bl _, H, I, rfl, q⟩
/-- the items of a list or a tuple that is data -/
def inItems : D → Option (List D)
  | .lst ds => some ds
  | .tup ds => some ds
  | .ktup ds => some ds
  | _ => none
def dInD (neg : Bool) (x : D) (y : D) (C : Cells) (P : DK) : Prop := match inItems (y.res C) with
  | some ds => ∃ n, n ≤ 60 ∧ Dat n (x.res C) ∧ Dat n (y.res C) ∧ P (.bl (neg ^^ ds.any fun z => z.eqb (x.res C))) C
  | none => False
theorem any_pys (d : PyData) : ∀ ds : List D, ((pys ds).any fun z => PyData.eqv z d) = ds.any fun z => PyData.eqv z.py d
  | [] => rfl
  | x :: r => by simp only [pys, List.any_cons, any_pys d r]
theorem s_inD {K : PySem.W.Frag} {neg : Bool} : SimR K (rInQ K neg) (dInD neg) := fun F C H x y dx dy P Q hs rx ry w k => by
  revert w
  unfold dInD
  split
  · rename_i ds hd
    rintro ⟨n, hn, h1, h2, w⟩
    have kk := k _ F H _ C (Ex.refl F) hs (.bl _) w
    have e : (fun z : D => z.eqb (dx.res C)) = fun z : D => PyData.eqv z.py (dx.res C).py := rfl
    rw [e, ← any_pys] at kk
    refine ⟨_, _, pys ds, ?_, res_dp hs rx h1, res_dp hs ry h2, dat_shaped h1 hn, dat_shaped h2 hn, kk⟩
    cases hy : dy.res C <;> rw [hy] at hd <;> cases hd
    · exact .inr (by rw [D.py])
    · exact .inl (by rw [D.py])
    · exact .inr (by rw [D.py])
  · exact fun z => z.elim

/-! ### tuples put together -/
def dCatT (x : D) (y : D) (C : Cells) (P : DK) : Prop := match x, y with
  | .tup xs, .tup ys => xs.length + ys.length ≤ 100000 ∧ P (.tup (xs ++ ys)) C
  | _, _ => False
theorem s_catT {K : PySem.W.Frag} : SimR K (rCatA K) dCatT := fun F C H x y dx dy P Q hs rx ry w k => by
  unfold dCatT at w
  split at w
  · rename_i xs ys
    cases rx with
    | tup h1 r1 =>
      cases ry with
      | tup h2 r2 =>
        rename_i a us b vs
        have e1 := r1.length
        have e2 := r2.length
        refine ⟨a, b, us, vs, rfl, rfl, .of (hs.ex.nd h1 rfl), .of (hs.ex.nd h2 rfl), by rw [e1, e2]; exact Nat.le_trans w.1 (by decide), fun e => ?_, fun _ e => ?_, fun _ _ p hp => ?_⟩
        · subst e
          cases r1
          exact k _ F H _ C (Ex.refl F) hs (.tup h2 r2) w.2
        · subst e
          cases r2
          have w2 := w.2
          rw [List.append_nil] at w2
          exact k _ F H _ C (Ex.refl F) hs (.tup h1 r1) w2
        · obtain ⟨ex, hs'⟩ := hs.lay (o := .tup (us ++ vs)) hp
          exact k _ _ _ _ C ex hs' (.tup (by unfold upd; rw [if_pos rfl]) ((r1.mono ex).append (r2.mono ex))) w.2
  · exact w.elim
theorem atI_lit {α : Type} (xs : List α) (n : Nat) : atI xs (no_index (@OfNat.ofNat Int n _)) = xs[n]? := atI_nat' xs n
theorem _root_.L2.Room.units2 {k : Nat} {A : Around} (r : L2.Room k A) : A.units + 65 < cLine := by have := r.un; omega
end DD

set_option Elab.async false
set_option linter.all false
set_option maxRecDepth 100000
set_option maxHeartbeats 4000000
/-! Exceptions: raise of an own class, try and except. -/
namespace DD
open PySem L2 PySem.Spec PyProof.Rows

/-- what is known of an own class of errors without an __init__ -/
structure XcT (K : PySem.W.Frag) (C : Addr) : Prop where
  xi : PySem.W.excIn K C [.type "ValueError", .type "Exception", .type "BaseException", .type "object"] "ValueError.__new__" = true
  xb : PySem.W.subIn K (.ref C) (.type "BaseException") = some true
  xt : PySem.W.typeIn K (.ref C) = some (.type "type")
  xk : PySem.W.keepIn K (.ref C) = true
theorem exm_is {K : PySem.W.Frag} {C1 C2 : Addr} {b : Bool} (h1 : PySem.W.subIn K (.ref C2) (.type "BaseException") = some true) (h2 : PySem.W.isClsIn K C2 = true) (h3 : PySem.W.typeIn K (.ref C2) = some (.type "type")) (h4 : PySem.W.subIn K (.ref C1) (.ref C2) = some b) :
    PySem.W.exmOne K (.ref C1) (.ref C2) = some b := by
  unfold PySem.W.exmOne PySem.W.kitCls
  have h5 : (PySem.W.clsIn K C2).isSome = true := h2
  rw [h1, if_pos (by decide)]
  dsimp only
  rw [h5, h3, if_pos (by decide), h4]

def wRaise (cls : Value) (E : DEnds) (ρ : DEnv) (C : Cells) : Prop := E.ex cls [] ρ C
section
variable {X : Cx} {W : WX} {K : PySem.W.Frag} {pos : Pos}
theorem ds_raise0 {x m : Str} {j : Nat} {p p2 pos' : Pos} {C : Addr} (hc : X.calm = true) (tk : Takes X W) (T : XcT X.K C) (gC : X.mg x = some (.ref C)) (hg : Gl X x) (hdb : (x == ("__debug__" : Str)) = false := by decide) :
    PS X (.Raise (some (.Call (.Name x p) [.Constant (.str m) j p2] [] pos)) none pos') (tS X.K W (wRaise (.ref C))) :=
  PS.imp (ps_raise hc tk (pmk_own PySem.F.excBase_ValueError T.xi gC T.xk (raises_own T.xb T.xt) hg hdb)) fun D σ H ⟨F, C', ρ, E, hs, en, xr, w, k⟩ =>
    xr _ none [] σ F H ρ C' (Ex.refl F) hs en (.inl rfl) w

/-! try: .. except X: .. (the suite raises nothing) -/
def wTry (K : PySem.W.Frag) (c : Value) (wb ws : DS) (E : DEnds) (ρ : DEnv) (C : Cells) : Prop := wb { E with ex := fun cls fs ρ' C' => ∃ b, PySem.W.exmOne K cls c = some b ∧ (b = true → ws { E with ex := fun _ _ _ _ => False } ρ' C') ∧ (b = false → E.ex cls fs ρ' C') } ρ C
theorem EndsR.exx {F : Hp} {E : DEnds} {D : Ends} {px : DX} (h : EndsR K F E D) : EndsR K F { E with ex := px } D := ⟨h.nx, h.rt, h.bk, h.ct⟩
theorem ds_try {x : Str} {C : Addr} {K' : PySem.W.Frag} {body suite : List Stmt} {b₀ : Stmt} {np pos' : Pos} {wb ws : DS} (hs : X.stack = X.env :: X.outer) (hf : X.env.frame = some X.env.locals) (T : XcT K' C) (gC : X.mg x = some (.ref C)) (tk : Takes X W)
    (hb : ∀ (W' : WX) (pn : List (Addr × Obj)) (xe : Value → Shared → Prop), Takes (X.tr pn xe) W' → PassesOwn (model X.prog X.w) X.A X.env xe → PSs (X.tr pn xe) body (tS X.K W' wb))
    (hsu : ∀ (a : Addr) (oe : Obj) (cls : Value) (d : Option Addr) (pn : List (Addr × Obj)), Zc cls d oe → (∃ vs, oe.data = .fields vs) → PSs (X.suite a ((a, oe) :: pn)) (b₀ :: suite) (tS X.K (fun _ _ _ _ => False) ws))
    (hK : X.K = K' := by rfl) (hg : Gl X x := by rfl) (hdb : (x == ("__debug__" : Str)) = false := by decide) :
    PS X (.Try body [.ExceptHandler (some (.Name x np)) none (b₀ :: suite) pos'] [] [] pos) (tS X.K W (wTry K' (.ref C) wb ws)) := by
  subst hK
  exact PS.imp (ps_try_only (tb := fun W' => tS X.K W' wb) (ts := fun _ _ _ => tS X.K (fun _ _ _ _ => False) ws) hs hf ⟨hg, hdb, .inl gC⟩ tk hb hsu) fun D σ H ⟨F, C', ρ, E, hs', en, xr, w, k⟩ =>
    ⟨F, C', ρ, { E with ex := fun cls fs ρ' C' => ∃ b, PySem.W.exmOne X.K cls (.ref C) = some b ∧ (b = true → ws { E with ex := fun _ _ _ _ => False } ρ' C') ∧ (b = false → E.ex cls fs ρ' C') }, hs', en, fun cls d fs σ1 F1 H1 ρ1 C1 e1 h1 n1 rx ⟨b, hb1, hy, hn⟩ =>
      ⟨b, hb1, fun hbt a ha => ⟨F1, C1, ρ1, { E with ex := fun _ _ _ _ => False }, h1, n1, fun _ _ _ _ _ _ _ _ _ _ _ _ z => z.elim, hy hbt, (k.mono e1).exx⟩, fun hbf => xr cls d fs σ1 F1 H1 ρ1 C1 e1 h1 n1 rx (hn hbf)⟩, w, k.exx⟩
end

/-! an object made, its __init__ may raise -/
section
variable {X : Cx} {W : WX} {k : Nat} {f Cl : Addr} {fd : FuncData} {ps : List Str} {x : Str} {p pos : Pos} {e : Expr} {es : List Expr} {dvs : List V} {dsv : List Value}
theorem make_at {CX : CXT} {sp : Sp} {E : XK} {pins : List (Addr × Obj)} {σ : L2.St} {H : Hp} {s : Shared} {Q : VK} {us : List Value} {vs : List V} (M : Mk X.K Cl f) (F : FnOk X.prog X.w X.K X.mg X.base CX k f fd ps sp) (hr : Room (k + 1) X.A) (hb : Binds X.K fd ps dsv) (hd : Vals dvs dsv)
    (hx : PassesAt CX X σ E) (I : Inv X pins σ H s) (r : Vals vs us)
    (h : ∀ z dx, H z = none → H dx = none → dx ≠ z → sp (.ref z :: (vs ++ dvs)) (upd (upd H dx (.own z)) z (.ins Cl dx [])) (fun v H2 => v = .non ∧ Q (.ref z) H2) E) :
    wpAny (model X.prog X.w) X.A (call (.ref Cl) us) (EP X pins σ Q) X.xe s := by
  have q := h _ _ (I.hok.fresh (Nat.le_succ s.heap.objs.size)) (I.hok.fresh (Nat.le_refl s.heap.objs.size)) (Nat.ne_of_lt (Nat.lt_succ_self s.heap.objs.size))
  have J := Inv.made (C := Cl) I
  have rv : Vals (V.ref (s.heap.objs.size + 1) :: (vs ++ dvs)) (Value.ref (s.heap.objs.size + 1) :: (us ++ dsv)) := .cons rfl (r.append hd)
  have len : (Value.ref (s.heap.objs.size + 1) :: us ++ dsv).length = ps.length := rv.length.symm.trans (F.len _ _ _ _ q)
  refine wpAny_call (make_map (f := f) I.kIn M.makes M.init (beq_iff_eq.mp M.fn) (codeAny_mono (F.run _ X.stack _ _ ⟨Value.ref (s.heap.objs.size + 1) :: us, []⟩ (Value.ref (s.heap.objs.size + 1) :: (us ++ dsv)) _ _ E (hr.make Cl us []) (J.env0.make Cl us []) (hb _ (Value.ref (s.heap.objs.size + 1) :: us) J.kIn len) rv q) fun o s' z => ?_))
  match o, z with
  | .error e, z => exact hx pins _ _ e s' J z
  | .ok (.ret u), z =>
    obtain ⟨v, H', J2, _, ev, q3⟩ := J.after z
    subst ev
    exact ⟨by assumption, ⟨V.ref _, H', J2, rfl, q3⟩⟩
  | .ok .next, z => exact z.elim
  | .ok .brk, z => exact z.elim
  | .ok .cont, z => exact z.elim
theorem d_makeX {RX : DSpX} {dd : List D} {wr : DA} (tk : Takes X W) (M : Mk X.K Cl f) (G : FnOk X.prog X.w X.K X.mg X.base (L2.CX X.prog X.w) k f fd ps (spX X.K RX)) (hr : Room (k + 1) X.A) (hm : X.mg x = some (.ref Cl)) (hb : Binds X.K fd ps dsv) (ha : PA X (e :: es) (tA X.K W wr)) (hd : Vals dvs dsv := by exact .nil) (hdd : ∀ F, RepL X.K F dvs dd := by exact fun _ => .nil) (hg : Gl X x := by rfl)
    (hdb : (x == ("__debug__" : Str)) = false := by decide) (he : starEach (e :: es) X.env = (false, eval e X.env) :: starEach es X.env := by rfl) (hpl : (backTo pos (starEach es X.env)).any (·.1) = false := by rfl) :
    PE X (.Call (.Name x p) (e :: es) [] pos) (tE X.K W (wMakeX Cl RX dd wr)) := by
  refine ⟨fun pins s σ H Q I ⟨F, C, ρ, P, PX, hs, en, xr, w, kk⟩ => ?_⟩
  refine wpAny_Call_Name_kw (ld_glob I hg hm ?_ hdb)
  refine PySem.W.callWith_K (h₀ := X.base) I.ok.mod.kin M.kp (thn (ha.run pos pins s σ H (fun vs H1 => ∃ F1 C1 ds, Ex F F1 ∧ Hs X.K F1 C1 H1 ∧ RepL X.K F1 vs ds ∧ ∀ q, C1 q = none → RX (.ptr q :: (ds ++ dd)) (cput C1 q (.ins Cl [])) (fun r C2 => r = .non ∧ P (.ptr q) C2) (fun cls fs C3 => PX cls fs ρ C3)) I
    ⟨F, C, ρ, _, PX, hs, en, xr, w, fun vs F1 H1 ds C1 e1 h1 r q => ⟨F1, C1, ds, e1, h1, r, q⟩⟩) fun us s1 ⟨vs, H1, I1, r, F1, C1, ds, e1, h1, rr, q⟩ => ⟨I1.kIn, ?_⟩) he hpl
  refine make_at (E := WE W σ) M G hr hb hd (passAt tk σ) I1 r fun z dx hz hdx ne => ?_
  obtain ⟨c0, h2⟩ := h1.inst (Cl := Cl) hz hdx ne
  exact ⟨F1, _, .ptr z :: (ds ++ dd), _, _, h2, .cons (.ptr z) (rr.append (hdd F1)), q z c0, ptr_kont (kk.mono e1), KontX.of (xr.mono e1) (en.mono e1)⟩
end

/-! xs.index(y), flat items -/
def dIndex (x : D) (ds : List D) (C : Cells) (P : DK) : Prop := match ds with
  | [y] => ∃ xs, seqOf x C = some xs ∧ flatD y = true ∧ xs.all flatD = true ∧ ∃ (j : Nat) (z : D), xs[j]? = some z ∧ eqV (toV z) (toV y) = true ∧ (∀ (m : Nat) (z' : D), m < j → xs[m]? = some z' → eqV (toV z') (toV y) = false) ∧ P (.int (j : Int)) C
  | _ => False
theorem s_index {K : PySem.W.Frag} : SimM K (rIndex K) dIndex := fun F C H x dx xs ds P Q hs rx rl w k => by
  revert w
  unfold dIndex
  split
  · rename_i y
    rintro ⟨zs, hz, fy, fz, j, z, hj, hzy, hno, w⟩
    obtain ⟨a, us, rfl, hq, hr⟩ := seq_of hs rx hz
    cases rl with
    | cons r1 r2 =>
      cases r2
      obtain ⟨e1, f1⟩ := flat_rep r1 fy
      obtain ⟨e2, f2⟩ := flat_reps hr fz
      refine ⟨a, us, _, j, toV z, rfl, rfl, hq, f1, f2, ?_, by rw [e1]; exact hzy, fun m z' hm hz' => ?_, k _ F H _ C (Ex.refl F) hs (.int _) w⟩
      · rw [e2, List.getElem?_map, hj]; rfl
      · rw [e2, List.getElem?_map] at hz'
        cases hm' : zs[m]? with
        | none => rw [hm'] at hz'; cases hz'
        | some z2 =>
          rw [hm'] at hz'
          cases hz'
          rw [e1]
          exact hno m z2 hm hm'
  · exact fun z => z.elim
theorem eqV_int (a b : Int) : eqV (toV (.int a)) (toV (.int b)) = decide (a = b) := by
  simp only [toV, eqV]
  exact Bool.beq_eq_decide_eq a b
end DD

set_option Elab.async false
set_option linter.all false
set_option maxRecDepth 100000
set_option maxHeartbeats 4000000
/-! xs.extend(ys) of a cell by any list. -/
namespace DD
open PySem L2 HT PySem.Spec PyProof.Rows
open PySem.AutoSeq1 (wpAny_loadPart')

theorem list_extendW (l : Addr) (items : Array Value) (n : Nat) (b : Addr) (items2 : Array Value) (n2 : Nat) (sl2 : Array (Option Value)) (hc0 : ¬(!items.isEmpty && Builtin.List.listTooLong (items.size + items2.size)) = true) (hc1 : items.size ≤ sizeLine) (hs2 : items.size + items2.size ≤ sizeLine + 1) :
    Meets (Builtin.«list.extend» ⟨[.ref l, .ref b], []⟩) (fun _ R s => s.heap.get? l = some { cls := .type "list", dict := none, data := .seq items n, slots := #[] } ∧ s.heap.get? b = some { cls := .type "list", dict := none, data := .seq items2 n2, slots := sl2 } ∧ R (.ok (.ret Value.none)) { s with heap := s.heap.update l (Obj.mapSeq fun x => x ++ items2), toks := s.toks }) :=
  .of_wp fun prog w A R s h => by
    obtain ⟨hp, g, d, tk, os⟩ := s
    obtain ⟨hl, hb, h⟩ := h
    have f1 := AutoSeq1.idx_int
    have f2 := AutoSeq1.sub_tuple_tuple
    have f3 := AutoSeq1.sub_list_list
    have f4 := AutoSeq1.sub_tuple_list
    have f5 := AutoSeq1.sub_list_tuple
    have hz' : (items ++ items2).size ≤ sizeLine + 1 := by rw [Array.size_append]; exact hs2
    wp_walk using (wpAny_updateSeq hl rfl (hz := hc1) (_hz' := hz')), wpAny_loadPart' hl, wpAny_loadPart' hb
    exact ⟨_, rfl, h⟩
def rExtendS (K : PySem.W.Frag) : V → List V → Hp → VK → Prop := fun x vs H Q => ∃ l b xs zs, x = .ref l ∧ vs = [.ref b] ∧ H l = some (.lst xs) ∧ SqL K H b zs ∧ xs.length + zs.length ≤ sizeLine ∧ Q .non (upd H l (.lst (xs ++ zs)))
theorem mt_extendS {X : Cx} : MtR X "list.extend" (rExtendS X.K) := by
  intro pins s σ H x vs v us Q I rx rv h
  obtain ⟨l, b, xs, zs, rfl, rfl, hH, hB, hz, q⟩ := h
  cases rx
  obtain ⟨u, rfl, ru⟩ := rv.one
  cases ru
  obtain ⟨z, its, n, r, hl, e⟩ := I.lstM hH
  obtain ⟨its2, r2, pl2, _⟩ := I.list hB
  obtain ⟨⟨cls2, dd2, data2, sl2⟩, n2, ho2, hc2, hdd, hd2⟩ := pl2
  simp only at hc2 hdd hd2
  subst hc2 hdd hd2
  have hl2 := r2.length
  have hsz : its.toArray.size + its2.toArray.size ≤ sizeLine := by rw [List.size_toArray, List.size_toArray]; omega
  have hlong : ¬ (!its.toArray.isEmpty && Builtin.List.listTooLong (its.toArray.size + its2.toArray.size)) = true := by
    rw [notLongL hsz, Bool.and_false]
    exact Bool.false_ne_true
  refine call_meets F.slot_list_extend ⟨_, e, rfl⟩ F.entry_list_extend (F.args_list_extend_2 _ _)
    (list_extendW l its.toArray n b its2.toArray n2 sl2 hlong (by rw [List.size_toArray]; omega) (by omega)) ⟨e, ho2, ?_⟩
  refine ⟨.non, _, I.lset (its' := its ++ its2) hH e (by simp) (r.append r2) ?_, rfl, q⟩
  rw [List.length_append]
  omega
def dExtend (x : D) (ds : List D) (C : Cells) (P : DK) : Prop := match x, ds with
  | .ptr a, [d] => match C a, seqOf d C with
    | some (.lst xs), some ys => xs.length + ys.length ≤ 100000 ∧ P .non (cput C a (.lst (xs ++ ys)))
    | _, _ => False
  | _, _ => False
theorem s_extend {K : PySem.W.Frag} : SimM K (rExtendS K) dExtend := fun F C H x dx xs ds P Q hs rx rl w k => by
  revert w
  unfold dExtend
  split
  · rename_i a d
    cases rx
    split
    · rename_i ys zs hc hd
      rintro ⟨hl, w⟩
      cases rl with
      | cons r1 r2 =>
        cases r2
        obtain ⟨f0, us, hx, r⟩ := hs.cell a _ hc
        obtain ⟨b, vs, rfl, hv, rv⟩ := seq_of hs r1 hd
        exact ⟨a, b, us, vs, rfl, rfl, hx, hv, by rw [r.length, rv.length]; exact sz_of hl, k _ F _ _ _ (Ex.refl F) (hs.put (c := .lst (ys ++ zs)) f0 ⟨_, upd_same, r.append rv⟩) .non w⟩
    · exact fun z => z.elim
  · exact fun z => z.elim
section
variable {X : Cx} {W : WX} {K : PySem.W.Frag}
theorem d_extend {o e : Expr} {es : List Expr} {wo : DE} {wr : DA} {pos apos : Pos} (ho : PE X o (tE X.K W wo)) (ha : PA X (e :: es) (tA X.K W wr))
    (hbase : attributeBase o (Str.ofString "extend") X.env (eval o X.env) = eval o X.env := by rfl)
    (hfew : ((backTo pos (starEach (e :: es) X.env)).all (fun x => !x.1) && (backToKw pos (keywordEach [] X.env)).all (fun x => x.1.isSome)
      && decide ((e :: es).length + ([] : List Keyword).length + (if ([] : List Keyword).isEmpty then 0 else 1) < 30)) = true := by rfl)
    (hline : (apos.endLine == pos.line) = true := by rfl) (hs : starEach (e :: es) X.env = (false, eval e X.env) :: starEach es X.env := by rfl) (hplain : (backTo pos (starEach es X.env)).any (·.1) = false := by rfl) :
    PE X (.Call (.Attribute o (Str.ofString "extend") apos) (e :: es) [] pos) (tE X.K W (wBML dExtend wo wr)) :=
  d_bmL PySem.F.plainAttrs_list PySem.F.slot_list_extend PySem.F.type_list_extend mt_extendS s_extend ho ha hbase hfew hline hs hplain
end
end DD

set_option Elab.async false
set_option linter.all false
set_option maxRecDepth 100000
set_option maxHeartbeats 4000000
/-! Texts: what is walked, ord, chr, join; any and all of lists; a module's text; statements that are never reached. -/
namespace DD
open PySem L2 HT PySem.Spec PyProof.Rows

/-- a sign as a text -/
def chD (c : Nat) : D := .str ⟨#[c]⟩
def strDs (z : Str) : List D := z.cps.toList.map chD
def wItS (e : DE) (ρ : DEnv) (C : Cells) (P : DIt → Cells → Prop) (PX : DX) : Prop := e ρ C (fun d C1 => match d with
  | .str z => P ⟨strDs z, frozen⟩ C1
  | _ => False) PX
def dOrd (ds : List D) (C : Cells) (P : DK) : Prop := match ds with
  | [.str z] => z.length = 1 ∧ P (.int (z.cps.getD 0 0 : Nat)) C
  | _ => False
def dChr (ds : List D) (C : Cells) (P : DK) : Prop := match ds with
  | [.int i] => (0 ≤ i ∧ i ≤ 1114111) ∧ P (chD i.toNat) C
  | _ => False
def dAny (ds : List D) (C : Cells) (P : DK) : Prop := match ds with
  | [x] => ∃ bs : List Bool, seqOf x C = some (bs.map D.bl) ∧ P (.bl (bs.any id)) C
  | _ => False
def dAll (ds : List D) (C : Cells) (P : DK) : Prop := match ds with
  | [x] => ∃ bs : List Bool, seqOf x C = some (bs.map D.bl) ∧ P (.bl (bs.all id)) C
  | _ => False
/-- a text's method -/
def wBMS (r : DRM) (o : DE) (a : DA) (ρ : DEnv) (C : Cells) (P : DK) (PX : DX) : Prop := o ρ C (fun x C1 => match x with
  | .str z => a ρ C1 (fun ds C2 => r (.str z) ds C2 P) PX
  | _ => False) PX
def dJoin (x : D) (ds : List D) (C : Cells) (P : DK) : Prop := match x, ds with
  | .str a, [y] => ∃ ys : List Str, seqOf y C = some (ys.map D.str) ∧ (ys.map (·.length)).sum + ys.length * a.length ≤ 16777216 ∧ P (.str (Txt.join a ys)) C
  | _, _ => False
def wDead (E : DEnds) (ρ : DEnv) (C : Cells) : Prop := False
section
variable {X : Cx} {W : WX} {K : PySem.W.Frag} {e tg : Expr} {we wo : DE} {wr : DA} {pos : Pos}
theorem ds_dead {s : Stmt} : PS X s (tS X.K W wDead) := ⟨fun pins s σ H D I w => by obtain ⟨F, C, ρ, DE, _, _, _, h, _⟩ := w; exact h.elim⟩
theorem itr_str {F : Hp} {z : Str} : ItR K F (Its z) ⟨strDs z, frozen⟩ := fun F' H C e hs _ => by
  refine ⟨fun i d hd => ?_, by show z.cps.size ≤ (strDs z).length; unfold strDs; rw [List.length_map, Array.length_toList]; exact Nat.le_refl _⟩
  unfold strDs at hd
  rw [List.getElem?_map, Array.getElem?_toList] at hd
  cases hc : z.cps[i]? with
  | none => rw [hc] at hd; cases hd
  | some c =>
    rw [hc] at hd
    injection hd with hd
    subst hd
    refine ⟨(Array.getElem?_eq_some_iff.mp hc).1, fun x H' y => ?_⟩
    obtain ⟨rfl, c', h1, rfl⟩ := y
    rw [hc] at h1
    injection h1 with h1
    subst h1
    exact ⟨F', Ex.refl _, hs, .str _⟩
theorem di_str (he : PE X e (tE X.K W we)) : PI X tg e (tI X.K W (wItS we)) := PI.imp (pi_str he) fun σ H R ⟨F, C, ρ, P, PX, hs, en, xr, w, k⟩ =>
  ⟨F, C, ρ, _, PX, hs, en, xr, w, fun v F1 H1 d C1 e1 h1 r q => by
    cases r <;> first | exact q.elim | skip
    exact ⟨_, rfl, k _ F1 H1 _ C1 e1 h1 itr_str q⟩⟩
theorem s_ord : SimA K (fun xs H Q => ∃ x, xs = [.str x] ∧ x.length = 1 ∧ Q (.int (x.cps.getD 0 0 : Nat)) H) dOrd := fun F C H xs ds P Q hs r w k => by
  revert w
  unfold dOrd
  split
  · rename_i z
    rintro ⟨hl, w⟩
    cases r with
    | cons r1 r2 =>
      cases r2
      cases r1
      exact ⟨z, rfl, hl, k _ F H _ C (Ex.refl F) hs (.int _) w⟩
  · exact fun z => z.elim
theorem s_chr : SimA K (fun xs H Q => ∃ i, xs = [.int i] ∧ 0 ≤ i ∧ i ≤ 1114111 ∧ Q (.str ⟨#[i.toNat]⟩) H) dChr := fun F C H xs ds P Q hs r w k => by
  revert w
  unfold dChr
  split
  · rename_i i
    rintro ⟨hl, w⟩
    cases r with
    | cons r1 r2 =>
      cases r2
      cases r1
      exact ⟨i, rfl, hl.1, hl.2, k _ F H _ C (Ex.refl F) hs (.str _) w⟩
  · exact fun z => z.elim
theorem RepL.bools {F : Hp} : ∀ {xs : List V} {bs : List Bool}, RepL K F xs (bs.map D.bl) → xs = bs.map V.bl
  | _, [], r => by cases r; rfl
  | _, b :: bs, r => by
    cases r with
    | cons r1 r2 =>
      cases r1
      rw [RepL.bools r2]
      rfl
theorem RepL.strs {F : Hp} : ∀ {xs : List V} {ys : List Str}, RepL K F xs (ys.map D.str) → xs = ys.map V.str
  | _, [], r => by cases r; rfl
  | _, b :: bs, r => by
    cases r with
    | cons r1 r2 =>
      cases r1
      rw [RepL.strs r2]
      rfl
theorem s_any : SimA K (rAny K) dAny := fun F C H xs ds P Q hs r w k => by
  revert w
  unfold dAny
  split
  · rintro ⟨bs, hn, w⟩
    cases r with
    | cons r1 r2 =>
      cases r2
      obtain ⟨a, us, rfl, h2, r3⟩ := seq_of hs r1 hn
      rw [r3.bools] at h2
      exact ⟨a, bs, rfl, h2, k _ F H _ C (Ex.refl F) hs (.bl _) w⟩
  · exact fun z => z.elim
theorem s_all : SimA K (rAll K) dAll := fun F C H xs ds P Q hs r w k => by
  revert w
  unfold dAll
  split
  · rintro ⟨bs, hn, w⟩
    cases r with
    | cons r1 r2 =>
      cases r2
      obtain ⟨a, us, rfl, h2, r3⟩ := seq_of hs r1 hn
      rw [r3.bools] at h2
      exact ⟨a, bs, rfl, h2, k _ F H _ C (Ex.refl F) hs (.bl _) w⟩
  · exact fun z => z.elim
theorem d_bmS {es : List Expr} {apos : Pos} {id : String} {name : Str} {r : V → List V → Hp → VK → Prop} {rd : DRM} {o : Expr} (pa : PlainAttrs "str") (slot : Slot "str" name id) (hty : typeOf (.builtin id) = pure (.type "method_descriptor")) (hm : MtR X id r) (hr : SimM X.K r rd) (ho : PE X o (tE X.K W wo)) (ha : PA X (e :: es) (tA X.K W wr))
    (hbase : attributeBase o name X.env (eval o X.env) = eval o X.env := by rfl)
    (hfew : ((backTo pos (starEach (e :: es) X.env)).all (fun x => !x.1) && (backToKw pos (keywordEach [] X.env)).all (fun x => x.1.isSome)
      && decide ((e :: es).length + ([] : List Keyword).length + (if ([] : List Keyword).isEmpty then 0 else 1) < 30)) = true := by rfl)
    (hline : (apos.endLine == pos.line) = true := by rfl) (hs : starEach (e :: es) X.env = (false, eval e X.env) :: starEach es X.env := by rfl) (hplain : (backTo pos (starEach es X.env)).any (·.1) = false := by rfl) :
    PE X (.Call (.Attribute o name apos) (e :: es) [] pos) (tE X.K W (wBMS rd wo wr)) :=
  PE.imp (pe_bm pa slot hty hm ho ha hbase hfew hline hs hplain) fun σ H Q ⟨F, C, ρ, P, PX, hs, en, xr, w, k⟩ => ⟨F, C, ρ, _, PX, hs, en, xr, w, fun v F1 H1 d C1 e1 h1 rv q => by
    cases rv <;> first | exact q.elim | skip
    rename_i z
    exact ⟨rfl, F1, C1, ρ, _, PX, h1, en.mono e1, xr.mono e1, q, fun vs F2 H2 ds C2 e2 h2 rl q2 => hr F2 C2 H2 (.str z) (.str z) vs ds P Q h2 (.str z) rl q2 (k.mono (e1.trans e2))⟩⟩
theorem s_join : SimM K (fun x xs H Q => ∃ a p, ∃ ys : List Str, x = .str a ∧ xs = [.ref p] ∧ (SqL K H p (ys.map V.str) ∨ SqT K H p (ys.map V.str)) ∧ (ys.map (·.length)).sum + ys.length * a.length ≤ 16777216 ∧ Q (.str (Txt.join a ys)) H) dJoin := fun F C H x dx xs ds P Q hs rx rl w k => by
  revert w
  unfold dJoin
  split
  · rename_i a y
    rintro ⟨ys, hn, hl, w⟩
    cases rx
    cases rl with
    | cons r1 r2 =>
      cases r2
      obtain ⟨p, us, rfl, h2, r3⟩ := seq_of hs r1 hn
      rw [r3.strs] at h2
      exact ⟨a, p, ys, rfl, rfl, .inl h2, hl, k _ F H _ C (Ex.refl F) hs (.str _) w⟩
  · exact fun z => z.elim
/-- a module's text -/
theorem d_kstr {x : Str} {z : Str} {pos : Pos} (h : ∃ t, X.mg x = some (.str z t)) (hg : Gl X x := by rfl) (hd : (x == ("__debug__" : Str)) = false := by decide) : PE X (.Name x pos) (tE X.K W (wC (.str z))) := by
  obtain ⟨t, h⟩ := h
  exact d_glob (v := .str z) hg h ⟨t, rfl⟩ (fun _ => .str z) hd
end
end DD

set_option Elab.async false
set_option linter.all false
set_option maxRecDepth 100000
set_option maxHeartbeats 4000000
/-! max of three whole numbers; what is joined. -/
namespace DD
open PySem L2 HT PySem.Spec PyProof.Rows

def dMax3 (ds : List D) (C : Cells) (P : DK) : Prop := match ds with
  | [.int i, .int j, .int l] => P (.int (max (max i j) l)) C
  | _ => False
theorem nu_max2 (i j : Int) : nuMax2 (.int i) (.int j) = some (.int (max i j)) := by
  have e : nuLt (.int i) (.int j) = some (decide (i < j)) := rfl
  unfold nuMax2
  rw [e]
  show some (if decide (i < j) = true then V.int j else V.int i) = _
  by_cases h : i < j
  · rw [if_pos (by simpa using h)]; congr 2; omega
  · rw [if_neg (by simpa using h)]; congr 2; omega
theorem s_max3 {K : PySem.W.Frag} : SimA K (rNuC3 nuMax3) dMax3 := fun F C H xs ds P Q hs r w k => by
  revert w
  unfold dMax3
  split
  · rename_i i j l
    intro w
    cases r with
    | cons r1 r2 =>
      cases r1
      cases r2 with
      | cons r3 r4 =>
        cases r3
        cases r4 with
        | cons r5 r6 =>
          cases r5; cases r6
          refine ⟨.int i, .int j, .int l, .int (max (max i j) l), rfl, ?_, k _ F H _ C (Ex.refl F) hs (.int _) w⟩
          unfold nuMax3
          rw [nu_max2]
          exact nu_max2 _ _
  · exact fun z => z.elim
theorem strjoin_chars : ∀ cs : List Nat, Str.join ⟨#[]⟩ (cs.map fun c => (⟨#[c]⟩ : Str)) = ⟨cs.toArray⟩
  | [] => rfl
  | [c] => rfl
  | c :: d :: r => by
    have ih := strjoin_chars (d :: r)
    show (⟨#[c]⟩ : Str) ++ ⟨#[]⟩ ++ Str.join ⟨#[]⟩ ((d :: r).map fun c => (⟨#[c]⟩ : Str)) = _
    rw [ih]
    show (⟨(#[c] ++ #[]) ++ (d :: r).toArray⟩ : Str) = _
    simp
theorem join_chars (cs : List Nat) : Txt.join ⟨#[]⟩ (cs.map fun c => (⟨#[c]⟩ : Str)) = ⟨cs.toArray⟩ := by rw [TL.join_eq, strjoin_chars]
end DD

set_option Elab.async false
set_option linter.all false
set_option maxRecDepth 100000
set_option maxHeartbeats 4000000
/-! Comprehensions whose items are not known beforehand; slices by both ends. -/
namespace DD
open PySem L2
theorem lc_gen {α : Type} {J : DIt} {t : Tgt} {we : DE} {vs : List Nat} {C1 : Cells} {ρ : DEnv} {P : DK} (enc : α → D) (ok : α → Prop) (hst : ∀ C', Sub C1 C' → J.still C') (hn : J.items.length < 100000)
    (h : ∀ (i : Nat) d C' (Q : DK), J.items[i]? = some d → Sub C1 C' → (∀ a C3, ok a → Sub C' C3 → Q (enc a) C3) → match t.dg d (dwipe ρ vs) with
      | some ρ2 => we ρ2 C' Q noX
      | none => False)
    (hP : ∀ L : List α, L.length = J.items.length → (∀ a ∈ L, ok a) → P (.lst (L.map enc)) C1) : LcG J t wYes we vs ρ C1 P := by
  intro Dl hD
  refine ⟨fun i C' => ∃ L : List α, L.length = i ∧ (∀ a ∈ L, ok a) ∧ Sub C1 C' ∧ C' Dl = some (.lst (L.map enc)), ⟨[], rfl, (fun a ha => by cases ha), Sub.new hD, cput_same⟩, fun i C' ⟨L, _, _, hs, _⟩ => hst C' hs, fun i d C' hd ⟨L, hl, hok, hs, hc⟩ => ?_, fun C' ⟨L, hl, hok, hs, hc⟩ => ?_⟩
  · have hi := (List.getElem?_eq_some_iff.mp hd).1
    have := h i d C' (fun y C3 => match C3 Dl with
        | some (.lst acc) => acc.length < 100000 ∧ ∃ L : List α, L.length = i + 1 ∧ (∀ a ∈ L, ok a) ∧ Sub C1 (cput C3 Dl (.lst (acc ++ [y]))) ∧ cput C3 Dl (.lst (acc ++ [y])) Dl = some (.lst (L.map enc))
        | _ => False) hd hs (fun a C3 ha hs3 => ?_)
    · revert this
      cases t.dg d (dwipe ρ vs) with
      | none => exact fun z => z
      | some ρ2 => exact fun z => z
    · rw [hs3 _ _ hc]
      refine ⟨by rw [List.length_map]; omega, L ++ [a], by rw [List.length_append, List.length_singleton, hl], fun b hb => ?_, fun b c hb => ?_, ?_⟩
      · rcases List.mem_append.mp hb with hb | hb
        · exact hok b hb
        · simp only [List.mem_cons, List.not_mem_nil, or_false] at hb; subst hb; exact ha
      · have hne : b ≠ Dl := fun z => by rw [z, hD] at hb; cases hb
        rw [cput_ne hne]
        exact hs3 _ _ (hs _ _ hb)
      · rw [cput_same, List.map_append]
        rfl
  · rw [hc]
    exact ⟨C1, hs, hD, hP L hl hok⟩
theorem cut_mid (xs : List D) {a b : Nat} (h1 : a ≤ b) (h2 : b ≤ xs.length) : cutD xs (some (a : Int)) (some (b : Int)) = (xs.drop a).take (b - a) := by
  unfold cutD
  rw [HT.sIx_nat, HT.sIx_nat, Nat.min_eq_left h2, Nat.min_eq_left (Nat.le_trans h1 h2)]
end DD

set_option Elab.async false
set_option linter.all false
set_option maxRecDepth 100000
set_option maxHeartbeats 4000000
/-! Dicts: keys that are numbers and texts, or tuples of these. -/
namespace DD
open PySem L2 PyProof.Rows

/-! ### tables of data -/
section
variable {κ : Type} [DecidableEq κ]
def vaD (t : List (κ × D)) (k : κ) : Option D := (t.find? fun p => decide (p.1 = k)).map (·.2)
def puD (t : List (κ × D)) (k : κ) (d : D) : List (κ × D) := if (t.any fun p => decide (p.1 = k)) = true then t.map (fun p => if p.1 = k then (p.1, d) else p) else t ++ [(k, d)]
def drD (t : List (κ × D)) (k : κ) : List (κ × D) := t.filter fun p => decide (p.1 ≠ k)
theorem vaD_nil {k : κ} : vaD [] k = none := rfl
theorem vaD_hit {k : κ} {p : κ × D} {t : List (κ × D)} (e : p.1 = k) : vaD (p :: t) k = some p.2 := by unfold vaD; rw [List.find?_cons, decide_eq_true e]; rfl
theorem vaD_miss {k : κ} {p : κ × D} {t : List (κ × D)} (e : ¬ p.1 = k) : vaD (p :: t) k = vaD t k := by unfold vaD; rw [List.find?_cons, decide_eq_false e]
theorem any_vaD (k : κ) : ∀ t : List (κ × D), (t.any fun p => decide (p.1 = k)) = (vaD t k).isSome
  | [] => rfl
  | p :: t => by
    by_cases e : p.1 = k
    · rw [vaD_hit e, List.any_cons, decide_eq_true e]; rfl
    · rw [vaD_miss e, List.any_cons, decide_eq_false e, ← any_vaD k t]; rfl
theorem vaD_app (k : κ) (u : List (κ × D)) : ∀ t : List (κ × D), vaD (t ++ u) k = match vaD t k with | some d => some d | none => vaD u k
  | [] => rfl
  | p :: t => by
    by_cases e : p.1 = k
    · rw [List.cons_append, vaD_hit e, vaD_hit e]
    · rw [List.cons_append, vaD_miss e, vaD_miss e, vaD_app k u t]
theorem vaD_set (k j : κ) (d : D) : ∀ t : List (κ × D), vaD (t.map fun p => if p.1 = k then (p.1, d) else p) j = (vaD t j).map fun x => if j = k then d else x
  | [] => rfl
  | p :: t => by
    rw [List.map_cons]
    by_cases h : p.1 = k
    · rw [if_pos h]
      by_cases e : p.1 = j
      · rw [vaD_hit (p := (p.1, d)) e, vaD_hit e, Option.map_some, if_pos (by rw [← e, h])]
      · rw [vaD_miss (p := (p.1, d)) e, vaD_miss e, vaD_set k j d t]
    · rw [if_neg h]
      by_cases e : p.1 = j
      · rw [vaD_hit e, vaD_hit e, Option.map_some, if_neg (by rw [← e]; exact h)]
      · rw [vaD_miss e, vaD_miss e, vaD_set k j d t]
/-- what is read behind a store -/
theorem vaD_put (t : List (κ × D)) (k j : κ) (d : D) : vaD (puD t k d) j = if j = k then some d else vaD t j := by
  unfold puD
  rw [any_vaD]
  cases e : vaD t k with
  | some x =>
    rw [if_pos (show (some x).isSome = true from rfl), vaD_set]
    by_cases h : j = k
    · rw [if_pos h, h, e, Option.map_some, if_pos rfl]
    · rw [if_neg h]
      cases vaD t j with
      | none => rfl
      | some y => rw [Option.map_some, if_neg h]
  | none =>
    rw [if_neg (by decide), vaD_app]
    by_cases h : j = k
    · rw [if_pos h, h, e]
      exact vaD_hit rfl
    · rw [if_neg h]
      have : vaD [(k, d)] j = none := vaD_miss (p := (k, d)) (fun z => h z.symm)
      rw [this]
      cases vaD t j <;> rfl
theorem puD_new {t : List (κ × D)} {k : κ} (h : vaD t k = none) (d : D) : puD t k d = t ++ [(k, d)] := by
  unfold puD
  rw [any_vaD, h]
  rfl
theorem puD_len (t : List (κ × D)) (k : κ) (d : D) : (puD t k d).length ≤ t.length + 1 := by
  unfold puD
  split
  · rw [List.length_map]; omega
  · rw [List.length_append]; exact Nat.le_refl _
theorem vaD_drop (k j : κ) : ∀ t : List (κ × D), vaD (drD t k) j = if j = k then none else vaD t j
  | [] => by rw [show drD ([] : List (κ × D)) k = [] from rfl, vaD_nil]; split <;> rfl
  | p :: t => by
    have ih := vaD_drop k j t
    unfold drD at ih ⊢
    rw [List.filter_cons]
    by_cases h : p.1 = k
    · rw [if_neg (by simpa using h), ih]
      by_cases e : j = k
      · rw [if_pos e, if_pos e]
      · rw [if_neg e, if_neg e, vaD_miss (by rw [h]; exact fun z => e z.symm)]
    · rw [if_pos (by simpa using h)]
      by_cases e : p.1 = j
      · rw [vaD_hit e, vaD_hit e, if_neg (by rw [← e]; exact h)]
      · rw [vaD_miss e, vaD_miss e, ih]
end
/-- keys -/
def keyOf : D → Option L2.Key
  | .int i => some (.inl i)
  | .str z => some (.inr z)
  | _ => none
def keysAll : List D → Option (List L2.Key)
  | [] => some []
  | d :: r => match keyOf d, keysAll r with
    | some k, some ks => some (k :: ks)
    | _, _ => none
def keysOf : D → Option (List L2.Key)
  | .tup ds => keysAll ds
  | _ => none
def keyD : L2.Key → D
  | .inl i => .int i
  | .inr z => .str z
/-- a dict's entries: keys that are numbers and texts; tuples of these -/
def kvsK (x : D) (C : Cells) : Option (List (L2.Key × D)) := match x with
  | .dK t => some t
  | .ptr a => match C a with
    | some (.dK t) => some t
    | some (.lK t _ _) => some t
    | _ => none
  | _ => none
def kvsT (x : D) (C : Cells) : Option (List (List L2.Key × D)) := match x with
  | .dT t => some t
  | .ptr a => match C a with
    | some (.dT t) => some t
    | some (.lT t _ _) => some t
    | _ => none
  | _ => none
def dicGet (x : D) (C : Cells) (y : D) : Option (Option D) := match kvsK x C with
  | some t => (keyOf y).map (vaD t)
  | none => match kvsT x C with
    | some t => (keysOf y).map (vaD t)
    | none => none
def isDic (x : D) (C : Cells) : Prop := (kvsK x C).isSome = true ∨ (kvsT x C).isSome = true
section
variable {K : PySem.W.Frag} {F H : Hp} {C : Cells}
theorem RepK.pair {vs : List (L2.Key × V)} {t : List (L2.Key × D)} (r : RepK K F vs t) : Paired (fun p q => p.1 = q.1 ∧ Rep K F p.2 q.2) vs t := by
  match r with
  | .nil => exact .nil
  | .cons h r => exact .cons ⟨rfl, h⟩ (RepK.pair r)
theorem RepT.pair {vs : List (List L2.Key × V)} {t : List (List L2.Key × D)} (r : RepT K F vs t) : Paired (fun p q => p.1 = q.1 ∧ Rep K F p.2 q.2) vs t := by
  match r with
  | .nil => exact .nil
  | .cons h r => exact .cons ⟨rfl, h⟩ (RepT.pair r)
theorem RepK.of {vs : List (L2.Key × V)} {t : List (L2.Key × D)} (r : Paired (fun p q => p.1 = q.1 ∧ Rep K F p.2 q.2) vs t) : RepK K F vs t := by
  induction r with
  | nil => exact .nil
  | @cons p q _ _ h _ ih =>
    obtain ⟨k, v⟩ := p
    obtain ⟨k', d⟩ := q
    obtain ⟨rfl, h⟩ := h
    exact .cons h ih
theorem RepT.of {vs : List (List L2.Key × V)} {t : List (List L2.Key × D)} (r : Paired (fun p q => p.1 = q.1 ∧ Rep K F p.2 q.2) vs t) : RepT K F vs t := by
  induction r with
  | nil => exact .nil
  | @cons p q _ _ h _ ih =>
    obtain ⟨k, v⟩ := p
    obtain ⟨k', d⟩ := q
    obtain ⟨rfl, h⟩ := h
    exact .cons h ih
section
variable {κ : Type} [DecidableEq κ]
abbrev TP (K : PySem.W.Frag) (F : Hp) : List (κ × V) → List (κ × D) → Prop := Paired fun p q => p.1 = q.1 ∧ Rep K F p.2 q.2
theorem tp_val {vs : List (κ × V)} {t : List (κ × D)} (r : TP K F vs t) (k : κ) : (vaD t k = none ∧ valV vs k = none) ∨ ∃ v d, vaD t k = some d ∧ valV vs k = some v ∧ Rep K F v d := by
  induction r with
  | nil => exact .inl ⟨rfl, rfl⟩
  | @cons p q _ _ h _ ih =>
    by_cases e : q.1 = k
    · exact .inr ⟨p.2, q.2, vaD_hit e, valV_pos (h.1.trans e), h.2⟩
    · rw [vaD_miss e, valV_neg (fun z => e (h.1.symm.trans z))]
      exact ih
theorem tp_put {vs : List (κ × V)} {t : List (κ × D)} (r : TP K F vs t) (k : κ) {v : V} {d : D} (h : Rep K F v d) : TP K F (putK vs k v) (puD t k d) := by
  have e : (vs.any fun p => decide (p.1 = k)) = (t.any fun p => decide (p.1 = k)) := by
    rw [valV_any, any_vaD]
    rcases tp_val r k with ⟨e1, e2⟩ | ⟨_, _, e1, e2, _⟩ <;> rw [e1, e2] <;> rfl
  unfold putK puD
  rw [e]
  by_cases c : (t.any fun p => decide (p.1 = k)) = true
  · rw [if_pos c, if_pos c]
    clear e c
    induction r with
    | nil => exact .nil
    | @cons p q _ _ g _ ih =>
      rw [List.map_cons, List.map_cons]
      refine .cons ?_ ih
      by_cases z : q.1 = k
      · rw [if_pos z, if_pos (g.1.trans z)]; exact ⟨g.1, h⟩
      · rw [if_neg z, if_neg (fun y => z (g.1.symm.trans y))]; exact g
  · rw [if_neg c, if_neg c]
    exact Paired.snoc r ⟨rfl, h⟩
theorem tp_drop {vs : List (κ × V)} {t : List (κ × D)} (r : TP K F vs t) (k : κ) : TP K F (dropK vs k) (drD t k) := by
  unfold dropK drD
  induction r with
  | nil => exact .nil
  | @cons p q _ _ g _ ih =>
    rw [List.filter_cons, List.filter_cons]
    by_cases z : q.1 = k
    · rw [if_neg (by simpa using g.1.trans z), if_neg (by simpa using z)]; exact ih
    · rw [if_pos (by simpa using fun y => z (g.1.symm.trans y)), if_pos (by simpa using z)]; exact .cons g ih
theorem tp_keys {vs : List (κ × V)} {t : List (κ × D)} (r : TP K F vs t) : vs.map (·.1) = t.map (·.1) := by
  induction r with
  | nil => rfl
  | cons g _ ih => rw [List.map_cons, List.map_cons, ih, g.1]
theorem tp_len {vs : List (κ × V)} {t : List (κ × D)} (r : TP K F vs t) : vs.length = t.length := Paired.length r
end
theorem key_rep {v : V} {y : D} {k : L2.Key} (r : Rep K F v y) (h : keyOf y = some k) : v = kV k := by
  cases r <;> first | (cases h; rfl) | cases h
theorem keys_all : ∀ {vs : List V} {ds : List D} {ks : List L2.Key}, RepL K F vs ds → keysAll ds = some ks → vs = ks.map kV
  | _, _, ks, .nil, h => by cases h; rfl
  | _, _, ks, .cons (d := d) (ds := ds) h1 h2, h => by
    simp only [keysAll] at h
    split at h
    · rename_i k ks' e1 e2
      cases h
      rw [key_rep h1 e1, keys_all h2 e2, List.map_cons]
    · cases h
theorem keys_rep (hs : Hs K F C H) {v : V} {y : D} {ks : List L2.Key} (r : Rep K F v y) (h : keysOf y = some ks) : ∃ b, v = .ref b ∧ H b = some (.tup (ks.map kV)) := by
  cases r <;> first | cases h | skip
  rename_i a xs ds hq hr
  exact ⟨a, rfl, by rw [← keys_all hr h]; exact hs.ex.nd hq rfl⟩
theorem kvsK_rd (hs : Hs K F C H) {v : V} {x : D} {t : List (L2.Key × D)} (r : Rep K F v x) (h : kvsK x C = some t) : ∃ a vs, v = .ref a ∧ Rd H a (.dK vs) ∧ RepK K F vs t := by
  cases r <;> first | cases h | skip
  · rename_i a
    simp only [kvsK] at h
    split at h
    · rename_i t' hc
      cases h
      obtain ⟨_, vs, h1, h2⟩ := hs.cell a _ hc
      exact ⟨a, vs, rfl, .inl h1, h2⟩
    · rename_i t' hc
      cases h
      obtain ⟨_, h1, h2⟩ := hs.cell a _ hc
      exact ⟨a, _, rfl, .inr ⟨_, h1⟩, h2⟩
    · cases h
  · rename_i a od vs hd hr
    exact ⟨a, vs, rfl, .inr ⟨od, hs.ex.nd hd rfl⟩, hr⟩
theorem kvsT_rd (hs : Hs K F C H) {v : V} {x : D} {t : List (List L2.Key × D)} (r : Rep K F v x) (h : kvsT x C = some t) : ∃ a vs, v = .ref a ∧ Rd H a (.dT vs) ∧ RepT K F vs t := by
  cases r <;> first | cases h | skip
  · rename_i a
    simp only [kvsT] at h
    split at h
    · rename_i t' hc
      cases h
      obtain ⟨_, vs, h1, h2⟩ := hs.cell a _ hc
      exact ⟨a, vs, rfl, .inl h1, h2⟩
    · rename_i t' hc
      cases h
      obtain ⟨_, h1, h2⟩ := hs.cell a _ hc
      exact ⟨a, _, rfl, .inr ⟨_, h1⟩, h2⟩
    · cases h
  · rename_i a od vs hd hr
    exact ⟨a, vs, rfl, .inr ⟨od, hs.ex.nd hd rfl⟩, hr⟩
theorem isDic_rd (hs : Hs K F C H) {v : V} {x : D} (r : Rep K F v x) (h : isDic x C) : ∃ a, v = .ref a ∧ IsD H a := by
  rcases h with h | h
  · obtain ⟨t, e⟩ := Option.isSome_iff_exists.mp h
    obtain ⟨a, vs, h1, h2, _⟩ := kvsK_rd hs r e
    exact ⟨a, h1, .inl ⟨vs, h2⟩⟩
  · obtain ⟨t, e⟩ := Option.isSome_iff_exists.mp h
    obtain ⟨a, vs, h1, h2, _⟩ := kvsT_rd hs r e
    exact ⟨a, h1, .inr ⟨vs, h2⟩⟩
/-- what is found -/
theorem dicGet_rd (hs : Hs K F C H) {v u : V} {x y : D} {o : Option D} (rx : Rep K F v x) (ry : Rep K F u y) (h : dicGet x C y = some o) :
    ∃ a w, v = .ref a ∧ DGet H a u w ∧ ((o = none ∧ w = none) ∨ ∃ z d, o = some d ∧ w = some z ∧ Rep K F z d) := by
  unfold dicGet at h
  split at h
  · rename_i t ht
    obtain ⟨a, vs, h1, h2, h3⟩ := kvsK_rd hs rx ht
    rw [Option.map_eq_some_iff] at h
    obtain ⟨k, hk, ho⟩ := h
    refine ⟨a, _, h1, .inl ⟨vs, k, h2, key_rep ry hk, rfl⟩, ?_⟩
    rcases tp_val h3.pair k with ⟨e1, e2⟩ | ⟨z, d, e1, e2, e3⟩
    · exact .inl ⟨ho.symm.trans e1, e2⟩
    · exact .inr ⟨z, d, ho.symm.trans e1, e2, e3⟩
  · split at h
    · rename_i t ht
      obtain ⟨a, vs, h1, h2, h3⟩ := kvsT_rd hs rx ht
      rw [Option.map_eq_some_iff] at h
      obtain ⟨k, hk, ho⟩ := h
      obtain ⟨b, hb, hb2⟩ := keys_rep hs ry hk
      refine ⟨a, _, h1, .inr ⟨vs, k, b, h2, hb, hb2, rfl⟩, ?_⟩
      rcases tp_val h3.pair k with ⟨e1, e2⟩ | ⟨z, d, e1, e2, e3⟩
      · exact .inl ⟨ho.symm.trans e1, e2⟩
      · exact .inr ⟨z, d, ho.symm.trans e1, e2, e3⟩
    · cases h
end

/-! ### x[y], y in x, x.get(y), x.get(y, z) -/
def dDGet (x : D) (y : D) (C : Cells) (P : DK) : Prop := match dicGet x C y with
  | some (some d) => P d C
  | _ => False
def dDIn (neg : Bool) (y : D) (x : D) (C : Cells) (P : DK) : Prop := match dicGet x C y with
  | some o => P (.bl (neg ^^ o.isSome)) C
  | none => False
def wGet1 (o k : DE) (ρ : DEnv) (C : Cells) (P : DK) (PX : DX) : Prop := o ρ C (fun x C1 => isDic x C1 ∧ k ρ C1 (fun y C2 => match dicGet x C2 y with
  | some u => P (u.getD .non) C2
  | none => False) PX) PX
def wGet2 (o k e : DE) (ρ : DEnv) (C : Cells) (P : DK) (PX : DX) : Prop := o ρ C (fun x C1 => isDic x C1 ∧ k ρ C1 (fun y C2 => e ρ C2 (fun z C3 => match dicGet x C3 y with
  | some u => P (u.getD z) C3
  | none => False) PX) PX) PX
section
variable {X : Cx} {W : WX} {K : PySem.W.Frag} {o i e : Expr} {wo wi we : DE} {pos apos tpos : Pos} {n : Nat}
theorem d_dget (hr : Room n X.A) (ho : PE X o (tE X.K W wo)) (hi : PE X i (tE X.K W wi)) (hs : NoSl i := by exact fun _ _ => rfl) : PE X (.Subscript o i pos) (tE X.K W (wOp dDGet wo wi)) :=
  PE.imp (pe_dget (hu_of hr) ho hi hs) fun σ H Q ⟨F, C, ρ, P, PX, hs, en, xr, w, k⟩ =>
  ⟨F, C, ρ, _, PX, hs, en, xr, w, fun v F1 H1 x C1 e1 h1 rx q => ⟨F1, C1, ρ, _, PX, h1, en.mono e1, xr.mono e1, q, fun u F2 H2 y C2 e2 h2 ry q2 => by
    unfold dDGet at q2
    split at q2
    · rename_i d hd
      obtain ⟨a, w', rfl, g, ⟨e3, _⟩ | ⟨z, d', e3, rfl, rz⟩⟩ := dicGet_rd h2 (rx.mono e2) ry hd
      · cases e3
      · cases e3
        exact ⟨a, z, rfl, g, k z F2 H2 d C2 (e1.trans e2) h2 rz q2⟩
    · exact q2.elim⟩⟩
theorem i_din {neg : Bool} {σ : L2.St} {H : Hp} {Q : VK} (h : tE K W (wOp (dDIn neg) wi wo) σ H Q) : tE K W wi σ H fun y H1 => tE K W wo σ H1 fun x H2 => ∃ a w, x = .ref a ∧ DGet H2 a y w ∧ Q (.bl (neg ^^ w.isSome)) H2 := by
  obtain ⟨F, C, ρ, P, PX, hs, en, xr, w, k⟩ := h
  refine ⟨F, C, ρ, _, PX, hs, en, xr, w, fun v F1 H1 y C1 e1 h1 ry q => ⟨F1, C1, ρ, _, PX, h1, en.mono e1, xr.mono e1, q, fun u F2 H2 x C2 e2 h2 rx q2 => ?_⟩⟩
  unfold dDIn at q2
  split at q2
  · rename_i o hd
    obtain ⟨a, w', rfl, g, hw⟩ := dicGet_rd h2 rx (ry.mono e2) hd
    refine ⟨a, w', rfl, g, k _ F2 H2 _ C2 (e1.trans e2) h2 (.bl _) ?_⟩
    rcases hw with ⟨e3, e4⟩ | ⟨z, d', e3, e4, rz⟩ <;> (subst e3 e4; exact q2)
  · exact q2.elim
theorem c_din (hr : Room n X.A) (hi : PE X i (tE X.K W wi)) (ho : PE X o (tE X.K W wo)) : PC X .In i o (tE X.K W (wOp (dDIn false) wi wo)) := ⟨fun pins s σ H Q I h =>
  (pc_din (hu_of hr) hi ho).run pins s σ H Q I (by
    have z := i_din h
    simp only [Bool.false_xor] at z
    exact z)⟩
theorem c_dnotin (hr : Room n X.A) (hi : PE X i (tE X.K W wi)) (ho : PE X o (tE X.K W wo)) : PC X .NotIn i o (tE X.K W (wOp (dDIn true) wi wo)) := ⟨fun pins s σ H Q I h =>
  (pc_dnotin (hu_of hr) hi ho).run pins s σ H Q I (by
    have z := i_din h
    simp only [Bool.true_xor] at z
    exact z)⟩
theorem d_din (hr : Room n X.A) (hi : PE X i (tE X.K W wi)) (ho : PE X o (tE X.K W wo)) (hb : behindInMarks .In o = false := by rfl) : PE X (.Compare i [.In] [o] pos) (tE X.K W (wOp (dDIn false) wi wo)) := pe_cmp (c_din hr hi ho) hb
theorem d_dnotin (hr : Room n X.A) (hi : PE X i (tE X.K W wi)) (ho : PE X o (tE X.K W wo)) (hb : behindInMarks .NotIn o = false := by rfl) : PE X (.Compare i [.NotIn] [o] pos) (tE X.K W (wOp (dDIn true) wi wo)) := pe_cmp (c_dnotin hr hi ho) hb
theorem d_tdin (hr : Room n X.A) (hi : PE X i (tE X.K W wi)) (ho : PE X o (tE X.K W wo)) (hb : behindInMarks .In o = false := by rfl) : PT X (.Compare i [.In] [o] pos) (tT X.K W (wTest (wOp (dDIn false) wi wo))) :=
  PT.imp (pt_cmp (c_din hr hi ho) hb) fun σ H Q h => i_test h
theorem d_tdnotin (hr : Room n X.A) (hi : PE X i (tE X.K W wi)) (ho : PE X o (tE X.K W wo)) (hb : behindInMarks .NotIn o = false := by rfl) : PT X (.Compare i [.NotIn] [o] pos) (tT X.K W (wTest (wOp (dDIn true) wi wo))) :=
  PT.imp (pt_cmp (c_dnotin hr hi ho) hb) fun σ H Q h => i_test h
theorem dd_get1 (hr : Room n X.A) (ho : PE X o (tE X.K W wo)) (hi : PE X i (tE X.K W wi)) (m : M1 X o "get" apos i pos := by exact ⟨rfl, rfl, rfl, rfl⟩) : PE X (.Call (.Attribute o "get" apos) [i] [] pos) (tE X.K W (wGet1 wo wi)) :=
  PE.imp (pe_dget1 (hu_of hr) ho hi m) fun σ H Q ⟨F, C, ρ, P, PX, hs, en, xr, w, k⟩ =>
  ⟨F, C, ρ, _, PX, hs, en, xr, w, fun v F1 H1 x C1 e1 h1 rx q => by
    obtain ⟨qd, q⟩ := q
    obtain ⟨a, rfl, ha⟩ := isDic_rd h1 rx qd
    refine ⟨a, rfl, ha, F1, C1, ρ, _, PX, h1, en.mono e1, xr.mono e1, q, fun u F2 H2 y C2 e2 h2 ry q2 => ?_⟩
    split at q2
    · rename_i o hd
      obtain ⟨a', w', ea, g, hw⟩ := dicGet_rd h2 (rx.mono e2) ry hd
      cases ea
      refine ⟨w', g, ?_⟩
      rcases hw with ⟨rfl, rfl⟩ | ⟨z, d', rfl, rfl, rz⟩
      · exact k _ F2 H2 _ C2 (e1.trans e2) h2 .non q2
      · exact k _ F2 H2 _ C2 (e1.trans e2) h2 rz q2
    · exact q2.elim⟩
theorem dd_get2 (hr : Room n X.A) (ho : PE X o (tE X.K W wo)) (hi : PE X i (tE X.K W wi)) (he : PE X e (tE X.K W we)) (m : M2 X o "get" apos i e pos := by exact ⟨rfl, rfl, rfl, rfl⟩) : PE X (.Call (.Attribute o "get" apos) [i, e] [] pos) (tE X.K W (wGet2 wo wi we)) :=
  PE.imp (pe_dget2 (hu_of hr) ho hi he m) fun σ H Q ⟨F, C, ρ, P, PX, hs, en, xr, w, k⟩ =>
  ⟨F, C, ρ, _, PX, hs, en, xr, w, fun v F1 H1 x C1 e1 h1 rx q => by
    obtain ⟨qd, q⟩ := q
    obtain ⟨a, rfl, ha⟩ := isDic_rd h1 rx qd
    refine ⟨a, rfl, ha, F1, C1, ρ, _, PX, h1, en.mono e1, xr.mono e1, q, fun u F2 H2 y C2 e2 h2 ry q2 => ⟨F2, C2, ρ, _, PX, h2, en.mono (e1.trans e2), xr.mono (e1.trans e2), q2, fun z F3 H3 dz C3 e3 h3 rz q3 => ?_⟩⟩
    split at q3
    · rename_i o hd
      obtain ⟨a', w', ea, g, hw⟩ := dicGet_rd h3 (rx.mono (e2.trans e3)) (ry.mono e3) hd
      cases ea
      refine ⟨w', g, ?_⟩
      have ee := (e1.trans e2).trans e3
      rcases hw with ⟨rfl, rfl⟩ | ⟨z, d', rfl, rfl, rz'⟩
      · exact k _ F3 H3 _ C3 ee h3 rz q3
      · exact k _ F3 H3 _ C3 ee h3 rz' q3
    · exact q3.elim⟩
end

/-! ### stores -/
def dicPut (x y d : D) (C : Cells) (P : Cells → Prop) : Prop := match x with
  | .ptr a => match C a with
    | some (.dK t) => match keyOf y with
      | some k => t.length < 100000 ∧ P (cput C a (.dK (puD t k d)))
      | none => False
    | some (.dT t) => match keysOf y with
      | some k => t.length < 100000 ∧ P (cput C a (.dT (puD t k d)))
      | none => False
    | _ => False
  | _ => False
def wSetD (o i e : DE) (E : DEnds) (ρ : DEnv) (C : Cells) : Prop := e ρ C (fun d C1 => o ρ C1 (fun x C2 => i ρ C2 (fun y C3 => dicPut x y d C3 fun C4 => E.nx ρ C4) E.ex) E.ex) E.ex
def wDelD (o i : DE) (E : DEnds) (ρ : DEnv) (C : Cells) : Prop := o ρ C (fun x C1 => i ρ C1 (fun y C2 => match x with
  | .ptr a => match C2 a with
    | some (.dK t) => match keyOf y with
      | some k => (vaD t k).isSome = true ∧ E.nx ρ (cput C2 a (.dK (drD t k)))
      | none => False
    | _ => False
  | _ => False) E.ex) E.ex
/-- {}: its keys numbers and texts; tuples -/
def wNewK (_ : DEnv) (C : Cells) (P : DK) (_ : DX) : Prop := ∀ p, C p = none → P (.ptr p) (cput C p (.dK []))
def wNewT (_ : DEnv) (C : Cells) (P : DK) (_ : DX) : Prop := ∀ p, C p = none → P (.ptr p) (cput C p (.dT []))
/-- {} that is not written at -/
def wNew0 (_ : DEnv) (C : Cells) (P : DK) (_ : DX) : Prop := P (.dK []) C
section
variable {X : Cx} {W : WX} {K : PySem.W.Frag} {o i e : Expr} {wo wi we : DE} {pos pos' tpos : Pos} {n : Nat}
theorem dicPut_ok {F H : Hp} {C : Cells} {v u z : V} {x y d : D} {P : Cells → Prop} (hs : Hs K F C H) (rx : Rep K F v x) (ry : Rep K F u y) (rz : Rep K F z d) (h : dicPut x y d C P) : ∃ a H' C', v = .ref a ∧ DPut H a u z H' ∧ Hs K F C' H' ∧ P C' := by
  unfold dicPut at h
  split at h
  · rename_i a
    cases rx
    split at h
    · rename_i t hc
      split at h
      · rename_i k hk
        obtain ⟨f0, vs, h1, h2⟩ := hs.cell a _ hc
        refine ⟨a, _, _, rfl, .inl ⟨vs, k, h1, key_rep ry hk, ?_, rfl⟩, hs.put (c := .dK (puD t k d)) f0 ⟨_, upd_same, RepK.of (tp_put h2.pair k rz)⟩, h.2⟩
        rw [tp_len h2.pair]
        exact sz_lt h.1
      · exact h.elim
    · rename_i t hc
      split at h
      · rename_i k hk
        obtain ⟨f0, vs, h1, h2⟩ := hs.cell a _ hc
        obtain ⟨b, hb, hb2⟩ := keys_rep hs ry hk
        refine ⟨a, _, _, rfl, .inr ⟨vs, k, b, h1, hb, hb2, ?_, rfl⟩, hs.put (c := .dT (puD t k d)) f0 ⟨_, upd_same, RepT.of (tp_put h2.pair k rz)⟩, h.2⟩
        rw [tp_len h2.pair]
        exact sz_lt h.1
      · exact h.elim
    · exact h.elim
  · exact h.elim
theorem ds_setD (hr : Room n X.A) (ho : PE X o (tE X.K W wo)) (hi : PE X i (tE X.K W wi)) (he : PE X e (tE X.K W we)) (hs : swapsWith e (some (.Subscript o i pos')) pos.line X.env = pure false := by rfl) :
    PS X (.Assign [.Subscript o i pos'] e pos) (tS X.K W (wSetD wo wi we)) := PS.imp (ps_dput (hu_of hr) ho hi he hs) fun Dn σ H ⟨F, C, ρ, DE, hs, en, xr, w, er⟩ =>
  ⟨F, C, ρ, _, _, hs, en, xr, w, fun z F1 H1 d C1 e1 h1 rz q => ⟨F1, C1, ρ, _, _, h1, en.mono e1, xr.mono e1, q, fun v F2 H2 x C2 e2 h2 rx q2 => ⟨F2, C2, ρ, _, _, h2, en.mono (e1.trans e2), xr.mono (e1.trans e2), q2, fun u F3 H3 y C3 e3 h3 ry q3 => by
    obtain ⟨a, H4, C4, rfl, g, h4, q4⟩ := dicPut_ok h3 (rx.mono e3) ry (rz.mono (e2.trans e3)) q3
    have ee := (e1.trans e2).trans e3
    exact ⟨a, H4, rfl, g, er.nx σ F3 H4 ρ C4 ee h4 (en.mono ee) q4⟩⟩⟩⟩
theorem ds_delD (ho : PE X o (tE X.K W wo)) (hi : PE X i (tE X.K W wi)) : PS X (.Delete [.Subscript o i tpos] pos) (tS X.K W (wDelD wo wi)) := PS.imp (ps_ddel ho hi) fun Dn σ H ⟨F, C, ρ, DE, hs, en, xr, w, er⟩ =>
  ⟨F, C, ρ, _, _, hs, en, xr, w, fun v F1 H1 x C1 e1 h1 rx q => ⟨F1, C1, ρ, _, _, h1, en.mono e1, xr.mono e1, q, fun u F2 H2 y C2 e2 h2 ry q2 => by
    split at q2
    · rename_i a
      cases rx
      split at q2
      · rename_i t hc
        split at q2
        · rename_i k hk
          obtain ⟨f0, vs, g1, g2⟩ := h2.cell a _ hc
          refine ⟨a, vs, k, rfl, g1, key_rep ry hk, ?_, er.nx σ F2 _ ρ _ (e1.trans e2) (h2.put (c := .dK (drD t k)) f0 ⟨_, upd_same, RepK.of (tp_drop g2.pair k)⟩) (en.mono (e1.trans e2)) q2.2⟩
          rcases tp_val g2.pair k with ⟨z1, z2⟩ | ⟨_, _, z1, z2, _⟩
          · have := q2.1
            rw [z1] at this
            cases this
          · rw [z2]; rfl
        · exact q2.elim
      · exact q2.elim
    · exact q2.elim⟩⟩
theorem d_newK : PE X (.Dict [] [] pos) (tE X.K W wNewK) := PE.imp pe_dnewK fun σ H Q ⟨F, C, ρ, P, PX, hs, en, xr, w, k⟩ => fun p hp =>
  k _ F _ _ _ (Ex.refl F) (hs.put (c := .dK []) (hs.fresh hp).1 ⟨[], upd_same, .nil⟩) (.ptr p) (w p (hs.fresh hp).2)
theorem d_newT : PE X (.Dict [] [] pos) (tE X.K W wNewT) := PE.imp pe_dnewT fun σ H Q ⟨F, C, ρ, P, PX, hs, en, xr, w, k⟩ => fun p hp =>
  k _ F _ _ _ (Ex.refl F) (hs.put (c := .dT []) (hs.fresh hp).1 ⟨[], upd_same, .nil⟩) (.ptr p) (w p (hs.fresh hp).2)
theorem d_new0 : PE X (.Dict [] [] pos) (tE X.K W wNew0) := PE.imp (pe_fz pe_dnewK) fun σ H Q ⟨F, C, ρ, P, PX, hs, en, xr, w, k⟩ => fun p hp => .inr ⟨p, _, upd_same, trivial, fun od => by
  obtain ⟨e, h2⟩ := hs.lay (o := .frz od (.dK [])) hp
  rw [upd_upd]
  exact k _ _ _ _ C e h2 (.dK upd_same .nil) w⟩
end
end DD

set_option Elab.async false
set_option linter.all false
set_option maxRecDepth 100000
set_option maxHeartbeats 4000000
/-! Dicts: walks, locks, len, dict(..), sorted(..). -/
namespace DD
open PySem L2 PyProof.Rows

def keyTD (ks : List L2.Key) : D := .tup (ks.map keyD)
section
variable {K : PySem.W.Frag} {F H : Hp} {C : Cells}
theorem rep_key (k : L2.Key) : Rep K F (kV k) (keyD k) := by
  cases k with
  | inl i => exact .int i
  | inr z => exact .str z
theorem rep_keys : ∀ ks : List L2.Key, RepL K F (ks.map kV) (ks.map keyD)
  | [] => .nil
  | k :: r => .cons (rep_key k) (rep_keys r)
/-- a tuple that stands is data -/
theorem Hs.adopt (h : Hs K F C H) {q : Addr} {xs : List V} (hq : H q = some (.tup xs)) : ∃ F2, Ex F F2 ∧ Hs K F2 C H ∧ F2 q = some (.tup xs) := by
  cases e : F q with
  | some u =>
    have : u = .tup xs := by
      rcases h.ex q u e with z | ⟨_, od, z⟩
      · rw [hq] at z; exact (Option.some.inj z).symm
      · rw [hq] at z; cases z
    exact ⟨F, Ex.refl F, h, by rw [e, this]⟩
  | none =>
    have c0 : C q = none := by
      cases c : C q with
      | none => rfl
      | some c1 =>
        obtain ⟨_, r⟩ := h.cell q _ c
        cases c1 <;> first
          | (obtain ⟨_, z, _⟩ := r; rw [hq] at z; cases z)
          | (obtain ⟨_, _, z, _⟩ := r; rw [hq] at z; cases z)
          | (obtain ⟨z, _⟩ := r; rw [hq] at z; cases z)
    refine ⟨upd F q (.tup xs), Ex.new e, ⟨fun a u z => ?_, fun a c z => ?_⟩, upd_same⟩
    · by_cases ne : a = q
      · subst ne; rw [upd_same] at z; cases z; exact .inl hq
      · rw [upd_ne ne] at z; exact h.ex a u z
    · have ne : a ≠ q := cell_ne z c0
      obtain ⟨f1, r⟩ := h.cell a c z
      exact ⟨by rw [upd_ne ne]; exact f1, r.ex (Ex.new e)⟩
theorem Hs.adopts (h : Hs K F C H) : ∀ {vs : List (List L2.Key × V)} {bs : List Addr}, IsKeys H vs bs → ∃ F2, Ex F F2 ∧ Hs K F2 C H ∧ RepL K F2 (bs.map V.ref) (vs.map fun p => keyTD p.1) := by
  intro vs bs r
  unfold IsKeys at r
  induction r with
  | nil => exact ⟨F, Ex.refl F, h, .nil⟩
  | @cons p b _ _ g _ ih =>
    obtain ⟨F2, e2, h2, r2⟩ := ih
    obtain ⟨F3, e3, h3, f3⟩ := h2.adopt g
    exact ⟨F3, e2.trans e3, h3, .cons (.tup f3 (rep_keys p.1)) (r2.mono e3)⟩
end

/-! ### what is walked -/
def wItK (e : DE) (ρ : DEnv) (C : Cells) (P : DIt → Cells → Prop) (PX : DX) : Prop := e ρ C (fun d C1 => match d with
  | .dK t => P ⟨t.map fun p => keyD p.1, frozen⟩ C1
  | .dT t => P ⟨t.map fun p => keyTD p.1, frozen⟩ C1
  | .ptr a => match C1 a with
    | some (.lK t od vs) => P ⟨t.map fun p => keyD p.1, fun C' => C' a = some (.lK t od vs)⟩ C1
    | some (.lT t od vs) => P ⟨t.map fun p => keyTD p.1, fun C' => C' a = some (.lT t od vs)⟩ C1
    | _ => False
  | _ => False) PX
section
variable {K : PySem.W.Frag} {F : Hp} {a : Addr} {od : Obj}
theorem itk_at {vs : List (L2.Key × V)} {t : List (L2.Key × D)} {st : Cells → Prop} (r : RepK K F vs t) (hl : ∀ F' H C, Ex F F' → Hs K F' C H → st C → H a = some (.frz od (.dK vs))) : ItR K F (Itk a od vs) ⟨t.map fun p => keyD p.1, st⟩ := fun F' H C e hs hc => by
  have hH := hl F' H C e hs hc
  have ln := tp_len r.pair
  refine ⟨fun i d hd => ?_, hH, by show vs.length ≤ (t.map _).length; rw [List.length_map, ln]; exact Nat.le_refl _⟩
  have hi : i < t.length := by
    have := (List.getElem?_eq_some_iff.mp hd).1
    simpa using this
  refine ⟨⟨hH, by rw [ln]; exact hi⟩, fun x H' y => ?_⟩
  obtain ⟨rfl, k, v, hk, rfl⟩ := y
  refine ⟨F', Ex.refl _, hs, ?_⟩
  have ek : (vs.map (·.1))[i]? = some k := by rw [List.getElem?_map, hk]; rfl
  rw [tp_keys r.pair, List.getElem?_map] at ek
  have hd' : (t.map fun p => keyD p.1)[i]? = some d := hd
  rw [List.getElem?_map] at hd'
  cases ht : t[i]? with
  | none => rw [ht] at hd'; cases hd'
  | some p =>
    rw [ht] at ek hd'
    cases ek; cases hd'
    exact rep_key p.1
theorem itkt_at {vs : List (List L2.Key × V)} {t : List (List L2.Key × D)} {st : Cells → Prop} (r : RepT K F vs t) (hl : ∀ F' H C, Ex F F' → Hs K F' C H → st C → H a = some (.frz od (.dT vs))) : ItR K F (Itkt a od vs) ⟨t.map fun p => keyTD p.1, st⟩ := fun F' H C e hs hc => by
  have hH := hl F' H C e hs hc
  have ln := tp_len r.pair
  refine ⟨fun i d hd => ?_, hH, by show vs.length ≤ (t.map _).length; rw [List.length_map, ln]; exact Nat.le_refl _⟩
  have hi : i < t.length := by
    have := (List.getElem?_eq_some_iff.mp hd).1
    simpa using this
  refine ⟨⟨hH, by rw [ln]; exact hi⟩, fun x H' y => ?_⟩
  obtain ⟨rfl, k, v, q, hk, rfl, hq⟩ := y
  obtain ⟨F2, e2, h2, f2⟩ := hs.adopt hq
  refine ⟨F2, e2, h2, ?_⟩
  have ek : (vs.map (·.1))[i]? = some k := by rw [List.getElem?_map, hk]; rfl
  rw [tp_keys r.pair, List.getElem?_map] at ek
  have hd' : (t.map fun p => keyTD p.1)[i]? = some d := hd
  rw [List.getElem?_map] at hd'
  cases ht : t[i]? with
  | none => rw [ht] at hd'; cases hd'
  | some p =>
    rw [ht] at ek hd'
    cases ek; cases hd'
    exact .tup f2 (rep_keys p.1)
end
section
variable {X : Cx} {W : WX} {e tg : Expr} {we : DE}
theorem di_keys (he : PE X e (tE X.K W we)) : PI X tg e (tI X.K W (wItK we)) := PI.imp (pi_keys he) fun σ H R ⟨F, C, ρ, P, PX, hs, en, xr, w, k⟩ =>
  ⟨F, C, ρ, _, PX, hs, en, xr, w, fun v F1 H1 d C1 e1 h1 r q => by
    cases r <;> first | exact q.elim | skip
    · rename_i a
      revert q
      dsimp only
      split
      · rename_i t od vs hc
        intro q
        obtain ⟨_, g1, g2⟩ := h1.cell a _ hc
        exact ⟨a, od, rfl, .inl ⟨vs, g1, k _ F1 H1 _ C1 e1 h1 (itk_at g2 fun F' H' C' _ h' hc' => (h'.cell a (.lK t od vs) hc').2.1) q⟩⟩
      · rename_i t od vs hc
        intro q
        obtain ⟨_, g1, g2⟩ := h1.cell a _ hc
        exact ⟨a, od, rfl, .inr ⟨vs, g1, k _ F1 H1 _ C1 e1 h1 (itkt_at g2 fun F' H' C' _ h' hc' => (h'.cell a (.lT t od vs) hc').2.1) q⟩⟩
      · exact fun z => z.elim
    · rename_i a od vs t hf hr
      exact ⟨a, od, rfl, .inl ⟨vs, h1.ex.nd hf rfl, k _ F1 H1 _ C1 e1 h1 (itk_at hr fun F' H' C' e' h' _ => h'.ex.nd (e'.nd hf rfl) rfl) q⟩⟩
    · rename_i a od vs t hf hr
      exact ⟨a, od, rfl, .inr ⟨vs, h1.ex.nd hf rfl, k _ F1 H1 _ C1 e1 h1 (itkt_at hr fun F' H' C' e' h' _ => h'.ex.nd (e'.nd hf rfl) rfl) q⟩⟩⟩
end

/-! ### a dict locked while a statement, an expression runs -/
abbrev Pth := DEnv → Cells → Option D
def pVar (i : Nat) : Pth := fun ρ _ => match (ρ[i]? : Option (Option D)) with
  | some (some d) => some d
  | _ => none
def pFld (Cl : Addr) (f : String) (g : Pth) : Pth := fun ρ C => match g ρ C with
  | some x => fldOf Cl f x C
  | none => none
def unl (E : DEnds) (a : Addr) (c c' : Cell) : DEnds := { nx := fun ρ' C' => C' a = some c ∧ E.nx ρ' (cput C' a c'), rt := fun d C' => C' a = some c ∧ E.rt d (cput C' a c'), bk := fun ρ' C' => C' a = some c ∧ E.bk ρ' (cput C' a c'), ct := fun ρ' C' => C' a = some c ∧ E.ct ρ' (cput C' a c'), ex := E.ex }
def wLockS (g : Pth) (w : DS) (E : DEnds) (ρ : DEnv) (C : Cells) : Prop := match g ρ C with
  | some (.ptr a) => match C a with
    | some (.dK t) => ∀ od vs, w (unl E a (.lK t od vs) (.dK t)) ρ (cput C a (.lK t od vs))
    | some (.dT t) => ∀ od vs, w (unl E a (.lT t od vs) (.dT t)) ρ (cput C a (.lT t od vs))
    | _ => w E ρ C
  | _ => w E ρ C
def wLockE (g : Pth) (w : DE) (ρ : DEnv) (C : Cells) (P : DK) (PX : DX) : Prop := match g ρ C with
  | some (.ptr a) => match C a with
    | some (.dK t) => ∀ od vs, w ρ (cput C a (.lK t od vs)) (fun d C' => C' a = some (.lK t od vs) ∧ P d (cput C' a (.dK t))) PX
    | some (.dT t) => ∀ od vs, w ρ (cput C a (.lT t od vs)) (fun d C' => C' a = some (.lT t od vs) ∧ P d (cput C' a (.dT t))) PX
    | _ => w ρ C P PX
  | _ => w ρ C P PX
section
variable {X : Cx} {W : WX} {K : PySem.W.Frag} {st : Stmt} {e : Expr}
theorem ps_or {t1 t2 : TS} (h1 : PS X st t1) (h2 : PS X st t2) : PS X st (fun D σ H => t1 D σ H ∨ t2 D σ H) := ⟨fun pins s σ H D I w => w.elim (h1.run pins s σ H D I) (h2.run pins s σ H D I)⟩
theorem pe_or {t1 t2 : TE} (h1 : PE X e t1) (h2 : PE X e t2) : PE X e (fun σ H Q => t1 σ H Q ∨ t2 σ H Q) := ⟨fun pins s σ H Q I w => w.elim (h1.run pins s σ H Q I) (h2.run pins s σ H Q I)⟩
theorem unl_ends {F : Hp} {E : DEnds} {D : Ends} {a : Addr} {c c' : Cell} {od : Obj} {u : HO} (er : EndsR K F E D) (hc : ∀ F' H', Ex F F' → RepC K F' H' a c → H' a = some (.frz od u) ∧ RepC K F' (upd H' a u) a c') :
    EndsR K F (unl E a c c') ⟨fun σ' H' => H' a = some (.frz od u) ∧ D.nx σ' (upd H' a u), fun v H' => H' a = some (.frz od u) ∧ D.rt v (upd H' a u), fun σ' H' => H' a = some (.frz od u) ∧ D.bk σ' (upd H' a u), fun σ' H' => H' a = some (.frz od u) ∧ D.ct σ' (upd H' a u)⟩ :=
  ⟨fun σ' F' H' ρ' C' e' h' n' ⟨hq, q⟩ => by
    obtain ⟨f0, r⟩ := h'.cell a _ hq
    obtain ⟨z1, z2⟩ := hc F' H' e' r
    exact ⟨z1, er.nx σ' F' _ ρ' _ e' (h'.put f0 z2) n' q⟩,
  fun v F' H' d C' e' h' rv ⟨hq, q⟩ => by
    obtain ⟨f0, r⟩ := h'.cell a _ hq
    obtain ⟨z1, z2⟩ := hc F' H' e' r
    exact ⟨z1, er.rt v F' _ d _ e' (h'.put f0 z2) rv q⟩,
  fun σ' F' H' ρ' C' e' h' n' ⟨hq, q⟩ => by
    obtain ⟨f0, r⟩ := h'.cell a _ hq
    obtain ⟨z1, z2⟩ := hc F' H' e' r
    exact ⟨z1, er.bk σ' F' _ ρ' _ e' (h'.put f0 z2) n' q⟩,
  fun σ' F' H' ρ' C' e' h' n' ⟨hq, q⟩ => by
    obtain ⟨f0, r⟩ := h'.cell a _ hq
    obtain ⟨z1, z2⟩ := hc F' H' e' r
    exact ⟨z1, er.ct σ' F' _ ρ' _ e' (h'.put f0 z2) n' q⟩⟩
theorem ds_lock (g : Pth) {w : DS} (h : PS X st (tS X.K W w)) : PS X st (tS X.K W (wLockS g w)) := PS.imp (ps_or h (ps_lock h)) fun D σ H ⟨F, C, ρ, DE, hs, en, xr, q, er⟩ => by
  have go : w DE ρ C → tS X.K W w D σ H := fun q => ⟨F, C, ρ, DE, hs, en, xr, q, er⟩
  unfold wLockS at q
  split at q
  · rename_i a _
    split at q
    · rename_i t hc
      obtain ⟨f0, vs, h1, r⟩ := hs.cell a _ hc
      refine .inr ⟨a, .dK vs, h1, trivial, fun od => ⟨F, _, ρ, unl DE a (.lK t od vs) (.dK t), hs.put (c := .lK t od vs) f0 ⟨upd_same, r⟩, en, xr, q od vs, ?_⟩⟩
      exact unl_ends er fun F' H' e' z => ⟨z.1, vs, upd_same, z.2⟩
    · rename_i t hc
      obtain ⟨f0, vs, h1, r⟩ := hs.cell a _ hc
      refine .inr ⟨a, .dT vs, h1, trivial, fun od => ⟨F, _, ρ, unl DE a (.lT t od vs) (.dT t), hs.put (c := .lT t od vs) f0 ⟨upd_same, r⟩, en, xr, q od vs, ?_⟩⟩
      exact unl_ends er fun F' H' e' z => ⟨z.1, vs, upd_same, z.2⟩
    · exact .inl (go q)
  · exact .inl (go q)
theorem d_lock (g : Pth) {w : DE} (h : PE X e (tE X.K W w)) : PE X e (tE X.K W (wLockE g w)) := PE.imp (pe_or h (pe_lock h)) fun σ H Q ⟨F, C, ρ, P, PX, hs, en, xr, q, k⟩ => by
  have go : w ρ C P PX → tE X.K W w σ H Q := fun q => ⟨F, C, ρ, P, PX, hs, en, xr, q, k⟩
  unfold wLockE at q
  split at q
  · rename_i a _
    split at q
    · rename_i t hc
      obtain ⟨f0, vs, h1, r⟩ := hs.cell a _ hc
      refine .inr ⟨a, .dK vs, h1, trivial, fun od => ⟨F, _, ρ, _, PX, hs.put (c := .lK t od vs) f0 ⟨upd_same, r⟩, en, xr, q od vs, fun v F' H' d C' e' h' rv ⟨hq, q'⟩ => ?_⟩⟩
      obtain ⟨g0, g1, g2⟩ := h'.cell a _ hq
      exact ⟨g1, k v F' _ d _ e' (h'.put (c := .dK t) g0 ⟨vs, upd_same, g2⟩) rv q'⟩
    · rename_i t hc
      obtain ⟨f0, vs, h1, r⟩ := hs.cell a _ hc
      refine .inr ⟨a, .dT vs, h1, trivial, fun od => ⟨F, _, ρ, _, PX, hs.put (c := .lT t od vs) f0 ⟨upd_same, r⟩, en, xr, q od vs, fun v F' H' d C' e' h' rv ⟨hq, q'⟩ => ?_⟩⟩
      obtain ⟨g0, g1, g2⟩ := h'.cell a _ hq
      exact ⟨g1, k v F' _ d _ e' (h'.put (c := .dT t) g0 ⟨vs, upd_same, g2⟩) rv q'⟩
    · exact .inl (go q)
  · exact .inl (go q)
end

/-! ### len, dict(..), list(..) -/
def rLenDic : List V → Hp → VK → Prop := fun xs H Q => ∃ (p : Addr) (n : Nat), xs = [.ref p] ∧ ((∃ t : List (L2.Key × V), Rd H p (.dK t) ∧ n = t.length) ∨ ∃ t : List (List L2.Key × V), Rd H p (.dT t) ∧ n = t.length) ∧ Q (.int ((n : Nat) : Int)) H
theorem cr_lenDic {X : Cx} : CallR X (.builtin "len") rLenDic := by
  intro pins s σ H xs us Q I r h
  obtain ⟨p, n, rfl, hp, q⟩ := h
  rw [Vals.ref1 r]
  rcases hp with ⟨t, hp, rfl⟩ | ⟨t, hp, rfl⟩
  · exact d_len I hp fun tk s' I' => ⟨.int _, H, I', ⟨tk, rfl⟩, q⟩
  · obtain ⟨z, hd, ys, rel, dd⟩ := dt_rd I.hok hp
    have e : t.length = ys.length := Paired.length rel
    refine call_len_dictH hd dd (by rw [← e]; rw [sizeLine_eq] at z; omega) ?_
    rw [← e]
    exact ⟨.int _, H, I.tok _, ⟨_, rfl⟩, q⟩
def dLenDic (ds : List D) (C : Cells) (P : DK) : Prop := match ds with
  | [x] => match kvsK x C with
    | some t => P (.int (t.length : Nat)) C
    | none => match kvsT x C with
      | some t => P (.int (t.length : Nat)) C
      | none => False
  | _ => False
def dDictC (ds : List D) (C : Cells) (P : DK) : Prop := match ds with
  | [x] => match kvsK x C with
    | some t => ∀ p, C p = none → P (.ptr p) (cput C p (.dK t))
    | none => False
  | _ => False
def dKeyList (own : Bool) (ds : List D) (C : Cells) (P : DK) : Prop := match ds with
  | [x] => match kvsK x C with
    | some t => if own = true then ∀ p, C p = none → P (.ptr p) (cput C p (.lst (t.map fun p => keyD p.1))) else P (.lst (t.map fun p => keyD p.1)) C
    | none => False
  | _ => False
section
variable {K : PySem.W.Frag}
theorem s_lenDic : SimA K rLenDic dLenDic := fun F C H xs ds P Q hs r w k => by
  unfold dLenDic at w
  split at w
  · obtain ⟨v, rfl, r1⟩ := r.one
    split at w
    · rename_i t ht
      obtain ⟨a, vs, rfl, h2, h3⟩ := kvsK_rd hs r1 ht
      exact ⟨a, _, rfl, .inl ⟨vs, h2, (tp_len h3.pair).symm⟩, k _ F H _ C (Ex.refl F) hs (.int _) w⟩
    · split at w
      · rename_i t ht
        obtain ⟨a, vs, rfl, h2, h3⟩ := kvsT_rd hs r1 ht
        exact ⟨a, _, rfl, .inr ⟨vs, h2, (tp_len h3.pair).symm⟩, k _ F H _ C (Ex.refl F) hs (.int _) w⟩
      · exact w.elim
  · exact w.elim
theorem s_dictC : SimA K (fun xs H Q => ∃ (a : Addr) (t : List (L2.Key × V)), xs = [.ref a] ∧ Rd H a (.dK t) ∧ ∀ p, H p = none → Q (.ref p) (upd H p (.dK t))) dDictC := fun F C H xs ds P Q hs r w k => by
  unfold dDictC at w
  split at w
  · obtain ⟨v, rfl, r1⟩ := r.one
    split at w
    · rename_i t ht
      obtain ⟨a, vs, rfl, h2, h3⟩ := kvsK_rd hs r1 ht
      refine ⟨a, vs, rfl, h2, fun p hp => ?_⟩
      obtain ⟨f0, c0⟩ := hs.fresh hp
      exact k _ F _ _ _ (Ex.refl F) (hs.put (c := .dK t) f0 ⟨vs, upd_same, h3⟩) (.ptr p) (w p c0)
    · exact w.elim
  · exact w.elim
theorem rep_keyl : ∀ {F : Hp} {vs : List (L2.Key × V)} {t : List (L2.Key × D)}, RepK K F vs t → RepL K F (vs.map fun p => kV p.1) (t.map fun p => keyD p.1)
  | _, _, _, .nil => .nil
  | _, _, _, .cons _ r => .cons (rep_key _) (rep_keyl r)
theorem s_keyList (own : Bool) : SimA K (fun xs H Q => ∃ (a : Addr) (t : List (L2.Key × V)), xs = [.ref a] ∧ Rd H a (.dK t) ∧ ∀ p, H p = none → Q (.ref p) (upd H p (.lst (t.map fun kv => kV kv.1)))) (dKeyList own) := fun F C H xs ds P Q hs r w k => by
  unfold dKeyList at w
  split at w
  · obtain ⟨v, rfl, r1⟩ := r.one
    split at w
    · rename_i t ht
      obtain ⟨a, vs, rfl, h2, h3⟩ := kvsK_rd hs r1 ht
      refine ⟨a, vs, rfl, h2, fun p hp => ?_⟩
      cases own with
      | true =>
        rw [if_pos rfl] at w
        obtain ⟨c0, h4⟩ := hs.newC (rep_keyl h3) hp
        exact k _ F _ _ _ (Ex.refl F) h4 (.ptr p) (w p c0)
      | false =>
        rw [if_neg (by decide)] at w
        obtain ⟨e4, h4, r4⟩ := hs.newL (rep_keyl h3) hp
        exact k _ _ _ _ C e4 h4 r4 w
    · exact w.elim
  · exact w.elim
end
end DD

set_option Elab.async false
set_option linter.all false
set_option maxRecDepth 100000
set_option maxHeartbeats 4000000
/-! Dicts: sorted keys; == . -/
namespace DD
open PySem L2 PyProof.Rows PySem.W

def keyP : L2.Key → PyData
  | .inl i => .int i
  | .inr z => .str z
theorem keyP_py (k : L2.Key) : (keyD k).py = keyP k := by cases k <;> simp [keyD, keyP, D.py]
theorem key_reads {h : Heap} {k : L2.Key} {u : Value} (r : RelV (kV k) u) : Reads h u (keyP k) [] := by
  cases k with
  | inl i => obtain ⟨t, rfl⟩ := (show ∃ t, u = Value.int i t from r); exact .int i t
  | inr z => obtain ⟨t, rfl⟩ := (show ∃ t, u = Value.str z t from r); exact .str z t
theorem keys_reads {h : Heap} : ∀ {ks : List L2.Key} {us : List Value}, Vals (ks.map kV) us → ReadsAll h us (ks.map keyP) []
  | [], _, .nil => .nil
  | _ :: _, _, .cons a b => .cons (key_reads a) (keys_reads b)
theorem tupk_reads {P : Program} {w : World} {H : Hp} {h : Heap} {q : Addr} {ks : List L2.Key} (ok : HOk P w H h) (e : H q = some (.tup (ks.map kV))) : Reads h (.ref q) (.tuple (ks.map keyP)) [] := by
  obtain ⟨_, its, r, o, h1, h2, n, h3⟩ := (show ObjOk P w H h q (.tup (ks.map kV)) from ok q _ e)
  exact .tuple h1 h2 h3 (keys_reads (by simpa using r))
/-- what is sorted: values that read as ps, none of them a list -/
inductive Keys (h : Heap) : List V → List PyData → List Value → Prop
  | nil : Keys h [] [] []
  | cons {x : V} {p : PyData} {u : Value} {xs : List V} {ps : List PyData} {us : List Value} : RelV x u → Reads h u p [] → Keys h xs ps us → Keys h (x :: xs) (p :: ps) (u :: us)
theorem Keys.rel {h : Heap} {xs : List V} {ps : List PyData} {us : List Value} (k : Keys h xs ps us) : EachIs (fun v (b : V × PyData) => RelV b.1 v) us (xs.zip ps) := by
  induction k with
  | nil => exact .nil
  | cons a _ _ ih => exact .cons a ih
theorem Keys.rd {h h' : Heap} {a : Addr} (kp : ∀ b o, h.get? b = some o → h'.get? b = some o) {xs : List V} {ps : List PyData} {us : List Value} (k : Keys h xs ps us) : EachIs (fun v (b : V × PyData) => ∃ as, Reads h' v b.2 as ∧ a ∉ as) us (xs.zip ps) := by
  induction k with
  | nil => exact .nil
  | cons _ b _ ih => exact .cons ⟨[], PyProof.Rows.Reads.keeps kp b, by simp⟩ ih
theorem Keys.len {h : Heap} {xs : List V} {ps : List PyData} {us : List Value} (k : Keys h xs ps us) : xs.length = ps.length ∧ us.length = ps.length := by
  induction k with
  | nil => exact ⟨rfl, rfl⟩
  | cons _ _ _ ih => exact ⟨congrArg (· + 1) ih.1, congrArg (· + 1) ih.2⟩
theorem Keys.snd {h : Heap} {xs : List V} {ps : List PyData} {us : List Value} (k : Keys h xs ps us) : (xs.zip ps).map Prod.snd = ps := zip_snd k.len.1
/-- the new list is sorted -/
theorem sort_new {X : Cx} {pins : List (Addr × Obj)} {σ : L2.St} {H : Hp} {s : Shared} {xs : List V} {ps : List PyData} {acc : List Value} {Q : VK} {E : Value → Shared → Prop} (hu : X.A.units + 64 < cLine) (I : Inv X pins σ H s) (k : Keys s.heap xs ps acc) (hal : AllAlike ps) (hk : Sortable ps) (hd : ∀ d ∈ ps, d.depth ≤ 60)
    (hz : ps.length ≤ sizeLine) (q : ∀ p, H p = none → Q (.ref p) (upd H p (.lst (((xs.zip ps).mergeSort (dataLe false Prod.snd)).map Prod.fst)))) :
    wpAny (model X.prog X.w) X.A.in1 (do
      let l ← newList acc
      let _ ← holding [l] (call (.builtin "list.sort") [l])
      ret l) (fun f s' => ∃ v, f = .done (.ret v) ∧ ∃ x H', Inv X pins σ H' s' ∧ RelV x v ∧ Q x H') E s := by
  obtain ⟨l1, l2⟩ := k.len
  refine wpAny_bind (wpAny_newList ?_ (by rw [l2]; exact hz))
  have ho : (s.heap.push (seqObj "list" acc.toArray 0)).get? s.heap.objs.size = some (seqObj "list" acc.toArray 0) := Heap.get?_push_size _ rfl
  refine wpAny_bind (wpAny_holding (list_sort_data (bs := xs.zip ps) (enc := Prod.snd) (R := fun v b => RelV b.1 v) (s := { s with heap := s.heap.push (seqObj "list" acc.toArray 0) }) ho k.rel (k.rd fun _ _ e => Heap.get?_push_of_some _ e) (by rw [k.snd]; exact hal) (by rw [k.snd]; exact hk) (by rw [List.length_zip]; omega) (fun b hb => ?_) fun out h1 h2 => ?_))
  · have := hd b.2 (by rw [← k.snd]; exact List.mem_map_of_mem hb)
    show X.A.units + 1 + 1 + _ < cLine
    omega
  · obtain ⟨ep, he⟩ := PyProof.Rows.sortedHeap_at (vs := acc) (out := out.toArray) ho
    have k1 := each_vals (bs := []) (vs := []) h2
    have hl : (((xs.zip ps).mergeSort (dataLe false Prod.snd)).map Prod.fst).length ≤ sizeLine := by
      rw [List.length_map, List.length_mergeSort, List.length_zip]; omega
    refine wpAny_pure ⟨_, rfl, .ref s.heap.objs.size, upd H s.heap.objs.size (.lst (((xs.zip ps).mergeSort (dataLe false Prod.snd)).map Prod.fst)), I.laid (t' := s.toks) (fun b u e => ?_) (Nat.le_refl _) ⟨hl, out, ep, k1, he⟩, rfl, q _ (I.hok.fresh (Nat.le_refl _))⟩
    have hb : b < s.heap.objs.size := Heap.lt_size e
    exact (PyProof.Rows.sortedHeap_old (Nat.ne_of_lt hb) (by rw [size_push']; exact Nat.lt_succ_of_lt hb)).trans (Heap.get?_push_of_some _ e)
def rSortedDic : List V → Hp → VK → Prop := fun xs H Q => ∃ a ps, xs = [V.ref a] ∧ AllAlike ps ∧ Sortable ps ∧ (∀ d ∈ ps, d.depth ≤ 60) ∧
  ((∃ t : List (L2.Key × V), Rd H a (.dK t) ∧ ps = t.map (fun p => keyP p.1) ∧ ∀ p, H p = none → Q (.ref p) (upd H p (.lst ((((t.map fun p => kV p.1).zip ps).mergeSort (dataLe false Prod.snd)).map Prod.fst)))) ∨
  ∃ t : List (List L2.Key × V), Rd H a (.dT t) ∧ ps = t.map (fun p => PyData.tuple (p.1.map keyP)) ∧ ∀ bs p, IsKeys H t bs → H p = none → Q (.ref p) (upd H p (.lst ((((bs.map V.ref).zip ps).mergeSort (dataLe false Prod.snd)).map Prod.fst))))
theorem keys_K {h : Heap} {prog : Program} {w : World} : ∀ {t : List (L2.Key × V)} {vs : List (L2.Key × Value)} {acc : List Value}, KV t vs → acc.length = vs.length → (∀ (j : Nat) (v : Value), acc[j]? = some v → ∃ (k : L2.Key) (x : Value), vs[j]? = some (k, x) ∧ keyIs k v = true) → Keys h (t.map fun p => kV p.1) (t.map fun p => keyP p.1) acc := by
  intro t vs acc r
  unfold KV at r
  induction r generalizing acc with
  | nil => intro hl _; cases acc with
    | nil => exact .nil
    | cons _ _ => cases hl
  | @cons p q _ _ g _ ih => intro hl ha; cases acc with
    | nil => cases hl
    | cons u us =>
      obtain ⟨k, x, e1, e2⟩ := ha 0 u rfl
      cases e1
      have e3 : p.1 = k := g.1
      refine .cons (show RelV (kV p.1) u by rw [e3]; exact relV_key e2) (show Reads h u (keyP p.1) [] by rw [e3]; exact key_reads (relV_key e2)) (ih (by simpa using hl) fun j v e => ?_)
      obtain ⟨k', x', z1, z2⟩ := ha (j + 1) v (by simpa using e)
      exact ⟨k', x', by simpa using z1, z2⟩
theorem keys_T {P : Program} {w : World} {H : Hp} {h : Heap} (ok : HOk P w H h) : ∀ {t : List (List L2.Key × V)} {bs : List Addr}, IsKeys H t bs → Keys h (bs.map V.ref) (t.map fun p => PyData.tuple (p.1.map keyP)) (bs.map Value.ref) := by
  intro t bs r
  unfold IsKeys at r
  induction r with
  | nil => exact .nil
  | cons g _ ih => exact .cons rfl (tupk_reads ok g) ih
theorem cr_sortedDic {X : Cx} (hc : X.calm = true) (hu : X.A.units + 64 < cLine) : CallR X (.builtin "sorted") rSortedDic := by
  intro pins s σ H xs us Q I r h
  obtain ⟨a, ps, rfl, hal, hk, hd, h⟩ := h
  rw [Vals.ref1 r]
  refine Calls.call_function_entry PyProof.Rows.kind_sorted PyProof.Rows.plain_sorted PyProof.Rows.entry_sorted (PyProof.Rows.args_sorted1 _) ?_
  unfold Builtin.«sorted»
  refine wpAny_bind (m := checkCount "sorted" 1 1 _) (wpAny_pure ?_)
  rcases h with ⟨t, ht, rfl, q⟩ | ⟨t, ht, rfl, q⟩
  · obtain ⟨z, lo, vs, rel, dd⟩ := dk_rd I.hok ht
    obtain ⟨ep, hat⟩ := dd.dictAt
    have hl : t.length = vs.length := rel.length
    refine wpAny_bind (PySem.W.kdu_collect (A := X.A.in1) (PySem.W.kdl_dict (knd := mixKind X.prog X.w) (kvs := vs) (ep := ep) lo) (I.ok.hd hc) hat (by omega) fun h' tk acc hkp hacc => ?_)
    have I1 : Inv X pins σ H { s with heap := h', toks := tk } := I.kept hkp
    have kk : Keys h' (t.map fun p => kV p.1) (t.map fun p => keyP p.1) acc.toList := keys_K (prog := X.prog) (w := X.w) rel (by rw [Array.length_toList]; exact hacc.1) fun j v e => hacc.2 j v (by rw [← Array.getElem?_toList]; exact e)
    have fin := sort_new (E := fun a b => X.xe a b) hu I1 kk hal hk hd (by rw [List.length_map]; exact z) q
    exact fin
  · obtain ⟨z, hs, ks, pr, o, es, ep, ho, hx, hdt, he, hn⟩ := (show ObjOk X.prog X.w H s.heap a (.dT t) from ht.ok I.hok)
    have l1 : es.size = ks.length := size_of_entries he
    have l2 : t.length = ks.length := Paired.length pr
    refine wpAny_bind (PySem.W.kdu_collect (A := X.A.in1) (kdl_raw hs hx hdt) (I.ok.hd hc) ho (by omega) fun h' tk acc hkp hacc => ?_)
    have I1 : Inv X pins σ H { s with heap := h', toks := tk } := I.kept hkp
    have ib : IsKeys H t (ks.map fun x => x.2.1) := isKeys_of pr
    have ea : acc.toList = (ks.map fun x => x.2.1).map Value.ref := by
      have hl : acc.toList.length = ks.length := by rw [Array.length_toList, hacc.1]; exact l1
      refine List.ext_getElem? fun j => ?_
      rw [List.getElem?_map, List.getElem?_map]
      cases hj : acc.toList[j]? with
      | none =>
        have := List.getElem?_eq_none_iff.mp hj
        rw [List.getElem?_eq_none (show ks.length ≤ j by omega)]
        rfl
      | some v =>
        obtain ⟨en, hen, hv⟩ := hacc.2 j v (by rw [← Array.getElem?_toList]; exact hj)
        have qe := entry_at he j
        rw [hen] at qe
        cases hb : ks[j]? with
        | none => rw [hb] at qe; cases qe
        | some b =>
          rw [hb] at qe
          have e2 : en = entryOfKey (tupleKind (mixKind X.prog X.w)) b := Option.some.inj qe
          rw [hv, e2]
          rfl
    have kk := keys_T I1.hok ib
    rw [← ea] at kk
    have fin := sort_new (E := fun a b => X.xe a b) hu I1 kk hal hk hd (by rw [List.length_map]; exact z) fun p hp => q _ p ib hp
    exact fin
/-- sorted(d) -/
def dSortDic (ds : List D) (C : Cells) (P : DK) : Prop := match ds with
  | [x] => match kvsK x C with
    | some t => SortsD (t.map fun p => keyD p.1) ∧ P (.lst ((t.map fun p => keyD p.1).mergeSort leD)) C
    | none => match kvsT x C with
      | some t => SortsD (t.map fun p => keyTD p.1) ∧ P (.lst ((t.map fun p => keyTD p.1).mergeSort leD)) C
      | none => False
  | _ => False
theorem keyTD_py (ks : List L2.Key) : (keyTD ks).py = PyData.tuple (ks.map keyP) := by
  simp only [keyTD, D.py, pys_map, List.map_map]
  congr 1
  exact List.map_congr_left fun k _ => keyP_py k
theorem s_sortDic {K : PySem.W.Frag} : SimA K rSortedDic dSortDic := fun F C H xs ds P Q hs r w k => by
  unfold dSortDic at w
  split at w
  · obtain ⟨v, rfl, r1⟩ := r.one
    split at w
    · rename_i t ht
      obtain ⟨a, vs, rfl, h2, h3⟩ := kvsK_rd hs r1 ht
      obtain ⟨⟨⟨n, hn, hd⟩, hal, hok⟩, w⟩ := w
      have e1 : vs.map (fun p => keyP p.1) = (t.map fun p => keyD p.1).map D.py := by
        rw [List.map_map, show (D.py ∘ fun p : L2.Key × D => keyD p.1) = keyP ∘ (·.1) from funext fun p => keyP_py p.1, ← List.map_map, ← tp_keys h3.pair, List.map_map]
        rfl
      refine ⟨a, _, rfl, by rw [e1]; exact hal, by rw [e1]; exact hok, fun d hd' => ?_, .inl ⟨vs, h2, rfl, fun p hp => ?_⟩⟩
      · rw [e1] at hd'
        obtain ⟨d', hm, rfl⟩ := List.mem_map.mp hd'
        have := (dat_lay (hd d' hm)).2
        omega
      · have rr := rep_keyl h3
        have e2 : vs.map (fun p => keyP p.1) = pys (t.map fun p => keyD p.1) := by rw [pys_map]; exact e1
        rw [e2]
        obtain ⟨e4, h4, r4⟩ := hs.newL rr.sort hp
        exact k _ _ _ _ C e4 h4 r4 w
    · split at w
      · rename_i t ht
        obtain ⟨a, vs, rfl, h2, h3⟩ := kvsT_rd hs r1 ht
        obtain ⟨⟨⟨n, hn, hd⟩, hal, hok⟩, w⟩ := w
        have e1 : vs.map (fun p => PyData.tuple (p.1.map keyP)) = (t.map fun p => keyTD p.1).map D.py := by
          rw [List.map_map, show (D.py ∘ fun p : List L2.Key × D => keyTD p.1) = (fun k => PyData.tuple (k.map keyP)) ∘ (·.1) from funext fun p => keyTD_py p.1, ← List.map_map, ← tp_keys h3.pair, List.map_map]
          rfl
        refine ⟨a, _, rfl, by rw [e1]; exact hal, by rw [e1]; exact hok, fun d hd' => ?_, .inr ⟨vs, h2, rfl, fun bs p ib hp => ?_⟩⟩
        · rw [e1] at hd'
          obtain ⟨d', hm, rfl⟩ := List.mem_map.mp hd'
          have := (dat_lay (hd d' hm)).2
          omega
        · obtain ⟨F2, e2, h2', rr⟩ := hs.adopts ib
          have ek : (vs.map fun p => keyTD p.1) = t.map fun p => keyTD p.1 := by
            have := congrArg (List.map keyTD) (tp_keys h3.pair)
            rw [List.map_map, List.map_map] at this
            exact this
          rw [ek] at rr
          have e3 : vs.map (fun p => PyData.tuple (p.1.map keyP)) = pys (t.map fun p => keyTD p.1) := by rw [pys_map]; exact e1
          rw [e3]
          obtain ⟨e4, h4, r4⟩ := h2'.newL rr.sort hp
          exact k _ _ _ _ C (e2.trans e4) h4 r4 w
      · exact w.elim
  · exact w.elim
end DD

set_option Elab.async false
set_option linter.all false
set_option maxRecDepth 100000
set_option maxHeartbeats 4000000
/-! Dicts: == ; displays. -/
namespace DD
open PySem L2 PyProof.Rows PySem.W

section
variable {κ : Type} [DecidableEq κ]
def vaP (t : List (κ × PyData)) (k : κ) : Option PyData := (t.find? fun p => decide (p.1 = k)).map (·.2)
theorem vaP_hit {k : κ} {p : κ × PyData} {t : List (κ × PyData)} (e : p.1 = k) : vaP (p :: t) k = some p.2 := by unfold vaP; rw [List.find?_cons, decide_eq_true e]; rfl
theorem vaP_miss {k : κ} {p : κ × PyData} {t : List (κ × PyData)} (e : ¬ p.1 = k) : vaP (p :: t) k = vaP t k := by unfold vaP; rw [List.find?_cons, decide_eq_false e]
def hitP (u : List (κ × PyData)) (p : κ × PyData) : Bool := match vaP u p.1 with
  | some d => PyData.eqv p.2 d
  | none => false
def eqP (t u : List (κ × PyData)) : Bool := t.length == u.length && t.all (hitP u)
def hitD (u : List (κ × D)) (p : κ × D) : Bool := match vaD u p.1 with
  | some d => p.2.eqb d
  | none => false
/-- == of two dicts of data -/
def eqT (t u : List (κ × D)) : Bool := t.length == u.length && t.all (hitD u)
abbrev pyT (t : List (κ × D)) : List (κ × PyData) := t.map fun p => (p.1, p.2.py)
theorem vaP_py (k : κ) : ∀ t : List (κ × D), vaP (pyT t) k = (vaD t k).map D.py
  | [] => rfl
  | p :: t => by
    by_cases e : p.1 = k
    · rw [vaD_hit e]; exact vaP_hit (p := (p.1, p.2.py)) e
    · rw [vaD_miss e, ← vaP_py k t]; exact vaP_miss (p := (p.1, p.2.py)) e
theorem eqP_py (t u : List (κ × D)) : eqP (pyT t) (pyT u) = eqT t u := by
  unfold eqP eqT pyT
  rw [List.length_map, List.length_map, List.all_map]
  congr 2
  funext p
  show hitP (pyT u) (p.1, p.2.py) = hitD u p
  unfold hitP hitD
  rw [vaP_py]
  cases vaD u p.1 <;> rfl
/-- what stands at the values reads so -/
abbrev VKr (h : Heap) : List (κ × Value) → List (κ × PyData) → Prop := Paired fun p q => p.1 = q.1 ∧ (∃ as, Reads h p.2 q.2 as) ∧ SeqAt.shaped q.2 = true
theorem vk_at {h : Heap} {vs : List (κ × Value)} {t : List (κ × PyData)} (r : VKr h vs t) (k : κ) : (valueAt vs k = none ∧ vaP t k = none) ∨ ∃ v d, valueAt vs k = some v ∧ vaP t k = some d ∧ (∃ as, Reads h v d as) ∧ SeqAt.shaped d = true := by
  induction r with
  | nil => exact .inl ⟨rfl, rfl⟩
  | @cons p q _ _ g _ ih =>
    by_cases e : q.1 = k
    · refine .inr ⟨p.2, q.2, ?_, vaP_hit e, g.2.1, g.2.2⟩
      unfold valueAt
      rw [List.find?_cons, decide_eq_true (g.1.trans e)]
      rfl
    · rw [vaP_miss e]
      have : ∀ l : List (κ × Value), valueAt (p :: l) k = valueAt l k := fun l => by
        unfold valueAt
        rw [List.find?_cons, decide_eq_false (fun z => e (g.1.symm.trans z))]
      rw [this]
      exact ih
theorem vk_hits {A : Around} {s : Shared} {va vb : List (κ × Value)} {t u : List (κ × PyData)} (hu : A.in1.units + 64 < cLine) (ra : VKr s.heap va t) (rb : VKr s.heap vb u) : KeqHits A.in1 s vb va (t.all (hitP u)) := by
  induction ra with
  | nil => exact .nil
  | @cons p q ps qs g _ ih =>
    obtain ⟨k, v⟩ := p
    obtain ⟨e, ⟨as, r1⟩, s1⟩ := g
    have e : k = q.1 := e
    rw [List.all_cons]
    rcases vk_at rb k with ⟨z1, z2⟩ | ⟨y, d, z1, z2, ⟨bs, r2⟩, s2⟩
    · have : hitP u q = false := by unfold hitP; rw [← e, z2]
      rw [this, Bool.false_and]
      exact .miss z1
    · have : hitP u q = PyData.eqv q.2 d := by unfold hitP; rw [← e, z2]
      rw [this]
      exact .hit z1 (keq_at r1 r2 s1 s2 hu) ih
end
section
variable {prog : Program} {w : World} {κ : Type} [DecidableEq κ] {knd : HeapKind prog w κ} {A : Around} {E : Value → Shared → Prop} {s : Shared}
/-- the same pairs, keys that lie on the heap -/
theorem same_heap {nm : String} {a b : Addr} {xs ys : List (κ × Addr × Value)} {e : Nat → Bool} {Q : Bool → Shared → Prop} (ha : (a == sysModules) = false) (hb : (b == sysModules) = false) (da : s.heap.DictOfH knd a xs) (db : s.heap.DictOfH knd b ys) (hu : knd.room A)
    (hits : ∀ i k p v, xs[i]? = some (k, p, v) → (atKey ys k = none ∧ e i = false) ∨ ∃ q, atKey ys k = some q ∧ SeqAt.EqAt A s v q.2 (e i)) (h : Q (xs.length == ys.length && (List.range xs.length).all e) s) : wpAny (model prog w) A (Builtin.Dict.samePairs nm a b) Q E s := by
  obtain ⟨oa, es, ep, hoa, _, hda, hea, hia, hna⟩ := da
  obtain ⟨ob, fs, fp, hob, _, hdb, heb, hib, hnb⟩ := db
  have la := size_of_entries hea
  have lb := size_of_entries heb
  rw [← la, ← lb] at h
  unfold Builtin.Dict.samePairs Builtin.Dict.showsAll
  rw [if_neg (by rw [ha]; decide), if_neg (by rw [hb]; decide)]
  refine wpAny_bind (wpAny_pure <| wpAny_bind <| wpAny_pure ?_)
  refine wpAny_bind (wpAny_dictEntries hoa hda ?_); dsimp only
  refine wpAny_bind (wpAny_dictEntries hob hdb ?_)
  by_cases hsz : es.size = fs.size
  · have fin : ∀ r : Bool, (List.range es.size).all e = r → Q r s := fun r hr => by
      rw [show (es.size == fs.size) = true by simpa using hsz, Bool.true_and, hr] at h
      exact h
    rw [if_neg (by rw [hsz]; simp)]
    refine wpAny_bind (wpAny_dictEpoch hoa hda <| wpAny_bind ?_)
    rw [Std.Legacy.Range.forIn_eq_forIn_range']
    simp only [Std.Legacy.Range.size, Nat.sub_zero, Nat.add_sub_cancel, Nat.div_one]
    refine wpAny_forIn_list _ (fun rest q t => t = s ∧ q = (none, ()) ∧ ∃ i, i ≤ es.size ∧ rest = List.range' i (es.size - i) ∧ ∀ j, j < i → e j = true) _ ?_ ?_ _ _ ⟨rfl, rfl, 0, Nat.zero_le _, by simp, fun j hj => by cases hj⟩
    · rintro x rest q t ⟨rfl, rfl, i, hi, hr, hall⟩
      have hlt : i < es.size := Nat.lt_of_le_of_ne hi fun z => by rw [z, Nat.sub_self] at hr; cases hr
      rw [show es.size - i = (es.size - (i + 1)) + 1 by omega, List.range'_succ] at hr
      injection hr with hx hrest
      subst hx
      refine wpAny_bind (wpAny_dictEntries hoa hda ?_)
      obtain ⟨⟨k, p, v⟩, hk⟩ : ∃ y, xs[x]? = some y := ⟨_, List.getElem?_eq_getElem (by omega)⟩
      have hent : es[x]? = some (entryOfKey knd (k, p, v)) := by rw [entry_at hea, hk]; rfl
      rw [hent]
      show wpAny _ _ (holding [Value.ref p, v] _ >>= _) _ _ _
      refine wpAny_bind (wpAny_holding <| wpAny_bind (wpAny_dictFind_heap hu (hia _ (List.mem_of_getElem? hk)) hob hdb heb hib hnb (fun hno => ?_) fun j q hj => ?_))
      · rcases hits x k p v hk with ⟨_, e0⟩ | ⟨q, hq, _⟩
        · refine wpAny_pure ?_
          show wpAny _ _ (if (!false) = true then _ else _) _ _ _
          rw [if_pos (by decide)]
          exact wpAny_pure (wpAny_pure (fin false (List.all_eq_false.mpr ⟨x, List.mem_range.mpr hlt, by rw [e0]; decide⟩)))
        · rw [atKey_none_of_get hno] at hq; cases hq
      · have hq := atKey_of_get hnb hj
        have hfe : fs[j]? = some (entryOfKey knd (k, q)) := by rw [entry_at heb, hj]; rfl
        rcases hits x k p v hk with ⟨h0, _⟩ | ⟨q', hq', he⟩
        · rw [hq] at h0; cases h0
        · rw [hq] at hq'
          cases hq'
          refine wpAny_bind (wpAny_dictEntries hob hdb ?_)
          rw [hfe]
          show wpAny _ _ (holding [q.2] (eqBool v q.2)) _ _ _
          refine wpAny_holding (he prog w _ _ ?_)
          cases hx : e x with
          | false =>
            show wpAny _ _ (if (!false) = true then _ else _) _ _ _
            rw [if_pos (by decide)]
            exact wpAny_pure (wpAny_pure (fin false (List.all_eq_false.mpr ⟨x, List.mem_range.mpr hlt, by rw [hx]; decide⟩)))
          | true =>
            show wpAny _ _ (if (!true) = true then _ else _) _ _ _
            rw [if_neg (by decide)]
            refine wpAny_bind (wpAny_dictEpoch hoa hda ?_)
            rw [if_neg (by simp)]
            exact wpAny_pure ⟨rfl, rfl, x + 1, hlt, hrest, fun j hj => (Nat.lt_succ_iff_lt_or_eq.mp hj).elim (hall j) fun z => by rw [z]; exact hx⟩
    · rintro q t ⟨rfl, rfl, i, hi, hr, hall⟩
      have hin : i = es.size := Nat.le_antisymm hi (by
        rcases Nat.lt_or_ge i es.size with z | z
        · rw [show es.size - i = (es.size - (i + 1)) + 1 by omega, List.range'_succ] at hr; cases hr
        · exact z)
      exact wpAny_pure (fin true (List.all_eq_true.mpr fun j hj => hall j (by rw [hin]; exact List.mem_range.mp hj)))
  · rw [if_pos (by simpa using hsz)]
    rw [show (es.size == fs.size) = false by simpa using hsz, Bool.false_and] at h
    exact wpAny_bind (wpAny_rule (wpAny_pure h))
end

theorem heap_slot {prog : Program} {w : World} {A : Around} {E : Value → Shared → Prop} {s : Shared} {κ : Type} [DecidableEq κ] {knd : HeapKind prog w κ} {a b : Addr} {xs ys : List (κ × Addr × Value)} {e : Nat → Bool} {Q : Value → Shared → Prop} (ha : (a == sysModules) = false) (hb : (b == sysModules) = false) (da : s.heap.DictOfH knd a xs) (db : s.heap.DictOfH knd b ys) (hr : knd.room A.in1) (hu : A.units < cLine)
    (hits : ∀ i k p v, xs[i]? = some (k, p, v) → (atKey ys k = none ∧ e i = false) ∨ ∃ q, atKey ys k = some q ∧ SeqAt.EqAt A.in1 s v q.2 (e i)) :
    (Q (.bool (xs.length == ys.length && (List.range xs.length).all e)) s → wpAny (model prog w) A (compareOp .Eq (.ref a) (.ref b)) Q E s) ∧ (Q (.bool (!(xs.length == ys.length && (List.range xs.length).all e))) s → wpAny (model prog w) A (compareOp .NotEq (.ref a) (.ref b)) Q E s) := by
  have ta : s.TypeIs (.ref a) "dict" := da.typeIs
  have tb : s.TypeIs (.ref b) "dict" := db.typeIs
  constructor
  · intro h
    refine wpAny_richCompare_same_room (op := .Eq) ta tb PySem.F.slot_dict_eq (wpAny_call_entry PySem.F.slot_dict_eq ta PySem.F.entry_dict_eq ?_ (PySem.F.args_dict_eq_2 _ _)) hu
    show wpAny _ _ (Builtin.Dict.dictSlotArgs "__eq__" _ >>= _) _ _ s
    unfold Builtin.Dict.dictSlotArgs
    refine wpAny_bind (wpAny_bind (wpAny_notOrdered_dict ta ?_))
    show wpAny _ _ (pure (Value.ref a, Value.ref b)) _ _ s
    refine wpAny_pure (wpAny_bind (wpAny_isInstance (T := "dict") tb PySem.F.sub_dict_dict ?_))
    simp only [Bool.not_true, Bool.false_eq_true, if_false]
    refine wpAny_bind (wpAny_pure <| wpAny_bind <| wpAny_pure <| wpAny_bind (same_heap ha hb da db hr hits <| wpAny_pure ⟨_, rfl, ?_, ?_⟩))
    · exact fun z => by cases z
    · simpa using h
  · intro h
    refine wpAny_richCompare_same_room (op := .NotEq) ta tb PySem.F.slot_dict_ne (wpAny_call_entry PySem.F.slot_dict_ne ta PySem.F.entry_dict_ne ?_ (PySem.F.args_dict_ne_2 _ _)) hu
    show wpAny _ _ (Builtin.Dict.dictSlotArgs "__ne__" _ >>= _) _ _ s
    unfold Builtin.Dict.dictSlotArgs
    refine wpAny_bind (wpAny_bind (wpAny_notOrdered_dict ta ?_))
    show wpAny _ _ (pure (Value.ref a, Value.ref b)) _ _ s
    refine wpAny_pure (wpAny_bind (wpAny_isInstance (T := "dict") tb PySem.F.sub_dict_dict ?_))
    simp only [Bool.not_true, Bool.false_eq_true, if_false]
    refine wpAny_bind (wpAny_pure <| wpAny_bind <| wpAny_pure <| wpAny_bind (same_heap ha hb da db hr hits <| wpAny_pure ⟨_, rfl, ?_, ?_⟩))
    · exact fun z => by cases z
    · simpa using h
abbrev VP {κ : Type} (K : PySem.W.Frag) (H : Hp) : List (κ × V) → List (κ × PyData) → Prop := Paired fun p q => p.1 = q.1 ∧ Dp K H p.2 q.2 ∧ SeqAt.shaped q.2 = true
/-- two dicts of data -/
def rEqDic (K : PySem.W.Frag) (neg : Bool) : R2 := fun x y H Q => ∃ a b, x = .ref a ∧ y = .ref b ∧
  ((∃ (vs us : List (L2.Key × V)) (t u : List (L2.Key × PyData)), Rd H a (.dK vs) ∧ Rd H b (.dK us) ∧ VP K H vs t ∧ VP K H us u ∧ Q (.bl (neg ^^ eqP t u)) H) ∨
  ∃ (vs us : List (List L2.Key × V)) (t u : List (List L2.Key × PyData)), Rd H a (.dT vs) ∧ Rd H b (.dT us) ∧ VP K H vs t ∧ VP K H us u ∧ Q (.bl (neg ^^ eqP t u)) H)
section
variable {X : Cx} {pins : List (Addr × Obj)} {σ : L2.St} {H : Hp} {s : Shared}
theorem vk_of (I : Inv X pins σ H s) {κ : Type} [DecidableEq κ] {vs : List (κ × V)} {ws : List (κ × Value)} {t : List (κ × PyData)} (r : KV vs ws) (q : VP X.K H vs t) : VKr s.heap ws t := by
  unfold KV at r
  induction r generalizing t with
  | nil => cases q; exact .nil
  | @cons p p' _ _ g _ ih =>
    cases q with
    | cons h z => exact .cons ⟨g.1.symm.trans h.1, Dp.reads I _ _ _ h.2.1 g.2, h.2.2⟩ (ih z)
theorem kt_vk (I : Inv X pins σ H s) {vs : List (List L2.Key × V)} {xs : List (List L2.Key × Addr × Value)} {t : List (List L2.Key × PyData)} (r : KT H vs xs) (q : VP X.K H vs t) : VKr s.heap (xs.map fun x => (x.1, x.2.2)) t := by
  induction r generalizing t with
  | nil => cases q; exact .nil
  | @cons p p' _ _ g _ ih =>
    cases q with
    | cons h z => exact .cons ⟨g.1.symm.trans h.1, Dp.reads I _ _ _ h.2.1 g.2.2, h.2.2⟩ (ih z)
theorem atKey_vals {κ : Type} [DecidableEq κ] (k : κ) : ∀ xs : List (κ × Addr × Value), valueAt (xs.map fun x => (x.1, x.2.2)) k = (atKey xs k).map (·.2)
  | [] => rfl
  | x :: r => by
    have ih := atKey_vals k r
    unfold valueAt atKey at ih ⊢
    rw [List.map_cons, List.find?_cons, List.find?_cons]
    by_cases e : x.1 = k
    · rw [decide_eq_true e]; rfl
    · rw [decide_eq_false e]; exact ih
/-- the i-th pair is found alike -/
def eAt {κ : Type} [DecidableEq κ] (t u : List (κ × PyData)) (i : Nat) : Bool := match t[i]? with
  | some p => hitP u p
  | none => false
theorem eAt_all {κ : Type} [DecidableEq κ] (t u : List (κ × PyData)) : (List.range t.length).all (eAt t u) = t.all (hitP u) := by
  rw [Bool.eq_iff_iff, List.all_eq_true, List.all_eq_true]
  constructor
  · intro h p hp
    obtain ⟨i, hi, e⟩ := List.getElem_of_mem hp
    have := h i (List.mem_range.mpr hi)
    unfold eAt at this
    rw [List.getElem?_eq_getElem hi, e] at this
    exact this
  · intro h i hi
    have hi := List.mem_range.mp hi
    unfold eAt
    rw [List.getElem?_eq_getElem hi]
    exact h _ (List.getElem_mem hi)
theorem eq_dics (hu : X.A.units + 66 < cLine) {neg : Bool} (I : Inv X pins σ H s) {x y : V} {v u : Value} {Q : VK} (rx : RelV x v) (ry : RelV y u) (h : rEqDic X.K neg x y H Q) : wpAny (model X.prog X.w) X.A (compareOp (if neg = true then .NotEq else .Eq) v u) (EP X pins σ Q) X.xe s := by
  have h1 : X.A.in1.units + 64 < cLine := by show X.A.units + 1 + 64 < cLine; omega
  obtain ⟨a, b, rfl, rfl, h⟩ := h
  cases rx; cases ry
  rcases h with ⟨vs, us, t, u, ha, hb, ta, tb, q⟩ | ⟨vs, us, t, u, ha, hb, ta, tb, q⟩
  · obtain ⟨_, ya, va, ra, da⟩ := dk_rd I.hok ha
    obtain ⟨_, yb, vb, rb, db⟩ := dk_rd I.hok hb
    have ka := vk_of I ra ta
    have kb := vk_of I rb tb
    have hits := vk_hits (A := X.A) (by show X.A.units + 1 + 64 < cLine; omega) ka kb
    have el : (va.length == vb.length && t.all (hitP u)) = eqP t u := by unfold eqP; rw [Paired.length ka, Paired.length kb]
    cases neg with
    | false =>
      rw [if_neg (by decide)]
      refine keq_eq ya yb da db (by omega) (fun _ => hits) ?_
      rw [el]
      exact ⟨.bl _, H, I, rfl, by rw [Bool.false_xor] at q; exact q⟩
    | true =>
      rw [if_pos rfl]
      refine keq_ne ya yb da db (by omega) (fun _ => hits) ?_
      rw [el]
      exact ⟨.bl _, H, I, rfl, by rw [Bool.true_xor] at q; exact q⟩
  · obtain ⟨_, ya, xa, ra, da⟩ := dt_rd I.hok ha
    obtain ⟨_, yb, xb, rb, db⟩ := dt_rd I.hok hb
    have ka := kt_vk I ra ta
    have kb := kt_vk I rb tb
    have l1 : xa.length = t.length := by have := Paired.length ka; rwa [List.length_map] at this
    have l2 : xb.length = u.length := by have := Paired.length kb; rwa [List.length_map] at this
    have z := heap_slot (A := X.A) (E := X.xe) (e := eAt t u) (Q := EP X pins σ Q) ya yb da db (tupleKind_room_in1 (A := X.A) (by omega)) (by omega) fun i k p v hi => by
      have hi2 : (xa.map fun x => (x.1, x.2.2))[i]? = some (k, v) := by rw [List.getElem?_map, hi]; rfl
      obtain ⟨q', ht, g1, ⟨as, g2⟩, g3⟩ := paired_get ka hi2
      have g1 : k = q'.1 := g1
      have ee : eAt t u i = hitP u q' := by unfold eAt; rw [ht]
      rw [ee]
      rcases vk_at kb k with ⟨z1, z2⟩ | ⟨y, d, z1, z2, ⟨bs, r2⟩, s2⟩
      · refine .inl ⟨?_, by unfold hitP; rw [← g1, z2]⟩
        rw [atKey_vals] at z1
        exact Option.map_eq_none_iff.mp z1
      · rw [atKey_vals, Option.map_eq_some_iff] at z1
        obtain ⟨p2, z3, rfl⟩ := z1
        refine .inr ⟨p2, z3, ?_⟩
        have : hitP u q' = PyData.eqv q'.2 d := by unfold hitP; rw [← g1, z2]
        rw [this]
        exact keq_at g2 r2 g3 s2 h1
    have el : (xa.length == xb.length && (List.range xa.length).all (eAt t u)) = eqP t u := by unfold eqP; rw [← eAt_all, l1, l2]
    rw [el] at z
    cases neg with
    | false =>
      rw [if_neg (by decide)]
      exact z.1 ⟨.bl _, H, I, rfl, by rw [Bool.false_xor] at q; exact q⟩
    | true =>
      rw [if_pos rfl]
      exact z.2 ⟨.bl _, H, I, rfl, by rw [Bool.true_xor] at q; exact q⟩
end
section
variable {X : Cx} {K : PySem.W.Frag}
theorem op_eqDic (hu : X.A.units + 66 < cLine) : OpR X (compareOp .Eq) (rEqDic X.K false) := fun pins s σ H x y v u Q I rx ry h => by
  have := eq_dics hu I rx ry h
  rwa [if_neg (by decide)] at this
theorem op_neDic (hu : X.A.units + 66 < cLine) : OpR X (compareOp .NotEq) (rEqDic X.K true) := fun pins s σ H x y v u Q I rx ry h => by
  have := eq_dics hu I rx ry h
  rwa [if_pos rfl] at this
def datT {κ : Type} (n : Nat) (t : List (κ × D)) : Prop := ∀ p ∈ t, Dat n p.2
def dEqDic (neg : Bool) (x : D) (y : D) (C : Cells) (P : DK) : Prop := match kvsK x C, kvsK y C with
  | some t, some u => ∃ n, n ≤ 60 ∧ datT n t ∧ datT n u ∧ P (.bl (neg ^^ eqT t u)) C
  | _, _ => match kvsT x C, kvsT y C with
    | some t, some u => ∃ n, n ≤ 60 ∧ datT n t ∧ datT n u ∧ P (.bl (neg ^^ eqT t u)) C
    | _, _ => False
theorem vp_of {F H : Hp} (ex : Ex F H) {κ : Type} [DecidableEq κ] {n : Nat} (hn : n ≤ 60) {vs : List (κ × V)} {t : List (κ × D)} (r : TP K F vs t) : datT n t → VP K H vs (pyT t) := by
  induction r with
  | nil => exact fun _ => .nil
  | @cons p q _ _ g _ ih => exact fun h => .cons ⟨g.1, rep_dp ex (h q List.mem_cons_self) _ g.2, dat_shaped (h q List.mem_cons_self) hn⟩ (ih fun z hz => h z (List.mem_cons_of_mem _ hz))
theorem s_eqDic {neg : Bool} : SimR K (rEqDic K neg) (dEqDic neg) := fun F C H x y dx dy P Q hs rx ry w k => by
  unfold dEqDic at w
  split at w
  · rename_i t u h1 h2
    obtain ⟨n, hn, d1, d2, w⟩ := w
    obtain ⟨a, vs, rfl, g1, g2⟩ := kvsK_rd hs rx h1
    obtain ⟨b, us, rfl, g3, g4⟩ := kvsK_rd hs ry h2
    refine ⟨a, b, rfl, rfl, .inl ⟨vs, us, pyT t, pyT u, g1, g3, vp_of hs.ex hn g2.pair d1, vp_of hs.ex hn g4.pair d2, ?_⟩⟩
    rw [eqP_py]
    exact k _ F H _ C (Ex.refl F) hs (.bl _) w
  · split at w
    · rename_i t u h1 h2
      obtain ⟨n, hn, d1, d2, w⟩ := w
      obtain ⟨a, vs, rfl, g1, g2⟩ := kvsT_rd hs rx h1
      obtain ⟨b, us, rfl, g3, g4⟩ := kvsT_rd hs ry h2
      refine ⟨a, b, rfl, rfl, .inr ⟨vs, us, pyT t, pyT u, g1, g3, vp_of hs.ex hn g2.pair d1, vp_of hs.ex hn g4.pair d2, ?_⟩⟩
      rw [eqP_py]
      exact k _ F H _ C (Ex.refl F) hs (.bl _) w
    · exact w.elim
theorem _root_.L2.Room.units3 {k : Nat} {A : Around} (r : L2.Room k A) : A.units + 66 < cLine := by have := r.un; omega
end
end DD

set_option Elab.async false
set_option linter.all false
set_option maxRecDepth 100000
set_option maxHeartbeats 4000000
/-! Dicts: displays. -/
namespace DD
open PySem L2 PyProof.Rows PySem.W

def wPairs : List (DE × DE) → DEnv → Cells → (List (D × D) → Cells → Prop) → DX → Prop
  | [], _, C, P, _ => P [] C
  | (k, v) :: r, ρ, C, P, PX => k ρ C (fun x C1 => v ρ C1 (fun y C2 => wPairs r ρ C2 (fun ps C3 => P ((x, y) :: ps) C3) PX) PX) PX
def pairsK : List (D × D) → Option (List (L2.Key × D))
  | [] => some []
  | (x, y) :: r => match keyOf x, pairsK r with
    | some k, some t => some ((k, y) :: t)
    | _, _ => none
def mergeD (t : List (L2.Key × D)) : List (L2.Key × D) → List (L2.Key × D)
  | [] => t
  | p :: r => mergeD (puD t p.1 p.2) r
def wDisp (ts : List (DE × DE)) (ρ : DEnv) (C : Cells) (P : DK) (PX : DX) : Prop := ∀ p, C p = none → wPairs ts ρ (cput C p (.dK [])) (fun ps C2 => C2 p = some (.dK []) ∧ match pairsK ps with
  | some t => t.length ≤ 15 ∧ P (.ptr p) (cput C2 p (.dK (mergeD [] t)))
  | none => False) PX
/-- a display that does not change any more -/
def wDispF (ts : List (DE × DE)) (ρ : DEnv) (C : Cells) (P : DK) (PX : DX) : Prop := ∀ p, C p = none → wPairs ts ρ (cput C p (.dK [])) (fun ps C2 => C2 p = some (.dK []) ∧ match pairsK ps with
  | some t => t.length ≤ 15 ∧ ∃ C3, Sub C3 C2 ∧ C3 p = none ∧ P (.dK (mergeD [] t)) C3
  | none => False) PX
section
variable {X : Cx} {W : WX} {K : PySem.W.Frag}
abbrev tPs (K : PySem.W.Frag) (W : WX) (ts : List (DE × DE)) : List (TE × TE) := ts.map fun p => (tE K W p.1, tE K W p.2)
theorem pairs_ok {F : Hp} {t : List (L2.Key × D)} : ∀ {vs : List (V × V)} {ps : List (D × D)} {t : List (L2.Key × D)}, Paired (fun p q => Rep K F p.1 q.1 ∧ Rep K F p.2 q.2) vs ps → pairsK ps = some t → ∃ ks : List (L2.Key × V), vs = ks.map (fun kv => (kV kv.1, kv.2)) ∧ TP K F ks t
  | [], [], t, .nil, h => by cases h; exact ⟨[], rfl, .nil⟩
  | p :: _, (x, y) :: ps, t, .cons g r, h => by
    simp only [pairsK] at h
    split at h
    · rename_i k t' hk ht
      cases h
      obtain ⟨ks, e, z⟩ := pairs_ok (t := t') r ht
      refine ⟨(k, p.2) :: ks, ?_, .cons ⟨rfl, g.2⟩ z⟩
      rw [List.map_cons, ← e, ← key_rep g.1 hk]
    · cases h
theorem tp_merge {F : Hp} : ∀ {more : List (L2.Key × V)} {t : List (L2.Key × D)} {vs : List (L2.Key × V)} {u : List (L2.Key × D)}, TP K F more t → TP K F vs u → TP K F (mergeK vs more) (mergeD u t)
  | [], [], vs, u, .nil, q => q
  | p :: more, d :: t, vs, u, .cons g r, q => by
    show TP K F (mergeK (putK vs p.1 p.2) more) (mergeD (puD u d.1 d.2) t)
    exact tp_merge r (by rw [g.1]; exact tp_put q _ g.2)
theorem i_pairs {F0 : Hp} : ∀ {ts : List (DE × DE)} {σ : L2.St} {H : Hp} {F : Hp} {C : Cells} {ρ : DEnv} {P : List (D × D) → Cells → Prop} {PX : DX} {Q : List (V × V) → Hp → Prop}, Hs K F C H → EnvR K F σ ρ → ExR K F W PX → wPairs ts ρ C P PX →
    (∀ vs F' H' ps C', Ex F F' → Hs K F' C' H' → Paired (fun p q => Rep K F' p.1 q.1 ∧ Rep K F' p.2 q.2) vs ps → P ps C' → Q vs H') → tPairs (tPs K W ts) σ H Q
  | [], σ, H, F, C, ρ, P, PX, Q, hs, en, xr, w, k => k [] F H [] C (Ex.refl F) hs .nil w
  | (a, b) :: ts, σ, H, F, C, ρ, P, PX, Q, hs, en, xr, w, k =>
    ⟨F, C, ρ, _, PX, hs, en, xr, w, fun x F1 H1 dx C1 e1 h1 rx q => ⟨F1, C1, ρ, _, PX, h1, en.mono e1, xr.mono e1, q, fun y F2 H2 dy C2 e2 h2 ry q2 =>
      i_pairs (F0 := F0) h2 (en.mono (e1.trans e2)) (xr.mono (e1.trans e2)) q2 fun vs F3 H3 ps C3 e3 h3 r3 q3 =>
        k ((x, y) :: vs) F3 H3 ((dx, dy) :: ps) C3 ((e1.trans e2).trans e3) h3 (.cons ⟨rx.mono (e2.trans e3), ry.mono e3⟩ r3) q3⟩⟩
variable {pos : Pos} {keys : List (Option Expr)} {values : List Expr} {ts : List (DE × DE)}
theorem dps_nil : PPs X pos [] [] (tPs X.K W []) := pps_nil
theorem dps_cons {k v : Expr} {ks : List (Option Expr)} {vs : List Expr} {wk wv : DE} (hk : PE X k (tE X.K W wk)) (hv : PE X v (tE X.K W wv)) (hr : PPs X pos ks vs (tPs X.K W ts)) : PPs X pos (some k :: ks) (v :: vs) (tPs X.K W ((wk, wv) :: ts)) := pps_cons hk hv hr
theorem d_disp (h : PPs X pos keys values (tPs X.K W ts)) (hall : keys.all (·.isSome) = true := by rfl) (hl : keys.length = values.length := by rfl) (h0 : keys ≠ [] := by exact fun z => by cases z) (h15 : keys.length ≤ 15 := by decide) : PE X (.Dict keys values pos) (tE X.K W (wDisp ts)) :=
  PE.imp (pe_disp h hall hl h0 h15) fun σ H Q ⟨F, C, ρ, P, PX, hs, en, xr, w, k⟩ => fun p hp => by
  obtain ⟨f0, c0⟩ := hs.fresh hp
  refine i_pairs (F0 := F) (hs.put (c := .dK []) f0 ⟨[], upd_same, .nil⟩) en xr (w p c0) fun vs F1 H1 ps C1 e1 h1 r q => ?_
  obtain ⟨hc, q⟩ := q
  obtain ⟨g0, us, g1, g2⟩ := h1.cell p _ hc
  cases g2
  refine ⟨g1, ?_⟩
  split at q
  · rename_i t ht
    obtain ⟨ks, e, z⟩ := pairs_ok (t := t) r ht
    refine ⟨ks, e, by rw [tp_len z]; exact q.1, k _ F1 _ _ _ e1 (h1.put (c := .dK (mergeD [] t)) g0 ⟨_, upd_same, RepK.of (tp_merge z .nil)⟩) (.ptr p) q.2⟩
  · exact q.elim
theorem d_dispF (h : PPs X pos keys values (tPs X.K W ts)) (hall : keys.all (·.isSome) = true := by rfl) (hl : keys.length = values.length := by rfl) (h0 : keys ≠ [] := by exact fun z => by cases z) (h15 : keys.length ≤ 15 := by decide) : PE X (.Dict keys values pos) (tE X.K W (wDispF ts)) :=
  PE.imp (pe_fz (pe_disp h hall hl h0 h15)) fun σ H Q ⟨F, C, ρ, P, PX, hs, en, xr, w, k⟩ => fun p hp => by
  obtain ⟨f0, c0⟩ := hs.fresh hp
  refine i_pairs (F0 := F) (hs.put (c := .dK []) f0 ⟨[], upd_same, .nil⟩) en xr (w p c0) fun vs F1 H1 ps C1 e1 h1 r q => ?_
  obtain ⟨hc, q⟩ := q
  obtain ⟨g0, us, g1, g2⟩ := h1.cell p _ hc
  cases g2
  refine ⟨g1, ?_⟩
  split at q
  · rename_i t ht
    obtain ⟨ks, e, z⟩ := pairs_ok (t := t) r ht
    obtain ⟨hz, C3, s3, n3, q⟩ := q
    refine ⟨ks, e, by rw [tp_len z]; exact hz, .inr ⟨p, _, upd_same, trivial, fun od => ?_⟩⟩
    have h2 : Hs X.K F1 C3 H1 := h1.sub s3
    obtain ⟨e4, h4⟩ := frz_dic (o := .dK (mergeK [] ks)) (C2 := C3) h2 g0 (Sub.refl _) n3 od
    rw [upd_upd]
    exact k _ _ _ _ _ (e1.trans e4) h4 (.dK upd_same ((RepK.of (tp_merge z .nil)).mono e4)) q
  · exact q.elim
end
end DD

set_option Elab.async false
set_option linter.all false
set_option maxRecDepth 100000
set_option maxHeartbeats 4000000
/-! xs == [], xs != [] of lists of anything. -/
namespace DD
open PySem L2 PyProof.Rows PySem.W

def rEmp (K : PySem.W.Frag) (neg : Bool) : R2 := fun x y H Q => ∃ a b xs, x = .ref a ∧ y = .ref b ∧ SqL K H a xs ∧ SqL K H b [] ∧ Q (.bl (neg ^^ xs.isEmpty)) H
section
variable {X : Cx}
theorem op_eqEmp (hu : X.A.units + 64 < cLine) : OpR X (compareOp .Eq) (rEmp X.K false) := by
  intro pins s σ H x y v u Q I rx ry h
  obtain ⟨a, b, xs, rfl, rfl, ha, hb, q⟩ := h
  cases xs with
  | nil => exact op_eqD hu pins s σ H _ _ _ _ Q I rx ry ⟨.list [], .list [], .lst ha .nil, .lst hb .nil, rfl, rfl, q⟩
  | cons z zs =>
    cases rx; cases ry
    obtain ⟨i1, r1, p1, _⟩ := I.list ha
    obtain ⟨i2, r2, p2, _⟩ := I.list hb
    cases r2
    have hl := r1.length
    exact SeqAt.RcAt.lists_lengths p1.isList p2.isList (by rw [List.size_toArray, ← hl]; simp) (by omega) _ _ _ _ ⟨.bl _, H, I, rfl, q⟩
theorem op_neEmp (hu : X.A.units + 64 < cLine) : OpR X (compareOp .NotEq) (rEmp X.K true) := by
  intro pins s σ H x y v u Q I rx ry h
  obtain ⟨a, b, xs, rfl, rfl, ha, hb, q⟩ := h
  cases xs with
  | nil => exact op_neD hu pins s σ H _ _ _ _ Q I rx ry ⟨.list [], .list [], .lst ha .nil, .lst hb .nil, rfl, rfl, q⟩
  | cons z zs =>
    cases rx; cases ry
    obtain ⟨i1, r1, p1, _⟩ := I.list ha
    obtain ⟨i2, r2, p2, _⟩ := I.list hb
    cases r2
    have hl := r1.length
    exact SeqAt.RcNeAt.lists_lengths p1.isList p2.isList (by rw [List.size_toArray, ← hl]; simp) (by omega) _ _ _ _ ⟨.bl _, H, I, rfl, q⟩
end
def dEmp (neg : Bool) (x : D) (y : D) (C : Cells) (P : DK) : Prop := match seqOf x C, seqOf y C with
  | some ds, some [] => P (.bl (neg ^^ ds.isEmpty)) C
  | _, _ => False
theorem s_emp {K : PySem.W.Frag} {neg : Bool} : SimR K (rEmp K neg) (dEmp neg) := fun F C H x y dx dy P Q hs rx ry w k => by
  unfold dEmp at w
  split at w
  · rename_i ds h1 h2
    obtain ⟨a, xs, rfl, g1, g2⟩ := seq_of hs rx h1
    obtain ⟨b, ys, rfl, g3, g4⟩ := seq_of hs ry h2
    cases g4
    refine ⟨a, b, xs, rfl, rfl, g1, g3, ?_⟩
    have : xs.isEmpty = ds.isEmpty := by cases g2 <;> rfl
    rw [this]
    exact k _ F H _ C (Ex.refl F) hs (.bl _) w
  · exact w.elim
end DD

set_option Elab.async false
set_option linter.all false
set_option maxRecDepth 100000
set_option maxHeartbeats 4000000
/-! Tools for tables: keys, equal tables. -/
namespace DD
open PySem L2
section
variable {κ : Type} [DecidableEq κ]
theorem mem_keys (k : κ) : ∀ t : List (κ × D), k ∈ t.map (·.1) ↔ (vaD t k).isSome = true
  | [] => by simp [vaD]
  | p :: t => by
    by_cases e : p.1 = k
    · rw [vaD_hit e, List.map_cons]; simp [e]
    · rw [vaD_miss e, List.map_cons, List.mem_cons, ← mem_keys k t]
      constructor
      · rintro (h | h)
        · exact absurd h.symm e
        · exact h
      · exact .inr
theorem vaD_mem {k : κ} {d : D} : ∀ {t : List (κ × D)}, vaD t k = some d → (k, d) ∈ t
  | p :: t, h => by
    by_cases e : p.1 = k
    · rw [vaD_hit e] at h
      cases h
      rw [← e]
      exact List.mem_cons_self
    · rw [vaD_miss e] at h
      exact List.mem_cons_of_mem _ (vaD_mem h)
theorem vaD_of_mem {k : κ} {d : D} : ∀ {t : List (κ × D)}, (t.map (·.1)).Nodup → (k, d) ∈ t → vaD t k = some d
  | p :: t, hn, h => by
    rw [List.map_cons, List.nodup_cons] at hn
    rcases List.mem_cons.mp h with h | h
    · subst h; exact vaD_hit rfl
    · have : ¬ p.1 = k := fun e => hn.1 (by rw [e]; exact List.mem_map.mpr ⟨_, h, rfl⟩)
      rw [vaD_miss this]
      exact vaD_of_mem hn.2 h
theorem puD_nodup {t : List (κ × D)} (k : κ) (d : D) (h : (t.map (·.1)).Nodup) : ((puD t k d).map (·.1)).Nodup := by
  unfold puD
  split
  · have : ((t.map fun p => if p.1 = k then (p.1, d) else p).map (·.1)) = t.map (·.1) := by
      rw [List.map_map]
      refine List.map_congr_left fun p _ => ?_
      show (if p.1 = k then (p.1, d) else p).1 = p.1
      split <;> rfl
    rw [this]; exact h
  · rename_i hno
    rw [List.map_append, List.nodup_append]
    refine ⟨h, by simp, fun a ha b hb => ?_⟩
    simp only [List.map_cons, List.map_nil, List.mem_cons, List.not_mem_nil, or_false] at hb
    subst hb
    intro e
    subst e
    rw [mem_keys, ← any_vaD] at ha
    exact hno ha
theorem drD_nodup {t : List (κ × D)} (k : κ) (h : (t.map (·.1)).Nodup) : ((drD t k).map (·.1)).Nodup := by
  unfold drD
  exact (List.Sublist.map (fun p : κ × D => p.1) (List.filter_sublist (p := fun p => decide (p.1 ≠ k)) (l := t))).nodup h
theorem nd_map {α β : Type} {f : α → β} : ∀ {L : List α}, L.Nodup → (∀ x ∈ L, ∀ y ∈ L, f x = f y → x = y) → (L.map f).Nodup
  | [], _, _ => List.nodup_nil
  | x :: L, hn, h => by
    rw [List.nodup_cons] at hn
    rw [List.map_cons, List.nodup_cons]
    refine ⟨fun hm => ?_, nd_map hn.2 fun a ha b hb => h a (List.mem_cons_of_mem _ ha) b (List.mem_cons_of_mem _ hb)⟩
    obtain ⟨y, hy, e⟩ := List.mem_map.mp hm
    have := h y (List.mem_cons_of_mem _ hy) x List.mem_cons_self e
    subst this
    exact hn.1 hy
/-- two tables that answer alike are equal -/
theorem keys_perm {t u : List (κ × D)} (ht : (t.map (·.1)).Nodup) (hu : (u.map (·.1)).Nodup) (h : ∀ k, (vaD t k).isSome = (vaD u k).isSome) : (t.map (·.1)).Perm (u.map (·.1)) :=
  (List.perm_ext_iff_of_nodup ht hu).mpr fun k => by rw [mem_keys, mem_keys, h k]
theorem eqT_of {t u : List (κ × D)} {n : Nat} (ht : (t.map (·.1)).Nodup) (hu : (u.map (·.1)).Nodup) (hd : datT n t) (h : ∀ k, vaD t k = vaD u k) : eqT t u = true := by
  unfold eqT
  have hl : t.length = u.length := by
    have := (keys_perm ht hu fun k => by rw [h k]).length_eq
    rwa [List.length_map, List.length_map] at this
  rw [hl, beq_self_eq_true, Bool.true_and, List.all_eq_true]
  intro p hp
  unfold hitD
  rw [← h p.1, vaD_of_mem (d := p.2) ht hp]
  exact eqb_self (hd p hp)
/-- a table written by a list -/
theorem vaD_map {α : Type} {key : α → κ} {val : α → D} {a : α} : ∀ {Z : List α}, (∀ x ∈ Z, key x = key a → x = a) → a ∈ Z → vaD (Z.map fun x => (key x, val x)) (key a) = some (val a)
  | z :: Z, hi, h => by
    rw [List.map_cons]
    by_cases e : key z = key a
    · have := hi z List.mem_cons_self e
      subst this
      exact vaD_hit (p := (key z, val z)) rfl
    · rw [vaD_miss (p := (key z, val z)) e]
      refine vaD_map (fun x hx => hi x (List.mem_cons_of_mem _ hx)) ?_
      rcases List.mem_cons.mp h with h | h
      · subst h; exact absurd rfl e
      · exact h
theorem vaD_map_none {α : Type} {key : α → κ} {val : α → D} {k : κ} : ∀ {Z : List α}, (∀ x ∈ Z, key x ≠ k) → vaD (Z.map fun x => (key x, val x)) k = none
  | [], _ => rfl
  | z :: Z, h => by
    rw [List.map_cons, vaD_miss (p := (key z, val z)) (h z List.mem_cons_self)]
    exact vaD_map_none fun x hx => h x (List.mem_cons_of_mem _ hx)
end
end DD

set_option Elab.async false
set_option linter.all false
set_option maxRecDepth 100000
set_option maxHeartbeats 4000000
/-! min of a list of texts. -/
namespace DD
open PySem L2 PyProof.Rows PySem.W
def ltS (x y : Str) : Bool := dataLt (.str x) (.str y)
def minS : List Str → Str
  | [] => ⟨#[]⟩
  | z :: r => r.foldl (fun a y => if ltS y a then y else a) z
theorem minD_strs (z : Str) : ∀ zs : List Str, minD (.str z) (zs.map .str) = .str (zs.foldl (fun a y => if ltS y a then y else a) z)
  | [] => rfl
  | y :: r => by
    have h1 := minD_strs y r
    have h2 := minD_strs z r
    unfold minD at h1 h2 ⊢
    rw [List.map_cons, List.foldl_cons, List.foldl_cons]
    by_cases g : ltS y z = true
    · rw [if_pos g, if_pos (show dataLt (.str y) (.str z) = true from g)]; exact h1
    · rw [if_neg g, if_neg (show ¬ dataLt (.str y) (.str z) = true from g)]; exact h2
theorem strs_readsAll {h : Heap} : ∀ {zs : List Str} {us : List Value}, Vals (zs.map V.str) us → ReadsAll h us (zs.map PyData.str) []
  | [], _, .nil => .nil
  | z :: zs, _, .cons a b => by
    obtain ⟨t, rfl⟩ := (show ∃ t, _ = Value.str z t from a)
    exact .cons (.str z t) (strs_readsAll b)
theorem depth_strs : ∀ zs : List Str, PyData.depthAll (zs.map PyData.str) = 0
  | [] => rfl
  | z :: zs => by rw [List.map_cons]; simp [PyData.depthAll, PyData.depth, depth_strs zs]
def rMinS (K : PySem.W.Frag) : List V → Hp → VK → Prop := fun xs H Q => ∃ a zs, xs = [.ref a] ∧ SqL K H a (zs.map V.str) ∧ zs ≠ [] ∧ Q (.str (minS zs)) H
theorem cr_minS {X : Cx} (hc : X.calm = true) (hu : X.A.units + 64 < cLine) : CallR X (.builtin "min") (rMinS X.K) := by
  intro pins s σ H xs us Q I r h
  obtain ⟨a, zs, rfl, hs, hne, q⟩ := h
  rw [Vals.ref1 r]
  obtain ⟨its, rv, hl, _⟩ := I.list hs
  cases zs with
  | nil => exact absurd rfl hne
  | cons z zs =>
    refine min_list_data (I.ok.hd hc) hl.isList (xs := zs.map .str) (x := .str z) (as := []) (by simpa using strs_readsAll (zs := z :: zs) rv) ⟨?_, ?_⟩ ?_ fun i v h' tk bs hv hr hk => ?_
    · intro x hx y hy
      rw [← List.map_cons (f := PyData.str)] at hx hy
      obtain ⟨x', _, rfl⟩ := List.mem_map.mp hx
      obtain ⟨y', _, rfl⟩ := List.mem_map.mp hy
      simp [alike]
    · intro x hx
      rw [← List.map_cons (f := PyData.str)] at hx
      obtain ⟨x', _, rfl⟩ := List.mem_map.mp hx
      exact fun e => by cases e
    · rw [← List.map_cons (f := PyData.str), depth_strs]; omega
    · rw [minD_strs] at hr
      have hx : ∃ t, v = Value.str (minS (z :: zs)) t := by
        cases hr
        exact ⟨_, rfl⟩
      exact ⟨.str _, H, I.kept hk, hx, q⟩
def dMinS (ds : List D) (C : Cells) (P : DK) : Prop := match ds with
  | [x] => ∃ zs, seqOf x C = some (zs.map D.str) ∧ zs ≠ [] ∧ P (.str (minS zs)) C
  | _ => False
theorem s_minS {K : PySem.W.Frag} : SimA K (rMinS K) dMinS := fun F C H xs ds P Q hs r w k => by
  unfold dMinS at w
  split at w
  · obtain ⟨v, rfl, r1⟩ := r.one
    obtain ⟨zs, hz, hne, w⟩ := w
    obtain ⟨a, us, rfl, h2, h3⟩ := seq_of hs r1 hz
    rw [h3.of_strs] at h2
    exact ⟨a, zs, rfl, h2, hne, k _ F H _ C (Ex.refl F) hs (.str _) w⟩
  · exact w.elim
theorem leD_str (x y : Str) : leD (.str x) (.str y) = !ltS y x := by
  unfold leD ltS
  rw [dataLe_eq]
  simp [D.py]
end DD

set_option Elab.async false
set_option linter.all false
set_option maxRecDepth 100000
set_option maxHeartbeats 4000000
/-! Comprehensions over a dict's keys. -/
namespace DD
open PySem L2
theorem cput_self {C : Cells} {a : Addr} {c : Cell} (h : C a = some c) : cput C a c = C := by
  funext b
  unfold cput
  split
  · rename_i e; rw [e, h]
  · rfl
/-- a dict with these entries, data or a cell -/
def DicAt (x : D) (C : Cells) (t : List (L2.Key × D)) : Prop := x = .dK t ∨ ∃ a, x = .ptr a ∧ C a = some (.dK t)
theorem DicAt.sub {x : D} {C C' : Cells} {t : List (L2.Key × D)} (h : DicAt x C t) (s : Sub C C') : DicAt x C' t := by
  rcases h with h | ⟨a, h, g⟩
  · exact .inl h
  · exact .inr ⟨a, h, s _ _ g⟩
theorem DicAt.kvs {x : D} {C : Cells} {t : List (L2.Key × D)} (h : DicAt x C t) : kvsK x C = some t := by
  rcases h with rfl | ⟨a, rfl, g⟩
  · rfl
  · simp only [kvsK, g]
theorem pVar_of {ρ : DEnv} {C : Cells} {i : Nat} {x : D} (h : ρ[i]? = some (some x)) : pVar i ρ C = some x := by unfold pVar; rw [h]
theorem wVar_of {ρ : DEnv} {C : Cells} {P : DK} {PX : DX} {i : Nat} {x : D} (h : ρ[i]? = some (some x)) : wVar i ρ C P PX = P x C := by unfold wVar; rw [h]
theorem lc_keys {t : List (L2.Key × D)} {st : Cells → Prop} {j : Nat} {wt : DT} {we : DE} {vs : List Nat} {C1 : Cells} {ρ : DEnv} {P : DK} (p : L2.Key × D → Bool) (val : L2.Key × D → D) (hf : ∀ C', Sub C1 C' → st C') (hn : t.length ≤ 100000)
    (hwt : ∀ e ∈ t, ∀ C' (Q : Bool → Cells → Prop), Sub C1 C' → Q (p e) C' → wt ((dwipe ρ vs).set j (some (keyD e.1))) C' Q noX)
    (hwe : ∀ e ∈ t, ∀ C' (Q : DK), Sub C1 C' → Q (val e) C' → we ((dwipe ρ vs).set j (some (keyD e.1))) C' Q noX)
    (hP : P (.lst ((t.filter p).map val)) C1) : LcG ⟨t.map fun e => keyD e.1, st⟩ (.name j) wt we vs ρ C1 P := by
  refine lc_map (enc := fun e : L2.Key × D => keyD e.1) (fun e => if p e = true then some (val e) else none) hf hn (fun k e C' Q hk hs hQ => ?_) ?_
  · have he := List.mem_of_getElem? hk
    simp only [Tgt.dg]
    refine hwt e he C' _ hs ?_
    cases hp : p e with
    | true =>
      rw [if_pos rfl]
      refine hwe e he C' _ hs ?_
      rw [hp, if_pos rfl] at hQ
      exact hQ
    | false =>
      rw [if_neg (by decide)]
      rw [hp, if_neg (by decide)] at hQ
      exact hQ
  · have : (t.filterMap fun e => if p e = true then some (val e) else none) = (t.filter p).map val := by
      clear hwt hwe hP hn
      induction t with
      | nil => rfl
      | cons e t ih =>
        rw [List.filterMap_cons, List.filter_cons, ih]
        cases hp : p e <;> simp
    rw [this]
    exact hP
theorem lck_gen {t : List (L2.Key × D)} {x : D} {C : Cells} {ρ : DEnv} {P : DK} {PX : DX} {i j : Nat} {wt : DT} {we : DE} {vs : List Nat} (hx : DicAt x C t) (hi : ρ[i]? = some (some x)) (p : L2.Key × D → Bool) (val : L2.Key × D → D) (hn : t.length ≤ 100000)
    (hwt : ∀ e ∈ t, ∀ C' (Q : Bool → Cells → Prop), kvsK x C' = some t → Q (p e) C' → wt ((dwipe ρ vs).set j (some (keyD e.1))) C' Q noX)
    (hwe : ∀ e ∈ t, ∀ C' (Q : DK), kvsK x C' = some t → Q (val e) C' → we ((dwipe ρ vs).set j (some (keyD e.1))) C' Q noX)
    (hP : P (.lst ((t.filter p).map val)) C) : wLockE (pVar i) (wLc (wItK (wVar i)) (.name j) wt we vs) ρ C P PX := by
  rcases hx with rfl | ⟨a, rfl, ha⟩
  · unfold wLockE
    rw [pVar_of hi]
    show wLc _ _ _ _ _ ρ C P PX
    unfold wLc wItK
    rw [wVar_of hi]
    exact lc_keys p val (fun _ _ => trivial) hn (fun e he C' Q _ h => hwt e he C' Q rfl h) (fun e he C' Q _ h => hwe e he C' Q rfl h) hP
  · unfold wLockE
    rw [pVar_of hi]
    dsimp only
    rw [ha]
    intro od ws
    unfold wLc wItK
    rw [wVar_of hi]
    dsimp only
    rw [cput_same]
    have hk : ∀ C', Sub (cput C a (.lK t od ws)) C' → kvsK (.ptr a) C' = some t := fun C' s => by
      have := s a _ cput_same
      simp only [kvsK, this]
    refine lc_keys p val (fun C' s => s a _ cput_same) hn (fun e he C' Q s h => hwt e he C' Q (hk C' s) h) (fun e he C' Q s h => hwe e he C' Q (hk C' s) h) ⟨cput_same, ?_⟩
    rw [cput_cput, cput_self ha]
    exact hP
theorem lockS_set {g : Pth} {m : Nat} {w : DE} {E : DEnds} {ρ : DEnv} {C : Cells} (h : wLockE g w ρ C (fun d C1 => E.nx (ρ.set m (some d)) C1) E.ex) : wLockS g (wSet m w) E ρ C := by
  unfold wLockE at h
  unfold wLockS
  split at h
  · rename_i a e
    split at h
    · rename_i t hc
      exact h
    · rename_i t hc
      exact h
    · rename_i h1 h2
      exact h
  · exact h
/-- a loop over items while something stays as it is -/
theorem for_mapS {α : Type} {L : List α} {enc : α → D} {st : Cells → Prop} {t : Tgt} {b : DS} {E : DEnds} {ρ : DEnv} {C : Cells} (Inv : Nat → DEnv → Cells → Prop) (h0 : Inv 0 ρ C) (hst : ∀ k ρ' C', Inv k ρ' C' → st C')
    (hs : ∀ (k : Nat) x ρ' C', L[k]? = some x → Inv k ρ' C' → match t.dg (enc x) ρ' with
      | some ρ2 => b { nx := Inv (k + 1), ct := Inv (k + 1), bk := E.nx, rt := E.rt, ex := E.ex } ρ2 C'
      | none => False)
    (hd : ∀ ρ' C', Inv L.length ρ' C' → E.nx ρ' C') : ForG ⟨L.map enc, st⟩ t b E ρ C := by
  refine ⟨Inv, h0, hst, fun k d ρ' C' hk hI => ?_, fun ρ' C' hI => hd ρ' C' (by simp only [List.length_map] at hI; exact hI)⟩
  simp only [List.getElem?_map] at hk
  cases hL : L[k]? with
  | none => rw [hL] at hk; cases hk
  | some x =>
    rw [hL] at hk
    cases hk
    exact hs k x ρ' C' hL hI
end DD

set_option Elab.async false
set_option linter.all false
set_option maxRecDepth 100000
set_option maxHeartbeats 4000000
namespace Law
open PySem L2 DD
local macro_rules | `(tactic| walk_at "dd") => `(tactic| simp only [wFor, wLc, wYes, wSeq, wRaise, wTry, wSet, wNext, wBreak, wCont, wDrop, wRet, wRetN, wIfS, wRetF, wFrz, wAsg, wAug, wPar, wVar, wC, wNil, wCons, wOp, wUn, wCB, wTest, wAnd, wOr, wNot, wIf, wAndV, wOrV, wNotV, wChain, wTup, wLst, wLstC, wItL, wItT, wRng1, wRng2, wRng3,
  dI, dI0, dU, dEqv, dIsN, dLen, dIx, dMax2, dMin2, dAbs, dInt, dList, dListC, dTupleOf, wCall, wCallX, wMeth, wMethX, wMake, wMakeF, wMakeX, wMakeXF, frzP, wFld, wFldSet, wSetL, wAugL, wBML, dAppend, dPop, dCat, wRep, wRepC, wNoPart, wPart, wSl,
  endsD, endsX, startD, dput, Tgt.dg, dgs, dwipe, List.map_cons, List.map_nil, List.cons_append, List.nil_append, List.append_nil, List.length_cons, List.length_nil, List.replicate_succ, List.replicate_zero, List.getElem?_cons_zero, List.getElem?_cons_succ, List.getElem?_nil, List.set_cons_zero, List.set_cons_succ, List.set_nil, List.lookup,
  Nat.reduceAdd, Nat.reduceSub, Nat.reduceLeDiff, Option.map_some, Option.map_none, Option.bind_some, Option.bind_none, Option.isSome_some, Bool.false_xor, Bool.true_xor, Bool.not_true, Bool.not_false, decide_true, decide_false, decide_eq_true_eq, decide_eq_false_iff_not, Bool.not_eq_true, Bool.false_eq_true, reduceCtorEq, if_true, if_false, ite_true, ite_false, true_and, and_true, String.reduceBEq, String.reduceEq, ofString_eq_iff, cput_same, cput_cput, reduceIte, ↓reduceIte, atI_zero, atI_nat', atI_lit, atI_succ, atI_snoc, seqOf_lst, seqOf_ptr, itsOf_lst, itsOf_tup, itsOf_ptr, lenOf_lst, lenOf_tup, lenOf_ptr, itemOf_lst, itemOf_tup, itemOf_ptr, isSeq_ptr, isSeq_lst, fldOf_ins, fldOf_ptr, isIns_ins, isIns_ptr, dEqD, res_lst, res_tup, res_ptr, dIn, dInD, inItems, dIndex, dCatT, dExtend, wItS, dOrd, dChr, dAny, dAll, wBMS, dJoin, wDead, dMax3, dDGet, dDIn, dEmp,  wGet1, wGet2, dicGet, kvsK, kvsT, keyOf, keysOf, keysAll, isDic, dicPut, wSetD, wDelD, wNewK, wNewT, wNew0, wItK, wLockS, pVar, pFld, unl, dLenDic, dDictC, dKeyList, dSortDic, dEqDic, wPairs, wDisp, wDispF, pairsK, mergeD, Option.getD_some, Option.getD_none, or_true, true_or, Option.isSome_none, List.isEmpty_nil, List.isEmpty_cons,  List.getElem?_map, List.length_map, Int.zero_add, *])
abbrev prg : PySem.Program := PySem.Challenge.pw_copperhouse_k28_alarms_of_a_watch
def topS (i : Nat) : Stmt := prg.main.body.getD i (.Pass ⟨0, 0, 0, 0⟩)
abbrev s_law_state : Stmt := topS 17
abbrev s_law_digit : Stmt := topS 18
abbrev s_Watch_init : Stmt := inClass (topS 7) 0
abbrev s_law_cell : Stmt := topS 16
abbrev s_Record_init : Stmt := inClass (topS 9) 0
abbrev s_record_from : Stmt := topS 12
abbrev s_Record_is_open : Stmt := inClass (topS 9) 1
abbrev s_close_record : Stmt := topS 11
abbrev s_belongs : Stmt := topS 10
abbrev s_fold_entry : Stmt := topS 13
abbrev s_records_of : Stmt := topS 14
abbrev s_law_look : Stmt := topS 19
abbrev s_law_total : Stmt := topS 20
abbrev s_Window_total : Stmt := inClass (topS 5) 2
abbrev s_Watch_total : Stmt := inClass (topS 7) 5
abbrev s_Watch_is_high : Stmt := inClass (topS 7) 6
abbrev s_Watch_alarms_at : Stmt := inClass (topS 7) 4
abbrev s_Watch_fresh_seconds : Stmt := inClass (topS 7) 1
abbrev s_Window_add : Stmt := inClass (topS 5) 1
abbrev s_Window_init : Stmt := inClass (topS 5) 0
abbrev s_Watch_count : Stmt := inClass (topS 7) 2
abbrev s_Watch_see : Stmt := inClass (topS 7) 3
abbrev s_Watch_alarms : Stmt := inClass (topS 7) 7
abbrev s_law : Stmt := topS 21
theorem sc_law_state : FnScope ["cell", "k", "prime", "first", "second", "third", "fourth"] ["cell", "k"] (defScope s_law_state) := ⟨rfl, rfl, rfl, by decide +kernel, rfl, by decide +kernel, by decide +kernel⟩
theorem sc_law_digit : FnScope ["state", "many", "digit"] ["state", "many"] (defScope s_law_digit) := ⟨rfl, rfl, rfl, by decide +kernel, rfl, by decide +kernel, by decide +kernel⟩
theorem sc_Watch_init : FnScope ["self", "limit", "width"] ["self", "limit", "width"] (defScope s_Watch_init) := ⟨rfl, rfl, rfl, by decide +kernel, rfl, by decide +kernel, by decide +kernel⟩
theorem sc_law_cell : FnScope ["script", "k"] ["script", "k"] (defScope s_law_cell) := ⟨rfl, rfl, rfl, by decide +kernel, rfl, by decide +kernel, by decide +kernel⟩
theorem sc_Record_init : FnScope ["self", "call_id", "role", "caller", "called", "payer", "came", "went", "parent", "opened_at"] ["self", "call_id", "role", "caller", "called", "payer", "came", "went", "parent", "opened_at"] (defScope s_Record_init) := ⟨rfl, rfl, rfl, by decide +kernel, rfl, by decide +kernel, by decide +kernel⟩
theorem sc_record_from : FnScope ["entry", "_", "call_id", "role", "caller", "called", "payer", "came", "went", "parent", "at"] ["entry"] (defScope s_record_from) := ⟨rfl, rfl, rfl, by decide +kernel, rfl, by decide +kernel, by decide +kernel⟩
theorem sc_Record_is_open : FnScope ["self"] ["self"] (defScope s_Record_is_open) := ⟨rfl, rfl, rfl, by decide +kernel, rfl, by decide +kernel, by decide +kernel⟩
theorem sc_close_record : FnScope ["record", "cause", "at"] ["record", "cause", "at"] (defScope s_close_record) := ⟨rfl, rfl, rfl, by decide +kernel, rfl, by decide +kernel, by decide +kernel⟩
theorem sc_belongs : FnScope ["record", "call_id"] ["record", "call_id"] (defScope s_belongs) := ⟨rfl, rfl, rfl, by decide +kernel, rfl, by decide +kernel, by decide +kernel⟩
theorem sc_fold_entry : FnScope ["records", "entry", "kind", "record"] ["records", "entry"] (defScope s_fold_entry) := ⟨rfl, rfl, rfl, by decide +kernel, rfl, by decide +kernel, by decide +kernel⟩
theorem sc_records_of : FnScope ["entries", "records", "entry"] ["entries"] (defScope s_records_of) := ⟨rfl, rfl, rfl, by decide +kernel, rfl, by decide +kernel, by decide +kernel⟩
theorem sc_law_look : FnScope ["entries", "talked", "rows", "k"] ["entries", "talked"] (defScope s_law_look) := ⟨rfl, rfl, rfl, by decide +kernel, rfl, by decide +kernel, by decide +kernel⟩
theorem sc_law_total : FnScope ["seen", "payer", "clock", "width", "who", "time", "seconds"] ["seen", "payer", "clock", "width"] (defScope s_law_total) := ⟨rfl, rfl, rfl, by decide +kernel, rfl, by decide +kernel, by decide +kernel⟩
theorem sc_Window_total : FnScope ["self", "clock", "time", "amount"] ["self", "clock"] (defScope s_Window_total) := ⟨rfl, rfl, rfl, by decide +kernel, rfl, by decide +kernel, by decide +kernel⟩
theorem sc_Watch_total : FnScope ["self", "payer", "clock"] ["self", "payer", "clock"] (defScope s_Watch_total) := ⟨rfl, rfl, rfl, by decide +kernel, rfl, by decide +kernel, by decide +kernel⟩
theorem sc_Watch_is_high : FnScope ["self", "payer"] ["self", "payer"] (defScope s_Watch_is_high) := ⟨rfl, rfl, rfl, by decide +kernel, rfl, by decide +kernel, by decide +kernel⟩
theorem sc_Watch_alarms_at : FnScope ["self", "clock", "found", "payer", "total"] ["self", "clock"] (defScope s_Watch_alarms_at) := ⟨rfl, rfl, rfl, by decide +kernel, rfl, by decide +kernel, by decide +kernel⟩
theorem sc_Watch_fresh_seconds : FnScope ["self", "record"] ["self", "record"] (defScope s_Watch_fresh_seconds) := ⟨rfl, rfl, rfl, by decide +kernel, rfl, by decide +kernel, by decide +kernel⟩
theorem sc_Window_add : FnScope ["self", "clock", "amount"] ["self", "clock", "amount"] (defScope s_Window_add) := ⟨rfl, rfl, rfl, by decide +kernel, rfl, by decide +kernel, by decide +kernel⟩
theorem sc_Window_init : FnScope ["self", "width"] ["self", "width"] (defScope s_Window_init) := ⟨rfl, rfl, rfl, by decide +kernel, rfl, by decide +kernel, by decide +kernel⟩
theorem sc_Watch_count : FnScope ["self", "payer", "clock", "seconds"] ["self", "payer", "clock", "seconds"] (defScope s_Watch_count) := ⟨rfl, rfl, rfl, by decide +kernel, rfl, by decide +kernel, by decide +kernel⟩
theorem sc_Watch_see : FnScope ["self", "records", "clock", "record", "fresh"] ["self", "records", "clock"] (defScope s_Watch_see) := ⟨rfl, rfl, rfl, by decide +kernel, rfl, by decide +kernel, by decide +kernel⟩
theorem sc_Watch_alarms : FnScope ["self"] ["self"] (defScope s_Watch_alarms) := ⟨rfl, rfl, rfl, by decide +kernel, rfl, by decide +kernel, by decide +kernel⟩
theorem sc_law : FnScope ["script", "drawn", "limit", "width", "payers", "entries", "k", "watch", "talked", "seen", "high", "told", "clock", "state", "place", "more", "due", "payer", "total", "records", "record", "spare"] ["script"] (defScope s_law) := ⟨rfl, rfl, rfl, by decide +kernel, rfl, by decide +kernel, by decide +kernel⟩
/-- where things stand -/
structure Ad where
  a_law_state : Addr
  d_law_state : FuncData
  a_law_digit : Addr
  d_law_digit : FuncData
  a_Watch_init : Addr
  d_Watch_init : FuncData
  a_law_cell : Addr
  d_law_cell : FuncData
  a_Record_init : Addr
  d_Record_init : FuncData
  a_record_from : Addr
  d_record_from : FuncData
  a_Record_is_open : Addr
  d_Record_is_open : FuncData
  a_close_record : Addr
  d_close_record : FuncData
  a_belongs : Addr
  d_belongs : FuncData
  a_fold_entry : Addr
  d_fold_entry : FuncData
  a_records_of : Addr
  d_records_of : FuncData
  a_law_look : Addr
  d_law_look : FuncData
  a_law_total : Addr
  d_law_total : FuncData
  a_Window_total : Addr
  d_Window_total : FuncData
  a_Watch_total : Addr
  d_Watch_total : FuncData
  a_Watch_is_high : Addr
  d_Watch_is_high : FuncData
  a_Watch_alarms_at : Addr
  d_Watch_alarms_at : FuncData
  a_Watch_fresh_seconds : Addr
  d_Watch_fresh_seconds : FuncData
  a_Window_add : Addr
  d_Window_add : FuncData
  a_Window_init : Addr
  d_Window_init : FuncData
  a_Watch_count : Addr
  d_Watch_count : FuncData
  a_Watch_see : Addr
  d_Watch_see : FuncData
  a_Watch_alarms : Addr
  d_Watch_alarms : FuncData
  a_law : Addr
  d_law : FuncData
  C_Window : Addr
  C_Watch : Addr
  C_Record : Addr
structure Txt (K : PySem.W.Frag) (mg : Str → Option Value) (A : Ad) : Prop where
  F_law_state : Fun K "_law_state" "_law_state" s_law_state A.a_law_state A.d_law_state
  b_law_state : Binds K A.d_law_state ["cell", "k"] []
  g_law_state : mg "_law_state" = some (.ref A.a_law_state)
  F_law_digit : Fun K "_law_digit" "_law_digit" s_law_digit A.a_law_digit A.d_law_digit
  b_law_digit : Binds K A.d_law_digit ["state", "many"] []
  g_law_digit : mg "_law_digit" = some (.ref A.a_law_digit)
  F_Watch_init : Fun K "__init__" "Watch.__init__" s_Watch_init A.a_Watch_init A.d_Watch_init
  b_Watch_init : Binds K A.d_Watch_init ["self", "limit", "width"] []
  m_Watch_init : Mk K A.C_Watch A.a_Watch_init
  F_law_cell : Fun K "_law_cell" "_law_cell" s_law_cell A.a_law_cell A.d_law_cell
  b_law_cell : Binds K A.d_law_cell ["script", "k"] []
  g_law_cell : mg "_law_cell" = some (.ref A.a_law_cell)
  F_Record_init : Fun K "__init__" "Record.__init__" s_Record_init A.a_Record_init A.d_Record_init
  b_Record_init : Binds K A.d_Record_init ["self", "call_id", "role", "caller", "called", "payer", "came", "went", "parent", "opened_at"] []
  m_Record_init : Mk K A.C_Record A.a_Record_init
  F_record_from : Fun K "record_from" "record_from" s_record_from A.a_record_from A.d_record_from
  b_record_from : Binds K A.d_record_from ["entry"] []
  g_record_from : mg "record_from" = some (.ref A.a_record_from)
  F_Record_is_open : Fun K "is_open" "Record.is_open" s_Record_is_open A.a_Record_is_open A.d_Record_is_open
  b_Record_is_open : Binds K A.d_Record_is_open ["self"] []
  m_Record_is_open : Meth K A.C_Record (Str.ofString "is_open") A.a_Record_is_open
  F_close_record : Fun K "close_record" "close_record" s_close_record A.a_close_record A.d_close_record
  b_close_record : Binds K A.d_close_record ["record", "cause", "at"] []
  g_close_record : mg "close_record" = some (.ref A.a_close_record)
  F_belongs : Fun K "belongs" "belongs" s_belongs A.a_belongs A.d_belongs
  b_belongs : Binds K A.d_belongs ["record", "call_id"] []
  g_belongs : mg "belongs" = some (.ref A.a_belongs)
  F_fold_entry : Fun K "fold_entry" "fold_entry" s_fold_entry A.a_fold_entry A.d_fold_entry
  b_fold_entry : Binds K A.d_fold_entry ["records", "entry"] []
  g_fold_entry : mg "fold_entry" = some (.ref A.a_fold_entry)
  F_records_of : Fun K "records_of" "records_of" s_records_of A.a_records_of A.d_records_of
  b_records_of : Binds K A.d_records_of ["entries"] []
  g_records_of : mg "records_of" = some (.ref A.a_records_of)
  F_law_look : Fun K "_law_look" "_law_look" s_law_look A.a_law_look A.d_law_look
  b_law_look : Binds K A.d_law_look ["entries", "talked"] []
  g_law_look : mg "_law_look" = some (.ref A.a_law_look)
  F_law_total : Fun K "_law_total" "_law_total" s_law_total A.a_law_total A.d_law_total
  b_law_total : Binds K A.d_law_total ["seen", "payer", "clock", "width"] []
  g_law_total : mg "_law_total" = some (.ref A.a_law_total)
  F_Window_total : Fun K "total" "Window.total" s_Window_total A.a_Window_total A.d_Window_total
  b_Window_total : Binds K A.d_Window_total ["self", "clock"] []
  m_Window_total : Meth K A.C_Window (Str.ofString "total") A.a_Window_total
  F_Watch_total : Fun K "total" "Watch.total" s_Watch_total A.a_Watch_total A.d_Watch_total
  b_Watch_total : Binds K A.d_Watch_total ["self", "payer", "clock"] []
  m_Watch_total : Meth K A.C_Watch (Str.ofString "total") A.a_Watch_total
  F_Watch_is_high : Fun K "is_high" "Watch.is_high" s_Watch_is_high A.a_Watch_is_high A.d_Watch_is_high
  b_Watch_is_high : Binds K A.d_Watch_is_high ["self", "payer"] []
  m_Watch_is_high : Meth K A.C_Watch (Str.ofString "is_high") A.a_Watch_is_high
  F_Watch_alarms_at : Fun K "alarms_at" "Watch.alarms_at" s_Watch_alarms_at A.a_Watch_alarms_at A.d_Watch_alarms_at
  b_Watch_alarms_at : Binds K A.d_Watch_alarms_at ["self", "clock"] []
  m_Watch_alarms_at : Meth K A.C_Watch (Str.ofString "alarms_at") A.a_Watch_alarms_at
  F_Watch_fresh_seconds : Fun K "fresh_seconds" "Watch.fresh_seconds" s_Watch_fresh_seconds A.a_Watch_fresh_seconds A.d_Watch_fresh_seconds
  b_Watch_fresh_seconds : Binds K A.d_Watch_fresh_seconds ["self", "record"] []
  m_Watch_fresh_seconds : Meth K A.C_Watch (Str.ofString "fresh_seconds") A.a_Watch_fresh_seconds
  F_Window_add : Fun K "add" "Window.add" s_Window_add A.a_Window_add A.d_Window_add
  b_Window_add : Binds K A.d_Window_add ["self", "clock", "amount"] []
  m_Window_add : Meth K A.C_Window (Str.ofString "add") A.a_Window_add
  F_Window_init : Fun K "__init__" "Window.__init__" s_Window_init A.a_Window_init A.d_Window_init
  b_Window_init : Binds K A.d_Window_init ["self", "width"] []
  m_Window_init : Mk K A.C_Window A.a_Window_init
  F_Watch_count : Fun K "count" "Watch.count" s_Watch_count A.a_Watch_count A.d_Watch_count
  b_Watch_count : Binds K A.d_Watch_count ["self", "payer", "clock", "seconds"] []
  m_Watch_count : Meth K A.C_Watch (Str.ofString "count") A.a_Watch_count
  F_Watch_see : Fun K "see" "Watch.see" s_Watch_see A.a_Watch_see A.d_Watch_see
  b_Watch_see : Binds K A.d_Watch_see ["self", "records", "clock"] []
  m_Watch_see : Meth K A.C_Watch (Str.ofString "see") A.a_Watch_see
  F_Watch_alarms : Fun K "alarms" "Watch.alarms" s_Watch_alarms A.a_Watch_alarms A.d_Watch_alarms
  b_Watch_alarms : Binds K A.d_Watch_alarms ["self"] []
  m_Watch_alarms : Meth K A.C_Watch (Str.ofString "alarms") A.a_Watch_alarms
  F_law : Fun K "law" "law" s_law A.a_law A.d_law
  b_law : Binds K A.d_law ["script"] []
  g_law : mg "law" = some (.ref A.a_law)
  g_Window : mg "Window" = some (.ref A.C_Window)
  c_Window : Cls K A.C_Window
  g_Watch : mg "Watch" = some (.ref A.C_Watch)
  c_Watch : Cls K A.C_Watch
  g_Record : mg "Record" = some (.ref A.C_Record)
  c_Record : Cls K A.C_Record
  n_Record_call_id : NoAttr K A.C_Record (Str.ofString "call_id")
  n_Record_called : NoAttr K A.C_Record (Str.ofString "called")
  n_Record_caller : NoAttr K A.C_Record (Str.ofString "caller")
  n_Record_came : NoAttr K A.C_Record (Str.ofString "came")
  n_Record_cause : NoAttr K A.C_Record (Str.ofString "cause")
  n_Record_closed_at : NoAttr K A.C_Record (Str.ofString "closed_at")
  n_Record_confirmed : NoAttr K A.C_Record (Str.ofString "confirmed")
  n_Record_opened_at : NoAttr K A.C_Record (Str.ofString "opened_at")
  n_Record_parent : NoAttr K A.C_Record (Str.ofString "parent")
  n_Record_payer : NoAttr K A.C_Record (Str.ofString "payer")
  n_Record_role : NoAttr K A.C_Record (Str.ofString "role")
  n_Record_went : NoAttr K A.C_Record (Str.ofString "went")
  n_Watch_high : NoAttr K A.C_Watch (Str.ofString "high")
  n_Watch_limit : NoAttr K A.C_Watch (Str.ofString "limit")
  n_Watch_seen : NoAttr K A.C_Watch (Str.ofString "seen")
  n_Watch_told : NoAttr K A.C_Watch (Str.ofString "told")
  n_Watch_width : NoAttr K A.C_Watch (Str.ofString "width")
  n_Watch_windows : NoAttr K A.C_Watch (Str.ofString "windows")
  n_Window_rows : NoAttr K A.C_Window (Str.ofString "rows")
  n_Window_width : NoAttr K A.C_Window (Str.ofString "width")
  z_int : mg "int" = none
  z_len : mg "len" = none
  z_list : mg "list" = none
  z_max : mg "max" = none
  z_min : mg "min" = none
  z_range : mg "range" = none
  z_sorted : mg "sorted" = none
  z_sum : mg "sum" = none
section
variable {P : Program} {w : World} {K : PySem.W.Frag} {mg : Str → Option Value} {base : Heap} {A : Ad}
/-! payers -/
def pn : Nat → Str
  | 0 => "41" | 1 => "42" | 2 => "51" | _ => "77"
abbrev pnD (i : Nat) : D := .str (pn i)
abbrev pnK (i : Nat) : L2.Key := .inr (pn i)
def pyD : Option Nat → D
  | none => .non
  | some i => pnD i
/-! records -/
def idD (a k : Int) : D := .tup [.int a, .int 1, .int k]
def mkFs (a b c d e f g h i cf cl cs : D) : List (String × D) := [("call_id", a), ("role", b), ("caller", c), ("called", d), ("payer", e), ("came", f), ("went", g), ("parent", h), ("opened_at", i), ("confirmed", cf), ("closed_at", cl), ("cause", cs)]
structure Rc where
  k : Nat
  py : Option Nat
  cf : Int
def recFs (r : Rc) : List (String × D) := mkFs (idD 0 r.k) (.str "both") (.str "41") (.str "52") (pyD r.py) .non .non .non (.int r.k) (.int r.cf) .non .non
def recC (A : Ad) (r : Rc) : Cell := .ins A.C_Record (recFs r)
theorem lk_is_open (r : Rc) : (recFs r).lookup "is_open" = none := by simp [recFs, mkFs, List.lookup]
theorem dat_id {a k : Int} : Dat 1 (idD a k) := .tup fun d hd => by
  simp only [List.mem_cons, List.not_mem_nil, or_false] at hd
  rcases hd with rfl | rfl | rfl <;> exact .int _
inductive Ent where
  | boot
  | opn (k : Nat) (py : Option Nat)
  | mark (k : Nat) (v : Int)
def entD : Ent → D
  | .boot => .tup [.str "boot", .int 1, .int 0]
  | .opn k py => .tup [.str "open", idD 0 k, .str "both", .str "41", .str "52", pyD py, .non, .non, .non, .int k]
  | .mark k v => .tup [.str "mark", idD 0 k, .int v]
def markR (k : Nat) (v : Int) (r : Rc) : Rc := if r.k = k then { r with cf := v } else r
def stepE (g : List Rc) : Ent → List Rc
  | .boot => g
  | .opn k py => g ++ [⟨k, py, 0⟩]
  | .mark k v => g.map (markR k v)
/-- the list at p holds records, all laid since C0 -/
structure Good (A : Ad) (C0 C : Cells) (p : Addr) (ps : List Addr) (g : List Rc) : Prop where
  sub : Sub C0 C
  new : C0 p = none
  lst : C p = some (.lst (ps.map D.ptr))
  nd : ps.Nodup
  fresh : ∀ q ∈ ps, C0 q = none
  recs : ps.map C = g.map fun r => some (recC A r)
theorem Good.len {A : Ad} {C0 C : Cells} {p : Addr} {ps : List Addr} {g : List Rc} (h : Good A C0 C p ps g) : ps.length = g.length := by have := congrArg List.length h.recs; simpa using this
theorem Good.at {A : Ad} {C0 C : Cells} {p : Addr} {ps : List Addr} {g : List Rc} (h : Good A C0 C p ps g) {j : Nat} {q : Addr} (hq : ps[j]? = some q) : ∃ r, g[j]? = some r ∧ C q = some (recC A r) := by
  have hj := (List.getElem?_eq_some_iff.mp hq).1
  have hg : g[j]? = some (g[j]'(by rw [← h.len]; exact hj)) := List.getElem?_eq_getElem _
  refine ⟨_, hg, ?_⟩
  have := congrArg (fun l => l[j]?) h.recs
  simp only [List.getElem?_map, hq, hg, Option.map_some] at this
  exact Option.some.inj this
theorem map_cput_nd {ps : List Addr} {C : Cells} {c : Cell} : ∀ {j : Nat} {q : Addr}, ps.Nodup → ps[j]? = some q → ps.map (cput C q c) = (ps.map C).set j (some c) := by
  induction ps with
  | nil => intro j q _ h; simp at h
  | cons x ps ih =>
    intro j q hn h
    rw [List.nodup_cons] at hn
    cases j with
    | zero =>
      have : x = q := by simpa using h
      subst this
      rw [List.map_cons, List.map_cons, List.set_cons_zero, cput_same]
      congr 1
      exact List.map_congr_left fun a ha => cput_ne fun e => hn.1 (by rw [← e]; exact ha)
    | succ j =>
      have h' : ps[j]? = some q := by simpa using h
      rw [List.map_cons, List.map_cons, List.set_cons_succ, ih hn.2 h', cput_ne (fun e => hn.1 (by rw [e]; exact List.mem_of_getElem? h'))]
theorem Good.put {A : Ad} {C0 C : Cells} {p : Addr} {ps : List Addr} {g : List Rc} (h : Good A C0 C p ps g) {j : Nat} {q : Addr} (hq : ps[j]? = some q) (r : Rc) : Good A C0 (cput C q (recC A r)) p ps (g.set j r) := by
  obtain ⟨r0, _, hr⟩ := h.at hq
  have hf := h.fresh q (List.mem_of_getElem? hq)
  have hpq : p ≠ q := fun e => by subst e; rw [h.lst] at hr; cases hr
  refine ⟨fun a c e => ?_, h.new, (cput_ne hpq).trans h.lst, h.nd, h.fresh, ?_⟩
  · rw [cput_ne (fun z => by subst z; rw [hf] at e; cases e)]
    exact h.sub a c e
  · rw [map_cput_nd h.nd hq, h.recs, List.map_set]
/-! the records of a look -/
def opns (py : Nat → Option Nat) : List Ent := (List.range 8).map fun k => .opn k (py k)
def marks (tk : Nat → Int) : List Ent := (List.range 8).filterMap fun k => if 0 < tk k then some (.mark k (tk k)) else none
def recsL (py : Nat → Option Nat) (tk : Nat → Int) : List Rc := (List.range 8).map fun k => ⟨k, py k, tk k⟩
theorem fold_opns (py : Nat → Option Nat) : ∀ n, ((List.range n).map fun k => Ent.opn k (py k)).foldl stepE [] = (List.range n).map fun k => (⟨k, py k, 0⟩ : Rc)
  | 0 => rfl
  | n + 1 => by
    rw [List.range_succ, List.map_append, List.foldl_append, fold_opns py n, List.map_append]
    rfl
theorem fold_marks (py : Nat → Option Nat) (tk : Nat → Int) (h : ∀ k, 0 ≤ tk k) : ∀ n, ((List.range n).filterMap fun k => if 0 < tk k then some (Ent.mark k (tk k)) else none).foldl stepE ((List.range 8).map fun k => (⟨k, py k, 0⟩ : Rc)) = (List.range 8).map fun k => (⟨k, py k, if k < n then tk k else 0⟩ : Rc)
  | 0 => by simp
  | n + 1 => by
    rw [show List.range (n + 1) = List.range n ++ [n] from List.range_succ, List.filterMap_append, List.foldl_append, fold_marks py tk h n]
    by_cases g : 0 < tk n
    · rw [List.filterMap_cons, if_pos g]
      show List.map (markR n (tk n)) _ = _
      rw [List.map_map]
      refine List.map_congr_left fun k _ => ?_
      show markR n (tk n) ⟨k, py k, if k < n then tk k else 0⟩ = _
      unfold markR
      by_cases e : k = n
      · subst e; rw [if_pos rfl]; dsimp only; rw [if_pos (Nat.lt_succ_self _)]
      · rw [if_neg e]
        by_cases g2 : k < n
        · rw [if_pos g2, if_pos (by omega)]
        · rw [if_neg g2, if_neg (by omega)]
    · rw [List.filterMap_cons, if_neg g]
      refine List.map_congr_left fun k _ => ?_
      by_cases e : k = n
      · subst e
        have := h k
        rw [if_neg (by omega), if_pos (by omega)]
        congr 1; omega
      · by_cases g2 : k < n
        · rw [if_pos g2, if_pos (by omega)]
        · rw [if_neg g2, if_neg (by omega)]
theorem fold_look (py : Nat → Option Nat) (tk : Nat → Int) (h : ∀ k, 0 ≤ tk k) : (opns py ++ marks tk).foldl stepE [] = recsL py tk := by
  rw [List.foldl_append]
  unfold opns marks recsL
  rw [fold_opns, fold_marks py tk h]
  refine List.map_congr_left fun k hk => ?_
  rw [if_pos (List.mem_range.mp hk)]
theorem foldE_len : ∀ (es : List Ent) (g : List Rc), (es.foldl stepE g).length ≤ g.length + es.length
  | [], g => Nat.le_refl _
  | e :: es, g => by
    rw [List.foldl_cons, List.length_cons]
    have := foldE_len es (stepE g e)
    have h2 : (stepE g e).length ≤ g.length + 1 := by
      cases e with
      | boot => exact Nat.le_succ _
      | opn k py => show (g ++ [_]).length ≤ _; rw [List.length_append]; exact Nat.le_refl _
      | mark k v => show (g.map _).length ≤ _; rw [List.length_map]; exact Nat.le_succ _
    omega
/-! windows -/
abbrev Rw := Int × Int
def totF (L : List Rw) (w c : Int) : Int := (L.filterMap fun e => if c - w < e.1 ∧ e.1 ≤ c then some e.2 else none).sum
theorem tot_map (L : List Rw) (w c : Int) : (L.filterMap fun e => if c - w < e.1 ∧ e.1 ≤ c then some (D.int e.2) else none) = (L.filterMap fun e => if c - w < e.1 ∧ e.1 ≤ c then some e.2 else none).map D.int := by
  rw [← filterMap_map]
  congr 1
  funext e
  split <;> rfl
/-! tables by small numbers -/
section
variable {κ : Type} [DecidableEq κ] {key : Nat → κ}
def tb (key : Nat → κ) (o : List Nat) (v : Nat → D) : List (κ × D) := o.map fun i => (key i, v i)
theorem tb_cong {o : List Nat} {v w : Nat → D} (h : ∀ i ∈ o, v i = w i) : tb key o v = tb key o w := List.map_congr_left fun i hi => by rw [h i hi]
theorem tb_in {o : List Nat} {v : Nat → D} {i : Nat} (inj : ∀ x ∈ o, key x = key i → x = i) (h : i ∈ o) : vaD (tb key o v) (key i) = some (v i) := vaD_map (key := key) (val := v) (a := i) inj h
theorem tb_out {o : List Nat} {v : Nat → D} {i : Nat} (inj : ∀ x ∈ o, key x = key i → x = i) (h : i ∉ o) : vaD (tb key o v) (key i) = none := vaD_map_none (key := key) (val := v) fun x hx e => h (by rw [← inj x hx e]; exact hx)
theorem tb_put {o : List Nat} {v : Nat → D} {i : Nat} (inj : ∀ x ∈ o, key x = key i → x = i) (h : i ∈ o) (x : D) : puD (tb key o v) (key i) x = tb key o fun j => if j = i then x else v j := by
  unfold puD
  rw [any_vaD, tb_in inj h, if_pos (show (some (v i)).isSome = true from rfl)]
  unfold tb
  rw [List.map_map]
  refine List.map_congr_left fun j hj => ?_
  show (if key j = key i then (key j, x) else (key j, v j)) = (key j, if j = i then x else v j)
  by_cases e : j = i
  · subst e; rw [if_pos rfl, if_pos rfl]
  · rw [if_neg (fun z => e (inj j hj z)), if_neg e]
theorem tb_new {o : List Nat} {v : Nat → D} {i : Nat} (inj : ∀ x ∈ o, key x = key i → x = i) (h : i ∉ o) (x : D) : puD (tb key o v) (key i) x = tb key (o ++ [i]) fun j => if j = i then x else v j := by
  rw [puD_new (tb_out inj h)]
  unfold tb
  rw [List.map_append]
  congr 1
  · exact List.map_congr_left fun j hj => by
      show (key j, v j) = (key j, if j = i then x else v j)
      rw [if_neg (fun e => h (by rw [← e]; exact hj))]
  · simp
def ins1 (o : List Nat) (i : Nat) : List Nat := if i ∈ o then o else o ++ [i]
theorem tb_any {o : List Nat} {v : Nat → D} {i : Nat} (inj : ∀ x ∈ o, key x = key i → x = i) (x : D) : puD (tb key o v) (key i) x = tb key (ins1 o i) fun j => if j = i then x else v j := by
  unfold ins1
  by_cases h : i ∈ o
  · rw [if_pos h]; exact tb_put inj h x
  · rw [if_neg h]; exact tb_new inj h x
theorem tb_len (o : List Nat) (v : Nat → D) : (tb key o v).length = o.length := by unfold tb; rw [List.length_map]
end
theorem mem_ins1 {o : List Nat} {i j : Nat} : j ∈ ins1 o i ↔ j ∈ o ∨ j = i := by
  unfold ins1
  by_cases h : i ∈ o
  · rw [if_pos h]
    exact ⟨.inl, fun z => z.elim id fun e => by rw [e]; exact h⟩
  · rw [if_neg h]; simp
theorem nd_ins1 {o : List Nat} {i : Nat} (h : o.Nodup) : (ins1 o i).Nodup := by
  unfold ins1
  by_cases g : i ∈ o
  · rw [if_pos g]; exact h
  · rw [if_neg g]
    refine List.nodup_append.mpr ⟨h, by simp, fun a ha b hb e => ?_⟩
    simp only [List.mem_cons, List.not_mem_nil, or_false] at hb
    subst hb; subst e; exact g ha
theorem len_nd {o : List Nat} {n : Nat} (h : o.Nodup) (l : ∀ i ∈ o, i < n) : o.length ≤ n := by
  have hp : o.Perm ((List.range n).filter fun i => decide (i ∈ o)) := (List.perm_ext_iff_of_nodup h (List.nodup_range.filter _)).mpr fun i => by
    rw [List.mem_filter, List.mem_range, decide_eq_true_eq]
    exact ⟨fun h => ⟨l i h, h⟩, fun h => h.2⟩
  rw [hp.length_eq]
  exact Nat.le_trans (List.length_filter_le _ _) (by rw [List.length_range]; exact Nat.le_refl _)
theorem pn_inj : ∀ i j : Nat, i < 4 → j < 4 → pn i = pn j → i = j := by
  have : ∀ i : Fin 4, ∀ j : Fin 4, pn i = pn j → i = j := by decide +kernel
  intro i j hi hj h
  exact congrArg Fin.val (this ⟨i, hi⟩ ⟨j, hj⟩ h)
theorem pnK_inj {o : List Nat} (h : ∀ i ∈ o, i < 3) {i : Nat} (hi : i < 4) : ∀ x ∈ o, pnK x = pnK i → x = i := fun x hx e => pn_inj x i (by have := h x hx; omega) hi (Sum.inr.inj e)
abbrev idK (k : Nat) : List L2.Key := [.inl 0, .inl 1, .inl (k : Int)]
theorem idK_inj {o : List Nat} {i : Nat} : ∀ x ∈ o, idK x = idK i → x = i := fun x _ e => by
  simp only [idK, List.cons.injEq, Sum.inl.injEq, true_and, and_true] at e
  omega
theorem sort_enc {α : Type} [Inhabited α] {enc : α → D} {le : α → α → Bool} (tr : ∀ a b c, le a b = true → le b c = true → le a c = true) (to : ∀ a b, (le a b || le b a) = true) (an : ∀ a b, le a b = true → le b a = true → a = b)
    {X : List D} {Z : List α} (hX : X.Perm (Z.map enc)) (hi : ∀ a ∈ Z, ∀ b ∈ Z, enc a = enc b → a = b) (hle : ∀ a ∈ Z, ∀ b ∈ Z, leD (enc a) (enc b) = le a b) (hZ : Z.Pairwise fun a b => le a b = true) : X.mergeSort leD = Z.map enc := by
  classical
  let dec : D → α := fun x => if h : ∃ a, a ∈ Z ∧ enc a = x then Classical.choose h else default
  have hdec : ∀ a ∈ Z, dec (enc a) = a := fun a ha => by
    have h : ∃ a', a' ∈ Z ∧ enc a' = enc a := ⟨a, ha, rfl⟩
    show (if h : ∃ a', a' ∈ Z ∧ enc a' = enc a then Classical.choose h else default) = a
    rw [dif_pos h]
    exact hi _ (Classical.choose_spec h).1 _ ha (Classical.choose_spec h).2
  have hY : (X.map dec).Perm Z := by
    have h1 := hX.map dec
    rw [List.map_map] at h1
    have h2 : Z.map (dec ∘ enc) = Z := by
      show Z.map (fun a => dec (enc a)) = Z
      rw [List.map_congr_left (g := id) fun a ha => hdec a ha, List.map_id]
    rwa [h2] at h1
  have hXY : X = (X.map dec).map enc := by
    rw [List.map_map, List.map_congr_left (g := id) fun x hx => ?_, List.map_id]
    obtain ⟨a, ha, rfl⟩ := List.mem_map.mp (hX.mem_iff.mp hx)
    show enc (dec (enc a)) = enc a
    rw [hdec a ha]
  rw [hXY, ← List.map_mergeSort (r := le) (s := leD) (f := enc) (fun a ha b hb => (hle a (hY.mem_iff.mp ha) b (hY.mem_iff.mp hb)).symm)]
  congr 1
  have hp := List.pairwise_mergeSort (le := le) tr to (X.map dec)
  exact ((List.mergeSort_perm _ _).trans hY).eq_of_pairwise (fun a b _ _ h h' => an a b h h') hp hZ
theorem pn_le : ∀ i j : Nat, i < 3 → j < 3 → leD (pnD i) (pnD j) = decide (i ≤ j) := by
  have : ∀ i : Fin 3, ∀ j : Fin 3, leD (pnD i) (pnD j) = decide (i.val ≤ j.val) := by decide +kernel
  intro i j hi hj
  exact this ⟨i, hi⟩ ⟨j, hj⟩
theorem pn_dat (i : Nat) : Dat 0 (pnD i) := .str (by unfold pn; split <;> decide +kernel)
theorem sorts_pn (o : List Nat) : SortsD (o.map pnD) := by
  refine ⟨⟨0, by decide, fun d hd => ?_⟩, fun d hd e he => ?_, .inr fun d hd => ?_⟩
  · obtain ⟨b, _, rfl⟩ := List.mem_map.mp hd; exact pn_dat b
  · obtain ⟨d', hd', rfl⟩ := List.mem_map.mp hd
    obtain ⟨e', he', rfl⟩ := List.mem_map.mp he
    obtain ⟨b, _, rfl⟩ := List.mem_map.mp hd'
    obtain ⟨c, _, rfl⟩ := List.mem_map.mp he'
    simp [pnD, D.py, PySem.W.alike]
  · obtain ⟨d', hd', rfl⟩ := List.mem_map.mp hd
    obtain ⟨b, _, rfl⟩ := List.mem_map.mp hd'
    simp [pnD, D.py]
def srt (o : List Nat) : List Nat := o.mergeSort fun a b => decide (a ≤ b)
theorem srt_mem {o : List Nat} {i : Nat} : i ∈ srt o ↔ i ∈ o := (List.mergeSort_perm o _).mem_iff
theorem srt_le (o : List Nat) : (srt o).Pairwise fun a b => decide (a ≤ b) = true := List.pairwise_mergeSort (by intro a b c; simp; omega) (by intro a b; simp; omega) o
theorem srt_nd {o : List Nat} (h : o.Nodup) : (srt o).Nodup := (List.mergeSort_perm o _).nodup_iff.mpr h
theorem pn_sort {o : List Nat} (ok : ∀ i ∈ o, i < 3) : (o.map pnD).mergeSort leD = (srt o).map pnD := by
  refine sort_enc (enc := pnD) (le := fun a b => decide (a ≤ b)) (by intro a b c; simp; omega) (by intro a b; simp; omega) (by intro a b; simp; omega) ((List.mergeSort_perm o _).symm.map pnD) (fun a ha b hb e => ?_) (fun a ha b hb => ?_) (srt_le o)
  · injection e with e
    have h1 := ok a (srt_mem.mp ha)
    have h2 := ok b (srt_mem.mp hb)
    exact pn_inj a b (by omega) (by omega) e
  · exact pn_le a b (ok a (srt_mem.mp ha)) (ok b (srt_mem.mp hb))
theorem tb_keys (o : List Nat) (v : Nat → D) : (tb pnK o v).map (fun p => keyD p.1) = o.map pnD := by unfold tb; rw [List.map_map]; rfl
/-! the watch -/
structure Ms where
  o : List Nat
  rw : Nat → List Rw
  os : List Nat
  sv : Nat → Int
  oh : List Nat
  hb : Nat → Bool
  tl : List D
structure Mok (m : Ms) : Prop where
  ond : m.o.Nodup
  olt : ∀ i ∈ m.o, i < 3
  snd : m.os.Nodup
  slt : ∀ k ∈ m.os, k < 8
  hnd : m.oh.Nodup
  hlt : ∀ i ∈ m.oh, i < 3
  r0 : ∀ i, i ∉ m.o → m.rw i = []
  s0 : ∀ k, k ∉ m.os → m.sv k = 0
  h0 : ∀ i, i ∉ m.oh → m.hb i = false
def countM (m : Ms) (i : Nat) (c s : Int) : Ms := { m with o := ins1 m.o i, rw := fun j => if j = i then m.rw i ++ [(c, s)] else m.rw j }
def freshV (m : Ms) (r : Rc) : Int := max 0 (r.cf - m.sv r.k)
def seeR (c : Int) (m : Ms) (r : Rc) : Ms := match r.py with
  | none => m
  | some i => if 0 < freshV m r then { countM m i c (freshV m r) with os := ins1 m.os r.k, sv := fun j => if j = r.k then r.cf else m.sv j } else m
def foundA (lim wid c : Int) (m : Ms) (S : List Nat) : List (Nat × Int) := S.filterMap fun i => if totF (m.rw i) wid c > lim ∧ m.hb i = false then some (i, totF (m.rw i) wid c) else none
def fdD (e : Nat × Int) : D := .tup [pnD e.1, .int e.2]
def tlD (c : Int) (e : Nat × Int) : D := .tup [pnD e.1, .int c, .int e.2]
def alM (lim wid c : Int) (m : Ms) : Ms := { m with oh := (srt m.o).foldl ins1 m.oh, hb := fun i => if i ∈ m.o then decide (totF (m.rw i) wid c > lim) else m.hb i, tl := m.tl ++ (foundA lim wid c m (srt m.o)).map (tlD c) }
theorem mok_count {m : Ms} (h : Mok m) {i : Nat} (hi : i < 3) (c s : Int) : Mok (countM m i c s) := by
  refine ⟨nd_ins1 h.ond, fun j hj => ?_, h.snd, h.slt, h.hnd, h.hlt, fun j hj => ?_, h.s0, h.h0⟩
  · rcases mem_ins1.mp hj with hj | rfl
    · exact h.olt j hj
    · exact hi
  · show (if j = i then _ else m.rw j) = []
    rw [if_neg (fun e => hj (mem_ins1.mpr (.inr e)))]
    exact h.r0 j fun z => hj (mem_ins1.mpr (.inl z))
theorem mok_see {m : Ms} (h : Mok m) {r : Rc} (hp : ∀ i, r.py = some i → i < 3) (hk : r.k < 8) (c : Int) : Mok (seeR c m r) := by
  unfold seeR
  split
  · exact h
  · rename_i i hi
    split
    · have g := mok_count h (hp i hi) c (freshV m r)
      refine ⟨g.ond, g.olt, nd_ins1 h.snd, fun j hj => ?_, g.hnd, g.hlt, g.r0, fun j hj => ?_, g.h0⟩
      · rcases mem_ins1.mp hj with hj | rfl
        · exact h.slt j hj
        · exact hk
      · show (if j = r.k then r.cf else m.sv j) = 0
        rw [if_neg (fun e => hj (mem_ins1.mpr (.inr e)))]
        exact h.s0 j fun z => hj (mem_ins1.mpr (.inl z))
    · exact h
theorem mem_foldins : ∀ {S o : List Nat} {i : Nat}, i ∈ S.foldl ins1 o ↔ i ∈ o ∨ i ∈ S
  | [], o, i => by simp
  | x :: S, o, i => by
    rw [List.foldl_cons, mem_foldins, mem_ins1]
    simp only [List.mem_cons]
    constructor
    · rintro ((h | h) | h)
      · exact .inl h
      · exact .inr (.inl h)
      · exact .inr (.inr h)
    · rintro (h | h | h)
      · exact .inl (.inl h)
      · exact .inl (.inr h)
      · exact .inr h
theorem nd_foldins : ∀ {S o : List Nat}, o.Nodup → (S.foldl ins1 o).Nodup
  | [], o, h => h
  | x :: S, o, h => nd_foldins (S := S) (nd_ins1 h)
theorem mok_al {m : Ms} (h : Mok m) (lim wid c : Int) : Mok (alM lim wid c m) := by
  refine ⟨h.ond, h.olt, h.snd, h.slt, nd_foldins h.hnd, fun j hj => ?_, h.r0, h.s0, fun j hj => ?_⟩
  · rcases mem_foldins.mp hj with hj | hj
    · exact h.hlt j hj
    · exact h.olt j (srt_mem.mp hj)
  · show (if j ∈ m.o then _ else m.hb j) = false
    rw [if_neg (fun z => hj (mem_foldins.mpr (.inr (srt_mem.mpr z))))]
    exact h.h0 j fun z => hj (mem_foldins.mpr (.inl z))
/-- which cell is what: the watch's own are below 100 -/
abbrev Tag := Addr → Nat
structure WA (A : Ad) (tag : Tag) (C : Cells) (lim wid : Int) (w : Addr) (m : Ms) : Prop where
  ex : ∃ (pw ps ph pt : Addr) (q r : Nat → Addr), tag w = 0 ∧ tag pw = 1 ∧ tag ps = 2 ∧ tag ph = 3 ∧ tag pt = 4 ∧ (∀ i ∈ m.o, tag (q i) = 10 + 2 * i ∧ tag (r i) = 11 + 2 * i)
    ∧ C w = some (.ins A.C_Watch [("limit", .int lim), ("width", .int wid), ("windows", .ptr pw), ("seen", .ptr ps), ("high", .ptr ph), ("told", .ptr pt)])
    ∧ C pw = some (.dK (tb pnK m.o fun i => .ptr (q i))) ∧ C ps = some (.dT (tb idK m.os fun k => .int (m.sv k))) ∧ C ph = some (.dK (tb pnK m.oh fun i => .bl (m.hb i))) ∧ C pt = some (.lst m.tl)
    ∧ ∀ i ∈ m.o, C (q i) = some (.ins A.C_Window [("width", .int wid), ("rows", .ptr (r i))]) ∧ C (r i) = some (.lst ((m.rw i).map pairD))
/-- the others stay -/
structure Keep (tag tag' : Tag) (C C' : Cells) : Prop where
  st : ∀ a c, C a = some c → 100 ≤ tag a → C' a = some c ∧ tag' a = tag a
theorem Keep.refl (tag : Tag) (C : Cells) : Keep tag tag C C := ⟨fun _ _ h _ => ⟨h, rfl⟩⟩
theorem Keep.trans {t1 t2 t3 : Tag} {C1 C2 C3 : Cells} (h : Keep t1 t2 C1 C2) (g : Keep t2 t3 C2 C3) : Keep t1 t3 C1 C3 := ⟨fun a c e l => by
  obtain ⟨h1, h2⟩ := h.st a c e l
  obtain ⟨h3, h4⟩ := g.st a c h1 (by omega)
  exact ⟨h3, h4.trans h2⟩⟩
theorem ne_tag {tag : Tag} {a b : Addr} (h : tag a ≠ tag b) : a ≠ b := fun e => h (by rw [e])
theorem WA.retag {A : Ad} {tag tag1 : Tag} {C : Cells} {lim wid : Int} {w : Addr} {m : Ms} (h : WA A tag C lim wid w m) (g : ∀ a c, C a = some c → tag1 a = tag a) : WA A tag1 C lim wid w m := by
  obtain ⟨pw, ps, ph, pt, qq, rr, t0, t1, t2, t3, t4, t5, c0, c1, c2, c3, c4, c5⟩ := h.ex
  exact ⟨pw, ps, ph, pt, qq, rr, (g _ _ c0).trans t0, (g _ _ c1).trans t1, (g _ _ c2).trans t2, (g _ _ c3).trans t3, (g _ _ c4).trans t4, fun i hi => ⟨(g _ _ (c5 i hi).1).trans (t5 i hi).1, (g _ _ (c5 i hi).2).trans (t5 i hi).2⟩, c0, c1, c2, c3, c4, c5⟩
theorem WA.sub {A : Ad} {tag : Tag} {C C' : Cells} {lim wid : Int} {w : Addr} {m : Ms} (h : WA A tag C lim wid w m) (g : Sub C C') : WA A tag C' lim wid w m := by
  obtain ⟨pw, ps, ph, pt, qq, rr, t0, t1, t2, t3, t4, t5, c0, c1, c2, c3, c4, c5⟩ := h.ex
  exact ⟨pw, ps, ph, pt, qq, rr, t0, t1, t2, t3, t4, t5, g _ _ c0, g _ _ c1, g _ _ c2, g _ _ c3, g _ _ c4, fun i hi => ⟨g _ _ (c5 i hi).1, g _ _ (c5 i hi).2⟩⟩
theorem WA.put {A : Ad} {tag : Tag} {C : Cells} {lim wid : Int} {w : Addr} {m : Ms} (h : WA A tag C lim wid w m) (ok : ∀ i ∈ m.o, i < 3) {a : Addr} (ha : 100 ≤ tag a) (c : Cell) : WA A tag (cput C a c) lim wid w m := by
  obtain ⟨pw, ps, ph, pt, qq, rr, t0, t1, t2, t3, t4, t5, c0, c1, c2, c3, c4, c5⟩ := h.ex
  have n : ∀ b, tag b < 100 → cput C a c b = C b := fun b hb => cput_ne (ne_tag (tag := tag) (by omega))
  refine ⟨pw, ps, ph, pt, qq, rr, t0, t1, t2, t3, t4, t5, (n _ (by omega)).trans c0, (n _ (by omega)).trans c1, (n _ (by omega)).trans c2, (n _ (by omega)).trans c3, (n _ (by omega)).trans c4, fun i hi => ?_⟩
  have := ok i hi
  have t := t5 i hi
  exact ⟨(n _ (by omega)).trans (c5 i hi).1, (n _ (by omega)).trans (c5 i hi).2⟩
/-! what was talked -/
abbrev Sn := Nat × (Int × Int)
def snD (e : Sn) : D := .tup [pnD e.1, .int e.2.1, .int e.2.2]
def rowsOf (L : List Sn) (i : Nat) : List Rw := L.filterMap fun e => if e.1 = i then some e.2 else none
structure LS (A : Ad) (tag : Tag) (C : Cells) (lim wid : Int) (w ta se hi to : Addr) (m : Ms) (tk : Nat → Int) (sl : List Sn) (hb : Nat → Bool) (tl : List D) : Prop where
  wa : WA A tag C lim wid w m
  tta : tag ta = 101
  tse : tag se = 102
  thi : tag hi = 103
  tto : tag to = 104
  cta : C ta = some (.lst ((List.range 8).map fun k => .int (tk k)))
  cse : C se = some (.lst (sl.map snD))
  chi : C hi = some (.dK (tb pnK [0, 1, 2] fun i => .bl (hb i)))
  cto : C to = some (.lst tl)
section
variable {A : Ad} {tag : Tag} {C : Cells} {lim wid : Int} {w ta se hi to : Addr} {m : Ms} {tk : Nat → Int} {sl : List Sn} {hb : Nat → Bool} {tl : List D}
theorem LS.oth (h : LS A tag C lim wid w ta se hi to m tk sl hb tl) (ok : ∀ i ∈ m.o, i < 3) {a : Addr} (ha : 105 ≤ tag a) (c : Cell) : LS A tag (cput C a c) lim wid w ta se hi to m tk sl hb tl := by
  have n : ∀ b, tag b < 105 → cput C a c b = C b := fun b hb => cput_ne (ne_tag (tag := tag) (by omega))
  have := h.tta; have := h.tse; have := h.thi; have := h.tto
  exact ⟨h.wa.put ok (by omega) c, h.tta, h.tse, h.thi, h.tto, (n _ (by omega)).trans h.cta, (n _ (by omega)).trans h.cse, (n _ (by omega)).trans h.chi, (n _ (by omega)).trans h.cto⟩
theorem LS.rem (h : LS A tag C lim wid w ta se hi to m tk sl hb tl) (ok : ∀ i ∈ m.o, i < 3) {a : Addr} (ha : 105 ≤ tag a) : LS A tag (crem C a) lim wid w ta se hi to m tk sl hb tl := by
  have n : ∀ b, tag b < 105 → crem C a b = C b := fun b hb => crem_ne (ne_tag (tag := tag) (by omega))
  have := h.tta; have := h.tse; have := h.thi; have := h.tto
  refine ⟨?_, h.tta, h.tse, h.thi, h.tto, (n _ (by omega)).trans h.cta, (n _ (by omega)).trans h.cse, (n _ (by omega)).trans h.chi, (n _ (by omega)).trans h.cto⟩
  obtain ⟨pw, ps, ph, pt, qq, rr, t0, t1, t2, t3, t4, t5, c0, c1, c2, c3, c4, c5⟩ := h.wa.ex
  refine ⟨pw, ps, ph, pt, qq, rr, t0, t1, t2, t3, t4, t5, (n _ (by omega)).trans c0, (n _ (by omega)).trans c1, (n _ (by omega)).trans c2, (n _ (by omega)).trans c3, (n _ (by omega)).trans c4, fun i hi => ?_⟩
  have := ok i hi
  have t := t5 i hi
  exact ⟨(n _ (by omega)).trans (c5 i hi).1, (n _ (by omega)).trans (c5 i hi).2⟩
theorem LS.sub (h : LS A tag C lim wid w ta se hi to m tk sl hb tl) {C' : Cells} (s : Sub C C') : LS A tag C' lim wid w ta se hi to m tk sl hb tl :=
  ⟨h.wa.sub s, h.tta, h.tse, h.thi, h.tto, s _ _ h.cta, s _ _ h.cse, s _ _ h.chi, s _ _ h.cto⟩
theorem LS.retag (h : LS A tag C lim wid w ta se hi to m tk sl hb tl) {tag1 : Tag} (g : ∀ a c, C a = some c → tag1 a = tag a) : LS A tag1 C lim wid w ta se hi to m tk sl hb tl :=
  ⟨h.wa.retag g, (g _ _ h.cta).trans h.tta, (g _ _ h.cse).trans h.tse, (g _ _ h.chi).trans h.thi, (g _ _ h.cto).trans h.tto, h.cta, h.cse, h.chi, h.cto⟩
theorem LS.nw (h : LS A tag C lim wid w ta se hi to m tk sl hb tl) {p : Addr} (hp : C p = none) (c : Cell) : LS A (fun a => if a = p then 105 else tag a) (cput C p c) lim wid w ta se hi to m tk sl hb tl :=
  (h.retag fun a d ha => if_neg (cell_ne ha hp)).sub (Sub.new hp)
theorem LS.keep (h : LS A tag C lim wid w ta se hi to m tk sl hb tl) {tag1 : Tag} {C' : Cells} {m' : Ms} (k : Keep tag tag1 C C') (wa : WA A tag1 C' lim wid w m') : LS A tag1 C' lim wid w ta se hi to m' tk sl hb tl := by
  have h1 := k.st _ _ h.cta (by rw [h.tta]; omega)
  have h2 := k.st _ _ h.cse (by rw [h.tse]; omega)
  have h3 := k.st _ _ h.chi (by rw [h.thi]; omega)
  have h4 := k.st _ _ h.cto (by rw [h.tto]; omega)
  exact ⟨wa, h1.2.trans h.tta, h2.2.trans h.tse, h3.2.trans h.thi, h4.2.trans h.tto, h1.1, h2.1, h3.1, h4.1⟩
theorem LS.pta (h : LS A tag C lim wid w ta se hi to m tk sl hb tl) (ok : ∀ i ∈ m.o, i < 3) (tk' : Nat → Int) : LS A tag (cput C ta (.lst ((List.range 8).map fun k => .int (tk' k)))) lim wid w ta se hi to m tk' sl hb tl := by
  have h1 := h.tta; have h2 := h.tse; have h3 := h.thi; have h4 := h.tto
  exact ⟨h.wa.put ok (by omega) _, h1, h2, h3, h4, cput_same, (cput_ne (ne_tag (tag := tag) (by omega))).trans h.cse, (cput_ne (ne_tag (tag := tag) (by omega))).trans h.chi, (cput_ne (ne_tag (tag := tag) (by omega))).trans h.cto⟩
theorem LS.pse (h : LS A tag C lim wid w ta se hi to m tk sl hb tl) (ok : ∀ i ∈ m.o, i < 3) (sl' : List Sn) : LS A tag (cput C se (.lst (sl'.map snD))) lim wid w ta se hi to m tk sl' hb tl := by
  have h1 := h.tta; have h2 := h.tse; have h3 := h.thi; have h4 := h.tto
  exact ⟨h.wa.put ok (by omega) _, h1, h2, h3, h4, (cput_ne (ne_tag (tag := tag) (by omega))).trans h.cta, cput_same, (cput_ne (ne_tag (tag := tag) (by omega))).trans h.chi, (cput_ne (ne_tag (tag := tag) (by omega))).trans h.cto⟩
theorem LS.phi (h : LS A tag C lim wid w ta se hi to m tk sl hb tl) (ok : ∀ i ∈ m.o, i < 3) (hb' : Nat → Bool) : LS A tag (cput C hi (.dK (tb pnK [0, 1, 2] fun i => .bl (hb' i)))) lim wid w ta se hi to m tk sl hb' tl := by
  have h1 := h.tta; have h2 := h.tse; have h3 := h.thi; have h4 := h.tto
  exact ⟨h.wa.put ok (by omega) _, h1, h2, h3, h4, (cput_ne (ne_tag (tag := tag) (by omega))).trans h.cta, (cput_ne (ne_tag (tag := tag) (by omega))).trans h.cse, cput_same, (cput_ne (ne_tag (tag := tag) (by omega))).trans h.cto⟩
theorem LS.pto (h : LS A tag C lim wid w ta se hi to m tk sl hb tl) (ok : ∀ i ∈ m.o, i < 3) (tl' : List D) : LS A tag (cput C to (.lst tl')) lim wid w ta se hi to m tk sl hb tl' := by
  have h1 := h.tta; have h2 := h.tse; have h3 := h.thi; have h4 := h.tto
  exact ⟨h.wa.put ok (by omega) _, h1, h2, h3, h4, (cput_ne (ne_tag (tag := tag) (by omega))).trans h.cta, (cput_ne (ne_tag (tag := tag) (by omega))).trans h.cse, (cput_ne (ne_tag (tag := tag) (by omega))).trans h.chi, cput_same⟩
end
/-- the watch and the plain list tell the same -/
structure Rel (py : Nat → Option Nat) (tk : Nat → Int) (sl : List Sn) (hb : Nat → Bool) (tl : List D) (m : Ms) : Prop where
  ok : Mok m
  rw : ∀ i, m.rw i = rowsOf sl i
  sv : ∀ k, k < 8 → py k ≠ none → m.sv k = tk k
  hb : ∀ i, i < 3 → m.hb i = hb i
  tl : m.tl = tl
  oo : ∀ i ∈ m.oh, i ∈ m.o
/-- what one round adds, of the first n places -/
def adds (py : Nat → Option Nat) (tk tk' : Nat → Int) (c : Int) (n : Nat) : List Sn := (List.range n).filterMap fun k => match py k with | none => none | some i => if tk k < tk' k then some (i, c, tk' k - tk k) else none
theorem rowsOf_app (L M : List Sn) (i : Nat) : rowsOf (L ++ M) i = rowsOf L i ++ rowsOf M i := List.filterMap_append
theorem fm_congr {α β : Type} {f g : α → Option β} : ∀ {l : List α}, (∀ x ∈ l, f x = g x) → l.filterMap f = l.filterMap g
  | [], _ => rfl
  | x :: l, h => by rw [List.filterMap_cons, List.filterMap_cons, h x List.mem_cons_self, fm_congr fun y hy => h y (List.mem_cons_of_mem _ hy)]
theorem rowsOf_len (L : List Sn) (i : Nat) : (rowsOf L i).length ≤ L.length := List.length_filterMap_le _ _
theorem adds_cong {py : Nat → Option Nat} {tk t1 t2 : Nat → Int} {c : Int} {n : Nat} (h : ∀ k, k < n → t1 k = t2 k) : adds py tk t1 c n = adds py tk t2 c n := by
  unfold adds
  refine fm_congr fun k hk => ?_
  rw [h k (List.mem_range.mp hk)]
theorem adds_len (py : Nat → Option Nat) (tk tk' : Nat → Int) (c : Int) (n : Nat) : (adds py tk tk' c n).length ≤ n := by
  refine Nat.le_trans (List.length_filterMap_le _ _) ?_
  rw [List.length_range]; exact Nat.le_refl _
theorem adds_succ (py : Nat → Option Nat) (tk tk' : Nat → Int) (c : Int) (n : Nat) : adds py tk tk' c (n + 1) = adds py tk tk' c n ++ (match py n with | none => [] | some i => if tk n < tk' n then [(i, c, tk' n - tk n)] else []) := by
  unfold adds
  rw [List.range_succ, List.filterMap_append]
  congr 1
  cases h : py n with
  | none => rw [List.filterMap_cons]; simp only [h]; rfl
  | some i =>
    by_cases g : tk n < tk' n
    · rw [List.filterMap_cons]; simp only [h, if_pos g]; rfl
    · rw [List.filterMap_cons]; simp only [h, if_neg g]; rfl
structure RelN (py : Nat → Option Nat) (tk tk' : Nat → Int) (sl : List Sn) (hb : Nat → Bool) (tl : List D) (c : Int) (n : Nat) (m : Ms) : Prop where
  ok : Mok m
  rw : ∀ i, m.rw i = rowsOf (sl ++ adds py tk tk' c n) i
  sv : ∀ k, k < 8 → py k ≠ none → m.sv k = if k < n then tk' k else tk k
  hb : ∀ i, i < 3 → m.hb i = hb i
  tl : m.tl = tl
  oo : ∀ i ∈ m.oh, i ∈ m.o
theorem see_rel {py : Nat → Option Nat} {tk tk' : Nat → Int} {sl : List Sn} {hb : Nat → Bool} {tl : List D} {c : Int} (hp : ∀ k i, py k = some i → i < 3) (h0 : ∀ k, tk k ≤ tk' k) {m : Ms} (h : Rel py tk sl hb tl m) :
    ∀ n, n ≤ 8 → RelN py tk tk' sl hb tl c n (((List.range n).map fun k => (⟨k, py k, tk' k⟩ : Rc)).foldl (seeR c) m)
  | 0, _ => ⟨h.ok, fun i => by show m.rw i = rowsOf (sl ++ []) i; rw [List.append_nil]; exact h.rw i, fun k hk hn => by rw [if_neg (Nat.not_lt_zero k)]; exact h.sv k hk hn, h.hb, h.tl, h.oo⟩
  | n + 1, hn => by
    have ih := see_rel (c := c) hp h0 h n (by omega)
    rw [show List.range (n + 1) = List.range n ++ [n] from List.range_succ, List.map_append, List.foldl_append]
    generalize ((List.range n).map fun k => (⟨k, py k, tk' k⟩ : Rc)).foldl (seeR c) m = m1 at ih ⊢
    show RelN py tk tk' sl hb tl c (n + 1) (seeR c m1 ⟨n, py n, tk' n⟩)
    have hmn := mok_see ih.ok (r := ⟨n, py n, tk' n⟩) (fun i hi => hp n i hi) (by show n < 8; omega) c
    cases hpy : py n with
    | none =>
      have es : seeR c m1 ⟨n, none, tk' n⟩ = m1 := rfl
      rw [es]
      refine ⟨ih.ok, fun i => ?_, fun k hk hkn => ?_, ih.hb, ih.tl, ih.oo⟩
      · rw [adds_succ, hpy, List.append_nil]; exact ih.rw i
      · have hne : k ≠ n := fun e => hkn (by rw [e]; exact hpy)
        rw [ih.sv k hk hkn]
        by_cases g : k < n
        · rw [if_pos g, if_pos (by omega)]
        · rw [if_neg g, if_neg (by omega)]
    | some i =>
      rw [hpy] at hmn
      have hsv := ih.sv n (by omega) (by rw [hpy]; exact fun z => nomatch z)
      rw [if_neg (Nat.lt_irrefl n)] at hsv
      have hfr : freshV m1 ⟨n, some i, tk' n⟩ = max 0 (tk' n - tk n) := by unfold freshV; rw [hsv]
      have h0n := h0 n
      by_cases g : tk n < tk' n
      · have hfe : freshV m1 ⟨n, some i, tk' n⟩ = tk' n - tk n := by rw [hfr]; omega
        have es : seeR c m1 ⟨n, some i, tk' n⟩ = { countM m1 i c (tk' n - tk n) with os := ins1 m1.os n, sv := fun j => if j = n then tk' n else m1.sv j } := by
          show (if 0 < freshV m1 ⟨n, some i, tk' n⟩ then _ else m1) = _
          rw [if_pos (by rw [hfe]; omega), hfe]
        rw [es] at hmn ⊢
        refine ⟨hmn, fun j => ?_, fun k hk hkn => ?_, ih.hb, ih.tl, fun j hj => mem_ins1.mpr (.inl (ih.oo j hj))⟩
        · show (if j = i then m1.rw i ++ [(c, tk' n - tk n)] else m1.rw j) = _
          rw [adds_succ, hpy]
          simp only [if_pos g]
          rw [← List.append_assoc, rowsOf_app]
          by_cases e : j = i
          · subst e
            rw [if_pos rfl, ih.rw]
            congr 1
            show _ = List.filterMap _ _
            rw [List.filterMap_cons, if_pos rfl]; rfl
          · rw [if_neg e, ih.rw]
            show _ = _ ++ List.filterMap _ _
            rw [List.filterMap_cons, if_neg (fun z => e z.symm)]
            exact (List.append_nil _).symm
        · show (if k = n then tk' n else m1.sv k) = _
          by_cases e : k = n
          · subst e; rw [if_pos rfl, if_pos (Nat.lt_succ_self _)]
          · rw [if_neg e, ih.sv k hk hkn]
            by_cases g2 : k < n
            · rw [if_pos g2, if_pos (by omega)]
            · rw [if_neg g2, if_neg (by omega)]
      · have es : seeR c m1 ⟨n, some i, tk' n⟩ = m1 := by
          show (if 0 < freshV m1 ⟨n, some i, tk' n⟩ then _ else m1) = _
          exact if_neg (by rw [hfr]; omega)
        rw [es]
        refine ⟨ih.ok, fun j => ?_, fun k hk hkn => ?_, ih.hb, ih.tl, ih.oo⟩
        · rw [adds_succ, hpy]
          simp only [if_neg g]
          rw [List.append_nil]; exact ih.rw j
        · rw [ih.sv k hk hkn]
          by_cases e : k = n
          · subst e
            rw [if_neg (Nat.lt_irrefl _), if_pos (Nat.lt_succ_self _)]; omega
          · by_cases g2 : k < n
            · rw [if_pos g2, if_pos (by omega)]
            · rw [if_neg g2, if_neg (by omega)]
/-- who is due, of the first n payers -/
def dueL (lim wid c : Int) (sl : List Sn) (hb : Nat → Bool) (n : Nat) : List (Nat × Int) := (List.range n).filterMap fun i => if totF (rowsOf sl i) wid c > lim ∧ hb i = false then some (i, totF (rowsOf sl i) wid c) else none
def highF (lim wid c : Int) (sl : List Sn) (i : Nat) : Bool := decide (totF (rowsOf sl i) wid c > lim)
theorem dueL_succ (lim wid c : Int) (sl : List Sn) (hb : Nat → Bool) (n : Nat) : dueL lim wid c sl hb (n + 1) = dueL lim wid c sl hb n ++ (if totF (rowsOf sl n) wid c > lim ∧ hb n = false then [(n, totF (rowsOf sl n) wid c)] else []) := by
  unfold dueL
  rw [List.range_succ, List.filterMap_append]
  congr 1
  by_cases g : totF (rowsOf sl n) wid c > lim ∧ hb n = false
  · rw [List.filterMap_cons, if_pos g, if_pos g]; rfl
  · rw [List.filterMap_cons, if_neg g, if_neg g]; rfl
theorem dueL_len (lim wid c : Int) (sl : List Sn) (hb : Nat → Bool) (n : Nat) : (dueL lim wid c sl hb n).length ≤ n := by
  refine Nat.le_trans (List.length_filterMap_le _ _) ?_
  rw [List.length_range]; exact Nat.le_refl _
theorem fm_srt {f : Nat → Option (Nat × Int)} {o : List Nat} (nd : o.Nodup) (lt : ∀ i ∈ o, i < 3) (h : ∀ i, i < 3 → i ∉ o → f i = none) : (srt o).filterMap f = (List.range 3).filterMap f := by
  have e : srt o = (List.range 3).filter fun i => decide (i ∈ o) := by
    have hp : (srt o).Perm ((List.range 3).filter fun i => decide (i ∈ o)) := (List.perm_ext_iff_of_nodup (srt_nd nd) (List.nodup_range.filter _)).mpr fun i => by
      rw [List.mem_filter, List.mem_range, decide_eq_true_eq, srt_mem]
      exact ⟨fun h => ⟨lt i h, h⟩, fun h => h.2⟩
    refine hp.eq_of_pairwise (le := fun a b => decide (a ≤ b) = true) (fun a b _ _ h h' => by simp only [decide_eq_true_eq] at h h'; omega) (srt_le o) ?_
    exact (List.pairwise_lt_range.imp fun {a b} h => by simp only [decide_eq_true_eq]; omega).filter _
  rw [e, List.filterMap_filter]
  refine fm_congr fun i hi => ?_
  by_cases g : i ∈ o
  · rw [if_pos (by simpa using g)]
  · rw [if_neg (by simpa using g), h i (List.mem_range.mp hi) g]
theorem al_rel {py : Nat → Option Nat} {tk tk' : Nat → Int} {sl : List Sn} {hb : Nat → Bool} {tl : List D} {c lim wid : Int} (hl : 0 ≤ lim) {m : Ms} (h : RelN py tk tk' sl hb tl c 8 m) :
    foundA lim wid c m (srt m.o) = dueL lim wid c (sl ++ adds py tk tk' c 8) hb 3 ∧ Rel py tk' (sl ++ adds py tk tk' c 8) (highF lim wid c (sl ++ adds py tk tk' c 8)) (tl ++ (dueL lim wid c (sl ++ adds py tk tk' c 8) hb 3).map (tlD c)) (alM lim wid c m) := by
  generalize hS : sl ++ adds py tk tk' c 8 = S at h ⊢
  have hrw : ∀ i, m.rw i = rowsOf S i := fun i => by rw [h.rw i, hS]
  have hout : ∀ i, i ∉ m.o → totF (rowsOf S i) wid c = 0 ∧ m.hb i = false := fun i hi => ⟨by rw [← hrw i, h.ok.r0 i hi]; rfl, h.ok.h0 i fun z => hi (h.oo i z)⟩
  have hf : foundA lim wid c m (srt m.o) = dueL lim wid c S hb 3 := by
    unfold foundA dueL
    rw [fm_srt h.ok.ond h.ok.olt fun i _ hi => by rw [hrw i, (hout i hi).1]; exact if_neg (by omega)]
    refine fm_congr fun i hi => ?_
    rw [hrw i, h.hb i (List.mem_range.mp hi)]
  refine ⟨hf, mok_al h.ok lim wid c, hrw, fun k hk hn => ?_, fun i hi => ?_, ?_, fun i hi => ?_⟩
  · have := h.sv k hk hn
    rw [if_pos hk] at this
    exact this
  · show (if i ∈ m.o then decide (totF (m.rw i) wid c > lim) else m.hb i) = decide (totF (rowsOf S i) wid c > lim)
    by_cases g : i ∈ m.o
    · rw [if_pos g, hrw i]
    · obtain ⟨z1, z2⟩ := hout i g
      rw [if_neg g, z1, z2]
      exact (decide_eq_false (by omega)).symm
  · show m.tl ++ (foundA lim wid c m (srt m.o)).map (tlD c) = _
    rw [hf, h.tl]
  · rcases mem_foldins.mp hi with hi | hi
    · exact h.oo i hi
    · exact srt_mem.mp hi
def R_law_state (A : Ad) : DSp := fun ds C P => ∃ (c k : Int), ds = [.int c, .int k] ∧ 0 ≤ k ∧ k ≤ 100 ∧ ∀ p s, 0 ≤ s → C p = none → P (.ptr p) (cput C p (.lst [.int s]))
theorem len_law_state (A : Ad) : ∀ ds C P, R_law_state A ds C P → ds.length = 2 := by rintro _ _ _ ⟨c, k, rfl, _⟩; rfl
theorem ok_law_state (T : Txt K mg A) : FnOk P w K mg base CX0 1 A.a_law_state A.d_law_state ["cell", "k"] (spD K (R_law_state A)) :=
  ok_D T.F_law_state sc_law_state (len_law_state A) (fun cdv Ar outer s H E hr =>
    ds_cons (ds_set 2 sc_law_state.nd (d_int))
    (ds_cons (ds_set 3 sc_law_state.nd (d_op op_mod s_mod (d_callTy call_int1 s_int (by rfl) T.z_int (by decide +kernel) (d_cons (d_op op_add s_add (d_op op_add s_add (d_op op_mul s_mul (d_op op_mod s_mod (d_callTy call_int1 s_int (by rfl) T.z_int (by decide +kernel) (d_cons (d_var 0) (d_nil))) (d_var 2)) (d_int)) (d_op op_mul s_mul (d_op op_add s_add (d_var 1) (d_int)) (d_int))) (d_int)) (d_nil))) (d_var 2)))
    (ds_cons (ds_set 4 sc_law_state.nd (d_op op_mod s_mod (d_callTy call_int1 s_int (by rfl) T.z_int (by decide +kernel) (d_cons (d_op op_add s_add (d_op op_add s_add (d_op op_mul s_mul (d_var 3) (d_var 3)) (d_op op_mul s_mul (d_int) (d_var 3))) (d_var 1)) (d_nil))) (d_var 2)))
    (ds_cons (ds_set 5 sc_law_state.nd (d_op op_mod s_mod (d_callTy call_int1 s_int (by rfl) T.z_int (by decide +kernel) (d_cons (d_op op_add s_add (d_op op_add s_add (d_op op_mul s_mul (d_var 4) (d_int)) (d_op op_mul s_mul (d_var 3) (d_int))) (d_int)) (d_nil))) (d_var 2)))
    (ds_cons (ds_set 6 sc_law_state.nd (d_op op_mod s_mod (d_callTy call_int1 s_int (by rfl) T.z_int (by decide +kernel) (d_cons (d_op op_add s_add (d_op op_mul s_mul (d_var 5) (d_var 5)) (d_var 4)) (d_nil))) (d_var 2)))
    (ds_one (ds_ret (d_lstC (d_cons (d_op op_add s_add (d_op op_mul s_mul (d_op op_add s_add (d_op op_mul s_mul (d_op op_add s_add (d_op op_mul s_mul (d_var 6) (d_var 2)) (d_var 5)) (d_var 2)) (d_var 4)) (d_var 2)) (d_var 3)) (d_nil)))))))))) (fun ds C Pk h => by
    obtain ⟨c, k, rfl, h0, h1, q⟩ := h
    walk_at "dd"
    have e1 := mod_lo c (m := 2305843009213693951) (by decide)
    have e2 := mod_hi c (m := 2305843009213693951) (by decide)
    generalize c % 2305843009213693951 = x1 at *
    have f1 := mod_lo (x1 * 6364136223 + (k + 1) * 104729 + 77) (m := 2305843009213693951) (by decide)
    have f2 := mod_hi (x1 * 6364136223 + (k + 1) * 104729 + 77) (m := 2305843009213693951) (by decide)
    generalize (x1 * 6364136223 + (k + 1) * 104729 + 77) % 2305843009213693951 = x2 at *
    have g1 := mod_lo (x2 * x2 + 1013 * x2 + k) (m := 2305843009213693951) (by decide)
    have g2 := mod_hi (x2 * x2 + 1013 * x2 + k) (m := 2305843009213693951) (by decide)
    generalize (x2 * x2 + 1013 * x2 + k) % 2305843009213693951 = x3 at *
    have i1 := mod_lo (x3 * 48271 + x2 * 31 + 9) (m := 2305843009213693951) (by decide)
    have i2 := mod_hi (x3 * 48271 + x2 * 31 + 9) (m := 2305843009213693951) (by decide)
    generalize (x3 * 48271 + x2 * 31 + 9) % 2305843009213693951 = x4 at *
    have j1 := mod_lo (x4 * x4 + x3) (m := 2305843009213693951) (by decide)
    have j2 := mod_hi (x4 * x4 + x3) (m := 2305843009213693951) (by decide)
    generalize (x4 * x4 + x3) % 2305843009213693951 = x5 at *
    refine ⟨by decide, cmul_l (by omega) (by omega), cmul_l (by omega) (by omega), by decide, cmul_l (by omega) (by omega), cmul_l (by omega) (by omega), by decide, cmul_l (by omega) (by omega), cmul_l (by omega) (by omega), by decide, cmul_l (by omega) (by omega), by decide,
      cmul_l (by omega) (by omega), cmul_r (by omega) (by omega), cmul_r (by omega) (by omega), fun p hp => ⟨_, Sub.refl _, q p _ ?_ hp⟩⟩
    omega)

def R_law_digit (A : Ad) : DSp := fun ds C P => ∃ p s m, ds = [.ptr p, .int m] ∧ C p = some (.lst [.int s]) ∧ 0 ≤ s ∧ 0 < m ∧ m < 18446744073709551616 ∧ ∀ d s', 0 ≤ d → d < m → 0 ≤ s' → P (.int d) (cput C p (.lst [.int s']))
theorem len_law_digit (A : Ad) : ∀ ds C P, R_law_digit A ds C P → ds.length = 2 := by rintro _ _ _ ⟨p, s, m, rfl, _⟩; rfl
theorem ok_law_digit (T : Txt K mg A) : FnOk P w K mg base CX0 1 A.a_law_digit A.d_law_digit ["state", "many"] (spD K (R_law_digit A)) :=
  ok_D T.F_law_digit sc_law_digit (len_law_digit A) (fun cdv Ar outer s H E hr =>
    ds_cons (ds_set 2 sc_law_digit.nd (d_op op_mod s_mod (d_callTy call_int1 s_int (by rfl) T.z_int (by decide +kernel) (d_cons (d_ix ix_seq s_ix (d_var 0) (d_int)) (d_nil))) (d_var 1)))
    (ds_cons (ds_setL (d_var 0) (d_int) (d_op op_fdivW s_divW (d_ix ix_seq s_ix (d_var 0) (d_int)) (d_var 1)))
    (ds_one (ds_ret (d_var 2))))) (fun ds C Pk h => by
    obtain ⟨p, s, m, rfl, hp, hs, h0, h1, q⟩ := h
    walk_at "dd"
    rw [ixN_at (by omega) (by omega)]
    exact ⟨_, Sub.refl _, q _ _ (mod_lo s h0) (mod_hi s h0) (Int.ediv_nonneg hs (by omega))⟩)

def R_Watch_init (A : Ad) : DSp := fun ds C P => ∃ p lim wid, ds = [.ptr p, .int lim, .int wid] ∧ C p = some (.ins A.C_Watch []) ∧ ∀ (tag' : Tag) C', WA A tag' C' lim wid p ⟨[], fun _ => [], [], fun _ => 0, [], fun _ => false, []⟩ → (∀ a c, C a = some c → a ≠ p → C' a = some c ∧ tag' a = 100) → P .non C'
theorem len_Watch_init (A : Ad) : ∀ ds C P, R_Watch_init A ds C P → ds.length = 3 := by rintro _ _ _ ⟨p, a, b, rfl, _⟩; rfl
theorem ok_Watch_init (T : Txt K mg A) : FnOk P w K mg base CX0 1 A.a_Watch_init A.d_Watch_init ["self", "limit", "width"] (spD K (R_Watch_init A)) :=
  ok_D T.F_Watch_init sc_Watch_init (len_Watch_init A) (fun cdv Ar outer s H E hr =>
    ds_cons (ds_fld T.c_Watch T.n_Watch_limit (d_var 0) (d_var 1))
    (ds_cons (ds_fld T.c_Watch T.n_Watch_width (d_var 0) (d_var 2))
    (ds_cons (ds_fld T.c_Watch T.n_Watch_windows (d_var 0) (d_newK))
    (ds_cons (ds_fld T.c_Watch T.n_Watch_seen (d_var 0) (d_newT))
    (ds_cons (ds_fld T.c_Watch T.n_Watch_high (d_var 0) (d_newK))
    (ds_one (ds_fld T.c_Watch T.n_Watch_told (d_var 0) (d_lstC (d_nil))))))))) (fun ds C Pk h => by
    obtain ⟨p, lim, wid, rfl, hp, q⟩ := h
    walk_at "dd"
    refine ⟨by decide, by decide, fun p1 h1 => ?_⟩
    have n1 : p ≠ p1 := cell_ne (C := cput C p _) cput_same h1
    rw [cput_ne n1, cput_same]
    refine ⟨rfl, by simp [dput], fun p2 h2 => ?_⟩
    have n2 : p ≠ p2 := cell_ne (C := cput _ p _) cput_same h2
    rw [cput_ne n2, cput_same]
    refine ⟨rfl, by simp [dput], fun p3 h3 => ?_⟩
    have n3 : p ≠ p3 := cell_ne (C := cput _ p _) cput_same h3
    rw [cput_ne n3, cput_same]
    refine ⟨rfl, by simp [dput], fun p4 h4 => ?_⟩
    have n4 : p ≠ p4 := cell_ne (C := cput _ p _) cput_same h4
    rw [cput_ne n4, cput_same]
    refine ⟨rfl, by simp [dput], _, Sub.refl _, ?_⟩
    rw [cput_ne n4.symm] at h4
    have m34 : p3 ≠ p4 := cell_ne (C := cput _ p3 _) cput_same h4
    rw [cput_ne m34.symm, cput_ne n4.symm] at h4
    have m24 : p2 ≠ p4 := cell_ne (C := cput _ p2 _) cput_same h4
    rw [cput_ne m24.symm, cput_ne n4.symm] at h4
    have m14 : p1 ≠ p4 := cell_ne (C := cput _ p1 _) cput_same h4
    rw [cput_ne m14.symm, cput_ne n4.symm] at h4
    rw [cput_ne n3.symm] at h3
    have m23 : p2 ≠ p3 := cell_ne (C := cput _ p2 _) cput_same h3
    rw [cput_ne m23.symm, cput_ne n3.symm] at h3
    have m13 : p1 ≠ p3 := cell_ne (C := cput _ p1 _) cput_same h3
    rw [cput_ne m13.symm, cput_ne n3.symm] at h3
    rw [cput_ne n2.symm] at h2
    have m12 : p1 ≠ p2 := cell_ne (C := cput _ p1 _) cput_same h2
    rw [cput_ne m12.symm, cput_ne n2.symm] at h2
    rw [cput_ne n1.symm] at h1
    refine q (fun a => if a = p then 0 else if a = p1 then 1 else if a = p2 then 2 else if a = p3 then 3 else if a = p4 then 4 else 100) _ ⟨p1, p2, p3, p4, fun _ => p, fun _ => p, ?_⟩ fun a c ha hap => ?_
    · refine ⟨if_pos rfl, ?_, ?_, ?_, ?_, (fun i hi => nomatch hi), cput_same, ?_, ?_, ?_, ?_, fun i hi => nomatch hi⟩
      · simp [n1.symm]
      · simp [n2.symm, m12.symm]
      · simp [n3.symm, m13.symm, m23.symm]
      · simp [n4.symm, m14.symm, m24.symm, m34.symm]
      · rw [cput_ne n1.symm, cput_ne m14, cput_ne n1.symm, cput_ne m13, cput_ne n1.symm, cput_ne m12, cput_ne n1.symm, cput_same]; rfl
      · rw [cput_ne n2.symm, cput_ne m24, cput_ne n2.symm, cput_ne m23, cput_ne n2.symm, cput_same]; rfl
      · rw [cput_ne n3.symm, cput_ne m34, cput_ne n3.symm, cput_same]; rfl
      · rw [cput_ne n4.symm, cput_same]
    · have a1 : a ≠ p1 := cell_ne ha h1
      have a2 : a ≠ p2 := cell_ne ha h2
      have a3 : a ≠ p3 := cell_ne ha h3
      have a4 : a ≠ p4 := cell_ne ha h4
      refine ⟨?_, by simp [hap, a1, a2, a3, a4]⟩
      rw [cput_ne hap, cput_ne a4, cput_ne hap, cput_ne a3, cput_ne hap, cput_ne a2, cput_ne hap, cput_ne a1, cput_ne hap]
      exact ha)

def R_law_cell (A : Ad) : DSp := fun ds C P => ∃ (ns : List Int) (k : Int), ds = [.lst (ns.map D.int), .int k] ∧ ns.length ≤ 63 ∧ 0 ≤ k ∧ ∀ v, P (.int v) C
theorem len_law_cell (A : Ad) : ∀ ds C P, R_law_cell A ds C P → ds.length = 2 := by rintro _ _ _ ⟨ns, k, rfl, _⟩; rfl
theorem ok_law_cell (T : Txt K mg A) : FnOk P w K mg base CX0 1 A.a_law_cell A.d_law_cell ["script", "k"] (spD K (R_law_cell A)) :=
  ok_D T.F_law_cell sc_law_cell (len_law_cell A) (fun cdv Ar outer s H E hr =>
    ds_cons (ds_if (d_tcmp op_lt s_lt (d_var 1) (d_callB call_len s_len (by rfl) T.z_len (by decide +kernel) (d_cons (d_var 0) (d_nil))))
      (ds_one (ds_ret (d_ix ix_seq s_ix (d_var 0) (d_var 1))))
      (ds_nil))
    (ds_one (ds_ret (d_int)))) (fun ds C Pk h => by
    obtain ⟨ns, k, rfl, hl, hk, q⟩ := h
    walk_at "dd"
    split
    · rename_i hc
      rw [atI_at hk, List.getElem?_map, List.getElem?_eq_getElem (by omega)]
      exact ⟨C, Sub.refl _, q _⟩
    · exact ⟨C, Sub.refl _, q _⟩)

def R_Record_init (A : Ad) : DSp := fun ds C P => ∃ p a b c d e f g h i, ds = [.ptr p, a, b, c, d, e, f, g, h, i] ∧ C p = some (.ins A.C_Record []) ∧ P .non (cput C p (.ins A.C_Record (mkFs a b c d e f g h i (.int 0) .non .non)))
theorem len_Record_init (A : Ad) : ∀ ds C P, R_Record_init A ds C P → ds.length = 10 := by rintro _ _ _ ⟨p, a, b, c, d, e, f, g, h, i, rfl, _⟩; rfl
theorem ok_Record_init (T : Txt K mg A) : FnOk P w K mg base CX0 1 A.a_Record_init A.d_Record_init ["self", "call_id", "role", "caller", "called", "payer", "came", "went", "parent", "opened_at"] (spD K (R_Record_init A)) :=
  ok_D T.F_Record_init sc_Record_init (len_Record_init A) (fun cdv Ar outer s H E hr =>
    ds_cons (ds_fld T.c_Record T.n_Record_call_id (d_var 0) (d_var 1))
    (ds_cons (ds_fld T.c_Record T.n_Record_role (d_var 0) (d_var 2))
    (ds_cons (ds_fld T.c_Record T.n_Record_caller (d_var 0) (d_var 3))
    (ds_cons (ds_fld T.c_Record T.n_Record_called (d_var 0) (d_var 4))
    (ds_cons (ds_fld T.c_Record T.n_Record_payer (d_var 0) (d_var 5))
    (ds_cons (ds_fld T.c_Record T.n_Record_came (d_var 0) (d_var 6))
    (ds_cons (ds_fld T.c_Record T.n_Record_went (d_var 0) (d_var 7))
    (ds_cons (ds_fld T.c_Record T.n_Record_parent (d_var 0) (d_var 8))
    (ds_cons (ds_fld T.c_Record T.n_Record_opened_at (d_var 0) (d_var 9))
    (ds_cons (ds_fld T.c_Record T.n_Record_confirmed (d_var 0) (d_int))
    (ds_cons (ds_fld T.c_Record T.n_Record_closed_at (d_var 0) (d_non))
    (ds_one (ds_fld T.c_Record T.n_Record_cause (d_var 0) (d_non)))))))))))))) (fun ds C Pk h => by
    obtain ⟨p, a, b, c, d, e, f, g, h, i, rfl, hp, q⟩ := h
    walk_at "dd"
    exact ⟨by decide, by decide, by decide, by decide, by decide, by decide, by decide, by decide, by decide, by decide, by decide, by decide, _, Sub.refl _, q⟩)

def R_record_from (A : Ad) : DSp := fun ds C P => ∃ k py, ds = [entD (.opn k py)] ∧ ∀ p, C p = none → P (.ptr p) (cput C p (recC A ⟨k, py, 0⟩))
theorem len_record_from (A : Ad) : ∀ ds C P, R_record_from A ds C P → ds.length = 1 := by rintro _ _ _ ⟨k, py, rfl, _⟩; rfl
theorem ok_record_from (T : Txt K mg A) : FnOk P w K mg base CX0 3 A.a_record_from A.d_record_from ["entry"] (spD K (R_record_from A)) :=
  ok_D T.F_record_from sc_record_from (len_record_from A) (fun cdv Ar outer s H E hr =>
    ds_cons (ds_asg (d_var 0) (dg_tup rfl (dgs_cons (dg_name 1 sc_record_from.nd) (dgs_cons (dg_name 2 sc_record_from.nd) (dgs_cons (dg_name 3 sc_record_from.nd) (dgs_cons (dg_name 4 sc_record_from.nd) (dgs_cons (dg_name 5 sc_record_from.nd) (dgs_cons (dg_name 6 sc_record_from.nd) (dgs_cons (dg_name 7 sc_record_from.nd) (dgs_cons (dg_name 8 sc_record_from.nd) (dgs_cons (dg_name 9 sc_record_from.nd) (dgs_cons (dg_name 10 sc_record_from.nd) (dgs_nil)))))))))))))
    (ds_one (ds_ret (d_make T.m_Record_init (ok_Record_init T) (hr.mono (by decide)) T.g_Record T.b_Record_init (d_cons (d_var 2) (d_cons (d_var 3) (d_cons (d_var 4) (d_cons (d_var 5) (d_cons (d_var 6) (d_cons (d_var 7) (d_cons (d_var 8) (d_cons (d_var 9) (d_cons (d_var 10) (d_nil)))))))))))))) (fun ds C Pk h => by
    obtain ⟨k, py, rfl, q⟩ := h
    simp only [entD]
    walk_at "dd"
    intro p hp
    refine ⟨p, _, _, _, _, _, _, _, _, _, rfl, cput_same, ?_⟩
    rw [cput_cput]
    exact ⟨rfl, _, Sub.refl _, q p hp⟩)

def R_Record_is_open (A : Ad) : DSp := fun ds C P => ∃ p r, ds = [.ptr p] ∧ C p = some (recC A r) ∧ P (.bl true) C
theorem len_Record_is_open (A : Ad) : ∀ ds C P, R_Record_is_open A ds C P → ds.length = 1 := by rintro _ _ _ ⟨p, r, rfl, _⟩; rfl
theorem ok_Record_is_open (T : Txt K mg A) : FnOk P w K mg base CX0 1 A.a_Record_is_open A.d_Record_is_open ["self"] (spD K (R_Record_is_open A)) :=
  ok_D T.F_Record_is_open sc_Record_is_open (len_Record_is_open A) (fun cdv Ar outer s H E hr =>
    ds_one (ds_ret (d_cmp op_isN s_isN (d_fld T.c_Record T.n_Record_closed_at (d_var 0)) (d_non)))) (fun ds C Pk h => by
    obtain ⟨p, r, rfl, hp, q⟩ := h
    simp only [recC, recFs, mkFs] at hp
    walk_at "dd"
    exact ⟨_, Sub.refl _, q⟩)

def R_close_record (A : Ad) : DSp := fun ds C P => False
theorem len_close_record (A : Ad) : ∀ ds C P, R_close_record A ds C P → ds.length = 3 := by rintro _ _ _ h; exact h.elim
theorem ok_close_record (T : Txt K mg A) : FnOk P w K mg base CX0 1 A.a_close_record A.d_close_record ["record", "cause", "at"] (spD K (R_close_record A)) :=
  ok_D T.F_close_record sc_close_record (len_close_record A) (fun cdv Ar outer s H E hr =>
    ds_cons (ds_fld T.c_Record T.n_Record_closed_at (d_var 0) (d_var 2))
    (ds_one (ds_fld T.c_Record T.n_Record_cause (d_var 0) (d_var 1)))) (fun ds C Pk h => by
    exact h.elim)

def R_belongs (A : Ad) : DSp := fun ds C P => ∃ p r k, ds = [.ptr p, idD 0 (k : Nat)] ∧ C p = some (recC A r) ∧ P (.bl (decide (r.k = k))) C
theorem len_belongs (A : Ad) : ∀ ds C P, R_belongs A ds C P → ds.length = 2 := by rintro _ _ _ ⟨p, r, k, rfl, _⟩; rfl
theorem ok_belongs (T : Txt K mg A) : FnOk P w K mg base CX0 2 A.a_belongs A.d_belongs ["record", "call_id"] (spD K (R_belongs A)) :=
  ok_D T.F_belongs sc_belongs (len_belongs A) (fun cdv Ar outer s H E hr =>
    ds_one (ds_ret (d_andV (d_meth0 T.c_Record T.m_Record_is_open (ok_Record_is_open T) (hr.mono (by decide)) T.b_Record_is_open (d_var 0)) (d_one (d_cmp (op_inQ hr.units2) s_inD (d_var 1) (d_tup (d_cons (d_fld T.c_Record T.n_Record_call_id (d_var 0)) (d_cons (d_fld T.c_Record T.n_Record_parent (d_var 0)) (d_nil))))))))) (fun ds C Pk h => by
    obtain ⟨p, r, k, rfl, hp, q⟩ := h
    have hp' := hp
    simp only [recC, recFs, mkFs] at hp
    walk_at "dd"
    refine ⟨p, r, rfl, hp', ?_⟩
    walk_at "dd"
    have e : ([idD 0 (r.k : Int), D.non].any fun z => z.eqb (idD 0 (k : Int))) = decide (r.k = k) := by
      have h2 : (D.non).eqb (idD 0 (k : Int)) = false := rfl
      rw [List.any_cons, List.any_cons, List.any_nil, h2, Bool.or_false, Bool.or_false]
      by_cases e : r.k = k
      · subst e; rw [eqb_self dat_id, decide_eq_true rfl]
      · rw [decide_eq_false e]
        have h3 : (idD 0 (r.k : Int)).eqb (idD 0 (k : Int)) = decide ([0, 1, (r.k : Int)] = [0, 1, (k : Int)]) := eqb_tup (enc := D.int) eqb_int [0, 1, (r.k : Int)] [0, 1, (k : Int)]
        rw [h3]
        refine decide_eq_false fun z => e ?_
        simp only [List.cons.injEq, true_and, and_true] at z
        omega
    refine ⟨2, by decide, dat_mono dat_id (by decide), .tup fun d hd => ?_, _, Sub.refl _, ?_⟩
    · simp only [List.mem_cons, List.not_mem_nil, or_false] at hd
      rcases hd with rfl | rfl
      · exact dat_id
      · exact .non
    · have hres : (idD 0 (k : Int)).res C = idD 0 (k : Int) := rfl
      first
        | (rw [e]; exact q)
        | (rw [hres, e]; exact q))

def R_fold_entry (A : Ad) : DSp := fun ds C P => ∃ p ps g e C0, ds = [.ptr p, entD e] ∧ Good A C0 C p ps g ∧ ps.length ≤ 1000 ∧ (e = .boot → g = []) ∧ ∀ ps' C', Good A C0 C' p ps' (stepE g e) → P .non C'
theorem len_fold_entry (A : Ad) : ∀ ds C P, R_fold_entry A ds C P → ds.length = 2 := by rintro _ _ _ ⟨p, ps, g, e, C0, rfl, _⟩; rfl
theorem ok_fold_entry (T : Txt K mg A) : FnOk P w K mg base CX0 4 A.a_fold_entry A.d_fold_entry ["records", "entry"] (spD K (R_fold_entry A)) :=
  ok_D T.F_fold_entry sc_fold_entry (len_fold_entry A) (fun cdv Ar outer s H E hr =>
    ds_cons (ds_set 2 sc_fold_entry.nd (d_ix ix_seq s_ix (d_var 1) (d_int)))
    (ds_one (ds_if (d_tcmp op_eq s_eq (d_var 2) (d_str))
      (ds_one (ds_expr (d_bmL PySem.F.plainAttrs_list PySem.F.slot_list_append PySem.F.type_list_append mt_append s_append (d_var 0) (d_cons (d_call (ok_record_from T) (hr.mono (by decide)) T.g_record_from T.F_record_from.kp T.b_record_from (d_cons (d_var 1) (d_nil))) (d_nil)))))
      (ds_one (ds_if (d_tcmp op_eq s_eq (d_var 2) (d_str))
        (ds_one (ds_for PassesOwn.never rfl (di_list (d_var 0)) (dg_name 3 sc_fold_entry.nd)
          (ds_one (ds_if (d_tval (d_meth0 T.c_Record T.m_Record_is_open (ok_Record_is_open T) (hr.mono (by decide)) T.b_Record_is_open (d_var 3)))
            (ds_one (ds_expr (d_call (ok_close_record T) (hr.mono (by decide)) T.g_close_record T.F_close_record.kp T.b_close_record (d_cons (d_var 3) (d_cons (d_str) (d_cons (d_ix ix_seq s_ix (d_var 1) (d_int)) (d_nil)))))))
            (ds_nil)))))
        (ds_one (ds_if (d_tcmp op_eq s_eq (d_var 2) (d_str))
          (ds_one (ds_for PassesOwn.never rfl (di_list (d_var 0)) (dg_name 3 sc_fold_entry.nd)
            (ds_one (ds_if (d_tval (d_call (ok_belongs T) (hr.mono (by decide)) T.g_belongs T.F_belongs.kp T.b_belongs (d_cons (d_var 3) (d_cons (d_ix ix_seq s_ix (d_var 1) (d_int)) (d_nil)))))
              (ds_one (ds_fld T.c_Record T.n_Record_confirmed (d_var 3) (d_ix ix_seq s_ix (d_var 1) (d_int))))
              (ds_nil)))))
          (ds_one (ds_if (d_tcmp op_eq s_eq (d_var 2) (d_str))
            (ds_one (ds_for PassesOwn.never rfl (di_list (d_var 0)) (dg_name 3 sc_fold_entry.nd)
              (ds_one (ds_if (d_tval (d_call (ok_belongs T) (hr.mono (by decide)) T.g_belongs T.F_belongs.kp T.b_belongs (d_cons (d_var 3) (d_cons (d_ix ix_seq s_ix (d_var 1) (d_int)) (d_nil)))))
                (ds_one (ds_expr (d_call (ok_close_record T) (hr.mono (by decide)) T.g_close_record T.F_close_record.kp T.b_close_record (d_cons (d_var 3) (d_cons (d_ix ix_seq s_ix (d_var 1) (d_int)) (d_cons (d_ix ix_seq s_ix (d_var 1) (d_int)) (d_nil)))))))
                (ds_nil)))))
            (ds_nil)))))))))) (fun ds C Pk h => by
    obtain ⟨p, ps, g, e, C0, rfl, hg, hl, hb, q⟩ := h
    have hlst := hg.lst
    cases e with
    | opn k py =>
      simp only [entD]
      walk_at "dd"
      refine ⟨k, py, rfl, fun a ha => ?_⟩
      have hpa : p ≠ a := cell_ne hlst ha
      have h1 : cput C a (recC A ⟨k, py, 0⟩) p = some (.lst (ps.map D.ptr)) := (cput_ne hpa).trans hlst
      walk_at "dd"
      refine ⟨by omega, _, Sub.refl _, q (ps ++ [a]) _ ⟨fun b c hb => ?_, hg.new, ?_, ?_, fun x hx => ?_, ?_⟩⟩
      · have hb' := hg.sub b c hb
        rw [cput_ne (fun z => by subst z; rw [hg.new] at hb; cases hb), cput_ne (fun z => by subst z; rw [ha] at hb'; cases hb')]
        exact hb'
      · rw [cput_same, List.map_append]; rfl
      · refine List.nodup_append.mpr ⟨hg.nd, by simp, fun x hx y hy e => ?_⟩
        simp only [List.mem_cons, List.not_mem_nil, or_false] at hy
        subst hy; subst e
        obtain ⟨j, hj⟩ := List.getElem?_of_mem hx
        obtain ⟨r, _, hr⟩ := hg.at hj
        rw [ha] at hr; cases hr
      · rcases List.mem_append.mp hx with hx | hx
        · exact hg.fresh x hx
        · simp only [List.mem_cons, List.not_mem_nil, or_false] at hx
          subst hx
          cases h0 : C0 x with
          | none => rfl
          | some c => rw [hg.sub x c h0] at ha; cases ha
      · rw [List.map_append]
        show _ = (g ++ [_]).map _
        rw [List.map_append, ← hg.recs]
        congr 1
        · refine List.map_congr_left fun x hx => ?_
          obtain ⟨j, hj⟩ := List.getElem?_of_mem hx
          obtain ⟨r, _, hr⟩ := hg.at hj
          rw [cput_ne (fun z => by subst z; rw [hlst] at hr; cases hr), cput_ne (fun z => by subst z; rw [ha] at hr; cases hr)]
        · rw [List.map_cons, List.map_nil, cput_ne hpa.symm, cput_same]; rfl
    | boot =>
      have hg0 := hb rfl
      have hp0 : ps = [] := List.length_eq_zero_iff.mp (by rw [hg.len, hg0]; rfl)
      subst hp0
      simp only [entD]
      walk_at "dd"
      refine for_cell (L := ([] : List Addr)) (enc := D.ptr) (fun k ρ' C' => C' = C ∧ ∃ o, ρ' = [some (.ptr p), some (entD .boot), some (.str "boot"), o]) ⟨rfl, _, rfl⟩ (fun k ρ' C' h => by rw [h.1]; exact hlst) ?_ ?_
      · rintro k x ρ' C' hk ⟨rfl, o, rfl⟩
        simp at hk
      · rintro ρ' C' ⟨rfl, o, rfl⟩
        exact ⟨_, Sub.refl _, q [] _ hg⟩
    | mark k v =>
      simp only [entD]
      walk_at "dd"
      refine for_cell (L := ps) (enc := D.ptr) (fun j ρ' C' => (∃ o, ρ' = [some (.ptr p), some (entD (.mark k v)), some (.str "mark"), o]) ∧ Good A C0 C' p ps ((g.take j).map (markR k v) ++ g.drop j)) ⟨⟨_, rfl⟩, by simpa using hg⟩ (fun k ρ' C' h => h.2.lst) ?_ ?_
      · rintro j x ρ' C' hj ⟨⟨o, rfl⟩, hG⟩
        obtain ⟨r, hr1, hr⟩ := hG.at hj
        have hjl := (List.getElem?_eq_some_iff.mp hj).1
        rw [hg.len] at hjl
        have hgj : g[j]? = some r := by
          rw [List.getElem?_append_right (by simp; omega)] at hr1
          rw [List.length_map, List.length_take, Nat.min_eq_left (by omega), Nat.sub_self, List.getElem?_drop, Nat.add_zero] at hr1
          exact hr1
        have hdrop : g.drop j = r :: g.drop (j + 1) := by
          rw [List.drop_eq_getElem_cons hjl]
          congr 1
          exact Option.some.inj ((List.getElem?_eq_getElem hjl).symm.trans hgj)
        have hset : ∀ r', ((g.take j).map (markR k v) ++ g.drop j).set j r' = (g.take j).map (markR k v) ++ (r' :: g.drop (j + 1)) := fun r' => by
          rw [hdrop, List.set_append_right _ _ (by simp; omega), List.length_map, List.length_take, Nat.min_eq_left (by omega), Nat.sub_self, List.set_cons_zero]
        have hnext : (g.take (j + 1)).map (markR k v) ++ g.drop (j + 1) = (g.take j).map (markR k v) ++ (markR k v r :: g.drop (j + 1)) := by
          rw [take_snoc hgj, List.map_append, List.append_assoc]; rfl
        rw [hnext]
        have hP := hG.put hj (markR k v r)
        rw [hset] at hP
        have hG' : r.k ≠ k → Good A C0 C' p ps ((g.take j).map (markR k v) ++ (markR k v r :: g.drop (j + 1))) := fun e => by
          have : markR k v r = r := if_neg e
          rw [this, ← hdrop]; exact hG
        have hr' := hr
        simp only [recC, recFs, mkFs] at hr'
        simp only [entD]
        clear hnext hset hdrop
        walk_at "dd"
        refine ⟨x, r, k, rfl, hr, ?_⟩
        clear hr
        by_cases e : r.k = k
        · subst e
          rw [decide_eq_true rfl]
          have em : recC A (markR r.k v r) = .ins A.C_Record (mkFs (idD 0 r.k) (.str "both") (.str "41") (.str "52") (pyD r.py) .non .non .non (.int r.k) (.int v) .non .non) := by unfold markR; rw [if_pos rfl]; rfl
          rw [em] at hP
          simp only [mkFs] at hP
          clear hG' hG
          walk_at "dd"
          exact ⟨by decide, _, rfl⟩
        · rw [decide_eq_false e]
          have hG2 := hG' e
          clear hP hG hG'
          walk_at "dd"
          exact ⟨_, rfl⟩
      · rintro ρ' C' ⟨⟨o, rfl⟩, hG⟩
        rw [hg.len, List.take_length, List.drop_length, List.append_nil] at hG
        exact ⟨_, Sub.refl _, q ps _ hG⟩)

def R_records_of (A : Ad) : DSp := fun ds C P => ∃ es : List Ent, ds = [.lst ((.boot :: es).map entD)] ∧ es.length ≤ 200 ∧ (∀ e ∈ es, e ≠ .boot) ∧ (∀ k, ((es.take k).foldl stepE []).length ≤ 100) ∧ ∀ (ps : List Addr) C', Sub C C' → (∀ q ∈ ps, C q = none) → ps.Nodup → ps.map C' = (es.foldl stepE []).map (fun r => some (recC A r)) → P (.lst (ps.map D.ptr)) C'
theorem len_records_of (A : Ad) : ∀ ds C P, R_records_of A ds C P → ds.length = 1 := by rintro _ _ _ ⟨es, rfl, _⟩; rfl
theorem ok_records_of (T : Txt K mg A) : FnOk P w K mg base CX0 5 A.a_records_of A.d_records_of ["entries"] (spD K (R_records_of A)) :=
  ok_D T.F_records_of sc_records_of (len_records_of A) (fun cdv Ar outer s H E hr =>
    ds_consL (ds_set 1 sc_records_of.nd (d_lstC (d_nil)))
    (ds_consL (ds_for PassesOwn.never rfl (di_list (d_var 0)) (dg_name 2 sc_records_of.nd)
      (ds_one (ds_expr (d_call (ok_fold_entry T) (hr.mono (by decide)) T.g_fold_entry T.F_fold_entry.kp T.b_fold_entry (d_cons (d_var 1) (d_cons (d_var 2) (d_nil)))))))
    (ds_one (ds_retF (d_var 1))))) (fun ds C Pk h => by
    obtain ⟨es, rfl, hl, hb, hn, q⟩ := h
    refine seq_hide fun E' hE => ?_
    walk_at "dd"
    intro p hp
    subst hE
    dsimp only
    refine seq_hide fun E' hE => ?_
    walk_at "dd"
    refine for_map (L := .boot :: es) (enc := entD) (fun k ρ' C' => (∃ o, ρ' = [some (.lst (entD .boot :: es.map entD)), some (.ptr p), o]) ∧ ∃ ps, Good A C C' p ps (((.boot :: es).take k).foldl stepE [])) ⟨⟨_, rfl⟩, [], ⟨Sub.new hp, hp, cput_same, List.nodup_nil, (fun q hq => nomatch hq), rfl⟩⟩ ?_ ?_
    · rintro k e ρ' C' hk ⟨⟨o, rfl⟩, ps, hG⟩
      rw [take_snoc hk, List.foldl_append]
      have hlen : (((.boot :: es).take k).foldl stepE []).length ≤ 100 := by
        cases k with
        | zero => simp
        | succ k => exact hn k
      have hbt : e = .boot → ((.boot :: es).take k).foldl stepE [] = [] := fun z => by
        cases k with
        | zero => rfl
        | succ k => exact absurd z (hb e (List.mem_of_getElem? (by simpa using hk)))
      have hpl := hG.len
      generalize ((.boot :: es).take k).foldl stepE [] = g at hG hlen hbt hpl ⊢
      clear hk
      walk_at "dd"
      exact ⟨p, ps, g, e, C, rfl, hG, by omega, hbt, fun ps' C2 h1 => ⟨⟨_, rfl⟩, ps', h1⟩⟩
    · rintro ρ' C' ⟨⟨o, rfl⟩, ps, hG⟩
      rw [List.take_length] at hG
      have hlst := hG.lst
      subst hE
      walk_at "dd"
      refine ⟨crem C' p, crem_sub _ _, crem_same, _, Sub.refl _, q ps _ (fun a c ha => ?_) hG.fresh hG.nd ?_⟩
      · rw [crem_ne (fun z => by subst z; rw [hp] at ha; cases ha)]
        exact hG.sub a c ha
      · show _ = (((.boot :: es).foldl stepE []).map _)
        rw [← hG.recs]
        refine List.map_congr_left fun x hx => ?_
        obtain ⟨j, hj⟩ := List.getElem?_of_mem hx
        obtain ⟨r, _, hr⟩ := hG.at hj
        exact crem_ne fun z => by subst z; rw [hlst] at hr; cases hr)

def R_law_look (A : Ad) : DSp := fun ds C P => ∃ (py : Nat → Option Nat) (tk : Nat → Int) (a : Addr), ds = [.lst ((.boot :: opns py).map entD), .ptr a] ∧ C a = some (.lst ((List.range 8).map fun k => .int (tk k))) ∧ (∀ k, 0 ≤ tk k) ∧
  ∀ (ps : List Addr) C', Sub C C' → (∀ q ∈ ps, C q = none) → ps.Nodup → ps.map C' = (recsL py tk).map (fun r => some (recC A r)) → P (.lst (ps.map D.ptr)) C'
theorem len_law_look (A : Ad) : ∀ ds C P, R_law_look A ds C P → ds.length = 2 := by rintro _ _ _ ⟨py, tk, a, rfl, _⟩; rfl
theorem ok_law_look (T : Txt K mg A) : FnOk P w K mg base CX0 6 A.a_law_look A.d_law_look ["entries", "talked"] (spD K (R_law_look A)) :=
  ok_D T.F_law_look sc_law_look (len_law_look A) (fun cdv Ar outer s H E hr =>
    ds_consL (ds_set 2 sc_law_look.nd (d_callTy call_list_of s_listC (by rfl) T.z_list (by decide +kernel) (d_cons (d_var 0) (d_nil))))
    (ds_consL (ds_for PassesOwn.never rfl (di_rng1 (by rfl) T.z_range (d_cons (d_int) (d_nil))) (dg_name 3 sc_law_look.nd)
      (ds_one (ds_if (d_tcmp op_gt s_gt (d_ix ix_seq s_ix (d_var 1) (d_var 3)) (d_int))
        (ds_one (ds_expr (d_bmL PySem.F.plainAttrs_list PySem.F.slot_list_append PySem.F.type_list_append mt_append s_append (d_var 2) (d_cons (d_tup (d_cons (d_str) (d_cons (d_tup (d_cons (d_int) (d_cons (d_int) (d_cons (d_var 3) (d_nil))))) (d_cons (d_ix ix_seq s_ix (d_var 1) (d_var 3)) (d_nil))))) (d_nil)))))
        (ds_nil))))
    (ds_frz (ds_one (ds_ret (d_call (ok_records_of T) (hr.mono (by decide)) T.g_records_of T.F_records_of.kp T.b_records_of (d_cons (d_var 2) (d_nil))))) 2))) (fun ds C Pk h => by
    obtain ⟨py, tk, a, rfl, ha, h0, q⟩ := h
    refine seq_hide fun E' hE => ?_
    walk_at "dd"
    intro p hp
    have nap : a ≠ p := cell_ne ha hp
    have ha' : ∀ d, cput C p d a = some (.lst ((List.range 8).map fun k => .int (tk k))) := fun d => (cput_ne nap).trans ha
    subst hE
    dsimp only [List.set_cons_succ, List.set_cons_zero]
    refine seq_hide fun E' hE => ?_
    have hol : (opns py).length = 8 := by simp [opns]
    walk_at "dd"
    refine ⟨by decide, for_rng (fun j ρ' C' => C' = cput C p (.lst ((Ent.boot :: opns py ++ (List.range j).filterMap fun k => if 0 < tk k then some (Ent.mark k (tk k)) else none).map entD)) ∧ ∃ o3, ρ' = [some (.lst ((Ent.boot :: opns py).map entD)), some (.ptr a), some (.ptr p), o3]) ⟨by simp, _, rfl⟩ ?_ ?_⟩
    · rintro j ρ' C' hj ⟨rfl, o3, rfl⟩
      have hj8 : j < 8 := by omega
      rw [Int.zero_add]
      have hix : ((List.range 8).map fun k => D.int (tk k))[j]? = some (.int (tk j)) := by rw [List.getElem?_map, List.getElem?_range hj8]; rfl
      have hll : ((Ent.boot :: opns py ++ (List.range j).filterMap fun k => if 0 < tk k then some (Ent.mark k (tk k)) else none).map entD).length ≤ 100 := by
        rw [List.length_map, List.length_append, List.length_cons, hol]
        have := List.length_filterMap_le (fun k => if 0 < tk k then some (Ent.mark k (tk k)) else none) (List.range j)
        rw [List.length_range] at this
        omega
      have hnx : ((Ent.boot :: opns py ++ (List.range (j + 1)).filterMap fun k => if 0 < tk k then some (Ent.mark k (tk k)) else none).map entD) = ((Ent.boot :: opns py ++ (List.range j).filterMap fun k => if 0 < tk k then some (Ent.mark k (tk k)) else none).map entD) ++ (if 0 < tk j then [entD (.mark j (tk j))] else []) := by
        rw [List.range_succ, List.filterMap_append, ← List.append_assoc, List.map_append]
        congr 1
        by_cases g : 0 < tk j
        · rw [List.filterMap_cons, if_pos g, if_pos g]; rfl
        · rw [List.filterMap_cons, if_neg g, if_neg g]; rfl
      rw [hnx]
      have hg := ha' (.lst ((Ent.boot :: opns py ++ (List.range j).filterMap fun k => if 0 < tk k then some (Ent.mark k (tk k)) else none).map entD))
      generalize ((Ent.boot :: opns py ++ (List.range j).filterMap fun k => if 0 < tk k then some (Ent.mark k (tk k)) else none).map entD) = Z at hll hg ⊢
      have gp : cput C p (.lst Z) p = some (.lst Z) := cput_same
      have hat : (List.range 8)[j]? = some j := List.getElem?_range hj8
      clear ha' hnx hix ha
      by_cases g : 0 < tk j
      · rw [if_pos g]
        walk_at "dd"
        exact ⟨by omega, rfl, _, rfl⟩
      · rw [if_neg g, List.append_nil]
        walk_at "dd"
        exact ⟨_, rfl⟩
    · rintro ρ' C' ⟨rfl, o3, rfl⟩
      subst hE
      dsimp only [List.set_cons_succ, List.set_cons_zero]
      walk_at "dd"
      refine ⟨C, Sub.new hp, hp, opns py ++ marks tk, rfl, ?_, ?_, ?_, fun ps C' hs hf hn hr => ?_⟩
      · rw [List.length_append, hol]
        have := List.length_filterMap_le (fun k => if 0 < tk k then some (Ent.mark k (tk k)) else none) (List.range 8)
        rw [List.length_range] at this
        unfold marks
        omega
      · intro e he
        rcases List.mem_append.mp he with he | he
        · obtain ⟨k, _, rfl⟩ := List.mem_map.mp he
          exact fun z => nomatch z
        · obtain ⟨k, _, hk⟩ := List.mem_filterMap.mp he
          split at hk
          · cases hk; exact fun z => nomatch z
          · cases hk
      · intro k
        have h1 := foldE_len ((opns py ++ marks tk).take k) []
        have h2 := List.length_filterMap_le (fun k => if 0 < tk k then some (Ent.mark k (tk k)) else none) (List.range 8)
        rw [List.length_range] at h2
        rw [List.length_take, List.length_append, hol] at h1
        unfold marks at h1 ⊢
        simp only [List.length_nil] at h1
        omega
      · rw [fold_look py tk h0] at hr
        exact ⟨_, Sub.refl _, q ps C' hs hf hn hr⟩)

def R_law_total (A : Ad) : DSp := fun ds C P => ∃ (L : List Sn) (i : Nat) (w c : Int) (a : Addr), ds = [.ptr a, pnD i, .int c, .int w] ∧ C a = some (.lst (L.map snD)) ∧ L.length ≤ 900 ∧ i < 3 ∧ (∀ e ∈ L, e.1 < 3) ∧ P (.int (totF (rowsOf L i) w c)) C
theorem len_law_total (A : Ad) : ∀ ds C P, R_law_total A ds C P → ds.length = 4 := by rintro _ _ _ ⟨L, i, w, c, a, rfl, _⟩; rfl
theorem ok_law_total (T : Txt K mg A) : FnOk P w K mg base CX0 1 A.a_law_total A.d_law_total ["seen", "payer", "clock", "width"] (spD K (R_law_total A)) :=
  ok_D T.F_law_total sc_law_total (len_law_total A) (fun cdv Ar outer s H E hr =>
    ds_one (ds_ret (d_callB (cr_sum rfl) s_sum (by rfl) T.z_sum (by decide +kernel) (d_cons (d_lc rfl sc_law_total.nd (di_list (d_var 0)) (blkOk_by (own := [("who", 4), ("time", 5), ("seconds", 6)]) (N := ["seen", "payer", "clock", "width", "who", "time", "seconds"]) (sc := defScope s_law_total) (by decide +kernel)) (by decide) (fun _ _ _ _ _ => dg_tup rfl (dgs_cons (dg_name 4 sc_law_total.nd) (dgs_cons (dg_name 5 sc_law_total.nd) (dgs_cons (dg_name 6 sc_law_total.nd) (dgs_nil))))) (fun _ _ _ _ _ => dts_one ((d_and (d_tcmp op_eq s_eq (d_var 4) (d_var 1)) (d_and1 (d_chainT op_lt s_lt op_le s_le (d_op op_sub s_sub (d_var 2) (d_var 3)) (d_var 5) (d_var 2)))).pt)) (fun _ _ _ _ _ => d_var 6)) (d_nil))))) (fun ds C Pk h => by
    obtain ⟨L, i, w, c, a, rfl, ha, hl, hi, hL, q⟩ := h
    walk_at "dd"
    refine lc_map (fun e : Sn => if e.1 = i then (if c - w < e.2.1 ∧ e.2.1 ≤ c then some (.int e.2.2) else none) else none) (fun C' s => s _ _ ha) (by omega) (fun j e C' Q hj hs hQ => ?_) ?_
    · have he := hL e (List.mem_of_getElem? hj)
      simp only [snD]
      clear hj
      by_cases h0 : e.1 = i
      · rw [if_pos h0] at hQ
        have en : pn e.1 = pn i := by rw [h0]
        clear h0
        by_cases h1 : c - w < e.2.1
        · by_cases h2 : e.2.1 ≤ c
          · rw [if_pos ⟨h1, h2⟩] at hQ
            walk_at "dd"
            try exact hQ
          · rw [if_neg (fun z => h2 z.2)] at hQ
            walk_at "dd"
            try exact hQ
        · rw [if_neg (fun z => h1 z.1)] at hQ
          walk_at "dd"
          try exact hQ
      · rw [if_neg h0] at hQ
        have en : ¬ pn e.1 = pn i := fun z => h0 (pn_inj _ _ (by omega) (by omega) z)
        walk_at "dd"
        try exact hQ
    have et : (L.filterMap fun e : Sn => if e.1 = i then (if c - w < e.2.1 ∧ e.2.1 ≤ c then some (D.int e.2.2) else none) else none) = ((rowsOf L i).filterMap fun e => if c - w < e.1 ∧ e.1 ≤ c then some e.2 else none).map D.int := by
      rw [← tot_map]
      unfold rowsOf
      rw [List.filterMap_filterMap]
      congr 1
      funext e
      by_cases g : e.1 = i
      · rw [if_pos g, if_pos g]; rfl
      · rw [if_neg g, if_neg g]; rfl
    rw [et]
    refine ⟨_, ints_lst, ?_⟩
    exact ⟨_, Sub.refl _, q⟩)

def R_Window_total (A : Ad) : DSp := fun ds C P => ∃ q c w L pl, ds = [.ptr q, .int c] ∧ C q = some (.ins A.C_Window [("width", .int w), ("rows", .ptr pl)]) ∧ C pl = some (.lst (L.map pairD)) ∧ L.length ≤ 1000 ∧ P (.int (totF L w c)) C
theorem len_Window_total (A : Ad) : ∀ ds C P, R_Window_total A ds C P → ds.length = 2 := by rintro _ _ _ ⟨q, c, w, L, pl, rfl, _⟩; rfl
theorem ok_Window_total (T : Txt K mg A) : FnOk P w K mg base CX0 1 A.a_Window_total A.d_Window_total ["self", "clock"] (spD K (R_Window_total A)) :=
  ok_D T.F_Window_total sc_Window_total (len_Window_total A) (fun cdv Ar outer s H E hr =>
    ds_one (ds_ret (d_callB (cr_sum rfl) s_sum (by rfl) T.z_sum (by decide +kernel) (d_cons (d_lc rfl sc_Window_total.nd (di_list (d_fld T.c_Window T.n_Window_rows (d_var 0))) (blkOk_by (own := [("time", 2), ("amount", 3)]) (N := ["self", "clock", "time", "amount"]) (sc := defScope s_Window_total) (by decide +kernel)) (by decide) (fun _ _ _ _ _ => dg_tup rfl (dgs_cons (dg_name 2 sc_Window_total.nd) (dgs_cons (dg_name 3 sc_Window_total.nd) (dgs_nil)))) (fun _ _ _ _ _ => dts_one (d_chainT op_lt s_lt op_le s_le (d_op op_sub s_sub (d_var 1) (d_fld T.c_Window T.n_Window_width (d_var 0))) (d_var 2) (d_var 1))) (fun _ _ _ _ _ => d_var 3)) (d_nil))))) (fun ds C Pk h => by
    obtain ⟨q, c, w, L, a, rfl, hq, ha, hl, k⟩ := h
    walk_at "dd"
    refine lc_map (fun e : Rw => if c - w < e.1 ∧ e.1 ≤ c then some (.int e.2) else none) (fun C' s => s _ _ ha) (by omega) (fun j e C' Q hj hs hQ => ?_) ?_
    · have hq' := hs _ _ hq
      simp only [pairD]
      clear hj
      by_cases h1 : c - w < e.1
      · by_cases h2 : e.1 ≤ c
        · rw [if_pos ⟨h1, h2⟩] at hQ
          walk_at "dd"
          try exact hQ
        · rw [if_neg (fun z => h2 z.2)] at hQ
          walk_at "dd"
          try exact hQ
      · rw [if_neg (fun z => h1 z.1)] at hQ
        walk_at "dd"
        try exact hQ
    rw [tot_map]
    refine ⟨_, ints_lst, ?_⟩
    exact ⟨_, Sub.refl _, k⟩)

def R_Watch_total (A : Ad) : DSp := fun ds C P => ∃ w, ∃ i : Nat, ∃ c tag lim wid m, ds = [.ptr w, pnD i, .int c] ∧ i < 4 ∧ WA A tag C lim wid w m ∧ Mok m ∧ (∀ j, (m.rw j).length ≤ 900) ∧ P (.int (totF (m.rw i) wid c)) C
theorem len_Watch_total (A : Ad) : ∀ ds C P, R_Watch_total A ds C P → ds.length = 3 := by rintro _ _ _ ⟨w, i, c, tag, lim, wid, m, rfl, _⟩; rfl
theorem ok_Watch_total (T : Txt K mg A) : FnOk P w K mg base CX0 2 A.a_Watch_total A.d_Watch_total ["self", "payer", "clock"] (spD K (R_Watch_total A)) :=
  ok_D T.F_Watch_total sc_Watch_total (len_Watch_total A) (fun cdv Ar outer s H E hr =>
    ds_cons (ds_if (d_tdnotin hr (d_var 1) (d_fld T.c_Watch T.n_Watch_windows (d_var 0)))
      (ds_one (ds_ret (d_int)))
      (ds_nil))
    (ds_one (ds_ret (d_meth T.c_Window T.m_Window_total (ok_Window_total T) (hr.mono (by decide)) T.b_Window_total (d_dget hr (d_fld T.c_Watch T.n_Watch_windows (d_var 0)) (d_var 1)) (d_cons (d_var 2) (d_nil)))))) (fun ds C Pk h => by
    obtain ⟨w, i, c, tag, lim, wid, m, rfl, hi, hw, hm, hrl, q⟩ := h
    obtain ⟨pw, ps, ph, pt, qq, rr, t0, t1, t2, t3, t4, t5, c0, c1, c2, c3, c4, c5⟩ := hw.ex
    by_cases g : i ∈ m.o
    · have hv := tb_in (key := pnK) (v := fun i => .ptr (qq i)) (pnK_inj hm.olt hi) g
      have hq1 := (c5 i g).1
      walk_at "dd"
      refine ⟨qq i, c, wid, m.rw i, rr i, rfl, (c5 i g).1, (c5 i g).2, by have := hrl i; omega, ?_⟩
      exact ⟨_, Sub.refl _, q⟩
    · have hv := tb_out (key := pnK) (v := fun i => .ptr (qq i)) (pnK_inj hm.olt hi) g
      have h0 : totF (m.rw i) wid c = 0 := by rw [hm.r0 i g]; rfl
      rw [h0] at q
      walk_at "dd"
      exact ⟨_, Sub.refl _, q⟩)

def R_Watch_is_high (A : Ad) : DSp := fun ds C P => ∃ w, ∃ i : Nat, ∃ tag lim wid m, ds = [.ptr w, pnD i] ∧ i < 4 ∧ WA A tag C lim wid w m ∧ Mok m ∧ P (.bl (m.hb i)) C
theorem len_Watch_is_high (A : Ad) : ∀ ds C P, R_Watch_is_high A ds C P → ds.length = 2 := by rintro _ _ _ ⟨w, i, tag, lim, wid, m, rfl, _⟩; rfl
theorem ok_Watch_is_high (T : Txt K mg A) : FnOk P w K mg base CX0 1 A.a_Watch_is_high A.d_Watch_is_high ["self", "payer"] (spD K (R_Watch_is_high A)) :=
  ok_D T.F_Watch_is_high sc_Watch_is_high (len_Watch_is_high A) (fun cdv Ar outer s H E hr =>
    ds_one (ds_ret (dd_get2 hr (d_fld T.c_Watch T.n_Watch_high (d_var 0)) (d_var 1) (d_bl)))) (fun ds C Pk h => by
    obtain ⟨w, i, tag, lim, wid, m, rfl, hi, hw, hm, q⟩ := h
    obtain ⟨pw, ps, ph, pt, qq, rr, t0, t1, t2, t3, t4, t5, c0, c1, c2, c3, c4, c5⟩ := hw.ex
    walk_at "dd"
    refine ⟨_, Sub.refl _, ?_⟩
    have hv : (vaD (tb pnK m.oh fun i => .bl (m.hb i)) (pnK i)).getD (.bl false) = .bl (m.hb i) := by
      by_cases g : i ∈ m.oh
      · rw [tb_in (pnK_inj hm.hlt hi) g]; rfl
      · rw [tb_out (pnK_inj hm.hlt hi) g, hm.h0 _ g]; rfl
    rw [hv]
    exact q)

def R_Watch_alarms_at (A : Ad) : DSp := fun ds C P => ∃ (w : Addr) (c : Int) (tag : Tag) (lim wid : Int) (m : Ms), ds = [.ptr w, .int c] ∧ WA A tag C lim wid w m ∧ Mok m ∧ (∀ j, (m.rw j).length ≤ 900) ∧ m.tl.length ≤ 1000 ∧
  ∀ (tag' : Tag) C', WA A tag' C' lim wid w (alM lim wid c m) → Keep tag tag' C C' → P (.lst ((foundA lim wid c m (srt m.o)).map fdD)) C'
theorem len_Watch_alarms_at (A : Ad) : ∀ ds C P, R_Watch_alarms_at A ds C P → ds.length = 2 := by rintro _ _ _ ⟨w, c, tag, lim, wid, m, rfl, _⟩; rfl
theorem ok_Watch_alarms_at (T : Txt K mg A) : FnOk P w K mg base CX0 2 A.a_Watch_alarms_at A.d_Watch_alarms_at ["self", "clock"] (spD K (R_Watch_alarms_at A)) :=
  ok_D T.F_Watch_alarms_at sc_Watch_alarms_at (len_Watch_alarms_at A) (fun cdv Ar outer s H E hr =>
    ds_consL (ds_set 2 sc_Watch_alarms_at.nd (d_lstC (d_nil)))
    (ds_consL (ds_for PassesOwn.never rfl (di_list (d_callB (cr_sortedDic rfl hr.units) s_sortDic (by rfl) T.z_sorted (by decide +kernel) (d_cons (d_fld T.c_Watch T.n_Watch_windows (d_var 0)) (d_nil)))) (dg_name 3 sc_Watch_alarms_at.nd)
      (ds_consL (ds_set 4 sc_Watch_alarms_at.nd (d_meth T.c_Window T.m_Window_total (ok_Window_total T) (hr.mono (by decide)) T.b_Window_total (d_dget hr (d_fld T.c_Watch T.n_Watch_windows (d_var 0)) (d_var 3)) (d_cons (d_var 1) (d_nil))))
      (ds_cons (ds_if ((d_and (d_tcmp op_gt s_gt (d_var 4) (d_fld T.c_Watch T.n_Watch_limit (d_var 0))) (d_and1 (d_not (d_tval (dd_get2 hr (d_fld T.c_Watch T.n_Watch_high (d_var 0)) (d_var 3) (d_bl)))))).pt)
        (ds_one (ds_expr (d_bmL PySem.F.plainAttrs_list PySem.F.slot_list_append PySem.F.type_list_append mt_append s_append (d_var 2) (d_cons (d_tup (d_cons (d_var 3) (d_cons (d_var 4) (d_nil)))) (d_nil)))))
        (ds_nil))
      (ds_one (ds_setD hr (d_fld T.c_Watch T.n_Watch_high (d_var 0)) (d_var 3) (d_cmp op_gt s_gt (d_var 4) (d_fld T.c_Watch T.n_Watch_limit (d_var 0))))))))
    (ds_consL (ds_for PassesOwn.never rfl (di_list (d_var 2)) (dg_tup rfl (dgs_cons (dg_name 3 sc_Watch_alarms_at.nd) (dgs_cons (dg_name 4 sc_Watch_alarms_at.nd) (dgs_nil))))
      (ds_one (ds_expr (d_bmL PySem.F.plainAttrs_list PySem.F.slot_list_append PySem.F.type_list_append mt_append s_append (d_fld T.c_Watch T.n_Watch_told (d_var 0)) (d_cons (d_tup (d_cons (d_var 3) (d_cons (d_var 1) (d_cons (d_var 4) (d_nil))))) (d_nil))))))
    (ds_one (ds_retF (d_var 2)))))) (fun ds C Pk h => by
    obtain ⟨w, c, tag, lim, wid, m, rfl, hw, hm, hrl, htl, q⟩ := h
    obtain ⟨pw, ps, ph, pt, qq, rr, t0, t1, t2, t3, t4, t5, c0, c1, c2, c3, c4, c5⟩ := hw.ex
    have hol := len_nd hm.ond hm.olt
    refine seq_hide fun E' hE => ?_
    walk_at "dd"
    intro p hp
    subst hE
    dsimp only [List.set_cons_succ, List.set_cons_zero]
    refine seq_hide fun E' hE => ?_
    have np : ∀ a d, C a = some d → a ≠ p := fun a d h => cell_ne h hp
    have n0 := np _ _ c0
    have n1 := np _ _ c1
    have n3 := np _ _ c3
    have n4 := np _ _ c4
    have k0 := (cput_ne (c := .lst []) n0).trans c0
    have k1 := (cput_ne (c := .lst []) n1).trans c1
    walk_at "dd"
    rw [tb_keys, pn_sort hm.olt]
    refine ⟨sorts_pn _, ?_⟩
    refine for_map (fun j ρ' C' => C' p = some (.lst ((foundA lim wid c m ((srt m.o).take j)).map fdD)) ∧ C' ph = some (.dK (tb pnK (((srt m.o).take j).foldl ins1 m.oh) fun i => .bl (if i ∈ (srt m.o).take j then decide (totF (m.rw i) wid c > lim) else m.hb i))) ∧ (∀ a, a ≠ p → a ≠ ph → C' a = C a) ∧ ∃ o3 o4, ρ' = [some (.ptr w), some (.int c), some (.ptr p), o3, o4]) ⟨cput_same, ?_, fun a h1 h2 => cput_ne h1, _, _, rfl⟩ ?_ ?_
    · rw [cput_ne n3]
      exact c3
    · rintro j i ρ' C' hj ⟨a1, a2, a3, o3, o4, rfl⟩
      have hi := srt_mem.mp (List.mem_of_getElem? hj)
      have hi3 := hm.olt i hi
      have hnj : i ∉ (srt m.o).take j := fun hm1 => by
        have := ((List.take_sublist (j + 1) (srt m.o)).nodup (srt_nd hm.ond))
        rw [take_snoc hj] at this
        exact (List.nodup_append.mp this).2.2 i hm1 i (by simp) rfl
      obtain ⟨ti1, ti2⟩ := t5 i hi
      obtain ⟨ci1, ci2⟩ := c5 i hi
      have b0 := (a3 w n0 (ne_tag (tag := tag) (by rw [t0, t3]; omega))).trans c0
      have b1 := (a3 pw n1 (ne_tag (tag := tag) (by rw [t1, t3]; omega))).trans c1
      have b5 := (a3 (qq i) (np _ _ ci1) (ne_tag (tag := tag) (by rw [ti1, t3]; omega))).trans ci1
      have b6 := (a3 (rr i) (np _ _ ci2) (ne_tag (tag := tag) (by rw [ti2, t3]; omega))).trans ci2
      have hv := tb_in (key := pnK) (v := fun i => .ptr (qq i)) (pnK_inj hm.olt (by omega : i < 4)) hi
      have olt : ∀ x ∈ ((srt m.o).take j).foldl ins1 m.oh, x < 3 := fun x hx => by
        rcases mem_foldins.mp hx with hx | hx
        · exact hm.hlt x hx
        · exact hm.olt x (srt_mem.mp (List.mem_of_mem_take hx))
      have hlen := len_nd (nd_foldins (S := (srt m.o).take j) hm.hnd) olt
      have hhv : (vaD (tb pnK (((srt m.o).take j).foldl ins1 m.oh) fun i => .bl (if i ∈ (srt m.o).take j then decide (totF (m.rw i) wid c > lim) else m.hb i)) (pnK i)).getD (.bl false) = .bl (m.hb i) := by
        by_cases g : i ∈ ((srt m.o).take j).foldl ins1 m.oh
        · rw [tb_in (pnK_inj olt (by omega)) g, if_neg hnj]; rfl
        · rw [tb_out (pnK_inj olt (by omega)) g, hm.h0 i (fun z => g (mem_foldins.mpr (.inl z)))]; rfl
      have hput : puD (tb pnK (((srt m.o).take j).foldl ins1 m.oh) fun i => .bl (if i ∈ (srt m.o).take j then decide (totF (m.rw i) wid c > lim) else m.hb i)) (pnK i) (.bl (decide (totF (m.rw i) wid c > lim))) = tb pnK (((srt m.o).take (j + 1)).foldl ins1 m.oh) fun x => .bl (if x ∈ (srt m.o).take (j + 1) then decide (totF (m.rw x) wid c > lim) else m.hb x) := by
        rw [tb_any (pnK_inj olt (by omega)), take_snoc hj, List.foldl_append, List.foldl_cons, List.foldl_nil]
        refine tb_cong fun x _ => ?_
        by_cases e : x = i
        · subst e; rw [if_pos rfl, if_pos (by simp)]
        · rw [if_neg e]
          congr 1
          by_cases g : x ∈ (srt m.o).take j
          · rw [if_pos g, if_pos (by simp [g])]
          · rw [if_neg g, if_neg (by simp [g, e])]
      have hfl : (foundA lim wid c m ((srt m.o).take j)).length ≤ 3 := by
        refine Nat.le_trans (List.length_filterMap_le _ _) ?_
        rw [List.length_take]
        have : (srt m.o).length = m.o.length := (List.mergeSort_perm m.o _).length_eq
        omega
      have hft : foundA lim wid c m ((srt m.o).take (j + 1)) = foundA lim wid c m ((srt m.o).take j) ++ (if totF (m.rw i) wid c > lim ∧ m.hb i = false then [(i, totF (m.rw i) wid c)] else []) := by
        rw [take_snoc hj]
        unfold foundA
        rw [List.filterMap_append]
        congr 1
        by_cases g : totF (m.rw i) wid c > lim ∧ m.hb i = false
        · rw [if_pos g, List.filterMap_cons, if_pos g]; rfl
        · rw [if_neg g, List.filterMap_cons, if_neg g]; rfl
      have htl := tb_len (key := pnK) (((srt m.o).take j).foldl ins1 m.oh) fun i => .bl (if i ∈ (srt m.o).take j then decide (totF (m.rw i) wid c > lim) else m.hb i)
      rw [hft]
      generalize (tb pnK (((srt m.o).take (j + 1)).foldl ins1 m.oh) fun x => D.bl (if x ∈ (srt m.o).take (j + 1) then decide (totF (m.rw x) wid c > lim) else m.hb x)) = T2 at hput ⊢
      generalize (tb pnK (((srt m.o).take j).foldl ins1 m.oh) fun x => D.bl (if x ∈ (srt m.o).take j then decide (totF (m.rw x) wid c > lim) else m.hb x)) = T1 at hput hhv htl a2 ⊢
      generalize foundA lim wid c m ((srt m.o).take j) = F1 at hfl a1 ⊢
      have npph : ph ≠ p := n3
      clear c0 c1 c2 c3 c4 c5 ci1 ci2 hj hft t0 t1 t2 t4 t5 k0 k1 olt
      refine seq_hide fun E2 hE2 => ?_
      walk_at "dd"
      refine ⟨qq i, c, wid, m.rw i, rr i, rfl, b5, b6, by have := hrl i; omega, ?_⟩
      subst hE2
      dsimp only [List.set_cons_succ, List.set_cons_zero]
      generalize totF (m.rw i) wid c = tt at hput ⊢
      have f1 : ∀ d, cput C' p d ph = some (.dK T1) := fun d => (cput_ne npph).trans a2
      have f2 : ∀ d, cput C' p d w = C' w := fun d => cput_ne n0
      by_cases g1 : tt > lim
      · cases g2 : m.hb i with
        | false =>
          rw [g2] at hhv
          rw [if_pos ⟨g1, rfl⟩]
          rw [decide_eq_true g1] at hput
          walk_at "dd"
          refine ⟨by omega, by omega, ?_, fun a h1 h2 => ?_, _, _, rfl⟩
          · rw [cput_ne npph.symm, cput_same, List.map_append]; rfl
          · rw [cput_ne h2, cput_ne h1]; exact a3 a h1 h2
        | true =>
          rw [g2] at hhv
          rw [if_neg (fun z => Bool.noConfusion z.2)]
          rw [decide_eq_true g1] at hput
          walk_at "dd"
          refine ⟨by omega, ?_, fun a h1 h2 => ?_, _, _, rfl⟩
          · rw [cput_ne npph.symm]; exact a1
          · rw [cput_ne h2]; exact a3 a h1 h2
      · rw [if_neg (fun z => g1 z.1)]
        rw [decide_eq_false g1] at hput
        walk_at "dd"
        refine ⟨by omega, ?_, fun a h1 h2 => ?_, _, _, rfl⟩
        · rw [cput_ne npph.symm]; exact a1
        · rw [cput_ne h2]; exact a3 a h1 h2
    · rintro ρ' C' ⟨a1, a2, a3, o3, o4, rfl⟩
      rw [List.take_length] at a1 a2
      subst hE
      dsimp only [List.set_cons_succ, List.set_cons_zero]
      have hS : (srt m.o).length ≤ 3 := by
        have : (srt m.o).length = m.o.length := (List.mergeSort_perm m.o _).length_eq
        omega
      have hfl : (foundA lim wid c m (srt m.o)).length ≤ 3 := Nat.le_trans (List.length_filterMap_le _ _) hS
      have hmn : WA A tag (cput (crem C' p) pt (.lst (m.tl ++ (foundA lim wid c m (srt m.o)).map (tlD c)))) lim wid w (alM lim wid c m) := by
        have cc : ∀ a d, C a = some d → tag a ≠ 3 → tag a ≠ 4 → cput (crem C' p) pt (.lst (m.tl ++ (foundA lim wid c m (srt m.o)).map (tlD c))) a = some d := fun a d ha h3 h4 => by
          rw [cput_ne (ne_tag (tag := tag) (by rw [t4]; exact h4)), crem_ne (np _ _ ha), a3 a (np _ _ ha) (ne_tag (tag := tag) (by rw [t3]; exact h3))]
          exact ha
        refine ⟨pw, ps, ph, pt, qq, rr, t0, t1, t2, t3, t4, t5, cc _ _ c0 (by omega) (by omega), cc _ _ c1 (by omega) (by omega), cc _ _ c2 (by omega) (by omega), ?_, cput_same, fun i hi => ⟨cc _ _ (c5 i hi).1 (by have := (t5 i hi).1; omega) (by have := (t5 i hi).1; omega), cc _ _ (c5 i hi).2 (by have := (t5 i hi).2; omega) (by have := (t5 i hi).2; omega)⟩⟩
        rw [cput_ne (ne_tag (tag := tag) (by rw [t3, t4]; omega)), crem_ne n3, a2]
        show _ = some (Cell.dK (tb pnK ((srt m.o).foldl ins1 m.oh) fun i => .bl (if i ∈ m.o then decide (totF (m.rw i) wid c > lim) else m.hb i)))
        congr 2
        refine tb_cong fun x _ => ?_
        congr 1
        by_cases g : x ∈ m.o
        · rw [if_pos g, if_pos (srt_mem.mpr g)]
        · rw [if_neg g, if_neg (fun z => g (srt_mem.mp z))]
      have hkp : Keep tag tag C (cput (crem C' p) pt (.lst (m.tl ++ (foundA lim wid c m (srt m.o)).map (tlD c)))) := ⟨fun a d ha hta => ⟨by
        rw [cput_ne (ne_tag (tag := tag) (by rw [t4]; omega)), crem_ne (np _ _ ha), a3 a (np _ _ ha) (ne_tag (tag := tag) (by rw [t3]; omega))]
        exact ha, rfl⟩⟩
      have b0 := (a3 w n0 (ne_tag (tag := tag) (by rw [t0, t3]; omega))).trans c0
      have b4 := (a3 pt n4 (ne_tag (tag := tag) (by rw [t4, t3]; omega))).trans c4
      have npt : p ≠ pt := n4.symm
      have nwt : w ≠ pt := ne_tag (tag := tag) (by rw [t0, t4]; omega)
      have hq := q _ _ hmn hkp
      clear hmn hkp hS
      generalize foundA lim wid c m (srt m.o) = F at a1 hfl hq ⊢
      clear c0 c1 c2 c3 c4 c5 a2 a3 t0 t1 t2 t3 t4 t5 k0 k1 q
      refine seq_hide fun E' hE => ?_
      walk_at "dd"
      refine for_cell (L := F) (enc := fdD) (fun j ρ' C2 => C2 p = some (.lst (F.map fdD)) ∧ C2 = cput C' pt (.lst (m.tl ++ (F.take j).map (tlD c))) ∧ ∃ o3 o4, ρ' = [some (.ptr w), some (.int c), some (.ptr p), o3, o4]) ⟨a1, ?_, _, _, rfl⟩ (fun _ _ _ h => h.1) ?_ ?_
      · rw [List.take_zero, List.map_nil, List.append_nil]
        funext a
        by_cases e : a = pt
        · rw [e, cput_same]; exact b4
        · rw [cput_ne e]
      · rintro j e ρ' C2 hj ⟨h1, rfl, o3, o4, rfl⟩
        rw [take_snoc hj]
        have hjl := (List.getElem?_eq_some_iff.mp hj).1
        have d0 := (cput_ne (C := C') (c := .lst (m.tl ++ (F.take j).map (tlD c))) nwt).trans b0
        have d1 : cput C' pt (.lst (m.tl ++ (F.take j).map (tlD c))) pt = some (.lst (m.tl ++ (F.take j).map (tlD c))) := cput_same
        have d2 : ∀ d, cput C' pt d p = some (.lst (F.map fdD)) := fun d => (cput_ne npt).trans a1
        have hll : (m.tl ++ (F.take j).map (tlD c)).length ≤ 1100 := by rw [List.length_append, List.length_map, List.length_take]; omega
        rw [List.map_append, ← List.append_assoc]
        generalize m.tl ++ (F.take j).map (tlD c) = Z at d0 d1 hll h1 ⊢
        clear hj hq
        simp only [fdD]
        walk_at "dd"
        exact ⟨by omega, rfl, _, _, rfl⟩
      · rintro ρ' C2 ⟨h1, rfl, o3, o4, rfl⟩
        rw [List.take_length]
        rw [List.take_length] at h1
        subst hE
        have ecm : crem (cput C' pt (.lst (m.tl ++ F.map (tlD c)))) p = cput (crem C' p) pt (.lst (m.tl ++ F.map (tlD c))) := by
          funext a
          by_cases e : a = p
          · rw [e, crem_same, cput_ne npt, crem_same]
          · rw [crem_ne e]
            by_cases e2 : a = pt
            · rw [e2, cput_same, cput_same]
            · rw [cput_ne e2, cput_ne e2, crem_ne e]
        rw [← ecm] at hq
        generalize cput C' pt (.lst (m.tl ++ F.map (tlD c))) = C3 at h1 hq ⊢
        walk_at "dd"
        exact ⟨crem C3 p, crem_sub _ _, crem_same, _, Sub.refl _, hq⟩)

def R_Watch_fresh_seconds (A : Ad) : DSp := fun ds C P => ∃ w x tag lim wid m r, ds = [.ptr w, .ptr x] ∧ WA A tag C lim wid w m ∧ Mok m ∧ C x = some (recC A r) ∧ P (.int (freshV m r)) C
theorem len_Watch_fresh_seconds (A : Ad) : ∀ ds C P, R_Watch_fresh_seconds A ds C P → ds.length = 2 := by rintro _ _ _ ⟨w, x, tag, lim, wid, m, r, rfl, _⟩; rfl
theorem ok_Watch_fresh_seconds (T : Txt K mg A) : FnOk P w K mg base CX0 1 A.a_Watch_fresh_seconds A.d_Watch_fresh_seconds ["self", "record"] (spD K (R_Watch_fresh_seconds A)) :=
  ok_D T.F_Watch_fresh_seconds sc_Watch_fresh_seconds (len_Watch_fresh_seconds A) (fun cdv Ar outer s H E hr =>
    ds_one (ds_ret (d_callB (call_max2 rfl) s_max2 (by rfl) T.z_max (by decide +kernel) (d_cons (d_int) (d_cons (d_op op_sub s_sub (d_fld T.c_Record T.n_Record_confirmed (d_var 1)) (dd_get2 hr (d_fld T.c_Watch T.n_Watch_seen (d_var 0)) (d_fld T.c_Record T.n_Record_call_id (d_var 1)) (d_int))) (d_nil)))))) (fun ds C Pk h => by
    obtain ⟨w, x, tag, lim, wid, m, r, rfl, hw, hm, hx, q⟩ := h
    obtain ⟨pw, ps, ph, pt, qq, rr, t0, t1, t2, t3, t4, t5, c0, c1, c2, c3, c4, c5⟩ := hw.ex
    simp only [recC, recFs, mkFs] at hx
    have hid : idD 0 (r.k : Int) = .tup [.int 0, .int 1, .int (r.k : Int)] := rfl
    have hk : keysAll [.int 0, .int 1, .int (r.k : Int)] = some (idK r.k) := rfl
    have hv : (vaD (tb idK m.os fun k => .int (m.sv k)) (idK r.k)).getD (.int 0) = .int (m.sv r.k) := by
      by_cases g : r.k ∈ m.os
      · rw [tb_in idK_inj g]; rfl
      · rw [tb_out idK_inj g, hm.s0 _ g]; rfl
    clear c1 c3 c4 c5 t0 t1 t2 t3 t4 t5
    walk_at "dd"
    exact ⟨_, Sub.refl _, q⟩)

def R_Window_add (A : Ad) : DSp := fun ds C P => ∃ q t a w L pl, ds = [.ptr q, .int t, .int a] ∧ C q = some (.ins A.C_Window [("width", .int w), ("rows", .ptr pl)]) ∧ C pl = some (.lst (L.map pairD)) ∧ L.length ≤ 1000 ∧ P .non (cput C pl (.lst ((L ++ [(t, a)]).map pairD)))
theorem len_Window_add (A : Ad) : ∀ ds C P, R_Window_add A ds C P → ds.length = 3 := by rintro _ _ _ ⟨q, t, a, w, L, pl, rfl, _⟩; rfl
theorem ok_Window_add (T : Txt K mg A) : FnOk P w K mg base CX0 1 A.a_Window_add A.d_Window_add ["self", "clock", "amount"] (spD K (R_Window_add A)) :=
  ok_D T.F_Window_add sc_Window_add (len_Window_add A) (fun cdv Ar outer s H E hr =>
    ds_one (ds_expr (d_bmL PySem.F.plainAttrs_list PySem.F.slot_list_append PySem.F.type_list_append mt_append s_append (d_fld T.c_Window T.n_Window_rows (d_var 0)) (d_cons (d_tup (d_cons (d_var 1) (d_cons (d_var 2) (d_nil)))) (d_nil))))) (fun ds C Pk h => by
    obtain ⟨q, t, a, w, L, pl, rfl, hq, hpl, hl, k⟩ := h
    walk_at "dd"
    refine ⟨by omega, _, Sub.refl _, ?_⟩
    rw [List.map_append] at k
    exact k)

def R_Window_init (A : Ad) : DSp := fun ds C P => ∃ p w, ds = [.ptr p, .int w] ∧ C p = some (.ins A.C_Window []) ∧ 1 ≤ w ∧ ∀ pl, C pl = none → P .non (cput (cput C pl (.lst [])) p (.ins A.C_Window [("width", .int w), ("rows", .ptr pl)]))
theorem len_Window_init (A : Ad) : ∀ ds C P, R_Window_init A ds C P → ds.length = 2 := by rintro _ _ _ ⟨p, w, rfl, _⟩; rfl
theorem ok_Window_init (T : Txt K mg A) : FnOk P w K mg base CX0 1 A.a_Window_init A.d_Window_init ["self", "width"] (spD K (R_Window_init A)) :=
  ok_D T.F_Window_init sc_Window_init (len_Window_init A) (fun cdv Ar outer s H E hr =>
    ds_cons (ds_if (d_tcmp op_lt s_lt (d_var 1) (d_int))
      (ds_one (ds_dead))
      (ds_nil))
    (ds_cons (ds_fld T.c_Window T.n_Window_width (d_var 0) (d_var 1))
    (ds_one (ds_fld T.c_Window T.n_Window_rows (d_var 0) (d_lstC (d_nil)))))) (fun ds C Pk h => by
    obtain ⟨p, w, rfl, hp, h1, q2⟩ := h
    have h1' : ¬ w < 1 := by omega
    walk_at "dd"
    refine ⟨by decide, fun pl hpl => ?_⟩
    have hne : p ≠ pl := cell_ne (C := cput C p (.ins A.C_Window [("width", .int w)])) cput_same hpl
    have hpl' : C pl = none := by rw [cput_ne hne.symm] at hpl; exact hpl
    rw [cput_ne hne, cput_same]
    walk_at "dd"
    refine ⟨by decide, _, fun a c e => ?_, q2 pl hpl'⟩
    unfold cput at e ⊢
    revert e
    split
    · exact fun e => e
    · split
      · exact fun e => e
      · exact fun e => e)

def R_Watch_count (A : Ad) : DSp := fun ds C P => ∃ w, ∃ i : Nat, ∃ c s tag lim wid m, ds = [.ptr w, pnD i, .int c, .int s] ∧ i < 3 ∧ WA A tag C lim wid w m ∧ Mok m ∧ (∀ j, (m.rw j).length ≤ 900) ∧ 1 ≤ wid ∧ ∀ (tag' : Tag) C', WA A tag' C' lim wid w (countM m i c s) → Keep tag tag' C C' → P .non C'
theorem len_Watch_count (A : Ad) : ∀ ds C P, R_Watch_count A ds C P → ds.length = 4 := by rintro _ _ _ ⟨w, i, c, s, tag, lim, wid, m, rfl, _⟩; rfl
theorem ok_Watch_count (T : Txt K mg A) : FnOk P w K mg base CX0 3 A.a_Watch_count A.d_Watch_count ["self", "payer", "clock", "seconds"] (spD K (R_Watch_count A)) :=
  ok_D T.F_Watch_count sc_Watch_count (len_Watch_count A) (fun cdv Ar outer s H E hr =>
    ds_consL (ds_if (d_tdnotin hr (d_var 1) (d_fld T.c_Watch T.n_Watch_windows (d_var 0)))
      (ds_one (ds_setD hr (d_fld T.c_Watch T.n_Watch_windows (d_var 0)) (d_var 1) (d_make T.m_Window_init (ok_Window_init T) (hr.mono (by decide)) T.g_Window T.b_Window_init (d_cons (d_fld T.c_Watch T.n_Watch_width (d_var 0)) (d_nil)))))
      (ds_nil))
    (ds_one (ds_expr (d_meth T.c_Window T.m_Window_add (ok_Window_add T) (hr.mono (by decide)) T.b_Window_add (d_dget hr (d_fld T.c_Watch T.n_Watch_windows (d_var 0)) (d_var 1)) (d_cons (d_var 2) (d_cons (d_var 3) (d_nil))))))) (fun ds C Pk h => by
    obtain ⟨w, i, c, s, tag, lim, wid, m, rfl, hi, hw, hm, hrl, hwid, q⟩ := h
    obtain ⟨pw, ps, ph, pt, qq, rr, t0, t1, t2, t3, t4, t5, c0, c1, c2, c3, c4, c5⟩ := hw.ex
    refine seq_hide fun E' hE => ?_
    have two : ∀ (tag' : Tag) C', WA A tag' C' lim wid w { m with o := ins1 m.o i } → Keep tag tag' C C' → E'.nx [some (.ptr w), some (pnD i), some (.int c), some (.int s)] C' := by
      intro tag' C' hw' hk
      clear t0 t1 t2 t3 t4 t5 c0 c1 c2 c3 c4 c5
      obtain ⟨pw, ps, ph, pt, qq, rr, t0, t1, t2, t3, t4, t5, c0, c1, c2, c3, c4, c5⟩ := hw'.ex
      subst hE
      dsimp only at t5 c1 c2 c3 c4 c5 ⊢
      have gi : i ∈ ins1 m.o i := mem_ins1.mpr (.inr rfl)
      have olt : ∀ j ∈ ins1 m.o i, j < 3 := fun j hj => by
        rcases mem_ins1.mp hj with hj | rfl
        · exact hm.olt j hj
        · exact hi
      have hv := tb_in (key := pnK) (v := fun i => .ptr (qq i)) (pnK_inj olt (by omega : i < 4)) gi
      obtain ⟨ti1, ti2⟩ := t5 i gi
      obtain ⟨ci1, ci2⟩ := c5 i gi
      have fin : WA A tag' (cput C' (rr i) (.lst ((m.rw i ++ [(c, s)]).map pairD))) lim wid w (countM m i c s) := by
        refine ⟨pw, ps, ph, pt, qq, rr, t0, t1, t2, t3, t4, t5, ?_, ?_, ?_, ?_, ?_, fun j hj => ?_⟩
        · rw [cput_ne (ne_tag (tag := tag') (by rw [t0, ti2]; omega))]; exact c0
        · rw [cput_ne (ne_tag (tag := tag') (by rw [t1, ti2]; omega))]; exact c1
        · rw [cput_ne (ne_tag (tag := tag') (by rw [t2, ti2]; omega))]; exact c2
        · rw [cput_ne (ne_tag (tag := tag') (by rw [t3, ti2]; omega))]; exact c3
        · rw [cput_ne (ne_tag (tag := tag') (by rw [t4, ti2]; omega))]; exact c4
        · obtain ⟨tj1, tj2⟩ := t5 j hj
          obtain ⟨cj1, cj2⟩ := c5 j hj
          refine ⟨?_, ?_⟩
          · rw [cput_ne (ne_tag (tag := tag') (by rw [tj1, ti2]; omega))]; exact cj1
          · show _ = some (Cell.lst ((if j = i then m.rw i ++ [(c, s)] else m.rw j).map pairD))
            by_cases e : j = i
            · subst e; rw [cput_same, if_pos rfl]
            · rw [cput_ne (ne_tag (tag := tag') (by rw [tj2, ti2]; omega)), if_neg e]; exact cj2
      have hk2 : Keep tag tag' C (cput C' (rr i) (.lst ((m.rw i ++ [(c, s)]).map pairD))) := ⟨fun a d ha hta => by
        obtain ⟨h1, h2⟩ := hk.st a d ha hta
        refine ⟨?_, h2⟩
        rw [cput_ne (ne_tag (tag := tag') (by rw [h2, ti2]; omega))]
        exact h1⟩
      have hq := q _ _ fin hk2
      clear fin hk2 hk hw' hw
      walk_at "dd"
      refine ⟨qq i, c, s, wid, m.rw i, rr i, rfl, ci1, ci2, by have := hrl i; omega, ?_⟩
      exact ⟨_, Sub.refl _, hq⟩
    by_cases g : i ∈ m.o
    · have e : ins1 m.o i = m.o := if_pos g
      rw [e] at two
      have hv := tb_in (key := pnK) (v := fun i => .ptr (qq i)) (pnK_inj hm.olt (by omega : i < 4)) g
      have h2 := two tag C hw (Keep.refl _ _)
      clear hE two
      walk_at "dd"
    · have e : ins1 m.o i = m.o ++ [i] := if_neg g
      rw [e] at two
      have hv := tb_out (key := pnK) (v := fun i => .ptr (qq i)) (pnK_inj hm.olt (by omega : i < 4)) g
      have hlen := tb_len (key := pnK) m.o (fun i => .ptr (qq i))
      have hol := len_nd hm.ond hm.olt
      have hnew : ∀ p, puD (tb pnK m.o fun i => .ptr (qq i)) (pnK i) (.ptr p) = tb pnK (m.o ++ [i]) fun j => .ptr (if j = i then p else qq j) := fun p => by
        rw [tb_new (pnK_inj hm.olt (by omega : i < 4)) g]
        refine tb_cong fun j _ => ?_
        split <;> rfl
      clear hE
      walk_at "dd"
      intro p hp
      refine ⟨p, wid, rfl, cput_same, hwid, fun pl hpl => ⟨rfl, ?_⟩⟩
      have npl : p ≠ pl := cell_ne (C := cput C p _) cput_same hpl
      rw [cput_ne npl.symm] at hpl
      have fr : ∀ a d, C a = some d → ∀ x y z, cput (cput (cput C p x) pl y) p z a = some d ∧ a ≠ p ∧ a ≠ pl := fun a d ha x y z => by
        have h1 := cell_ne ha hp
        have h2 := cell_ne ha hpl
        exact ⟨by rw [cput_ne h1, cput_ne h2, cput_ne h1]; exact ha, h1, h2⟩
      have f0 := (fr _ _ c0 (.ins A.C_Window []) (.lst []) (.ins A.C_Window [("width", .int wid), ("rows", .ptr pl)])).1
      have f1 := (fr _ _ c1 (.ins A.C_Window []) (.lst []) (.ins A.C_Window [("width", .int wid), ("rows", .ptr pl)])).1
      have f6 : cput (cput (cput C p (.ins A.C_Window [])) pl (.lst [])) p (.ins A.C_Window [("width", .int wid), ("rows", .ptr pl)]) p = some (.ins A.C_Window [("width", .int wid), ("rows", .ptr pl)]) := cput_same
      have f7 : cput (cput (cput C p (.ins A.C_Window [])) pl (.lst [])) p (.ins A.C_Window [("width", .int wid), ("rows", .ptr pl)]) pl = some (.lst []) := (cput_ne npl.symm).trans cput_same
      have fr' := fun a d ha => fr a d ha (.ins A.C_Window []) (.lst []) (.ins A.C_Window [("width", .int wid), ("rows", .ptr pl)])
      generalize cput (cput (cput C p (.ins A.C_Window [])) pl (.lst [])) p (.ins A.C_Window [("width", .int wid), ("rows", .ptr pl)]) = C2 at f0 f1 f6 f7 fr' ⊢
      have h2 := two (fun a => if a = p then 10 + 2 * i else if a = pl then 11 + 2 * i else tag a) (cput C2 pw (.dK (tb pnK (m.o ++ [i]) fun j => .ptr (if j = i then p else qq j)))) ?_ ?_
      · clear two fr fr' c0 c1 c2 c3 c4 c5 hp hpl
        walk_at "dd"
        omega
      · have e2 : ∀ a d, C a = some d → (fun a => if a = p then 10 + 2 * i else if a = pl then 11 + 2 * i else tag a) a = tag a := fun a d ha => by
          obtain ⟨_, h1, h2⟩ := fr' a d ha
          show (if a = p then _ else if a = pl then _ else tag a) = tag a
          rw [if_neg h1, if_neg h2]
        have wne : w ≠ pw := ne_tag (tag := tag) (by rw [t0, t1]; omega)
        refine ⟨pw, ps, ph, pt, fun j => if j = i then p else qq j, fun j => if j = i then pl else rr j, (e2 _ _ c0).trans t0, (e2 _ _ c1).trans t1, (e2 _ _ c2).trans t2, (e2 _ _ c3).trans t3, (e2 _ _ c4).trans t4, fun j hj => ?_, ?_, cput_same, ?_, ?_, ?_, fun j hj => ?_⟩
        · dsimp only at hj ⊢
          by_cases ej : j = i
          · subst ej; simp [npl.symm]
          · have hj' : j ∈ m.o := by simpa [ej] using hj
            simp only [if_neg ej]
            have e3 := e2 _ _ (c5 j hj').1
            have e4 := e2 _ _ (c5 j hj').2
            dsimp only at e3 e4
            rw [e3, e4]
            exact t5 j hj'
        · rw [cput_ne wne]; exact f0
        · rw [cput_ne (ne_tag (tag := tag) (by rw [t2, t1]; omega))]; exact (fr' _ _ c2).1
        · rw [cput_ne (ne_tag (tag := tag) (by rw [t3, t1]; omega))]; exact (fr' _ _ c3).1
        · rw [cput_ne (ne_tag (tag := tag) (by rw [t4, t1]; omega))]; exact (fr' _ _ c4).1
        · dsimp only at hj ⊢
          by_cases ej : j = i
          · subst ej
            rw [if_pos rfl, if_pos rfl]
            refine ⟨?_, ?_⟩
            · rw [cput_ne (fun z => (fr' _ _ c1).2.1 z.symm)]; exact f6
            · rw [cput_ne (fun z => (fr' _ _ c1).2.2 z.symm), hm.r0 j g]; exact f7
          · have hj' : j ∈ m.o := by simpa [ej] using hj
            rw [if_neg ej, if_neg ej]
            obtain ⟨tj1, tj2⟩ := t5 j hj'
            refine ⟨?_, ?_⟩
            · rw [cput_ne (ne_tag (tag := tag) (by rw [tj1, t1]; omega))]; exact (fr' _ _ (c5 j hj').1).1
            · rw [cput_ne (ne_tag (tag := tag) (by rw [tj2, t1]; omega))]; exact (fr' _ _ (c5 j hj').2).1
      · refine ⟨fun a d ha hta => ?_⟩
        obtain ⟨h1, h2, h3⟩ := fr' a d ha
        refine ⟨?_, ?_⟩
        · rw [cput_ne (ne_tag (tag := tag) (by rw [t1]; omega))]; exact h1
        · show (if a = p then _ else if a = pl then _ else tag a) = tag a
          rw [if_neg h2, if_neg h3])

def R_Watch_see (A : Ad) : DSp := fun ds C P => ∃ (w : Addr) (pl : List Addr) (g : List Rc) (c : Int) (tag : Tag) (lim wid : Int) (m : Ms), ds = [.ptr w, .lst (pl.map D.ptr), .int c] ∧ WA A tag C lim wid w m ∧ Mok m ∧ 1 ≤ wid ∧ pl.map C = g.map (fun r => some (recC A r)) ∧ (∀ x ∈ pl, 100 ≤ tag x) ∧ (∀ r ∈ g, r.k < 8 ∧ ∀ i, r.py = some i → i < 3) ∧ g.length ≤ 8 ∧ (∀ j, (m.rw j).length ≤ 800) ∧ m.tl.length ≤ 1000 ∧
  ∀ (tag' : Tag) C', WA A tag' C' lim wid w (alM lim wid c (g.foldl (seeR c) m)) → Keep tag tag' C C' → P (.lst ((foundA lim wid c (g.foldl (seeR c) m) (srt (g.foldl (seeR c) m).o)).map fdD)) C'
theorem len_Watch_see (A : Ad) : ∀ ds C P, R_Watch_see A ds C P → ds.length = 3 := by rintro _ _ _ ⟨w, pl, g, c, tag, lim, wid, m, rfl, _⟩; rfl
theorem ok_Watch_see (T : Txt K mg A) : FnOk P w K mg base CX0 4 A.a_Watch_see A.d_Watch_see ["self", "records", "clock"] (spD K (R_Watch_see A)) :=
  ok_D T.F_Watch_see sc_Watch_see (len_Watch_see A) (fun cdv Ar outer s H E hr =>
    ds_consL (ds_for PassesOwn.never rfl (di_list (d_var 1)) (dg_name 3 sc_Watch_see.nd)
      (ds_consL (ds_set 4 sc_Watch_see.nd (d_meth T.c_Watch T.m_Watch_fresh_seconds (ok_Watch_fresh_seconds T) (hr.mono (by decide)) T.b_Watch_fresh_seconds (d_var 0) (d_cons (d_var 3) (d_nil))))
      (ds_one (ds_if ((d_and (d_tcmp op_notN s_notN (d_fld T.c_Record T.n_Record_payer (d_var 3)) (d_non)) (d_and1 (d_tcmp op_gt s_gt (d_var 4) (d_int)))).pt)
        (ds_consL (ds_expr (d_meth T.c_Watch T.m_Watch_count (ok_Watch_count T) (hr.mono (by decide)) T.b_Watch_count (d_var 0) (d_cons (d_fld T.c_Record T.n_Record_payer (d_var 3)) (d_cons (d_var 2) (d_cons (d_var 4) (d_nil))))))
        (ds_one (ds_setD hr (d_fld T.c_Watch T.n_Watch_seen (d_var 0)) (d_fld T.c_Record T.n_Record_call_id (d_var 3)) (d_fld T.c_Record T.n_Record_confirmed (d_var 3)))))
        (ds_nil)))))
    (ds_one (ds_ret (d_meth T.c_Watch T.m_Watch_alarms_at (ok_Watch_alarms_at T) (hr.mono (by decide)) T.b_Watch_alarms_at (d_var 0) (d_cons (d_var 2) (d_nil)))))) (fun ds C Pk h => by
    obtain ⟨w, pl, g, c, tag, lim, wid, m, rfl, hw, hm, hwid, hrec, htg, hg, hgl, hrl, htl, q⟩ := h
    have hlen : pl.length = g.length := by have := congrArg List.length hrec; simpa using this
    refine seq_hide fun E' hE => ?_
    walk_at "dd"
    refine for_map (fun j ρ' C' => ∃ tag' o3 o4, WA A tag' C' lim wid w ((g.take j).foldl (seeR c) m) ∧ Mok ((g.take j).foldl (seeR c) m) ∧ (∀ i, (((g.take j).foldl (seeR c) m).rw i).length ≤ 800 + j) ∧ ((g.take j).foldl (seeR c) m).tl = m.tl ∧ Keep tag tag' C C' ∧ ρ' = [some (.ptr w), some (.lst (pl.map D.ptr)), some (.int c), o3, o4]) ⟨tag, _, _, hw, hm, hrl, rfl, Keep.refl _ _, rfl⟩ ?_ ?_
    · rintro j x ρ' C' hj ⟨tag', o3, o4, hw', hm', hrl', htl', hk, rfl⟩
      have hjl := (List.getElem?_eq_some_iff.mp hj).1
      have hgj : g[j]? = some (g[j]'(by omega)) := List.getElem?_eq_getElem _
      generalize g[j]'(by omega) = r at hgj
      have hx0 : C x = some (recC A r) := by
        have := congrArg (fun l => l[j]?) hrec
        simp only [List.getElem?_map, hj, hgj, Option.map_some] at this
        exact Option.some.inj this
      have htx := htg x (List.mem_of_getElem? hj)
      obtain ⟨hx, htx'⟩ := hk.st _ _ hx0 htx
      obtain ⟨hrk, hrp⟩ := hg r (List.mem_of_getElem? hgj)
      have hmn := mok_see hm' (r := r) hrp hrk c
      rw [take_snoc hgj, List.foldl_append, List.foldl_cons, List.foldl_nil]
      generalize (g.take j).foldl (seeR c) m = m1 at hw' hm' hrl' htl' hmn ⊢
      clear hj hgj
      obtain ⟨pw, ps, ph, pt, qq, rr, t0, t1, t2, t3, t4, t5, c0, c1, c2, c3, c4, c5⟩ := hw'.ex
      clear t0 t1 t2 t3 t4 t5 c1 c2 c3 c4 c5
      refine seq_hide fun E2 hE2 => ?_
      walk_at "dd"
      refine ⟨w, x, tag', lim, wid, m1, r, rfl, hw', hm', hx, ?_⟩
      subst hE2
      dsimp only [List.set_cons_succ, List.set_cons_zero]
      have hxf := hx
      simp only [recC, recFs, mkFs] at hxf
      clear hx hx0
      cases hpy : r.py with
      | none =>
        have es : seeR c m1 r = m1 := by unfold seeR; rw [hpy]
        rw [hpy] at hxf
        simp only [pyD] at hxf
        rw [es]
        clear hmn
        walk_at "dd"
        exact ⟨tag', _, _, hw', fun i => by have := hrl' i; omega, hk, rfl⟩
      | some i =>
        rw [hpy] at hxf
        simp only [pyD] at hxf
        by_cases hf : 0 < freshV m1 r
        · have es : seeR c m1 r = { countM m1 i c (freshV m1 r) with os := ins1 m1.os r.k, sv := fun j => if j = r.k then r.cf else m1.sv j } := by unfold seeR; rw [hpy]; exact if_pos hf
          rw [es] at hmn ⊢
          clear es hm
          walk_at "dd"
          refine seq_hide fun E3 hE3 => ?_
          walk_at "dd"
          refine ⟨w, i, c, freshV m1 r, tag', lim, wid, m1, rfl, hrp i hpy, hw', hm', fun i => by have := hrl' i; omega, hwid, fun tag2 C2 hw2 hk2 => ?_⟩
          have hx2 := (hk2.st x _ hxf (by rw [htx']; exact htx)).1
          clear hxf c0 hw'
          obtain ⟨pw, ps, ph, pt, qq, rr, t0, t1, t2, t3, t4, t5, c0, c1, c2, c3, c4, c5⟩ := hw2.ex
          have hid : idD 0 (r.k : Int) = .tup [.int 0, .int 1, .int (r.k : Int)] := rfl
          have hkk : keysAll [.int 0, .int 1, .int (r.k : Int)] = some (idK r.k) := rfl
          have c2' : C2 ps = some (.dT (tb idK m1.os fun k => .int (m1.sv k))) := c2
          have hput : puD (tb idK m1.os fun k => .int (m1.sv k)) (idK r.k) (.int r.cf) = tb idK (ins1 m1.os r.k) fun j => .int (if j = r.k then r.cf else m1.sv j) := by
            rw [tb_any idK_inj]
            refine tb_cong fun x _ => ?_
            split <;> rfl
          have hln := tb_len (key := idK) m1.os fun k => .int (m1.sv k)
          have hos := len_nd hm'.snd hm'.slt
          have hw3 : WA A tag2 (cput C2 ps (.dT (tb idK (ins1 m1.os r.k) fun j => .int (if j = r.k then r.cf else m1.sv j)))) lim wid w { countM m1 i c (freshV m1 r) with os := ins1 m1.os r.k, sv := fun j => if j = r.k then r.cf else m1.sv j } := by
            refine ⟨pw, ps, ph, pt, qq, rr, t0, t1, t2, t3, t4, t5, ?_, ?_, cput_same, ?_, ?_, fun j hj => ⟨?_, ?_⟩⟩
            · rw [cput_ne (ne_tag (tag := tag2) (by rw [t0, t2]; omega))]; exact c0
            · rw [cput_ne (ne_tag (tag := tag2) (by rw [t1, t2]; omega))]; exact c1
            · rw [cput_ne (ne_tag (tag := tag2) (by rw [t3, t2]; omega))]; exact c3
            · rw [cput_ne (ne_tag (tag := tag2) (by rw [t4, t2]; omega))]; exact c4
            · rw [cput_ne (ne_tag (tag := tag2) (by rw [(t5 j hj).1, t2]; omega))]; exact (c5 j hj).1
            · rw [cput_ne (ne_tag (tag := tag2) (by rw [(t5 j hj).2, t2]; omega))]; exact (c5 j hj).2
          have hk3 : Keep tag tag2 C (cput C2 ps (.dT (tb idK (ins1 m1.os r.k) fun j => .int (if j = r.k then r.cf else m1.sv j)))) := ⟨fun a d ha hta => by
            obtain ⟨h1, h2⟩ := (hk.trans hk2).st a d ha hta
            refine ⟨?_, h2⟩
            rw [cput_ne (ne_tag (tag := tag2) (by rw [h2, t2]; omega))]
            exact h1⟩
          have hrl3 : ∀ z, ((countM m1 i c (freshV m1 r)).rw z).length ≤ 800 + (j + 1) := fun z => by
            show (if z = i then m1.rw i ++ [(c, freshV m1 r)] else m1.rw z).length ≤ _
            split
            · have := hrl' i; rw [List.length_append]; simp; omega
            · have := hrl' z; omega
          clear c1 c2 c3 c4 c5 t0 t1 t2 t3 t4 t5 hk hk2 hw2 hrl'
          generalize (tb idK (ins1 m1.os r.k) fun j => D.int (if j = r.k then r.cf else m1.sv j)) = T2 at hput hw3 hk3 ⊢
          generalize (tb idK m1.os fun k => D.int (m1.sv k)) = T1 at hput hln c2' ⊢
          subst hE3
          dsimp only
          walk_at "dd"
          exact ⟨by omega, tag2, _, _, hw3, fun _ => trivial, htl', hk3, rfl⟩
        · have es : seeR c m1 r = m1 := by unfold seeR; rw [hpy]; exact if_neg hf
          rw [es]
          clear hmn
          walk_at "dd"
          exact ⟨tag', _, _, hw', fun i => by have := hrl' i; omega, hk, rfl⟩
    · rintro ρ' C' ⟨tag', o3, o4, hw', hm', hrl', htl', hk, rfl⟩
      rw [hlen, List.take_length] at hw' hm' hrl' htl'
      generalize g.foldl (seeR c) m = m1 at hw' hm' hrl' htl' q
      obtain ⟨pw, ps, ph, pt, qq, rr, t0, t1, t2, t3, t4, t5, c0, c1, c2, c3, c4, c5⟩ := hw'.ex
      clear t0 t1 t2 t3 t4 t5 c1 c2 c3 c4 c5
      subst hE
      walk_at "dd"
      refine ⟨w, c, tag', lim, wid, m1, rfl, hw', hm', fun j => by have := hrl' j; omega, by rw [htl']; exact htl, fun tag2 C2 hw2 hk2 => ?_⟩
      exact ⟨_, Sub.refl _, q tag2 C2 hw2 (hk.trans hk2)⟩)

def R_Watch_alarms (A : Ad) : DSp := fun ds C P => ∃ w tag lim wid m, ds = [.ptr w] ∧ WA A tag C lim wid w m ∧ P (.lst m.tl) C
theorem len_Watch_alarms (A : Ad) : ∀ ds C P, R_Watch_alarms A ds C P → ds.length = 1 := by rintro _ _ _ ⟨w, tag, lim, wid, m, rfl, _⟩; rfl
theorem ok_Watch_alarms (T : Txt K mg A) : FnOk P w K mg base CX0 1 A.a_Watch_alarms A.d_Watch_alarms ["self"] (spD K (R_Watch_alarms A)) :=
  ok_D T.F_Watch_alarms sc_Watch_alarms (len_Watch_alarms A) (fun cdv Ar outer s H E hr =>
    ds_one (ds_ret (d_callTy call_list_of s_list (by rfl) T.z_list (by decide +kernel) (d_cons (d_fld T.c_Watch T.n_Watch_told (d_var 0)) (d_nil))))) (fun ds C Pk h => by
    obtain ⟨w, tag, lim, wid, m, rfl, hw, q⟩ := h
    obtain ⟨pw, ps, ph, pt, qq, rr, t0, t1, t2, t3, t4, t5, c0, c1, c2, c3, c4, c5⟩ := hw.ex
    walk_at "dd"
    exact ⟨_, Sub.refl _, q⟩)

def R_law (A : Ad) : DSp := fun ds C P => ∃ ns : List Int, ds = [.lst (ns.map D.int)] ∧ ns.length ≤ 63 ∧ ∀ C', P (.bl true) C'
theorem len_law (A : Ad) : ∀ ds C P, R_law A ds C P → ds.length = 1 := by rintro _ _ _ ⟨ns, rfl, _⟩; rfl
theorem law_go (A : Ad) : ∀ (ns : List Int) (P : DK), ns.length ≤ 63 → (∀ C', P (.bl true) C') → R_law A [.lst (ns.map D.int)] (fun _ => none) P := fun ns P hl k => ⟨ns, rfl, hl, k⟩

theorem ok_law (T : Txt K mg A) : FnOk P w K mg base CX0 7 A.a_law A.d_law ["script"] (spD K (R_law A)) :=
  ok_D T.F_law sc_law (len_law A) (fun cdv Ar outer s H E hr =>
    ds_consL (ds_set 1 sc_law.nd (d_call (ok_law_state T) (hr.mono (by decide)) T.g_law_state T.F_law_state.kp T.b_law_state (d_cons (d_call (ok_law_cell T) (hr.mono (by decide)) T.g_law_cell T.F_law_cell.kp T.b_law_cell (d_cons (d_var 0) (d_cons (d_int) (d_nil)))) (d_cons (d_int) (d_nil)))))
    (ds_consL (ds_set 2 sc_law.nd (d_call (ok_law_digit T) (hr.mono (by decide)) T.g_law_digit T.F_law_digit.kp T.b_law_digit (d_cons (d_var 1) (d_cons (d_int) (d_nil)))))
    (ds_consL (ds_set 3 sc_law.nd (d_op op_add s_add (d_int) (d_call (ok_law_digit T) (hr.mono (by decide)) T.g_law_digit T.F_law_digit.kp T.b_law_digit (d_cons (d_var 1) (d_cons (d_int) (d_nil))))))
    (ds_consL (ds_setLc 4 rfl sc_law.nd rfl rfl (sw_true rfl rfl rfl (by decide +kernel)) (di_rng1 (by rfl) T.z_range (d_cons (d_int) (d_nil))) (blkOk_by (own := [("spare", 21)]) (N := ["script", "drawn", "limit", "width", "payers", "entries", "k", "watch", "talked", "seen", "high", "told", "clock", "state", "place", "more", "due", "payer", "total", "records", "record", "spare"]) (sc := defScope s_law) (by decide +kernel)) (by decide) (fun _ _ _ _ _ => dg_name 21 sc_law.nd) (fun _ _ _ _ _ => dts_nil) (fun _ _ _ _ _ => d_ix ix_seq s_ix (d_tup (d_cons (d_str) (d_cons (d_str) (d_cons (d_str) (d_cons (d_non) (d_nil)))))) (d_call (ok_law_digit T) (hr.mono (by decide)) T.g_law_digit T.F_law_digit.kp T.b_law_digit (d_cons (d_var 1) (d_cons (d_int) (d_nil))))))
    (ds_consL (ds_set 5 sc_law.nd (d_lstC (d_cons (d_tup (d_cons (d_str) (d_cons (d_int) (d_cons (d_int) (d_nil))))) (d_nil))))
    (ds_consL (ds_for PassesOwn.never rfl (di_rng1 (by rfl) T.z_range (d_cons (d_int) (d_nil))) (dg_name 6 sc_law.nd)
      (ds_one (ds_expr (d_bmL PySem.F.plainAttrs_list PySem.F.slot_list_append PySem.F.type_list_append mt_append s_append (d_var 5) (d_cons (d_tup (d_cons (d_str) (d_cons (d_tup (d_cons (d_int) (d_cons (d_int) (d_cons (d_var 6) (d_nil))))) (d_cons (d_str) (d_cons (d_str) (d_cons (d_str) (d_cons (d_ix ix_seq s_ix (d_var 4) (d_var 6)) (d_cons (d_non) (d_cons (d_non) (d_cons (d_non) (d_cons (d_var 6) (d_nil)))))))))))) (d_nil))))))
    (ds_frz (ds_consL (ds_set 7 sc_law.nd (d_make T.m_Watch_init (ok_Watch_init T) (hr.mono (by decide)) T.g_Watch T.b_Watch_init (d_cons (d_var 2) (d_cons (d_var 3) (d_nil)))))
    (ds_consL (ds_set 8 sc_law.nd (d_repC (d_cons (d_int) (d_nil)) (d_int)))
    (ds_consL (ds_set 9 sc_law.nd (d_lstC (d_nil)))
    (ds_consL (ds_set 10 sc_law.nd (d_disp (dps_cons (d_str) (d_bl) (dps_cons (d_str) (d_bl) (dps_cons (d_str) (d_bl) (dps_nil))))))
    (ds_consL (ds_set 11 sc_law.nd (d_lstC (d_nil)))
    (ds_cons (ds_set 12 sc_law.nd (d_int))
    (ds_consL (ds_for PassesOwn.never rfl (di_rng1 (by rfl) T.z_range (d_cons (d_callB (call_min2 rfl) s_min2 (by rfl) T.z_min (by decide +kernel) (d_cons (d_int) (d_cons (d_op op_add s_add (d_int) (d_callB call_len s_len (by rfl) T.z_len (by decide +kernel) (d_cons (d_var 0) (d_nil)))) (d_nil)))) (d_nil))) (dg_name 6 sc_law.nd)
      (ds_consL (ds_set 13 sc_law.nd (d_call (ok_law_state T) (hr.mono (by decide)) T.g_law_state T.F_law_state.kp T.b_law_state (d_cons (d_call (ok_law_cell T) (hr.mono (by decide)) T.g_law_cell T.F_law_cell.kp T.b_law_cell (d_cons (d_var 0) (d_cons (d_var 6) (d_nil)))) (d_cons (d_var 6) (d_nil)))))
      (ds_consL (ds_set 12 sc_law.nd (d_op op_add s_add (d_var 12) (d_call (ok_law_digit T) (hr.mono (by decide)) T.g_law_digit T.F_law_digit.kp T.b_law_digit (d_cons (d_var 13) (d_cons (d_int) (d_nil))))))
      (ds_consL (ds_for PassesOwn.never rfl (di_rng1 (by rfl) T.z_range (d_cons (d_int) (d_nil))) (dg_name 14 sc_law.nd)
        (ds_consL (ds_set 15 sc_law.nd (d_ix ix_seq s_ix (d_tup (d_cons (d_int) (d_cons (d_int) (d_cons (d_int) (d_cons (d_int) (d_cons (d_int) (d_cons (d_int) (d_nil)))))))) (d_call (ok_law_digit T) (hr.mono (by decide)) T.g_law_digit T.F_law_digit.kp T.b_law_digit (d_cons (d_var 13) (d_cons (d_int) (d_nil))))))
        (ds_cons (ds_setL (d_var 8) (d_var 14) (d_op op_add s_add (d_ix ix_seq s_ix (d_var 8) (d_var 14)) (d_var 15)))
        (ds_one (ds_if ((d_and (d_tcmp op_gt s_gt (d_var 15) (d_int)) (d_and1 (d_tcmp op_notN s_notN (d_ix ix_seq s_ix (d_var 4) (d_var 14)) (d_non)))).pt)
          (ds_one (ds_expr (d_bmL PySem.F.plainAttrs_list PySem.F.slot_list_append PySem.F.type_list_append mt_append s_append (d_var 9) (d_cons (d_tup (d_cons (d_ix ix_seq s_ix (d_var 4) (d_var 14)) (d_cons (d_var 12) (d_cons (d_var 15) (d_nil))))) (d_nil)))))
          (ds_nil))))))
      (ds_consL (ds_set 16 sc_law.nd (d_lstC (d_nil)))
      (ds_consL (ds_for PassesOwn.never rfl (di_tup (d_tup (d_cons (d_str) (d_cons (d_str) (d_cons (d_str) (d_nil)))))) (dg_name 17 sc_law.nd)
        (ds_consL (ds_set 18 sc_law.nd (d_call (ok_law_total T) (hr.mono (by decide)) T.g_law_total T.F_law_total.kp T.b_law_total (d_cons (d_var 9) (d_cons (d_var 17) (d_cons (d_var 12) (d_cons (d_var 3) (d_nil)))))))
        (ds_cons (ds_if ((d_and (d_tcmp op_gt s_gt (d_var 18) (d_var 2)) (d_and1 (d_not (d_tval (d_dget hr (d_var 10) (d_var 17)))))).pt)
          (ds_cons (ds_expr (d_bmL PySem.F.plainAttrs_list PySem.F.slot_list_append PySem.F.type_list_append mt_append s_append (d_var 16) (d_cons (d_tup (d_cons (d_var 17) (d_cons (d_var 18) (d_nil)))) (d_nil))))
          (ds_one (ds_expr (d_bmL PySem.F.plainAttrs_list PySem.F.slot_list_append PySem.F.type_list_append mt_append s_append (d_var 11) (d_cons (d_tup (d_cons (d_var 17) (d_cons (d_var 12) (d_cons (d_var 18) (d_nil))))) (d_nil))))))
          (ds_nil))
        (ds_one (ds_setD hr (d_var 10) (d_var 17) (d_cmp op_gt s_gt (d_var 18) (d_var 2)))))))
      (ds_frz (ds_consL (ds_set 19 sc_law.nd (d_call (ok_law_look T) (hr.mono (by decide)) T.g_law_look T.F_law_look.kp T.b_law_look (d_cons (d_var 5) (d_cons (d_var 8) (d_nil)))))
      (ds_consL (ds_if ((d_or (d_tcmp (op_neD hr.units) s_neD (d_meth T.c_Watch T.m_Watch_see (ok_Watch_see T) (hr.mono (by decide)) T.b_Watch_see (d_var 7) (d_cons (d_var 19) (d_cons (d_var 12) (d_nil)))) (d_var 16)) (d_or1 (d_tcmp (op_neD hr.units) s_neD (d_meth0 T.c_Watch T.m_Watch_alarms (ok_Watch_alarms T) (hr.mono (by decide)) T.b_Watch_alarms (d_var 7)) (d_var 11)))).pt)
        (ds_one (ds_ret (d_bl)))
        (ds_nil))
      (ds_consL (ds_for PassesOwn.never rfl (di_tup (d_tup (d_cons (d_str) (d_cons (d_str) (d_cons (d_str) (d_nil)))))) (dg_name 17 sc_law.nd)
        (ds_one (ds_if ((d_or (d_tcmp op_ne s_ne (d_meth T.c_Watch T.m_Watch_is_high (ok_Watch_is_high T) (hr.mono (by decide)) T.b_Watch_is_high (d_var 7) (d_cons (d_var 17) (d_nil))) (d_dget hr (d_var 10) (d_var 17))) (d_or1 (d_tcmp op_ne s_ne (d_meth T.c_Watch T.m_Watch_total (ok_Watch_total T) (hr.mono (by decide)) T.b_Watch_total (d_var 7) (d_cons (d_var 17) (d_cons (d_var 12) (d_nil)))) (d_call (ok_law_total T) (hr.mono (by decide)) T.g_law_total T.F_law_total.kp T.b_law_total (d_cons (d_var 9) (d_cons (d_var 17) (d_cons (d_var 12) (d_cons (d_var 3) (d_nil))))))))).pt)
          (ds_one (ds_ret (d_bl)))
          (ds_nil))))
      (ds_one (ds_for PassesOwn.never rfl (di_list (d_var 19)) (dg_name 20 sc_law.nd)
        (ds_one (ds_if ((d_and (d_tcmp op_notN s_notN (d_fld T.c_Record T.n_Record_payer (d_var 20)) (d_non)) (d_and1 (d_tcmp op_ne s_ne (d_meth T.c_Watch T.m_Watch_fresh_seconds (ok_Watch_fresh_seconds T) (hr.mono (by decide)) T.b_Watch_fresh_seconds (d_var 7) (d_cons (d_var 20) (d_nil))) (d_int)))).pt)
          (ds_one (ds_ret (d_bl)))
          (ds_nil)))))))) 16)))))))
    (ds_one (ds_ret (d_andV (d_cmp op_eq s_eq (d_meth T.c_Watch T.m_Watch_total (ok_Watch_total T) (hr.mono (by decide)) T.b_Watch_total (d_var 7) (d_cons (d_str) (d_cons (d_var 12) (d_nil)))) (d_int)) (d_one (d_notV (d_meth T.c_Watch T.m_Watch_is_high (ok_Watch_is_high T) (hr.mono (by decide)) T.b_Watch_is_high (d_var 7) (d_cons (d_str) (d_nil))))))))))))))) 5))))))) (fun ds C Pk h => by
    obtain ⟨ns, rfl, hl, q⟩ := h
    refine seq_hide fun E' hE => ?_
    walk_at "dd"
    refine ⟨ns, 0, rfl, hl, by omega, fun v => ⟨v, 90, rfl, by omega, by omega, fun p s hs hp => ?_⟩⟩
    have g1 : cput C p (.lst [.int s]) p = some (.lst [.int s]) := cput_same
    generalize cput C p (.lst [.int s]) = C1 at g1 ⊢
    clear hp
    subst hE
    dsimp only [List.set_cons_succ, List.set_cons_zero]
    refine seq_hide fun E' hE => ?_
    walk_at "dd"
    refine ⟨p, s, 200, rfl, g1, hs, by decide, by decide, fun lim s2 hl0 hl1 hs2 => ?_⟩
    have g2 : cput C1 p (.lst [.int s2]) p = some (.lst [.int s2]) := cput_same
    generalize cput C1 p (.lst [.int s2]) = C2 at g2 ⊢
    clear g1
    subst hE
    dsimp only [List.set_cons_succ, List.set_cons_zero]
    refine seq_hide fun E' hE => ?_
    walk_at "dd"
    refine ⟨p, s2, 60, rfl, g2, hs2, by decide, by decide, fun w0 s3 hw0 hw1 hs3 => ?_⟩
    have g3 : cput C2 p (.lst [.int s3]) p = some (.lst [.int s3]) := cput_same
    generalize cput C2 p (.lst [.int s3]) = C3 at g3 ⊢
    clear g2
    walk_at "dd"
    obtain ⟨wid, hwid⟩ : ∃ wid : Int, wid = 1 + w0 := ⟨_, rfl⟩
    have hwd1 : 1 ≤ wid := by omega
    rw [← hwid]
    clear hwid
    subst hE
    dsimp only [List.set_cons_succ, List.set_cons_zero]
    refine seq_hide fun E' hE => ?_
    walk_at "dd"
    refine ⟨by decide, ?_⟩
    intro Dl hD
    have nD : p ≠ Dl := cell_ne g3 hD
    refine ⟨fun i C' => ∃ (L : List (Option Nat)) (z : Int), L.length = i ∧ (∀ o ∈ L, ∀ j, o = some j → j < 3) ∧ 0 ≤ z ∧ C' = cput (cput C3 p (.lst [.int z])) Dl (.lst (L.map pyD)), ⟨[], s3, rfl, (fun o ho => nomatch ho), hs3, ?_⟩, fun _ _ _ => trivial, ?_, ?_⟩
    · have : cput C3 p (.lst [.int s3]) = C3 := by
        funext a
        by_cases e : a = p
        · rw [e, cput_same, g3]
        · rw [cput_ne e]
      rw [this]; rfl
    · rintro i d C' hd ⟨L, z, hL, hok, hz, rfl⟩
      have hi8 : i < 8 := by
        have := (List.getElem?_eq_some_iff.mp hd).1
        simpa [rngD] using this
      have b1 : cput (cput C3 p (.lst [.int z])) Dl (.lst (L.map pyD)) p = some (.lst [.int z]) := (cput_ne nD).trans cput_same
      clear hd
      walk_at "dd"
      refine ⟨p, z, 4, rfl, b1, hz, by decide, by decide, fun u z2 hu0 hu1 hz2 => ?_⟩
      obtain ⟨o, ho, hoj⟩ : ∃ o, atI [D.str (Str.ofString "41"), D.str (Str.ofString "42"), D.str (Str.ofString "51"), D.non] u = some (pyD o) ∧ ∀ j, o = some j → j < 3 := by
        rcases (show u = 0 ∨ u = 1 ∨ u = 2 ∨ u = 3 by omega) with rfl | rfl | rfl | rfl
        · exact ⟨some 0, rfl, fun j e => by cases e; decide⟩
        · exact ⟨some 1, rfl, fun j e => by cases e; decide⟩
        · exact ⟨some 2, rfl, fun j e => by cases e; decide⟩
        · exact ⟨none, rfl, fun j e => nomatch e⟩
      have b2 : cput (cput (cput C3 p (.lst [.int z])) Dl (.lst (L.map pyD))) p (.lst [.int z2]) = cput (cput C3 p (.lst [.int z2])) Dl (.lst (L.map pyD)) := by
        funext a
        by_cases e : a = p
        · rw [e, cput_same, cput_ne nD, cput_same]
        · rw [cput_ne e]
          by_cases e2 : a = Dl
          · rw [e2, cput_same, cput_same]
          · rw [cput_ne e2, cput_ne e2, cput_ne e, cput_ne e]
      rw [b2]
      clear b1 b2
      walk_at "dd"
      refine ⟨by omega, L ++ [o], z2, by rw [List.length_append, hL]; rfl, fun x hx => ?_, hz2, by rw [List.map_append]; rfl⟩
      rcases List.mem_append.mp hx with hx | hx
      · exact hok x hx
      · simp only [List.mem_cons, List.not_mem_nil, or_false] at hx
        subst hx; exact hoj
    · rintro C' ⟨L, z, hL, hok, hz, rfl⟩
      rw [cput_same]
      refine ⟨cput C3 p (.lst [.int z]), Sub.new ((cput_ne nD.symm).trans hD), (cput_ne nD.symm).trans hD, ?_⟩
      generalize cput C3 p (.lst [.int z]) = C4
      clear hD g3
      have hL8 : L.length = 8 := by simpa [rngD] using hL
      obtain ⟨py, hpy⟩ : ∃ py : Nat → Option Nat, py = fun k => L.getD k none := ⟨_, rfl⟩
      have hpk : ∀ k, k < 8 → (L.map pyD)[k]? = some (pyD (py k)) := fun k hk => by
        rw [List.getElem?_map, List.getElem?_eq_getElem (by omega), hpy]
        simp [List.getD, List.getElem?_eq_getElem (show k < L.length by omega)]
      have hp3 : ∀ k i, py k = some i → i < 3 := fun k i e => by
        by_cases hk : k < L.length
        · refine hok (L[k]) (List.getElem_mem hk) i ?_
          rw [hpy] at e
          simpa [List.getD, List.getElem?_eq_getElem hk] using e
        · rw [hpy] at e
          simp [List.getD, List.getElem?_eq_none (show L.length ≤ k by omega)] at e
      clear hpy hok hL
      generalize L.map pyD = PL at hpk ⊢
      subst hE
      dsimp only [List.set_cons_succ, List.set_cons_zero]
      refine seq_hide fun E' hE => ?_
      walk_at "dd"
      intro pe hpe
      subst hE
      dsimp only [List.set_cons_succ, List.set_cons_zero]
      refine seq_hide fun E' hE => ?_
      walk_at "dd"
      refine ⟨by decide, for_rng (fun j ρ' C' => C' = cput C4 pe (.lst ((Ent.boot :: (List.range j).map fun k => Ent.opn k (py k)).map entD)) ∧ ∃ o6, ρ' = [some (.lst (ns.map D.int)), some (.ptr p), some (.int lim), some (.int wid), some (.lst PL), some (.ptr pe), o6, none, none, none, none, none, none, none, none, none, none, none, none, none, none, none]) ⟨rfl, _, rfl⟩ ?_ ?_⟩
      · rintro j ρ' C' hj ⟨rfl, o6, rfl⟩
        have hj8 : j < 8 := by omega
        rw [Int.zero_add]
        have hx := hpk j hj8
        have hn : ((Ent.boot :: (List.range (j + 1)).map fun k => Ent.opn k (py k)).map entD) = ((Ent.boot :: (List.range j).map fun k => Ent.opn k (py k)).map entD) ++ [entD (.opn j (py j))] := by
          rw [List.range_succ, List.map_append, List.map_cons, List.map_append, List.map_cons]; rfl
        have hll : ((Ent.boot :: (List.range j).map fun k => Ent.opn k (py k)).map entD).length ≤ 100 := by simp; omega
        rw [hn]
        generalize ((Ent.boot :: (List.range j).map fun k => Ent.opn k (py k)).map entD) = Z at hll ⊢
        have gz : cput C4 pe (.lst Z) pe = some (.lst Z) := cput_same
        clear hn hpk
        walk_at "dd"
        exact ⟨by omega, rfl, _, rfl⟩
      rintro ρ' C' ⟨rfl, o6, rfl⟩
      have eop : (Ent.boot :: (List.range (Int.toNat 8)).map fun k => Ent.opn k (py k)) = Ent.boot :: opns py := rfl
      rw [eop]
      clear eop
      subst hE
      dsimp only [List.set_cons_succ, List.set_cons_zero]
      refine seq_hide fun E' hE => ?_
      walk_at "dd"
      refine ⟨C4, Sub.new hpe, hpe, ?_⟩
      clear hpe
      subst hE
      dsimp only [List.set_cons_succ, List.set_cons_zero]
      refine seq_hide fun E' hE => ?_
      walk_at "dd"
      intro w hw0
      refine ⟨w, lim, wid, rfl, cput_same, fun tag C5 hWA _ => ⟨rfl, ?_⟩⟩
      clear hw0
      subst hE
      dsimp only [List.set_cons_succ, List.set_cons_zero]
      refine seq_hide fun E' hE => ?_
      walk_at "dd"
      refine ⟨by decide, fun ta hta => ?_⟩
      have e8 : (List.replicate (Int.toNat 8) [D.int 0]).flatten = (List.range 8).map fun k => .int ((fun _ => 0) k) := rfl
      rw [e8]
      clear e8
      subst hE
      dsimp only [List.set_cons_succ, List.set_cons_zero]
      refine seq_hide fun E' hE => ?_
      walk_at "dd"
      intro se hse
      subst hE
      dsimp only [List.set_cons_succ, List.set_cons_zero]
      refine seq_hide fun E' hE => ?_
      walk_at "dd"
      intro hi hhi
      have eh : puD (puD (puD [] (Sum.inr (Str.ofString "41")) (.bl false)) (Sum.inr (Str.ofString "42")) (.bl false)) (Sum.inr (Str.ofString "51")) (.bl false) = tb pnK [0, 1, 2] fun i => .bl ((fun _ => false) i) := by rfl
      rw [eh]
      clear eh
      subst hE
      dsimp only [List.set_cons_succ, List.set_cons_zero]
      refine seq_hide fun E' hE => ?_
      walk_at "dd"
      intro to hto
      have n1 : ta ≠ se := cell_ne (C := cput C5 ta _) cput_same hse
      have n2 : se ≠ hi := cell_ne (C := cput _ se _) cput_same hhi
      have n3 : hi ≠ to := cell_ne (C := cput _ hi _) cput_same hto
      rw [cput_ne n1.symm] at hse
      rw [cput_ne n2.symm] at hhi
      have n4 : ta ≠ hi := cell_ne (C := cput _ ta _) cput_same hhi
      rw [cput_ne n4.symm] at hhi
      rw [cput_ne n3.symm] at hto
      have n5 : se ≠ to := cell_ne (C := cput _ se _) cput_same hto
      rw [cput_ne n5.symm] at hto
      have n6 : ta ≠ to := cell_ne (C := cput _ ta _) cput_same hto
      rw [cput_ne n6.symm] at hto
      have hLS : LS A (fun a => if a = ta then 101 else if a = se then 102 else if a = hi then 103 else if a = to then 104 else tag a) (cput (cput (cput (cput C5 ta (.lst ((List.range 8).map fun k => .int ((fun _ => 0) k)))) se (.lst [])) hi (.dK (tb pnK [0, 1, 2] fun i => .bl ((fun _ => false) i)))) to (.lst [])) lim wid w ta se hi to ⟨[], fun _ => [], [], fun _ => 0, [], fun _ => false, []⟩ (fun _ => 0) [] (fun _ => false) [] := by
        refine ⟨WA.sub (C := C5) (hWA.retag fun a c ha => ?_) fun a c ha => ?_, if_pos rfl, ?_, ?_, ?_, ?_, ?_, ?_, cput_same⟩
        · show (if a = ta then _ else _) = _
          rw [if_neg (cell_ne ha hta), if_neg (cell_ne ha hse), if_neg (cell_ne ha hhi), if_neg (cell_ne ha hto)]
        · rw [cput_ne (cell_ne ha hto), cput_ne (cell_ne ha hhi), cput_ne (cell_ne ha hse), cput_ne (cell_ne ha hta)]; exact ha
        · show (if se = ta then _ else _) = _
          rw [if_neg n1.symm, if_pos rfl]
        · show (if hi = ta then _ else _) = _
          rw [if_neg n4.symm, if_neg n2.symm, if_pos rfl]
        · show (if to = ta then _ else _) = _
          rw [if_neg n6.symm, if_neg n5.symm, if_neg n3.symm, if_pos rfl]
        · rw [cput_ne n6, cput_ne n4, cput_ne n1, cput_same]
        · rw [cput_ne n5, cput_ne n2, cput_same]; rfl
        · rw [cput_ne n3, cput_same]
      clear n1 n2 n3 n4 n5 n6 hta hse hhi hto
      have hRel : Rel py (fun _ => 0) [] (fun _ => false) [] ⟨[], fun _ => [], [], fun _ => 0, [], fun _ => false, []⟩ := ⟨⟨List.nodup_nil, (fun i h => nomatch h), List.nodup_nil, (fun i h => nomatch h), List.nodup_nil, (fun i h => nomatch h), fun _ _ => rfl, fun _ _ => rfl, fun _ _ => rfl⟩, fun _ => rfl, fun _ _ _ => rfl, fun _ _ => rfl, rfl, fun i h => nomatch h⟩
      generalize (cput (cput (cput (cput C5 ta (.lst ((List.range 8).map fun k => .int ((fun _ => 0) k)))) se (.lst [])) hi (.dK (tb pnK [0, 1, 2] fun i => .bl ((fun _ => false) i)))) to (.lst [])) = C6 at hLS ⊢
      generalize (fun a => if a = ta then 101 else if a = se then 102 else if a = hi then 103 else if a = to then 104 else tag a) = tag1 at hLS
      clear hWA
      subst hE
      dsimp only [List.set_cons_succ, List.set_cons_zero]
      refine seq_hide fun E' hE => ?_
      walk_at "dd"
      subst hE
      dsimp only [List.set_cons_succ, List.set_cons_zero]
      refine seq_hide fun E' hE => ?_
      walk_at "dd"
      refine ⟨by omega, for_rng (fun k ρ' C' => ∃ tag m tk sl hb tl clock, ∃ w6 w13 w14 w15 w16 w17 w18 w19 w20 : Option D, LS A tag C' lim wid w ta se hi to m tk sl hb tl ∧ Rel py tk sl hb tl m ∧ (∀ k, 0 ≤ tk k) ∧ sl.length ≤ 8 * k ∧ (∀ e ∈ sl, e.1 < 3) ∧ tl.length ≤ 3 * k ∧ (∀ d ∈ tl, Dat 1 d) ∧
          ρ' = [some (.lst (ns.map D.int)), some (.ptr p), some (.int lim), some (.int wid), some (.lst PL), some (.lst (entD Ent.boot :: (opns py).map entD)), w6, some (.ptr w), some (.ptr ta), some (.ptr se), some (.ptr hi), some (.ptr to), some (.int clock), w13, w14, w15, w16, w17, w18, w19, w20, none])
        ⟨tag1, _, _, [], _, [], 0, _, _, _, _, _, _, _, _, _, hLS, hRel, fun _ => Int.le_refl _, by decide, (fun e h => nomatch h), by decide, (fun e h => nomatch h), rfl⟩ ?_ ?_⟩
      · rintro k ρ' C1 hk ⟨tag, m, tk, sl, hb, tl, clock, w6, w13, w14, w15, w16, w17, w18, w19, w20, hLS, hRel, htk, hsl, hs3, htl, htd, rfl⟩
        rw [Int.zero_add]
        have hk24 : k < 24 := by omega
        refine seq_hide fun E2 hE2 => ?_
        walk_at "dd"
        refine ⟨ns, (k : Int), rfl, hl, by omega, fun v => ⟨v, (k : Int), rfl, by omega, by omega, fun pp s hs hp => ?_⟩⟩
        have hLS1 := hLS.nw hp (.lst [.int s])
        have g1 : cput C1 pp (.lst [.int s]) pp = some (.lst [.int s]) := cput_same
        have tpp : (fun a => if a = pp then 105 else tag a) pp = 105 := if_pos rfl
        generalize (fun a => if a = pp then 105 else tag a) = tag1 at hLS1 tpp
        generalize cput C1 pp (.lst [.int s]) = C2 at g1 hLS1 ⊢
        clear hp hLS
        subst hE2
        dsimp only [List.set_cons_succ, List.set_cons_zero]
        refine seq_hide fun E2 hE2 => ?_
        walk_at "dd"
        refine ⟨pp, s, 20, rfl, g1, hs, by decide, by decide, fun dc s2 hd0 hd1 hs2 => ?_⟩
        have hLS2 := hLS1.oth hRel.ok.olt (a := pp) (by rw [tpp]; decide) (.lst [.int s2])
        have g2 : cput C2 pp (.lst [.int s2]) pp = some (.lst [.int s2]) := cput_same
        generalize cput C2 pp (.lst [.int s2]) = C3 at g2 hLS2 ⊢
        clear g1 hLS1
        walk_at "dd"
        generalize clock + dc = ck
        subst hE2
        dsimp only [List.set_cons_succ, List.set_cons_zero]
        refine seq_hide fun E2 hE2 => ?_
        walk_at "dd"
        have e0 : adds py tk tk ck 0 = [] := rfl
        refine ⟨by decide, for_rng (fun j ρ' C' => ∃ tk' z, ∃ w14 w15 : Option D, LS A tag1 C' lim wid w ta se hi to m tk' (sl ++ adds py tk tk' ck j) hb tl ∧ C' pp = some (.lst [.int z]) ∧ 0 ≤ z ∧ (∀ x, tk x ≤ tk' x) ∧ (∀ x, j ≤ x → tk' x = tk x) ∧
            ρ' = [some (.lst (ns.map D.int)), some (.ptr p), some (.int lim), some (.int wid), some (.lst PL), some (.lst (entD Ent.boot :: (opns py).map entD)), some (.int k), some (.ptr w), some (.ptr ta), some (.ptr se), some (.ptr hi), some (.ptr to), some (.int ck), some (.ptr pp), w14, w15, w16, w17, w18, w19, w20, none])
          ⟨tk, s2, _, _, by rw [e0, List.append_nil]; exact hLS2, g2, hs2, fun _ => Int.le_refl _, fun _ _ => rfl, rfl⟩ ?_ ?_⟩
        · rintro j ρ' C' hj ⟨tk', z, w14, w15, hL', gp, hz, hle, heq, rfl⟩
          have hj8 : j < 8 := by omega
          rw [Int.zero_add]
          clear hLS2 g2 e0
          refine seq_hide fun E3 hE3 => ?_
          walk_at "dd"
          refine ⟨pp, z, 6, rfl, gp, hz, by decide, by decide, fun u z2 hu0 hu1 hz2 => ?_⟩
          have hL2 := hL'.oth hRel.ok.olt (a := pp) (by rw [tpp]; decide) (.lst [.int z2])
          have gp2 : cput C' pp (.lst [.int z2]) pp = some (.lst [.int z2]) := cput_same
          generalize cput C' pp (.lst [.int z2]) = C4 at hL2 gp2 ⊢
          clear hL' gp
          obtain ⟨mo, hmo, hmo0⟩ : ∃ mo : Int, atI [D.int 0, D.int 0, D.int 0, D.int 1, D.int 30, D.int 60] u = some (.int mo) ∧ 0 ≤ mo := by
            rcases (show u = 0 ∨ u = 1 ∨ u = 2 ∨ u = 3 ∨ u = 4 ∨ u = 5 by omega) with rfl | rfl | rfl | rfl | rfl | rfl
            · exact ⟨0, rfl, by decide⟩
            · exact ⟨0, rfl, by decide⟩
            · exact ⟨0, rfl, by decide⟩
            · exact ⟨1, rfl, by decide⟩
            · exact ⟨30, rfl, by decide⟩
            · exact ⟨60, rfl, by decide⟩
          walk_at "dd"
          clear hmo
          subst hE3
          dsimp only [List.set_cons_succ, List.set_cons_zero]
          have hx := hpk j hj8
          clear hpk
          have hta := hL2.cta
          have hix : ((List.range 8).map fun k => D.int (tk' k))[j]? = some (.int (tk' j)) := by rw [List.getElem?_map, List.getElem?_range hj8]; rfl
          obtain ⟨T, hT⟩ : ∃ T : Nat → Int, ∀ x, T x = if x = j then tk' j + mo else tk' x := ⟨_, fun _ => rfl⟩
          have hset : ((List.range 8).map fun k => D.int (tk' k)).set j (.int (tk' j + mo)) = (List.range 8).map fun k => D.int (T k) := by
            have e : (fun k => D.int (T k)) = fun k => D.int (if k = j then tk' j + mo else tk' k) := funext fun k => by rw [hT k]
            rw [e]
            rcases (show j = 0 ∨ j = 1 ∨ j = 2 ∨ j = 3 ∨ j = 4 ∨ j = 5 ∨ j = 6 ∨ j = 7 by omega) with rfl | rfl | rfl | rfl | rfl | rfl | rfl | rfl <;> rfl
          have hl8 : ((List.range 8).map fun k => D.int (tk' k)).length = 8 := rfl
          have hL3 := hL2.pta hRel.ok.olt T
          have npt : pp ≠ ta := ne_tag (tag := tag1) (by rw [tpp, hL2.tta]; decide)
          have gp3 : cput C4 ta (.lst ((List.range 8).map fun k => .int (T k))) pp = some (.lst [.int z2]) := (cput_ne npt).trans gp2
          clear hL2 gp2
          have hac : adds py tk T ck j = adds py tk tk' ck j := adds_cong fun x hx => by rw [hT x]; exact if_neg (by omega)
          rw [← hac] at hL3
          have hej := heq j (Nat.le_refl j)
          have hsuc := adds_succ py tk T ck j
          have hTj := hT j
          rw [if_pos rfl] at hTj
          have hmj : T j - tk j = mo := by omega
          have hle2 : ∀ x, tk x ≤ T x := fun x => by
            rw [hT x]
            by_cases e : x = j
            · rw [if_pos e, e]; omega
            · rw [if_neg e]; exact hle x
          have heq2 : ∀ x, j + 1 ≤ x → T x = tk x := fun x hx => by
            rw [hT x, if_neg (by omega)]
            exact heq x (by omega)
          rw [hmj] at hsuc
          have hse := hL3.cse
          have hal : (sl ++ adds py tk T ck j).length ≤ 1000 := by
            have := adds_len py tk T ck j
            rw [List.length_append]
            omega
          have hL4 := fun e => hL3.pse hRel.ok.olt (sl ++ adds py tk T ck j ++ [e])
          have nps : pp ≠ se := ne_tag (tag := tag1) (by rw [tpp, hL3.tse]; decide)
          have gp4 := fun d => (cput_ne (C := cput C4 ta (.lst ((List.range 8).map fun k => .int (T k)))) (c := d) nps).trans gp3
          have eap : ∀ e : Sn, (sl ++ adds py tk T ck j ++ [e]).map snD = (sl ++ adds py tk T ck j).map snD ++ [snD e] := fun e => by rw [List.map_append]; rfl
          generalize hTL : ((List.range 8).map fun k => D.int (tk' k)) = TL at hta hix hset hl8
          generalize hTM : ((List.range 8).map fun k => D.int (T k)) = TM at hL3 hset gp3 hse hL4 gp4
          clear hT hac hej hTL hTM hle heq
          have hixn : ixN 8 (j : Int) = some j := ixN_nat hj8
          by_cases gm : 0 < mo
          · have hlt : tk j < T j := by omega
            cases hpj : py j with
            | none =>
              rw [hpj] at hx hsuc
              simp only [List.append_nil, pyD] at hsuc hx
              rw [← hsuc] at hL3
              clear hL4 gp4 hpj hTj
              walk_at "dd"
              exact ⟨T, z2, _, _, hL3, rfl, hz2, hle2, heq2, rfl⟩
            | some i =>
              rw [hpj] at hx hsuc
              simp only [if_pos hlt, pyD] at hsuc hx
              have hL5 := hL4 (i, ck, mo)
              rw [eap] at hL5
              have gp5 := gp4 (.lst ((sl ++ adds py tk T ck j).map snD ++ [snD (i, ck, mo)]))
              have e5 : sl ++ adds py tk T ck (j + 1) = sl ++ adds py tk T ck j ++ [(i, ck, mo)] := by rw [hsuc, List.append_assoc]
              rw [← e5] at hL5
              clear hL4 gp4 hpj hTj hL3 hsuc e5 eap
              generalize (sl ++ adds py tk T ck j) = SJ at hse hal hL5 gp5
              walk_at "dd"
              exact ⟨by omega, T, z2, _, _, hL5, gp5, hz2, hle2, heq2, rfl⟩
          · have hlt : ¬ tk j < T j := by omega
            have hsuc2 : adds py tk T ck (j + 1) = adds py tk T ck j := by
              rw [hsuc]
              cases py j with
              | none => exact List.append_nil _
              | some i => simp only [if_neg hlt]; exact List.append_nil _
            rw [← hsuc2] at hL3
            clear hL4 gp4 hTj hsuc
            walk_at "dd"
            exact ⟨T, z2, _, _, hL3, rfl, hz2, hle2, heq2, rfl⟩
        · rintro ρ' C' ⟨tk', z, w14, w15, hL', gp, hz, hle, heq, rfl⟩
          have e88 : Int.toNat 8 = 8 := rfl
          rw [e88] at hL'
          clear hLS2 g2 e0 gp tpp e88
          have hS3 : ∀ e ∈ sl ++ adds py tk tk' ck 8, e.1 < 3 := fun e he => by
            rcases List.mem_append.mp he with he | he
            · exact hs3 e he
            · obtain ⟨x, _, hx⟩ := List.mem_filterMap.mp he
              cases hpx : py x with
              | none => rw [hpx] at hx; cases hx
              | some i =>
                rw [hpx] at hx
                simp only at hx
                split at hx
                · cases hx; exact hp3 x i hpx
                · cases hx
          have hSl : (sl ++ adds py tk tk' ck 8).length ≤ 8 * (k + 1) := by
            have := adds_len py tk tk' ck 8
            rw [List.length_append]
            omega
          have hRN : ∀ n, n ≤ 8 → RelN py tk tk' sl hb tl ck n (((List.range n).map fun k => (⟨k, py k, tk' k⟩ : Rc)).foldl (seeR ck) m) := see_rel (c := ck) hp3 hle hRel
          have hR8 : RelN py tk tk' sl hb tl ck 8 ((recsL py tk').foldl (seeR ck) m) := hRN 8 (Nat.le_refl 8)
          clear hRN
          obtain ⟨hfd, hRel2⟩ := al_rel (wid := wid) hl0 hR8
          have hmrl : ∀ j, (m.rw j).length ≤ 800 := fun j => by rw [hRel.rw j]; have := rowsOf_len sl j; omega
          have htk' : ∀ x, 0 ≤ tk' x := fun x => by have := htk x; have := hle x; omega
          clear heq
          generalize hSS : sl ++ adds py tk tk' ck 8 = S at *
          subst hE2
          dsimp only [List.set_cons_succ, List.set_cons_zero]
          refine seq_hide fun E2 hE2 => ?_
          walk_at "dd"
          intro pu hpu
          have hL1 := hL'.nw hpu (.lst [])
          have gu : cput C' pu (.lst []) pu = some (.lst []) := cput_same
          have tpu : (fun a => if a = pu then 105 else tag1 a) pu = 105 := if_pos rfl
          have hpu0 := hpu
          generalize (fun a => if a = pu then 105 else tag1 a) = tag2 at hL1 tpu
          generalize cput C' pu (.lst []) = C4 at gu hL1 ⊢
          clear hL' hpu hpu0
          subst hE2
          dsimp only [List.set_cons_succ, List.set_cons_zero]
          refine seq_hide fun E2 hE2 => ?_
          walk_at "dd"
          refine for_map (L := [0, 1, 2]) (enc := pnD) (fun j ρ' C' => LS A tag2 C' lim wid w ta se hi to m tk' S (fun i => if i < j then highF lim wid ck S i else hb i) (tl ++ (dueL lim wid ck S hb j).map (tlD ck)) ∧ C' pu = some (.lst ((dueL lim wid ck S hb j).map fdD)) ∧ ∃ w17 w18,
            ρ' = [some (.lst (ns.map D.int)), some (.ptr p), some (.int lim), some (.int wid), some (.lst PL), some (.lst (entD Ent.boot :: (opns py).map entD)), some (.int k), some (.ptr w), some (.ptr ta), some (.ptr se), some (.ptr hi), some (.ptr to), some (.int ck), some (.ptr pp), w14, w15, some (.ptr pu), w17, w18, w19, w20, none]) ⟨?_, gu, _, _, rfl⟩ ?_ ?_
          · have e1 : (fun i => if i < 0 then highF lim wid ck S i else hb i) = hb := funext fun i => if_neg (Nat.not_lt_zero i)
            rw [e1]
            show LS A tag2 C4 lim wid w ta se hi to m tk' S hb (tl ++ [])
            rw [List.append_nil]
            exact hL1
          · rintro j i ρ' C' hj ⟨hL, gu', w17, w18, rfl⟩
            have hjl := (List.getElem?_eq_some_iff.mp hj).1
            have hj3 : j < 3 := hjl
            have hij : i = j := by
              rcases (show j = 0 ∨ j = 1 ∨ j = 2 by omega) with rfl | rfl | rfl <;> exact (Option.some.inj hj).symm
            subst hij
            clear hj hL1 gu
            refine seq_hide fun E3 hE3 => ?_
            walk_at "dd"
            refine ⟨S, i, wid, ck, se, rfl, hL.cse, by omega, hj3, hS3, ?_⟩
            subst hE3
            dsimp only [List.set_cons_succ, List.set_cons_zero]
            have hchi := hL.chi
            have hcto := hL.cto
            have inj : ∀ x ∈ [0, 1, 2], pnK x = pnK i → x = i := pnK_inj (by decide) (by omega)
            have him : i ∈ [0, 1, 2] := by
              rcases (show i = 0 ∨ i = 1 ∨ i = 2 by omega) with rfl | rfl | rfl <;> decide
            have hv : vaD (tb pnK [0, 1, 2] fun x => .bl (if x < i then highF lim wid ck S x else hb x)) (pnK i) = some (.bl (hb i)) := by
              rw [tb_in inj him, if_neg (Nat.lt_irrefl i)]
            have hput : puD (tb pnK [0, 1, 2] fun x => .bl (if x < i then highF lim wid ck S x else hb x)) (pnK i) (.bl (highF lim wid ck S i)) = tb pnK [0, 1, 2] fun x => .bl (if x < i + 1 then highF lim wid ck S x else hb x) := by
              rw [tb_put inj him]
              refine tb_cong fun x _ => ?_
              by_cases e : x = i
              · rw [if_pos e, e, if_pos (Nat.lt_succ_self i)]
              · rw [if_neg e]
                by_cases g : x < i
                · rw [if_pos g, if_pos (by omega)]
                · rw [if_neg g, if_neg (by omega)]
            have h3l : (tb pnK [0, 1, 2] fun x => .bl (if x < i then highF lim wid ck S x else hb x)).length = 3 := rfl
            have hds := dueL_succ lim wid ck S hb i
            have hdl := dueL_len lim wid ck S hb i
            have npt : pu ≠ to := ne_tag (tag := tag2) (by rw [tpu, hL.tto]; decide)
            have nph : pu ≠ hi := ne_tag (tag := tag2) (by rw [tpu, hL.thi]; decide)
            have nth : to ≠ hi := ne_tag (tag := tag2) (by rw [hL.tto, hL.thi]; decide)
            have hhF : highF lim wid ck S i = decide (totF (rowsOf S i) wid ck > lim) := rfl
            rw [hhF] at hput
            have hok := hRel.ok.olt
            clear hRel hRel2 hR8 hfd inj him hhF hS3 hSl htk'
            generalize totF (rowsOf S i) wid ck = tt at hput hds ⊢
            have f1 : ∀ d, cput C' pu d to = C' to := fun d => cput_ne npt.symm
            have f2 : ∀ d, cput C' pu d hi = C' hi := fun d => cput_ne nph.symm
            have f3 : ∀ d e, cput (cput C' pu d) to e hi = C' hi := fun d e => (cput_ne nth.symm).trans (cput_ne nph.symm)
            have fz : ∀ c, cput C' hi c pu = C' pu := fun c => cput_ne nph
            have fy : ∀ a b c, cput (cput (cput C' pu a) to b) hi c pu = some a := fun a b c => (cput_ne nph).trans ((cput_ne npt).trans cput_same)
            have htl3 : (tl ++ (dueL lim wid ck S hb i).map (tlD ck)).length ≤ 1000 := by rw [List.length_append, List.length_map]; omega
            by_cases g1 : tt > lim
            · rw [decide_eq_true g1] at hput
              cases g2 : hb i with
              | false =>
                rw [g2] at hv hds
                rw [if_pos ⟨g1, rfl⟩] at hds
                have hA := ((hL.oth hok (a := pu) (by rw [tpu]; decide) (.lst ((dueL lim wid ck S hb i ++ [(i, tt)]).map fdD))).pto hok (tl ++ (dueL lim wid ck S hb i ++ [(i, tt)]).map (tlD ck))).phi hok fun x => if x < i + 1 then highF lim wid ck S x else hb x
                rw [List.map_append, List.map_append, ← List.append_assoc] at hA
                rw [hds]
                simp only [List.map_append, ← List.append_assoc]
                clear hL hds g2
                generalize (tb pnK [0, 1, 2] fun x => D.bl (if x < i then highF lim wid ck S x else hb x)) = T1 at hv hput hchi h3l
                generalize hT2 : (tb pnK [0, 1, 2] fun x => D.bl (if x < i + 1 then highF lim wid ck S x else hb x)) = T2 at hput hA
                clear hT2
                walk_at "dd"
                exact ⟨by omega, by omega, by decide, hA, rfl, _, _, rfl⟩
              | true =>
                rw [g2] at hv hds
                rw [if_neg (fun z => Bool.noConfusion z.2), List.append_nil] at hds
                have hA := hL.phi hok fun x => if x < i + 1 then highF lim wid ck S x else hb x
                rw [hds]
                clear hL hds g2
                generalize (tb pnK [0, 1, 2] fun x => D.bl (if x < i then highF lim wid ck S x else hb x)) = T1 at hv hput hchi h3l
                generalize hT2 : (tb pnK [0, 1, 2] fun x => D.bl (if x < i + 1 then highF lim wid ck S x else hb x)) = T2 at hput hA
                clear hT2
                walk_at "dd"
                exact ⟨by decide, _, _, rfl⟩
            · rw [decide_eq_false g1] at hput
              rw [if_neg (fun z => g1 z.1), List.append_nil] at hds
              have hA := hL.phi hok fun x => if x < i + 1 then highF lim wid ck S x else hb x
              rw [hds]
              clear hL hds
              generalize (tb pnK [0, 1, 2] fun x => D.bl (if x < i then highF lim wid ck S x else hb x)) = T1 at hv hput hchi h3l
              generalize hT2 : (tb pnK [0, 1, 2] fun x => D.bl (if x < i + 1 then highF lim wid ck S x else hb x)) = T2 at hput hA
              clear hT2
              walk_at "dd"
              exact ⟨by decide, _, _, rfl⟩
          · rintro ρ' C' ⟨hL, gu', w17, w18, rfl⟩
            have e33 : [0, 1, 2].length = 3 := rfl
            rw [e33] at hL gu'
            clear e33 hL1 gu
            have hRel3 : Rel py tk' S (fun i => if i < 3 then highF lim wid ck S i else hb i) (tl ++ (dueL lim wid ck S hb 3).map (tlD ck)) (alM lim wid ck ((recsL py tk').foldl (seeR ck) m)) := ⟨hRel2.ok, hRel2.rw, hRel2.sv, fun i hi => by rw [if_pos hi]; exact hRel2.hb i hi, hRel2.tl, hRel2.oo⟩
            clear hRel2 hR8
            generalize hHB : (fun i => if i < 3 then highF lim wid ck S i else hb i) = HB at hL hRel3
            have hdl := dueL_len lim wid ck S hb 3
            generalize hDU : dueL lim wid ck S hb 3 = DU at hL gu' hRel3 hfd hdl
            have htd2 : ∀ d ∈ tl ++ DU.map (tlD ck), Dat 1 d := fun d hd => by
              rcases List.mem_append.mp hd with hd | hd
              · exact htd d hd
              · obtain ⟨e, _, rfl⟩ := List.mem_map.mp hd
                refine .tup fun d hd => ?_
                simp only [List.mem_cons, List.not_mem_nil, or_false] at hd
                rcases hd with rfl | rfl | rfl
                · exact pn_dat _
                · exact .int _
                · exact .int _
            have htl2 : (tl ++ DU.map (tlD ck)).length ≤ 3 * (k + 1) := by rw [List.length_append, List.length_map]; omega
            have hmtl : m.tl.length ≤ 1000 := by rw [hRel.tl]; omega
            have hLr := hL.rem hRel.ok.olt (a := pu) (by rw [tpu]; decide)
            generalize tl ++ DU.map (tlD ck) = TL2 at *
            subst hE2
            dsimp only [List.set_cons_succ, List.set_cons_zero]
            clear hHB hDU
            refine seq_hide fun E2 hE2 => ?_
            walk_at "dd"
            refine ⟨crem C' pu, crem_sub _ _, crem_same, ?_⟩
            generalize crem C' pu = C4 at hLr ⊢
            clear hL gu' tpu
            subst hE2
            dsimp only [List.set_cons_succ, List.set_cons_zero]
            refine seq_hide fun E2 hE2 => ?_
            walk_at "dd"
            refine ⟨py, tk', ta, rfl, hLr.cta, htk', fun ps C5 hsub hfr hnd hrec => ?_⟩
            have hL5 := (hLr.retag (tag1 := fun a => if a ∈ ps then 106 else tag2 a) fun a c ha => if_neg fun z => by rw [hfr a z] at ha; cases ha).sub hsub
            have htg : ∀ x ∈ ps, (fun a => if a ∈ ps then 106 else tag2 a) x = 106 := fun x hx => if_pos hx
            generalize (fun a => if a ∈ ps then 106 else tag2 a) = tag3 at hL5 htg
            clear hLr hsub hfr hnd
            have hlen : ps.length = 8 := by have := congrArg List.length hrec; simpa [recsL] using this
            subst hE2
            dsimp only [List.set_cons_succ, List.set_cons_zero]
            refine seq_hide fun E2 hE2 => ?_
            obtain ⟨pw, qs, ph, pt, qq, rr, t0, t1, t2, t3, t4, t5, c0, c1, c2, c3, c4, c5⟩ := hL5.wa.ex
            clear t0 t1 t2 t3 t4 t5 c1 c2 c3 c4 c5
            walk_at "dd"
            refine ⟨w, ps, recsL py tk', ck, tag3, lim, wid, m, rfl, hL5.wa, hRel.ok, hwd1, hrec, fun x hx => by rw [htg x hx]; decide, fun r hr => ?_, by simp [recsL], hmrl, hmtl, fun tag4 C6 hw4 hk => ?_⟩
            · obtain ⟨x, hx, rfl⟩ := List.mem_map.mp hr
              exact ⟨List.mem_range.mp hx, hp3 x⟩
            rw [hfd]
            have hL6 := hL5.keep hk hw4
            have hrc6 : ∀ x ∈ ps, ∀ c, C5 x = some c → C6 x = some c := fun x hx c hc => (hk.st x c hc (by rw [htg x hx]; decide)).1
            clear c0 hL5 hRel hmrl hmtl hfd hk hw4
            generalize alM lim wid ck ((recsL py tk').foldl (seeR ck) m) = m2 at hRel3 hL6
            obtain ⟨pw, qs, ph, pt, qq, rr, t0, t1, t2, t3, t4, t5, c0, c1, c2, c3, c4, c5⟩ := hL6.wa.ex
            clear t0 t1 t2 t3 t4 t5 c1 c2 c3 c4 c5
            have df : Dat 2 (.lst (DU.map fdD)) := dat_lst (fun e => .tup fun d hd => by
              simp only [List.mem_cons, List.not_mem_nil, or_false] at hd
              rcases hd with rfl | rfl
              · exact dat_mono (pn_dat _) (by decide)
              · exact .int _) _
            have dt : Dat 2 (.lst TL2) := .lst htd2
            have hcto := hL6.cto
            have hchi := hL6.chi
            have hcse := hL6.cse
            refine ⟨2, by decide, df, df, ?_⟩
            rw [res_lst, eqb_self df]
            simp only [Bool.not_true, Bool.true_xor, Bool.false_eq_true, if_false]
            walk_at "dd"
            refine ⟨w, tag4, lim, wid, m2, rfl, hL6.wa, ?_⟩
            rw [hRel3.tl]
            simp only [hcto]
            refine ⟨2, by decide, dt, dt, ?_⟩
            rw [res_lst, eqb_self dt]
            simp only [Bool.not_true, Bool.true_xor, Bool.false_eq_true, if_false]
            clear df dt hcto
            have hrl2 : ∀ j, (m2.rw j).length ≤ 900 := fun j => by
              rw [hRel3.rw j]
              have := rowsOf_len S j
              omega
            subst hE2
            dsimp only [List.set_cons_succ, List.set_cons_zero]
            refine seq_hide fun E2 hE2 => ?_
            walk_at "dd"
            refine for_map (L := [0, 1, 2]) (enc := pnD) (fun j ρ' C' => C' = C6 ∧ ∃ w17,
              ρ' = [some (.lst (ns.map D.int)), some (.ptr p), some (.int lim), some (.int wid), some (.lst PL), some (.lst (entD Ent.boot :: (opns py).map entD)), some (.int k), some (.ptr w), some (.ptr ta), some (.ptr se), some (.ptr hi), some (.ptr to), some (.int ck), some (.ptr pp), w14, w15, some (.lst (DU.map fdD)), w17, w18, some (.lst (ps.map D.ptr)), w20, none]) ⟨rfl, _, rfl⟩ ?_ ?_
            · rintro j i ρ' C' hj ⟨rfl, w17, rfl⟩
              have hjl := (List.getElem?_eq_some_iff.mp hj).1
              have hi3 : i < 3 := by
                have : i ∈ [0, 1, 2] := List.mem_of_getElem? hj
                simp only [List.mem_cons, List.not_mem_nil, or_false] at this
                omega
              have him := List.mem_of_getElem? hj
              have hv := tb_in (key := pnK) (v := fun i => .bl (HB i)) (o := [0, 1, 2]) (pnK_inj (by decide) (by omega : i < 4)) him
              have hbb := hRel3.hb i hi3
              have hrr := hRel3.rw i
              clear hj hjl him
              walk_at "dd"
              refine ⟨w, i, tag4, lim, wid, m2, rfl, by omega, hL6.wa, hRel3.ok, ?_⟩
              rw [hbb]
              walk_at "dd"
              refine ⟨w, i, ck, tag4, lim, wid, m2, rfl, by omega, hL6.wa, hRel3.ok, hrl2, ?_⟩
              rw [hrr]
              walk_at "dd"
              refine ⟨S, i, wid, ck, se, rfl, hL6.cse, by omega, hi3, hS3, ?_⟩
              walk_at "dd"
              exact ⟨_, rfl⟩
            · rintro ρ' C' ⟨rfl, w17, rfl⟩
              subst hE2
              dsimp only [List.set_cons_succ, List.set_cons_zero]
              walk_at "dd"
              refine for_map (L := ps) (enc := D.ptr) (fun j ρ' C2 => C2 = C' ∧ ∃ w20,
                ρ' = [some (.lst (ns.map D.int)), some (.ptr p), some (.int lim), some (.int wid), some (.lst PL), some (.lst (entD Ent.boot :: (opns py).map entD)), some (.int k), some (.ptr w), some (.ptr ta), some (.ptr se), some (.ptr hi), some (.ptr to), some (.int ck), some (.ptr pp), w14, w15, some (.lst (DU.map fdD)), w17, w18, some (.lst (ps.map D.ptr)), w20, none]) ⟨rfl, _, rfl⟩ ?_ ?_
              · rintro j x ρ' C2 hj ⟨rfl, w20, rfl⟩
                have hjl := (List.getElem?_eq_some_iff.mp hj).1
                have hj8 : j < 8 := by omega
                have hx5 : C5 x = some (recC A ⟨j, py j, tk' j⟩) := by
                  have := congrArg (fun l => l[j]?) hrec
                  simp only [recsL, List.getElem?_map, hj, List.getElem?_range hj8, Option.map_some] at this
                  exact Option.some.inj this
                have hx := hrc6 x (List.mem_of_getElem? hj) _ hx5
                have hxf := hx
                simp only [recC, recFs, mkFs] at hxf
                clear hj hx5
                cases hpj : py j with
                | none =>
                  rw [hpj] at hxf
                  simp only [pyD] at hxf
                  clear hx
                  walk_at "dd"
                  exact ⟨_, rfl⟩
                | some i =>
                  have hfr : freshV m2 ⟨j, py j, tk' j⟩ = 0 := by
                    have := hRel3.sv j hj8 (by rw [hpj]; exact fun z => nomatch z)
                    show max 0 (tk' j - m2.sv j) = 0
                    rw [this]
                    omega
                  rw [hpj] at hxf
                  simp only [pyD] at hxf
                  have hx' : ∀ _ : Unit, C2 x = some (recC A ⟨j, py j, tk' j⟩) := fun _ => hx
                  clear hx
                  walk_at "dd"
                  refine ⟨w, x, tag4, lim, wid, m2, ⟨j, py j, tk' j⟩, rfl, hL6.wa, hRel3.ok, hx' (), ?_⟩
                  rw [hfr]
                  walk_at "dd"
                  exact ⟨_, rfl⟩
              · rintro ρ' C2 ⟨rfl, w20, rfl⟩
                exact ⟨tag4, m2, tk', S, HB, TL2, ck, _, _, _, _, _, _, _, _, _, hL6, hRel3, htk', hSl, hS3, htl2, htd2, rfl⟩
      · rintro ρ' C' ⟨tag, m, tk, sl, hb, tl, clock, w6, w13, w14, w15, w16, w17, w18, w19, w20, hLS, hRel, htk, hsl, hs3, htl, htd, rfl⟩
        subst hE
        dsimp only [List.set_cons_succ, List.set_cons_zero]
        have hwa := hLS.wa
        obtain ⟨pw, ps, ph, pt, qq, rr, t0, t1, t2, t3, t4, t5, c0, c1, c2, c3, c4, c5⟩ := hwa.ex
        clear c1 c2 c3 c4 c5 t0 t1 t2 t3 t4 t5
        walk_at "dd"
        have h3o : 3 ∉ m.o := fun z => absurd (hRel.ok.olt 3 z) (by decide)
        have h3h : 3 ∉ m.oh := fun z => absurd (hRel.ok.hlt 3 z) (by decide)
        have hrl : ∀ j, (m.rw j).length ≤ 900 := fun j => by
          rw [hRel.rw j]
          have := rowsOf_len sl j
          omega
        refine ⟨w, 3, clock, tag, lim, wid, m, rfl, by decide, hwa, hRel.ok, hrl, ?_⟩
        rw [hRel.ok.r0 3 h3o]
        have ht0 : totF [] wid clock = 0 := rfl
        walk_at "dd"
        refine ⟨w, 3, tag, lim, wid, m, rfl, by decide, hwa, hRel.ok, ?_⟩
        rw [hRel.ok.h0 3 h3h]
        exact ⟨C', Sub.refl _, q C'⟩)

end
/-! ### what the top has written, the head -/
theorem all_mk {l : PySem.W.OpenLaw} {w : World} {K : PySem.W.Frag} {h : Heap} {mg : Str → Option Value} {fa : Addr} (X : K.In h) (G : h.Ns mainGlobals mg) (hfa : mg "law" = some (.ref fa))
    {C_Window : Addr}
    {C_Watch : Addr}
    {C_Record : Addr}
    {f_law_state : Addr} {od_law_state an_law_state : Option Addr} {sl_law_state : Array (Option Value)} {oc_law_state kV_law_state dc_law_state pm_law_state cd_law_state ct_law_state : Value}
    {f_law_digit : Addr} {od_law_digit an_law_digit : Option Addr} {sl_law_digit : Array (Option Value)} {oc_law_digit kV_law_digit dc_law_digit pm_law_digit cd_law_digit ct_law_digit : Value}
    {f_Watch_init : Addr} {od_Watch_init an_Watch_init : Option Addr} {sl_Watch_init : Array (Option Value)} {oc_Watch_init kV_Watch_init dc_Watch_init pm_Watch_init cd_Watch_init ct_Watch_init : Value}
    {f_law_cell : Addr} {od_law_cell an_law_cell : Option Addr} {sl_law_cell : Array (Option Value)} {oc_law_cell kV_law_cell dc_law_cell pm_law_cell cd_law_cell ct_law_cell : Value}
    {f_Record_init : Addr} {od_Record_init an_Record_init : Option Addr} {sl_Record_init : Array (Option Value)} {oc_Record_init kV_Record_init dc_Record_init pm_Record_init cd_Record_init ct_Record_init : Value}
    {f_record_from : Addr} {od_record_from an_record_from : Option Addr} {sl_record_from : Array (Option Value)} {oc_record_from kV_record_from dc_record_from pm_record_from cd_record_from ct_record_from : Value}
    {f_Record_is_open : Addr} {od_Record_is_open an_Record_is_open : Option Addr} {sl_Record_is_open : Array (Option Value)} {oc_Record_is_open kV_Record_is_open dc_Record_is_open pm_Record_is_open cd_Record_is_open ct_Record_is_open : Value}
    {f_close_record : Addr} {od_close_record an_close_record : Option Addr} {sl_close_record : Array (Option Value)} {oc_close_record kV_close_record dc_close_record pm_close_record cd_close_record ct_close_record : Value}
    {f_belongs : Addr} {od_belongs an_belongs : Option Addr} {sl_belongs : Array (Option Value)} {oc_belongs kV_belongs dc_belongs pm_belongs cd_belongs ct_belongs : Value}
    {f_fold_entry : Addr} {od_fold_entry an_fold_entry : Option Addr} {sl_fold_entry : Array (Option Value)} {oc_fold_entry kV_fold_entry dc_fold_entry pm_fold_entry cd_fold_entry ct_fold_entry : Value}
    {f_records_of : Addr} {od_records_of an_records_of : Option Addr} {sl_records_of : Array (Option Value)} {oc_records_of kV_records_of dc_records_of pm_records_of cd_records_of ct_records_of : Value}
    {f_law_look : Addr} {od_law_look an_law_look : Option Addr} {sl_law_look : Array (Option Value)} {oc_law_look kV_law_look dc_law_look pm_law_look cd_law_look ct_law_look : Value}
    {f_law_total : Addr} {od_law_total an_law_total : Option Addr} {sl_law_total : Array (Option Value)} {oc_law_total kV_law_total dc_law_total pm_law_total cd_law_total ct_law_total : Value}
    {f_Window_total : Addr} {od_Window_total an_Window_total : Option Addr} {sl_Window_total : Array (Option Value)} {oc_Window_total kV_Window_total dc_Window_total pm_Window_total cd_Window_total ct_Window_total : Value}
    {f_Watch_total : Addr} {od_Watch_total an_Watch_total : Option Addr} {sl_Watch_total : Array (Option Value)} {oc_Watch_total kV_Watch_total dc_Watch_total pm_Watch_total cd_Watch_total ct_Watch_total : Value}
    {f_Watch_is_high : Addr} {od_Watch_is_high an_Watch_is_high : Option Addr} {sl_Watch_is_high : Array (Option Value)} {oc_Watch_is_high kV_Watch_is_high dc_Watch_is_high pm_Watch_is_high cd_Watch_is_high ct_Watch_is_high : Value}
    {f_Watch_alarms_at : Addr} {od_Watch_alarms_at an_Watch_alarms_at : Option Addr} {sl_Watch_alarms_at : Array (Option Value)} {oc_Watch_alarms_at kV_Watch_alarms_at dc_Watch_alarms_at pm_Watch_alarms_at cd_Watch_alarms_at ct_Watch_alarms_at : Value}
    {f_Watch_fresh_seconds : Addr} {od_Watch_fresh_seconds an_Watch_fresh_seconds : Option Addr} {sl_Watch_fresh_seconds : Array (Option Value)} {oc_Watch_fresh_seconds kV_Watch_fresh_seconds dc_Watch_fresh_seconds pm_Watch_fresh_seconds cd_Watch_fresh_seconds ct_Watch_fresh_seconds : Value}
    {f_Window_add : Addr} {od_Window_add an_Window_add : Option Addr} {sl_Window_add : Array (Option Value)} {oc_Window_add kV_Window_add dc_Window_add pm_Window_add cd_Window_add ct_Window_add : Value}
    {f_Window_init : Addr} {od_Window_init an_Window_init : Option Addr} {sl_Window_init : Array (Option Value)} {oc_Window_init kV_Window_init dc_Window_init pm_Window_init cd_Window_init ct_Window_init : Value}
    {f_Watch_count : Addr} {od_Watch_count an_Watch_count : Option Addr} {sl_Watch_count : Array (Option Value)} {oc_Watch_count kV_Watch_count dc_Watch_count pm_Watch_count cd_Watch_count ct_Watch_count : Value}
    {f_Watch_see : Addr} {od_Watch_see an_Watch_see : Option Addr} {sl_Watch_see : Array (Option Value)} {oc_Watch_see kV_Watch_see dc_Watch_see pm_Watch_see cd_Watch_see ct_Watch_see : Value}
    {f_Watch_alarms : Addr} {od_Watch_alarms an_Watch_alarms : Option Addr} {sl_Watch_alarms : Array (Option Value)} {oc_Watch_alarms kV_Watch_alarms dc_Watch_alarms pm_Watch_alarms cd_Watch_alarms ct_Watch_alarms : Value}
    {f_law : Addr} {od_law an_law : Option Addr} {sl_law : Array (Option Value)} {oc_law kV_law dc_law pm_law cd_law ct_law : Value}
    (aC_Window : PySem.W.nsIn K mainGlobals "Window" = some (some (.ref C_Window)))
    (pg_Window : PySem.W.plainGet K C_Window Str.empty = true)
    (hd_Window : PySem.W.hasDictIn K C_Window = true)
    (po_Window : PySem.W.plainOver K C_Window = true)
    (sa_Window : PySem.W.findIn K (.ref C_Window) "__setattr__" = some (some (.builtin "object.__setattr__")))
    (mk_Window : PySem.W.makesIn K C_Window = true)
    (kc_Window : PySem.W.keepIn K (.ref C_Window) = true)
    (aC_Watch : PySem.W.nsIn K mainGlobals "Watch" = some (some (.ref C_Watch)))
    (pg_Watch : PySem.W.plainGet K C_Watch Str.empty = true)
    (hd_Watch : PySem.W.hasDictIn K C_Watch = true)
    (po_Watch : PySem.W.plainOver K C_Watch = true)
    (sa_Watch : PySem.W.findIn K (.ref C_Watch) "__setattr__" = some (some (.builtin "object.__setattr__")))
    (mk_Watch : PySem.W.makesIn K C_Watch = true)
    (kc_Watch : PySem.W.keepIn K (.ref C_Watch) = true)
    (aC_Record : PySem.W.nsIn K mainGlobals "Record" = some (some (.ref C_Record)))
    (pg_Record : PySem.W.plainGet K C_Record Str.empty = true)
    (hd_Record : PySem.W.hasDictIn K C_Record = true)
    (po_Record : PySem.W.plainOver K C_Record = true)
    (sa_Record : PySem.W.findIn K (.ref C_Record) "__setattr__" = some (some (.builtin "object.__setattr__")))
    (mk_Record : PySem.W.makesIn K C_Record = true)
    (kc_Record : PySem.W.keepIn K (.ref C_Record) = true)
    (na_Record_call_id : PySem.W.findIn K (.ref C_Record) (Str.ofString "call_id") = some none)
    (na_Record_called : PySem.W.findIn K (.ref C_Record) (Str.ofString "called") = some none)
    (na_Record_caller : PySem.W.findIn K (.ref C_Record) (Str.ofString "caller") = some none)
    (na_Record_came : PySem.W.findIn K (.ref C_Record) (Str.ofString "came") = some none)
    (na_Record_cause : PySem.W.findIn K (.ref C_Record) (Str.ofString "cause") = some none)
    (na_Record_closed_at : PySem.W.findIn K (.ref C_Record) (Str.ofString "closed_at") = some none)
    (na_Record_confirmed : PySem.W.findIn K (.ref C_Record) (Str.ofString "confirmed") = some none)
    (na_Record_opened_at : PySem.W.findIn K (.ref C_Record) (Str.ofString "opened_at") = some none)
    (na_Record_parent : PySem.W.findIn K (.ref C_Record) (Str.ofString "parent") = some none)
    (na_Record_payer : PySem.W.findIn K (.ref C_Record) (Str.ofString "payer") = some none)
    (na_Record_role : PySem.W.findIn K (.ref C_Record) (Str.ofString "role") = some none)
    (na_Record_went : PySem.W.findIn K (.ref C_Record) (Str.ofString "went") = some none)
    (na_Watch_high : PySem.W.findIn K (.ref C_Watch) (Str.ofString "high") = some none)
    (na_Watch_limit : PySem.W.findIn K (.ref C_Watch) (Str.ofString "limit") = some none)
    (na_Watch_seen : PySem.W.findIn K (.ref C_Watch) (Str.ofString "seen") = some none)
    (na_Watch_told : PySem.W.findIn K (.ref C_Watch) (Str.ofString "told") = some none)
    (na_Watch_width : PySem.W.findIn K (.ref C_Watch) (Str.ofString "width") = some none)
    (na_Watch_windows : PySem.W.findIn K (.ref C_Watch) (Str.ofString "windows") = some none)
    (na_Window_rows : PySem.W.findIn K (.ref C_Window) (Str.ofString "rows") = some none)
    (na_Window_width : PySem.W.findIn K (.ref C_Window) (Str.ofString "width") = some none)
    (z_int : PySem.W.nsIn K mainGlobals "int" = some none)
    (z_len : PySem.W.nsIn K mainGlobals "len" = some none)
    (z_list : PySem.W.nsIn K mainGlobals "list" = some none)
    (z_max : PySem.W.nsIn K mainGlobals "max" = some none)
    (z_min : PySem.W.nsIn K mainGlobals "min" = some none)
    (z_range : PySem.W.nsIn K mainGlobals "range" = some none)
    (z_sorted : PySem.W.nsIn K mainGlobals "sorted" = some none)
    (z_sum : PySem.W.nsIn K mainGlobals "sum" = some none)
    (a_law_state : PySem.W.nsIn K mainGlobals "_law_state" = some (some (.ref f_law_state)))
    (l_law_state : K.lookup f_law_state = some ⟨oc_law_state, od_law_state, .func (PySem.W.fnOf "_law_state" "_law_state" (defArgs s_law_state) (defBody s_law_state) (defScope s_law_state) .none kV_law_state dc_law_state pm_law_state an_law_state cd_law_state ct_law_state), sl_law_state⟩)
    (c_law_state : PySem.W.codeIn K cd_law_state "_law_state" = true)
    (k_law_state : PySem.W.keepIn K (.ref f_law_state) = true)
    (a_law_digit : PySem.W.nsIn K mainGlobals "_law_digit" = some (some (.ref f_law_digit)))
    (l_law_digit : K.lookup f_law_digit = some ⟨oc_law_digit, od_law_digit, .func (PySem.W.fnOf "_law_digit" "_law_digit" (defArgs s_law_digit) (defBody s_law_digit) (defScope s_law_digit) .none kV_law_digit dc_law_digit pm_law_digit an_law_digit cd_law_digit ct_law_digit), sl_law_digit⟩)
    (c_law_digit : PySem.W.codeIn K cd_law_digit "_law_digit" = true)
    (k_law_digit : PySem.W.keepIn K (.ref f_law_digit) = true)
    (a_Watch_init : PySem.W.findIn K (.ref C_Watch) "__init__" = some (some (.ref f_Watch_init)))
    (i_Watch_init : PySem.W.isFn K (.ref f_Watch_init) = true)
    (l_Watch_init : K.lookup f_Watch_init = some ⟨oc_Watch_init, od_Watch_init, .func (PySem.W.fnOf "__init__" "Watch.__init__" (defArgs s_Watch_init) (defBody s_Watch_init) (defScope s_Watch_init) .none kV_Watch_init dc_Watch_init pm_Watch_init an_Watch_init cd_Watch_init ct_Watch_init), sl_Watch_init⟩)
    (c_Watch_init : PySem.W.codeIn K cd_Watch_init "Watch.__init__" = true)
    (k_Watch_init : PySem.W.keepIn K (.ref f_Watch_init) = true)
    (a_law_cell : PySem.W.nsIn K mainGlobals "_law_cell" = some (some (.ref f_law_cell)))
    (l_law_cell : K.lookup f_law_cell = some ⟨oc_law_cell, od_law_cell, .func (PySem.W.fnOf "_law_cell" "_law_cell" (defArgs s_law_cell) (defBody s_law_cell) (defScope s_law_cell) .none kV_law_cell dc_law_cell pm_law_cell an_law_cell cd_law_cell ct_law_cell), sl_law_cell⟩)
    (c_law_cell : PySem.W.codeIn K cd_law_cell "_law_cell" = true)
    (k_law_cell : PySem.W.keepIn K (.ref f_law_cell) = true)
    (a_Record_init : PySem.W.findIn K (.ref C_Record) "__init__" = some (some (.ref f_Record_init)))
    (i_Record_init : PySem.W.isFn K (.ref f_Record_init) = true)
    (l_Record_init : K.lookup f_Record_init = some ⟨oc_Record_init, od_Record_init, .func (PySem.W.fnOf "__init__" "Record.__init__" (defArgs s_Record_init) (defBody s_Record_init) (defScope s_Record_init) .none kV_Record_init dc_Record_init pm_Record_init an_Record_init cd_Record_init ct_Record_init), sl_Record_init⟩)
    (c_Record_init : PySem.W.codeIn K cd_Record_init "Record.__init__" = true)
    (k_Record_init : PySem.W.keepIn K (.ref f_Record_init) = true)
    (a_record_from : PySem.W.nsIn K mainGlobals "record_from" = some (some (.ref f_record_from)))
    (l_record_from : K.lookup f_record_from = some ⟨oc_record_from, od_record_from, .func (PySem.W.fnOf "record_from" "record_from" (defArgs s_record_from) (defBody s_record_from) (defScope s_record_from) .none kV_record_from dc_record_from pm_record_from an_record_from cd_record_from ct_record_from), sl_record_from⟩)
    (c_record_from : PySem.W.codeIn K cd_record_from "record_from" = true)
    (k_record_from : PySem.W.keepIn K (.ref f_record_from) = true)
    (a_Record_is_open : PySem.W.findIn K (.ref C_Record) "is_open" = some (some (.ref f_Record_is_open)))
    (i_Record_is_open : PySem.W.isFn K (.ref f_Record_is_open) = true)
    (l_Record_is_open : K.lookup f_Record_is_open = some ⟨oc_Record_is_open, od_Record_is_open, .func (PySem.W.fnOf "is_open" "Record.is_open" (defArgs s_Record_is_open) (defBody s_Record_is_open) (defScope s_Record_is_open) .none kV_Record_is_open dc_Record_is_open pm_Record_is_open an_Record_is_open cd_Record_is_open ct_Record_is_open), sl_Record_is_open⟩)
    (c_Record_is_open : PySem.W.codeIn K cd_Record_is_open "Record.is_open" = true)
    (k_Record_is_open : PySem.W.keepIn K (.ref f_Record_is_open) = true)
    (a_close_record : PySem.W.nsIn K mainGlobals "close_record" = some (some (.ref f_close_record)))
    (l_close_record : K.lookup f_close_record = some ⟨oc_close_record, od_close_record, .func (PySem.W.fnOf "close_record" "close_record" (defArgs s_close_record) (defBody s_close_record) (defScope s_close_record) .none kV_close_record dc_close_record pm_close_record an_close_record cd_close_record ct_close_record), sl_close_record⟩)
    (c_close_record : PySem.W.codeIn K cd_close_record "close_record" = true)
    (k_close_record : PySem.W.keepIn K (.ref f_close_record) = true)
    (a_belongs : PySem.W.nsIn K mainGlobals "belongs" = some (some (.ref f_belongs)))
    (l_belongs : K.lookup f_belongs = some ⟨oc_belongs, od_belongs, .func (PySem.W.fnOf "belongs" "belongs" (defArgs s_belongs) (defBody s_belongs) (defScope s_belongs) .none kV_belongs dc_belongs pm_belongs an_belongs cd_belongs ct_belongs), sl_belongs⟩)
    (c_belongs : PySem.W.codeIn K cd_belongs "belongs" = true)
    (k_belongs : PySem.W.keepIn K (.ref f_belongs) = true)
    (a_fold_entry : PySem.W.nsIn K mainGlobals "fold_entry" = some (some (.ref f_fold_entry)))
    (l_fold_entry : K.lookup f_fold_entry = some ⟨oc_fold_entry, od_fold_entry, .func (PySem.W.fnOf "fold_entry" "fold_entry" (defArgs s_fold_entry) (defBody s_fold_entry) (defScope s_fold_entry) .none kV_fold_entry dc_fold_entry pm_fold_entry an_fold_entry cd_fold_entry ct_fold_entry), sl_fold_entry⟩)
    (c_fold_entry : PySem.W.codeIn K cd_fold_entry "fold_entry" = true)
    (k_fold_entry : PySem.W.keepIn K (.ref f_fold_entry) = true)
    (a_records_of : PySem.W.nsIn K mainGlobals "records_of" = some (some (.ref f_records_of)))
    (l_records_of : K.lookup f_records_of = some ⟨oc_records_of, od_records_of, .func (PySem.W.fnOf "records_of" "records_of" (defArgs s_records_of) (defBody s_records_of) (defScope s_records_of) .none kV_records_of dc_records_of pm_records_of an_records_of cd_records_of ct_records_of), sl_records_of⟩)
    (c_records_of : PySem.W.codeIn K cd_records_of "records_of" = true)
    (k_records_of : PySem.W.keepIn K (.ref f_records_of) = true)
    (a_law_look : PySem.W.nsIn K mainGlobals "_law_look" = some (some (.ref f_law_look)))
    (l_law_look : K.lookup f_law_look = some ⟨oc_law_look, od_law_look, .func (PySem.W.fnOf "_law_look" "_law_look" (defArgs s_law_look) (defBody s_law_look) (defScope s_law_look) .none kV_law_look dc_law_look pm_law_look an_law_look cd_law_look ct_law_look), sl_law_look⟩)
    (c_law_look : PySem.W.codeIn K cd_law_look "_law_look" = true)
    (k_law_look : PySem.W.keepIn K (.ref f_law_look) = true)
    (a_law_total : PySem.W.nsIn K mainGlobals "_law_total" = some (some (.ref f_law_total)))
    (l_law_total : K.lookup f_law_total = some ⟨oc_law_total, od_law_total, .func (PySem.W.fnOf "_law_total" "_law_total" (defArgs s_law_total) (defBody s_law_total) (defScope s_law_total) .none kV_law_total dc_law_total pm_law_total an_law_total cd_law_total ct_law_total), sl_law_total⟩)
    (c_law_total : PySem.W.codeIn K cd_law_total "_law_total" = true)
    (k_law_total : PySem.W.keepIn K (.ref f_law_total) = true)
    (a_Window_total : PySem.W.findIn K (.ref C_Window) "total" = some (some (.ref f_Window_total)))
    (i_Window_total : PySem.W.isFn K (.ref f_Window_total) = true)
    (l_Window_total : K.lookup f_Window_total = some ⟨oc_Window_total, od_Window_total, .func (PySem.W.fnOf "total" "Window.total" (defArgs s_Window_total) (defBody s_Window_total) (defScope s_Window_total) .none kV_Window_total dc_Window_total pm_Window_total an_Window_total cd_Window_total ct_Window_total), sl_Window_total⟩)
    (c_Window_total : PySem.W.codeIn K cd_Window_total "Window.total" = true)
    (k_Window_total : PySem.W.keepIn K (.ref f_Window_total) = true)
    (a_Watch_total : PySem.W.findIn K (.ref C_Watch) "total" = some (some (.ref f_Watch_total)))
    (i_Watch_total : PySem.W.isFn K (.ref f_Watch_total) = true)
    (l_Watch_total : K.lookup f_Watch_total = some ⟨oc_Watch_total, od_Watch_total, .func (PySem.W.fnOf "total" "Watch.total" (defArgs s_Watch_total) (defBody s_Watch_total) (defScope s_Watch_total) .none kV_Watch_total dc_Watch_total pm_Watch_total an_Watch_total cd_Watch_total ct_Watch_total), sl_Watch_total⟩)
    (c_Watch_total : PySem.W.codeIn K cd_Watch_total "Watch.total" = true)
    (k_Watch_total : PySem.W.keepIn K (.ref f_Watch_total) = true)
    (a_Watch_is_high : PySem.W.findIn K (.ref C_Watch) "is_high" = some (some (.ref f_Watch_is_high)))
    (i_Watch_is_high : PySem.W.isFn K (.ref f_Watch_is_high) = true)
    (l_Watch_is_high : K.lookup f_Watch_is_high = some ⟨oc_Watch_is_high, od_Watch_is_high, .func (PySem.W.fnOf "is_high" "Watch.is_high" (defArgs s_Watch_is_high) (defBody s_Watch_is_high) (defScope s_Watch_is_high) .none kV_Watch_is_high dc_Watch_is_high pm_Watch_is_high an_Watch_is_high cd_Watch_is_high ct_Watch_is_high), sl_Watch_is_high⟩)
    (c_Watch_is_high : PySem.W.codeIn K cd_Watch_is_high "Watch.is_high" = true)
    (k_Watch_is_high : PySem.W.keepIn K (.ref f_Watch_is_high) = true)
    (a_Watch_alarms_at : PySem.W.findIn K (.ref C_Watch) "alarms_at" = some (some (.ref f_Watch_alarms_at)))
    (i_Watch_alarms_at : PySem.W.isFn K (.ref f_Watch_alarms_at) = true)
    (l_Watch_alarms_at : K.lookup f_Watch_alarms_at = some ⟨oc_Watch_alarms_at, od_Watch_alarms_at, .func (PySem.W.fnOf "alarms_at" "Watch.alarms_at" (defArgs s_Watch_alarms_at) (defBody s_Watch_alarms_at) (defScope s_Watch_alarms_at) .none kV_Watch_alarms_at dc_Watch_alarms_at pm_Watch_alarms_at an_Watch_alarms_at cd_Watch_alarms_at ct_Watch_alarms_at), sl_Watch_alarms_at⟩)
    (c_Watch_alarms_at : PySem.W.codeIn K cd_Watch_alarms_at "Watch.alarms_at" = true)
    (k_Watch_alarms_at : PySem.W.keepIn K (.ref f_Watch_alarms_at) = true)
    (a_Watch_fresh_seconds : PySem.W.findIn K (.ref C_Watch) "fresh_seconds" = some (some (.ref f_Watch_fresh_seconds)))
    (i_Watch_fresh_seconds : PySem.W.isFn K (.ref f_Watch_fresh_seconds) = true)
    (l_Watch_fresh_seconds : K.lookup f_Watch_fresh_seconds = some ⟨oc_Watch_fresh_seconds, od_Watch_fresh_seconds, .func (PySem.W.fnOf "fresh_seconds" "Watch.fresh_seconds" (defArgs s_Watch_fresh_seconds) (defBody s_Watch_fresh_seconds) (defScope s_Watch_fresh_seconds) .none kV_Watch_fresh_seconds dc_Watch_fresh_seconds pm_Watch_fresh_seconds an_Watch_fresh_seconds cd_Watch_fresh_seconds ct_Watch_fresh_seconds), sl_Watch_fresh_seconds⟩)
    (c_Watch_fresh_seconds : PySem.W.codeIn K cd_Watch_fresh_seconds "Watch.fresh_seconds" = true)
    (k_Watch_fresh_seconds : PySem.W.keepIn K (.ref f_Watch_fresh_seconds) = true)
    (a_Window_add : PySem.W.findIn K (.ref C_Window) "add" = some (some (.ref f_Window_add)))
    (i_Window_add : PySem.W.isFn K (.ref f_Window_add) = true)
    (l_Window_add : K.lookup f_Window_add = some ⟨oc_Window_add, od_Window_add, .func (PySem.W.fnOf "add" "Window.add" (defArgs s_Window_add) (defBody s_Window_add) (defScope s_Window_add) .none kV_Window_add dc_Window_add pm_Window_add an_Window_add cd_Window_add ct_Window_add), sl_Window_add⟩)
    (c_Window_add : PySem.W.codeIn K cd_Window_add "Window.add" = true)
    (k_Window_add : PySem.W.keepIn K (.ref f_Window_add) = true)
    (a_Window_init : PySem.W.findIn K (.ref C_Window) "__init__" = some (some (.ref f_Window_init)))
    (i_Window_init : PySem.W.isFn K (.ref f_Window_init) = true)
    (l_Window_init : K.lookup f_Window_init = some ⟨oc_Window_init, od_Window_init, .func (PySem.W.fnOf "__init__" "Window.__init__" (defArgs s_Window_init) (defBody s_Window_init) (defScope s_Window_init) .none kV_Window_init dc_Window_init pm_Window_init an_Window_init cd_Window_init ct_Window_init), sl_Window_init⟩)
    (c_Window_init : PySem.W.codeIn K cd_Window_init "Window.__init__" = true)
    (k_Window_init : PySem.W.keepIn K (.ref f_Window_init) = true)
    (a_Watch_count : PySem.W.findIn K (.ref C_Watch) "count" = some (some (.ref f_Watch_count)))
    (i_Watch_count : PySem.W.isFn K (.ref f_Watch_count) = true)
    (l_Watch_count : K.lookup f_Watch_count = some ⟨oc_Watch_count, od_Watch_count, .func (PySem.W.fnOf "count" "Watch.count" (defArgs s_Watch_count) (defBody s_Watch_count) (defScope s_Watch_count) .none kV_Watch_count dc_Watch_count pm_Watch_count an_Watch_count cd_Watch_count ct_Watch_count), sl_Watch_count⟩)
    (c_Watch_count : PySem.W.codeIn K cd_Watch_count "Watch.count" = true)
    (k_Watch_count : PySem.W.keepIn K (.ref f_Watch_count) = true)
    (a_Watch_see : PySem.W.findIn K (.ref C_Watch) "see" = some (some (.ref f_Watch_see)))
    (i_Watch_see : PySem.W.isFn K (.ref f_Watch_see) = true)
    (l_Watch_see : K.lookup f_Watch_see = some ⟨oc_Watch_see, od_Watch_see, .func (PySem.W.fnOf "see" "Watch.see" (defArgs s_Watch_see) (defBody s_Watch_see) (defScope s_Watch_see) .none kV_Watch_see dc_Watch_see pm_Watch_see an_Watch_see cd_Watch_see ct_Watch_see), sl_Watch_see⟩)
    (c_Watch_see : PySem.W.codeIn K cd_Watch_see "Watch.see" = true)
    (k_Watch_see : PySem.W.keepIn K (.ref f_Watch_see) = true)
    (a_Watch_alarms : PySem.W.findIn K (.ref C_Watch) "alarms" = some (some (.ref f_Watch_alarms)))
    (i_Watch_alarms : PySem.W.isFn K (.ref f_Watch_alarms) = true)
    (l_Watch_alarms : K.lookup f_Watch_alarms = some ⟨oc_Watch_alarms, od_Watch_alarms, .func (PySem.W.fnOf "alarms" "Watch.alarms" (defArgs s_Watch_alarms) (defBody s_Watch_alarms) (defScope s_Watch_alarms) .none kV_Watch_alarms dc_Watch_alarms pm_Watch_alarms an_Watch_alarms cd_Watch_alarms ct_Watch_alarms), sl_Watch_alarms⟩)
    (c_Watch_alarms : PySem.W.codeIn K cd_Watch_alarms "Watch.alarms" = true)
    (k_Watch_alarms : PySem.W.keepIn K (.ref f_Watch_alarms) = true)
    (a_law : PySem.W.nsIn K mainGlobals "law" = some (some (.ref f_law)))
    (l_law : K.lookup f_law = some ⟨oc_law, od_law, .func (PySem.W.fnOf "law" "law" (defArgs s_law) (defBody s_law) (defScope s_law) .none kV_law dc_law pm_law an_law cd_law ct_law), sl_law⟩)
    (c_law : PySem.W.codeIn K cd_law "law" = true)
    (k_law : PySem.W.keepIn K (.ref f_law) = true)
    : ∃ (A : Ad) (fd : FuncData), (∀ (s : Shared) (v : Value), BindsTo s fd ⟨[v], []⟩ [("script", v)]) ∧ ∀ base : Heap, K.In base → base.Ns mainGlobals mg → FnOk l.prog w K mg base CX0 7 fa fd ["script"] (spD K (R_law A)) := by
  have e := hfa.symm.trans (PySem.W.mg_of X G a_law)
  cases e
  have F_law_state := fun_mk (st := s_law_state) l_law_state c_law_state k_law_state
  have b_law_state := F_law_state.binds (ps := ["cell", "k"]) fun _ _ _ _ _ _ us hl => match us, hl with | [_, _], _ => rfl
  have F_law_digit := fun_mk (st := s_law_digit) l_law_digit c_law_digit k_law_digit
  have b_law_digit := F_law_digit.binds (ps := ["state", "many"]) fun _ _ _ _ _ _ us hl => match us, hl with | [_, _], _ => rfl
  have F_Watch_init := fun_mk (st := s_Watch_init) l_Watch_init c_Watch_init k_Watch_init
  have b_Watch_init := F_Watch_init.binds (ps := ["self", "limit", "width"]) fun _ _ _ _ _ _ us hl => match us, hl with | [_, _, _], _ => rfl
  have F_law_cell := fun_mk (st := s_law_cell) l_law_cell c_law_cell k_law_cell
  have b_law_cell := F_law_cell.binds (ps := ["script", "k"]) fun _ _ _ _ _ _ us hl => match us, hl with | [_, _], _ => rfl
  have F_Record_init := fun_mk (st := s_Record_init) l_Record_init c_Record_init k_Record_init
  have b_Record_init := F_Record_init.binds (ps := ["self", "call_id", "role", "caller", "called", "payer", "came", "went", "parent", "opened_at"]) fun _ _ _ _ _ _ us hl => match us, hl with | [_, _, _, _, _, _, _, _, _, _], _ => rfl
  have F_record_from := fun_mk (st := s_record_from) l_record_from c_record_from k_record_from
  have b_record_from := F_record_from.binds (ps := ["entry"]) fun _ _ _ _ _ _ us hl => match us, hl with | [_], _ => rfl
  have F_Record_is_open := fun_mk (st := s_Record_is_open) l_Record_is_open c_Record_is_open k_Record_is_open
  have b_Record_is_open := F_Record_is_open.binds (ps := ["self"]) fun _ _ _ _ _ _ us hl => match us, hl with | [_], _ => rfl
  have F_close_record := fun_mk (st := s_close_record) l_close_record c_close_record k_close_record
  have b_close_record := F_close_record.binds (ps := ["record", "cause", "at"]) fun _ _ _ _ _ _ us hl => match us, hl with | [_, _, _], _ => rfl
  have F_belongs := fun_mk (st := s_belongs) l_belongs c_belongs k_belongs
  have b_belongs := F_belongs.binds (ps := ["record", "call_id"]) fun _ _ _ _ _ _ us hl => match us, hl with | [_, _], _ => rfl
  have F_fold_entry := fun_mk (st := s_fold_entry) l_fold_entry c_fold_entry k_fold_entry
  have b_fold_entry := F_fold_entry.binds (ps := ["records", "entry"]) fun _ _ _ _ _ _ us hl => match us, hl with | [_, _], _ => rfl
  have F_records_of := fun_mk (st := s_records_of) l_records_of c_records_of k_records_of
  have b_records_of := F_records_of.binds (ps := ["entries"]) fun _ _ _ _ _ _ us hl => match us, hl with | [_], _ => rfl
  have F_law_look := fun_mk (st := s_law_look) l_law_look c_law_look k_law_look
  have b_law_look := F_law_look.binds (ps := ["entries", "talked"]) fun _ _ _ _ _ _ us hl => match us, hl with | [_, _], _ => rfl
  have F_law_total := fun_mk (st := s_law_total) l_law_total c_law_total k_law_total
  have b_law_total := F_law_total.binds (ps := ["seen", "payer", "clock", "width"]) fun _ _ _ _ _ _ us hl => match us, hl with | [_, _, _, _], _ => rfl
  have F_Window_total := fun_mk (st := s_Window_total) l_Window_total c_Window_total k_Window_total
  have b_Window_total := F_Window_total.binds (ps := ["self", "clock"]) fun _ _ _ _ _ _ us hl => match us, hl with | [_, _], _ => rfl
  have F_Watch_total := fun_mk (st := s_Watch_total) l_Watch_total c_Watch_total k_Watch_total
  have b_Watch_total := F_Watch_total.binds (ps := ["self", "payer", "clock"]) fun _ _ _ _ _ _ us hl => match us, hl with | [_, _, _], _ => rfl
  have F_Watch_is_high := fun_mk (st := s_Watch_is_high) l_Watch_is_high c_Watch_is_high k_Watch_is_high
  have b_Watch_is_high := F_Watch_is_high.binds (ps := ["self", "payer"]) fun _ _ _ _ _ _ us hl => match us, hl with | [_, _], _ => rfl
  have F_Watch_alarms_at := fun_mk (st := s_Watch_alarms_at) l_Watch_alarms_at c_Watch_alarms_at k_Watch_alarms_at
  have b_Watch_alarms_at := F_Watch_alarms_at.binds (ps := ["self", "clock"]) fun _ _ _ _ _ _ us hl => match us, hl with | [_, _], _ => rfl
  have F_Watch_fresh_seconds := fun_mk (st := s_Watch_fresh_seconds) l_Watch_fresh_seconds c_Watch_fresh_seconds k_Watch_fresh_seconds
  have b_Watch_fresh_seconds := F_Watch_fresh_seconds.binds (ps := ["self", "record"]) fun _ _ _ _ _ _ us hl => match us, hl with | [_, _], _ => rfl
  have F_Window_add := fun_mk (st := s_Window_add) l_Window_add c_Window_add k_Window_add
  have b_Window_add := F_Window_add.binds (ps := ["self", "clock", "amount"]) fun _ _ _ _ _ _ us hl => match us, hl with | [_, _, _], _ => rfl
  have F_Window_init := fun_mk (st := s_Window_init) l_Window_init c_Window_init k_Window_init
  have b_Window_init := F_Window_init.binds (ps := ["self", "width"]) fun _ _ _ _ _ _ us hl => match us, hl with | [_, _], _ => rfl
  have F_Watch_count := fun_mk (st := s_Watch_count) l_Watch_count c_Watch_count k_Watch_count
  have b_Watch_count := F_Watch_count.binds (ps := ["self", "payer", "clock", "seconds"]) fun _ _ _ _ _ _ us hl => match us, hl with | [_, _, _, _], _ => rfl
  have F_Watch_see := fun_mk (st := s_Watch_see) l_Watch_see c_Watch_see k_Watch_see
  have b_Watch_see := F_Watch_see.binds (ps := ["self", "records", "clock"]) fun _ _ _ _ _ _ us hl => match us, hl with | [_, _, _], _ => rfl
  have F_Watch_alarms := fun_mk (st := s_Watch_alarms) l_Watch_alarms c_Watch_alarms k_Watch_alarms
  have b_Watch_alarms := F_Watch_alarms.binds (ps := ["self"]) fun _ _ _ _ _ _ us hl => match us, hl with | [_], _ => rfl
  have F_law := fun_mk (st := s_law) l_law c_law k_law
  have b_law := F_law.binds (ps := ["script"]) fun _ _ _ _ _ _ us hl => match us, hl with | [_], _ => rfl
  let A : Ad := { a_law_state := f_law_state, d_law_state := PySem.W.fnOf "_law_state" "_law_state" (defArgs s_law_state) (defBody s_law_state) (defScope s_law_state) .none kV_law_state dc_law_state pm_law_state an_law_state cd_law_state ct_law_state, a_law_digit := f_law_digit, d_law_digit := PySem.W.fnOf "_law_digit" "_law_digit" (defArgs s_law_digit) (defBody s_law_digit) (defScope s_law_digit) .none kV_law_digit dc_law_digit pm_law_digit an_law_digit cd_law_digit ct_law_digit, a_Watch_init := f_Watch_init, d_Watch_init := PySem.W.fnOf "__init__" "Watch.__init__" (defArgs s_Watch_init) (defBody s_Watch_init) (defScope s_Watch_init) .none kV_Watch_init dc_Watch_init pm_Watch_init an_Watch_init cd_Watch_init ct_Watch_init, a_law_cell := f_law_cell, d_law_cell := PySem.W.fnOf "_law_cell" "_law_cell" (defArgs s_law_cell) (defBody s_law_cell) (defScope s_law_cell) .none kV_law_cell dc_law_cell pm_law_cell an_law_cell cd_law_cell ct_law_cell, a_Record_init := f_Record_init, d_Record_init := PySem.W.fnOf "__init__" "Record.__init__" (defArgs s_Record_init) (defBody s_Record_init) (defScope s_Record_init) .none kV_Record_init dc_Record_init pm_Record_init an_Record_init cd_Record_init ct_Record_init, a_record_from := f_record_from, d_record_from := PySem.W.fnOf "record_from" "record_from" (defArgs s_record_from) (defBody s_record_from) (defScope s_record_from) .none kV_record_from dc_record_from pm_record_from an_record_from cd_record_from ct_record_from, a_Record_is_open := f_Record_is_open, d_Record_is_open := PySem.W.fnOf "is_open" "Record.is_open" (defArgs s_Record_is_open) (defBody s_Record_is_open) (defScope s_Record_is_open) .none kV_Record_is_open dc_Record_is_open pm_Record_is_open an_Record_is_open cd_Record_is_open ct_Record_is_open, a_close_record := f_close_record, d_close_record := PySem.W.fnOf "close_record" "close_record" (defArgs s_close_record) (defBody s_close_record) (defScope s_close_record) .none kV_close_record dc_close_record pm_close_record an_close_record cd_close_record ct_close_record, a_belongs := f_belongs, d_belongs := PySem.W.fnOf "belongs" "belongs" (defArgs s_belongs) (defBody s_belongs) (defScope s_belongs) .none kV_belongs dc_belongs pm_belongs an_belongs cd_belongs ct_belongs, a_fold_entry := f_fold_entry, d_fold_entry := PySem.W.fnOf "fold_entry" "fold_entry" (defArgs s_fold_entry) (defBody s_fold_entry) (defScope s_fold_entry) .none kV_fold_entry dc_fold_entry pm_fold_entry an_fold_entry cd_fold_entry ct_fold_entry, a_records_of := f_records_of, d_records_of := PySem.W.fnOf "records_of" "records_of" (defArgs s_records_of) (defBody s_records_of) (defScope s_records_of) .none kV_records_of dc_records_of pm_records_of an_records_of cd_records_of ct_records_of, a_law_look := f_law_look, d_law_look := PySem.W.fnOf "_law_look" "_law_look" (defArgs s_law_look) (defBody s_law_look) (defScope s_law_look) .none kV_law_look dc_law_look pm_law_look an_law_look cd_law_look ct_law_look, a_law_total := f_law_total, d_law_total := PySem.W.fnOf "_law_total" "_law_total" (defArgs s_law_total) (defBody s_law_total) (defScope s_law_total) .none kV_law_total dc_law_total pm_law_total an_law_total cd_law_total ct_law_total, a_Window_total := f_Window_total, d_Window_total := PySem.W.fnOf "total" "Window.total" (defArgs s_Window_total) (defBody s_Window_total) (defScope s_Window_total) .none kV_Window_total dc_Window_total pm_Window_total an_Window_total cd_Window_total ct_Window_total, a_Watch_total := f_Watch_total, d_Watch_total := PySem.W.fnOf "total" "Watch.total" (defArgs s_Watch_total) (defBody s_Watch_total) (defScope s_Watch_total) .none kV_Watch_total dc_Watch_total pm_Watch_total an_Watch_total cd_Watch_total ct_Watch_total, a_Watch_is_high := f_Watch_is_high, d_Watch_is_high := PySem.W.fnOf "is_high" "Watch.is_high" (defArgs s_Watch_is_high) (defBody s_Watch_is_high) (defScope s_Watch_is_high) .none kV_Watch_is_high dc_Watch_is_high pm_Watch_is_high an_Watch_is_high cd_Watch_is_high ct_Watch_is_high, a_Watch_alarms_at := f_Watch_alarms_at, d_Watch_alarms_at := PySem.W.fnOf "alarms_at" "Watch.alarms_at" (defArgs s_Watch_alarms_at) (defBody s_Watch_alarms_at) (defScope s_Watch_alarms_at) .none kV_Watch_alarms_at dc_Watch_alarms_at pm_Watch_alarms_at an_Watch_alarms_at cd_Watch_alarms_at ct_Watch_alarms_at, a_Watch_fresh_seconds := f_Watch_fresh_seconds, d_Watch_fresh_seconds := PySem.W.fnOf "fresh_seconds" "Watch.fresh_seconds" (defArgs s_Watch_fresh_seconds) (defBody s_Watch_fresh_seconds) (defScope s_Watch_fresh_seconds) .none kV_Watch_fresh_seconds dc_Watch_fresh_seconds pm_Watch_fresh_seconds an_Watch_fresh_seconds cd_Watch_fresh_seconds ct_Watch_fresh_seconds, a_Window_add := f_Window_add, d_Window_add := PySem.W.fnOf "add" "Window.add" (defArgs s_Window_add) (defBody s_Window_add) (defScope s_Window_add) .none kV_Window_add dc_Window_add pm_Window_add an_Window_add cd_Window_add ct_Window_add, a_Window_init := f_Window_init, d_Window_init := PySem.W.fnOf "__init__" "Window.__init__" (defArgs s_Window_init) (defBody s_Window_init) (defScope s_Window_init) .none kV_Window_init dc_Window_init pm_Window_init an_Window_init cd_Window_init ct_Window_init, a_Watch_count := f_Watch_count, d_Watch_count := PySem.W.fnOf "count" "Watch.count" (defArgs s_Watch_count) (defBody s_Watch_count) (defScope s_Watch_count) .none kV_Watch_count dc_Watch_count pm_Watch_count an_Watch_count cd_Watch_count ct_Watch_count, a_Watch_see := f_Watch_see, d_Watch_see := PySem.W.fnOf "see" "Watch.see" (defArgs s_Watch_see) (defBody s_Watch_see) (defScope s_Watch_see) .none kV_Watch_see dc_Watch_see pm_Watch_see an_Watch_see cd_Watch_see ct_Watch_see, a_Watch_alarms := f_Watch_alarms, d_Watch_alarms := PySem.W.fnOf "alarms" "Watch.alarms" (defArgs s_Watch_alarms) (defBody s_Watch_alarms) (defScope s_Watch_alarms) .none kV_Watch_alarms dc_Watch_alarms pm_Watch_alarms an_Watch_alarms cd_Watch_alarms ct_Watch_alarms, a_law := fa, d_law := PySem.W.fnOf "law" "law" (defArgs s_law) (defBody s_law) (defScope s_law) .none kV_law dc_law pm_law an_law cd_law ct_law, C_Window := C_Window, C_Watch := C_Watch, C_Record := C_Record }
  have T : Txt K mg A := { F_law_state := F_law_state, b_law_state := b_law_state, g_law_state := PySem.W.mg_of X G a_law_state, F_law_digit := F_law_digit, b_law_digit := b_law_digit, g_law_digit := PySem.W.mg_of X G a_law_digit, F_Watch_init := F_Watch_init, b_Watch_init := b_Watch_init, m_Watch_init := ⟨mk_Watch, a_Watch_init, i_Watch_init, kc_Watch⟩, F_law_cell := F_law_cell, b_law_cell := b_law_cell, g_law_cell := PySem.W.mg_of X G a_law_cell, F_Record_init := F_Record_init, b_Record_init := b_Record_init, m_Record_init := ⟨mk_Record, a_Record_init, i_Record_init, kc_Record⟩, F_record_from := F_record_from, b_record_from := b_record_from, g_record_from := PySem.W.mg_of X G a_record_from, F_Record_is_open := F_Record_is_open, b_Record_is_open := b_Record_is_open, m_Record_is_open := ⟨a_Record_is_open, i_Record_is_open, k_Record_is_open⟩, F_close_record := F_close_record, b_close_record := b_close_record, g_close_record := PySem.W.mg_of X G a_close_record, F_belongs := F_belongs, b_belongs := b_belongs, g_belongs := PySem.W.mg_of X G a_belongs, F_fold_entry := F_fold_entry, b_fold_entry := b_fold_entry, g_fold_entry := PySem.W.mg_of X G a_fold_entry, F_records_of := F_records_of, b_records_of := b_records_of, g_records_of := PySem.W.mg_of X G a_records_of, F_law_look := F_law_look, b_law_look := b_law_look, g_law_look := PySem.W.mg_of X G a_law_look, F_law_total := F_law_total, b_law_total := b_law_total, g_law_total := PySem.W.mg_of X G a_law_total, F_Window_total := F_Window_total, b_Window_total := b_Window_total, m_Window_total := ⟨a_Window_total, i_Window_total, k_Window_total⟩, F_Watch_total := F_Watch_total, b_Watch_total := b_Watch_total, m_Watch_total := ⟨a_Watch_total, i_Watch_total, k_Watch_total⟩, F_Watch_is_high := F_Watch_is_high, b_Watch_is_high := b_Watch_is_high, m_Watch_is_high := ⟨a_Watch_is_high, i_Watch_is_high, k_Watch_is_high⟩, F_Watch_alarms_at := F_Watch_alarms_at, b_Watch_alarms_at := b_Watch_alarms_at, m_Watch_alarms_at := ⟨a_Watch_alarms_at, i_Watch_alarms_at, k_Watch_alarms_at⟩, F_Watch_fresh_seconds := F_Watch_fresh_seconds, b_Watch_fresh_seconds := b_Watch_fresh_seconds, m_Watch_fresh_seconds := ⟨a_Watch_fresh_seconds, i_Watch_fresh_seconds, k_Watch_fresh_seconds⟩, F_Window_add := F_Window_add, b_Window_add := b_Window_add, m_Window_add := ⟨a_Window_add, i_Window_add, k_Window_add⟩, F_Window_init := F_Window_init, b_Window_init := b_Window_init, m_Window_init := ⟨mk_Window, a_Window_init, i_Window_init, kc_Window⟩, F_Watch_count := F_Watch_count, b_Watch_count := b_Watch_count, m_Watch_count := ⟨a_Watch_count, i_Watch_count, k_Watch_count⟩, F_Watch_see := F_Watch_see, b_Watch_see := b_Watch_see, m_Watch_see := ⟨a_Watch_see, i_Watch_see, k_Watch_see⟩, F_Watch_alarms := F_Watch_alarms, b_Watch_alarms := b_Watch_alarms, m_Watch_alarms := ⟨a_Watch_alarms, i_Watch_alarms, k_Watch_alarms⟩, F_law := F_law, b_law := b_law, g_law := PySem.W.mg_of X G a_law, g_Window := PySem.W.mg_of X G aC_Window, c_Window := ⟨pg_Window, hd_Window, po_Window, sa_Window⟩, g_Watch := PySem.W.mg_of X G aC_Watch, c_Watch := ⟨pg_Watch, hd_Watch, po_Watch, sa_Watch⟩, g_Record := PySem.W.mg_of X G aC_Record, c_Record := ⟨pg_Record, hd_Record, po_Record, sa_Record⟩, n_Record_call_id := na_Record_call_id, n_Record_called := na_Record_called, n_Record_caller := na_Record_caller, n_Record_came := na_Record_came, n_Record_cause := na_Record_cause, n_Record_closed_at := na_Record_closed_at, n_Record_confirmed := na_Record_confirmed, n_Record_opened_at := na_Record_opened_at, n_Record_parent := na_Record_parent, n_Record_payer := na_Record_payer, n_Record_role := na_Record_role, n_Record_went := na_Record_went, n_Watch_high := na_Watch_high, n_Watch_limit := na_Watch_limit, n_Watch_seen := na_Watch_seen, n_Watch_told := na_Watch_told, n_Watch_width := na_Watch_width, n_Watch_windows := na_Watch_windows, n_Window_rows := na_Window_rows, n_Window_width := na_Window_width, z_int := PySem.W.mg_none_of X G z_int, z_len := PySem.W.mg_none_of X G z_len, z_list := PySem.W.mg_none_of X G z_list, z_max := PySem.W.mg_none_of X G z_max, z_min := PySem.W.mg_none_of X G z_min, z_range := PySem.W.mg_none_of X G z_range, z_sorted := PySem.W.mg_none_of X G z_sorted, z_sum := PySem.W.mg_none_of X G z_sum }
  exact ⟨A, A.d_law, fun s v => .of_eq rfl, fun base _ _ => ok_law T⟩
theorem walk {l : PySem.W.OpenLaw} {q : Program} {loose : List Str} {XP : (Str → Option Value) → Heap → Prop} {YP : World → Heap → Prop} {d : DefRec} {K : Params → PySem.W.Frag} (hn : l.most = some 63) (hdf : d.params.defaults = [])
    (hY : ∀ (w : World) (h : Heap), YP w h → (K w.params).In h)
    (F : ∀ (w : World) (mg : Str → Option Value) (fa : Addr) (h : Heap), (K w.params).In h → h.Ns mainGlobals mg → mg d.name = some (.ref fa) →
      ∃ (A : Ad) (fd : FuncData), (∀ (s : Shared) (u : Value), BindsTo s fd ⟨[u], []⟩ [("script", u)]) ∧ ∀ base : Heap, (K w.params).In base → base.Ns mainGlobals mg → FnOk l.prog w (K w.params) mg base CX0 7 fa fd ["script"] (spD (K w.params) (R_law A))) :
    PySem.W.WalkO q loose XP YP l.row.toRowW d [] (fun f vs => PySem.call f vs) :=
  L2.walk_of (n := 63) (k := 7) (x := "script") (CX := fun _ => CX0) (sp := fun w => spLawD (K w.params)) hn (by decide) hdf ⟨rfl, by decide, by decide⟩ hY (fun w mg fa h KX G hm => by
    obtain ⟨A, fd, b, G⟩ := F w mg fa h KX G hm
    exact ⟨fd, b, fun base h1 h2 => (G base h1 h2).imp (spLaw_imp (R_law A) (law_go A))⟩) (fun _ _ a ns hl _ hS => ⟨a, ns, rfl, hS, hl, fun _ => rfl⟩) fun _ _ _ _ _ z => z
end Law

open PySem PySem.W PyProof.Rows in
set_option maxRecDepth 100000 in
set_option maxHeartbeats 0 in
theorem PySem.Challenge.cw_copperhouse_k28_alarms_of_a_watch_holds : PySem.Challenge.rw_copperhouse_k28_alarms_of_a_watch.Holds := by
  w_on; o_law; k_head; (case hw => w_witness2)
  k_fill
  refine Law.walk (l := PySem.Challenge.rw_copperhouse_k28_alarms_of_a_watch) rfl rfl (fun w h Y => PySem.W.kIn_of Y) ?F
  case F =>
    intro w mg fa h KX G hmg
    refine' Law.all_mk KX G hmg ?aC_Window ?pg_Window ?hd_Window ?po_Window ?sa_Window ?mk_Window ?kc_Window ?aC_Watch ?pg_Watch ?hd_Watch ?po_Watch ?sa_Watch ?mk_Watch ?kc_Watch ?aC_Record ?pg_Record ?hd_Record ?po_Record ?sa_Record ?mk_Record ?kc_Record ?na_Record_call_id ?na_Record_called ?na_Record_caller ?na_Record_came ?na_Record_cause ?na_Record_closed_at ?na_Record_confirmed ?na_Record_opened_at ?na_Record_parent ?na_Record_payer ?na_Record_role ?na_Record_went ?na_Watch_high ?na_Watch_limit ?na_Watch_seen ?na_Watch_told ?na_Watch_width ?na_Watch_windows ?na_Window_rows ?na_Window_width ?z_int ?z_len ?z_list ?z_max ?z_min ?z_range ?z_sorted ?z_sum ?a_law_state ?l_law_state ?c_law_state ?k_law_state ?a_law_digit ?l_law_digit ?c_law_digit ?k_law_digit ?a_Watch_init ?i_Watch_init ?l_Watch_init ?c_Watch_init ?k_Watch_init ?a_law_cell ?l_law_cell ?c_law_cell ?k_law_cell ?a_Record_init ?i_Record_init ?l_Record_init ?c_Record_init ?k_Record_init ?a_record_from ?l_record_from ?c_record_from ?k_record_from ?a_Record_is_open ?i_Record_is_open ?l_Record_is_open ?c_Record_is_open ?k_Record_is_open ?a_close_record ?l_close_record ?c_close_record ?k_close_record ?a_belongs ?l_belongs ?c_belongs ?k_belongs ?a_fold_entry ?l_fold_entry ?c_fold_entry ?k_fold_entry ?a_records_of ?l_records_of ?c_records_of ?k_records_of ?a_law_look ?l_law_look ?c_law_look ?k_law_look ?a_law_total ?l_law_total ?c_law_total ?k_law_total ?a_Window_total ?i_Window_total ?l_Window_total ?c_Window_total ?k_Window_total ?a_Watch_total ?i_Watch_total ?l_Watch_total ?c_Watch_total ?k_Watch_total ?a_Watch_is_high ?i_Watch_is_high ?l_Watch_is_high ?c_Watch_is_high ?k_Watch_is_high ?a_Watch_alarms_at ?i_Watch_alarms_at ?l_Watch_alarms_at ?c_Watch_alarms_at ?k_Watch_alarms_at ?a_Watch_fresh_seconds ?i_Watch_fresh_seconds ?l_Watch_fresh_seconds ?c_Watch_fresh_seconds ?k_Watch_fresh_seconds ?a_Window_add ?i_Window_add ?l_Window_add ?c_Window_add ?k_Window_add ?a_Window_init ?i_Window_init ?l_Window_init ?c_Window_init ?k_Window_init ?a_Watch_count ?i_Watch_count ?l_Watch_count ?c_Watch_count ?k_Watch_count ?a_Watch_see ?i_Watch_see ?l_Watch_see ?c_Watch_see ?k_Watch_see ?a_Watch_alarms ?i_Watch_alarms ?l_Watch_alarms ?c_Watch_alarms ?k_Watch_alarms ?a_law ?l_law ?c_law ?k_law
    (case aC_Window => k_is)
    (case pg_Window => k_is)
    (case hd_Window => k_is)
    (case po_Window => k_is)
    (case sa_Window => k_is)
    (case mk_Window => k_is)
    (case kc_Window => k_is)
    (case aC_Watch => k_is)
    (case pg_Watch => k_is)
    (case hd_Watch => k_is)
    (case po_Watch => k_is)
    (case sa_Watch => k_is)
    (case mk_Watch => k_is)
    (case kc_Watch => k_is)
    (case aC_Record => k_is)
    (case pg_Record => k_is)
    (case hd_Record => k_is)
    (case po_Record => k_is)
    (case sa_Record => k_is)
    (case mk_Record => k_is)
    (case kc_Record => k_is)
    (case na_Record_call_id => k_is)
    (case na_Record_called => k_is)
    (case na_Record_caller => k_is)
    (case na_Record_came => k_is)
    (case na_Record_cause => k_is)
    (case na_Record_closed_at => k_is)
    (case na_Record_confirmed => k_is)
    (case na_Record_opened_at => k_is)
    (case na_Record_parent => k_is)
    (case na_Record_payer => k_is)
    (case na_Record_role => k_is)
    (case na_Record_went => k_is)
    (case na_Watch_high => k_is)
    (case na_Watch_limit => k_is)
    (case na_Watch_seen => k_is)
    (case na_Watch_told => k_is)
    (case na_Watch_width => k_is)
    (case na_Watch_windows => k_is)
    (case na_Window_rows => k_is)
    (case na_Window_width => k_is)
    (case z_int => k_is)
    (case z_len => k_is)
    (case z_list => k_is)
    (case z_max => k_is)
    (case z_min => k_is)
    (case z_range => k_is)
    (case z_sorted => k_is)
    (case z_sum => k_is)
    (case a_law_state => k_is)
    (case l_law_state => k_is)
    (case c_law_state => k_is)
    (case k_law_state => k_is)
    (case a_law_digit => k_is)
    (case l_law_digit => k_is)
    (case c_law_digit => k_is)
    (case k_law_digit => k_is)
    (case a_Watch_init => k_is)
    (case i_Watch_init => k_is)
    (case l_Watch_init => k_is)
    (case c_Watch_init => k_is)
    (case k_Watch_init => k_is)
    (case a_law_cell => k_is)
    (case l_law_cell => k_is)
    (case c_law_cell => k_is)
    (case k_law_cell => k_is)
    (case a_Record_init => k_is)
    (case i_Record_init => k_is)
    (case l_Record_init => k_is)
    (case c_Record_init => k_is)
    (case k_Record_init => k_is)
    (case a_record_from => k_is)
    (case l_record_from => k_is)
    (case c_record_from => k_is)
    (case k_record_from => k_is)
    (case a_Record_is_open => k_is)
    (case i_Record_is_open => k_is)
    (case l_Record_is_open => k_is)
    (case c_Record_is_open => k_is)
    (case k_Record_is_open => k_is)
    (case a_close_record => k_is)
    (case l_close_record => k_is)
    (case c_close_record => k_is)
    (case k_close_record => k_is)
    (case a_belongs => k_is)
    (case l_belongs => k_is)
    (case c_belongs => k_is)
    (case k_belongs => k_is)
    (case a_fold_entry => k_is)
    (case l_fold_entry => k_is)
    (case c_fold_entry => k_is)
    (case k_fold_entry => k_is)
    (case a_records_of => k_is)
    (case l_records_of => k_is)
    (case c_records_of => k_is)
    (case k_records_of => k_is)
    (case a_law_look => k_is)
    (case l_law_look => k_is)
    (case c_law_look => k_is)
    (case k_law_look => k_is)
    (case a_law_total => k_is)
    (case l_law_total => k_is)
    (case c_law_total => k_is)
    (case k_law_total => k_is)
    (case a_Window_total => k_is)
    (case i_Window_total => k_is)
    (case l_Window_total => k_is)
    (case c_Window_total => k_is)
    (case k_Window_total => k_is)
    (case a_Watch_total => k_is)
    (case i_Watch_total => k_is)
    (case l_Watch_total => k_is)
    (case c_Watch_total => k_is)
    (case k_Watch_total => k_is)
    (case a_Watch_is_high => k_is)
    (case i_Watch_is_high => k_is)
    (case l_Watch_is_high => k_is)
    (case c_Watch_is_high => k_is)
    (case k_Watch_is_high => k_is)
    (case a_Watch_alarms_at => k_is)
    (case i_Watch_alarms_at => k_is)
    (case l_Watch_alarms_at => k_is)
    (case c_Watch_alarms_at => k_is)
    (case k_Watch_alarms_at => k_is)
    (case a_Watch_fresh_seconds => k_is)
    (case i_Watch_fresh_seconds => k_is)
    (case l_Watch_fresh_seconds => k_is)
    (case c_Watch_fresh_seconds => k_is)
    (case k_Watch_fresh_seconds => k_is)
    (case a_Window_add => k_is)
    (case i_Window_add => k_is)
    (case l_Window_add => k_is)
    (case c_Window_add => k_is)
    (case k_Window_add => k_is)
    (case a_Window_init => k_is)
    (case i_Window_init => k_is)
    (case l_Window_init => k_is)
    (case c_Window_init => k_is)
    (case k_Window_init => k_is)
    (case a_Watch_count => k_is)
    (case i_Watch_count => k_is)
    (case l_Watch_count => k_is)
    (case c_Watch_count => k_is)
    (case k_Watch_count => k_is)
    (case a_Watch_see => k_is)
    (case i_Watch_see => k_is)
    (case l_Watch_see => k_is)
    (case c_Watch_see => k_is)
    (case k_Watch_see => k_is)
    (case a_Watch_alarms => k_is)
    (case i_Watch_alarms => k_is)
    (case l_Watch_alarms => k_is)
    (case c_Watch_alarms => k_is)
    (case k_Watch_alarms => k_is)
    (case a_law => k_is)
    (case l_law => k_is)
    (case c_law => k_is)
    (case k_law => k_is)
