import PyProof.Rows.All
import Wide.All
import OpenK.AllK
import Wide.FinOn
import HandS.Base
import HandS.Call
import HandS.List
import HandS.Comp
import HandS.Dict
import HandS.Iter
import HandS.Text
import HandS.Words
import HandS.Wide
import HandS.Nested
import HandS.TupAny
import HandS.TupMul
import HandS.Deep
import HandS.IsInst
import HandS.Style
import HandS.NoneIn
import HandS.WordsDict
import HandS.Zip
import HandS.Rev
import HandS.EndBits
import HandS.ExcOwn
import HandS.WordsExc
import HandS.TryOnly
import HandS.ExcIs
import KE.RegKIsAll
import HandS.More
import HandS.Conv
import HandS.SortInts
import HandS.SetFor
import HandS.SortRule
import KE.GoesEnum
import KE.KRevIter
import KE.DatumOrd
import HandS.SortKw
import HandS.Defaults
import HandS.TupLe
import KE.LtData
import HandS.TryMany
import HandS.RevTup
import HandS.CallRecv
import HandS.CallLocal
import HandS.FStr
import HandS.HotCalls
import KE.KIndexOf
import PySem.Challenge.RW_tastesbook_k46_total
set_option Elab.async false
set_option linter.all false
set_option maxRecDepth 100000
set_option maxHeartbeats 1000000


/-! TB core: data seen as values; what is owned, frozen, new; judgements over abstract slots. -/
namespace TB
open PySem L2
section
variable {K : PySem.W.Frag}

/-! ### data in a heap -/
def kD : Key → PyData
  | .inl i => .int i
  | .inr s => .str s
/-- the words of a def within a def, by its name, the cell that it captured, its code object -/
def stW (_ : Str) : Stmt := .Pass ⟨0, 0, 0, 0⟩
def nmW (nm : Str) : Str := nm
def nfW (nm : Str) (cell code : Addr) : NdefX.NF := NdefX.NF.of (stW nm) (nmW nm) nm [("self", cell)] code
/-- an object that is told apart: what it is (x), what it holds (vs): .none a list of the heap; .str x the module's def or class x; .int k what stands at k; .list (.str c :: names) an instance of the class c with these attributes -/
def ExO (K : PySem.W.Frag) (H : Hp) (a : Addr) : PyData → List V → Prop
  | .none, vs => H a = some (.lst vs)
  | .str x, vs => vs = [] ∧ PySem.W.nsIn K mainGlobals x = some (some (.ref a))
  | .int k, vs => vs = [] ∧ ((a : Nat) : Int) = k
  | .list (.str c :: ns), vs => ∃ (C dx : Addr) (fs : List (Str × V)), H a = some (.ins C dx fs) ∧ vs = fs.map (·.2) ∧ ns = fs.map (fun f => PyData.str f.1) ∧ PySem.W.nsIn K mainGlobals c = some (some (.ref C))
  | .tuple (.str nm :: .int ca :: r), vs => ∃ cell code : Addr, ca = ((cell : Nat) : Int) ∧ H a = some (NdefX.FnO a (nfW nm cell code)) ∧ H code = some (LamX.CodeO code (nfW nm cell code).qual) ∧ ((r = [] ∧ vs = []) ∨ ∃ sA : Addr, r = [.int ((sA : Nat) : Int)] ∧ vs = [.ref sA])
  | .bool true, vs => ∃ o, H a = some (.frz o (.tup vs)) ∧ o.cls = .type "tuple" ∧ o.dict = none
  | _, _ => False
def exD (x : PyData) (ds : List PyData) : PyData := .dict [(.none, .tuple (x :: ds))]
mutual
inductive Rep (K : PySem.W.Frag) (H : Hp) : V → PyData → Prop
  | non : Rep K H .non .none
  | bl (b : Bool) : Rep K H (.bl b) (.bool b)
  | int (i : Int) : Rep K H (.int i) (.int i)
  | str (x : Str) : Rep K H (.str x) (.str x)
  | lst {a : Addr} {xs : List V} {ds : List PyData} : SqL K H a xs → Reps K H xs ds → Rep K H (.ref a) (.list ds)
  | tup {a : Addr} {xs : List V} {ds : List PyData} : Rd H a (.tup xs) → Reps K H xs ds → Rep K H (.ref a) (.tuple ds)
  | dic {a : Addr} {kvs : List (Key × V)} {kds : List (PyData × PyData)} : Rd H a (.dK kvs) → RepK K H kvs kds → Rep K H (.ref a) (.dict kds)
  | ex {a : Addr} {x : PyData} {vs : List V} {ds : List PyData} : ExO K H a x vs → Reps K H vs ds → Rep K H (.ref a) (.dict [(.none, .tuple (x :: ds))])
inductive Reps (K : PySem.W.Frag) (H : Hp) : List V → List PyData → Prop
  | nil : Reps K H [] []
  | cons {v : V} {d : PyData} {vs : List V} {ds : List PyData} : Rep K H v d → Reps K H vs ds → Reps K H (v :: vs) (d :: ds)
inductive RepK (K : PySem.W.Frag) (H : Hp) : List (Key × V) → List (PyData × PyData) → Prop
  | nil : RepK K H [] []
  | cons {k : Key} {v : V} {d : PyData} {r : List (Key × V)} {s : List (PyData × PyData)} : Rep K H v d → RepK K H r s → RepK K H ((k, v) :: r) ((kD k, d) :: s)
end

theorem SqL.same {H H' : Hp} {a : Addr} {xs : List V} (e : Same H H') (h : SqL K H a xs) : SqL K H' a xs := Same.seq e h
theorem Rd.same {H H' : Hp} {a : Addr} {u : HO} (e : Same H H') (h : Rd H a u) : Rd H' a u := by
  rcases h with h | ⟨o, h⟩
  · exact .inl (e _ _ h)
  · exact .inr ⟨o, e _ _ h⟩
theorem ExO.same {H H' : Hp} {a : Addr} {x : PyData} {vs : List V} (e : Same H H') (h : ExO K H a x vs) : ExO K H' a x vs := by
  cases x with
  | none => exact e _ _ h
  | str x => exact h
  | int k => exact h
  | bool b =>
    cases b with
    | false => exact h.elim
    | true => obtain ⟨o, h1, h2⟩ := h; exact ⟨o, e _ _ h1, h2⟩
  | list xs =>
    cases xs with
    | nil => exact h.elim
    | cons z ns =>
      cases z with
      | str c => obtain ⟨C, dx, fs, h1, h2⟩ := h; exact ⟨C, dx, fs, e _ _ h1, h2⟩
      | _ => exact h.elim
  | tuple xs =>
    unfold ExO at h ⊢
    split at h
    · rename_i z; cases z
    · rename_i z; cases z
    · rename_i z; cases z
    · rename_i z; cases z
    · obtain ⟨cell, code, h1, h2, h3, h4⟩ := h
      exact ⟨cell, code, h1, e _ _ h2, e _ _ h3, h4⟩
    · rename_i z; cases z
    · exact h.elim
  | _ => exact h.elim
mutual
theorem Rep.mono {H H' : Hp} (e : Same H H') : ∀ {v : V} {d : PyData}, Rep K H v d → Rep K H' v d
  | _, _, .non => .non
  | _, _, .bl b => .bl b
  | _, _, .int i => .int i
  | _, _, .str x => .str x
  | _, _, .lst h r => .lst (SqL.same e h) (Reps.mono e r)
  | _, _, .tup h r => .tup (Rd.same e h) (Reps.mono e r)
  | _, _, .dic h r => .dic (Rd.same e h) (RepK.mono e r)
  | _, _, .ex h r => .ex (ExO.same e h) (Reps.mono e r)
theorem Reps.mono {H H' : Hp} (e : Same H H') : ∀ {vs : List V} {ds : List PyData}, Reps K H vs ds → Reps K H' vs ds
  | _, _, .nil => .nil
  | _, _, .cons h r => .cons (Rep.mono e h) (Reps.mono e r)
theorem RepK.mono {H H' : Hp} (e : Same H H') : ∀ {kvs : List (Key × V)} {kds : List (PyData × PyData)}, RepK K H kvs kds → RepK K H' kvs kds
  | _, _, .nil => .nil
  | _, _, .cons h r => .cons (Rep.mono e h) (RepK.mono e r)
end
section
variable {H : Hp} {vs ws : List V} {ds es : List PyData}
theorem Reps.length : ∀ {vs : List V} {ds : List PyData}, Reps K H vs ds → vs.length = ds.length
  | _, _, .nil => rfl
  | _, _, .cons _ r => congrArg (· + 1) (Reps.length r)
theorem Reps.get : ∀ {vs : List V} {ds : List PyData} {i : Nat} {d : PyData}, Reps K H vs ds → ds[i]? = some d → ∃ v, vs[i]? = some v ∧ Rep K H v d
  | _, _, _, _, .nil, h => by simp at h
  | _, _, 0, _, .cons r _, h => by simp at h; subst h; exact ⟨_, rfl, r⟩
  | _, _, i + 1, d, .cons _ r, h => by
    obtain ⟨v, h1, h2⟩ := Reps.get (i := i) (d := d) r (by simpa using h)
    exact ⟨v, by simpa using h1, h2⟩
theorem Reps.getV : ∀ {vs : List V} {ds : List PyData} {i : Nat} {v : V}, Reps K H vs ds → vs[i]? = some v → ∃ d, ds[i]? = some d ∧ Rep K H v d
  | _, _, _, _, .nil, h => by simp at h
  | _, _, 0, _, .cons r _, h => by simp at h; subst h; exact ⟨_, rfl, r⟩
  | _, _, i + 1, v, .cons _ r, h => by
    obtain ⟨d, h1, h2⟩ := Reps.getV (i := i) (v := v) r (by simpa using h)
    exact ⟨d, by simpa using h1, h2⟩
theorem Reps.append : ∀ {vs ws : List V} {ds es : List PyData}, Reps K H vs ds → Reps K H ws es → Reps K H (vs ++ ws) (ds ++ es)
  | _, _, _, _, .nil, s => s
  | _, _, _, _, .cons h r, s => .cons h (Reps.append r s)
theorem Reps.set : ∀ {vs : List V} {ds : List PyData} {v : V} {d : PyData} (i : Nat), Rep K H v d → Reps K H vs ds → Reps K H (vs.set i v) (ds.set i d)
  | _, _, _, _, _, _, .nil => .nil
  | _, _, _, _, 0, h, .cons _ r => .cons h r
  | _, _, _, _, i + 1, h, .cons q r => .cons q (Reps.set i h r)
theorem Reps.take : ∀ {vs : List V} {ds : List PyData} (n : Nat), Reps K H vs ds → Reps K H (vs.take n) (ds.take n)
  | _, _, 0, _ => .nil
  | _, _, _ + 1, .nil => .nil
  | _, _, n + 1, .cons h r => .cons h (Reps.take n r)
theorem Reps.drop : ∀ {vs : List V} {ds : List PyData} (n : Nat), Reps K H vs ds → Reps K H (vs.drop n) (ds.drop n)
  | _, _, 0, r => r
  | _, _, _ + 1, .nil => .nil
  | _, _, n + 1, .cons _ r => Reps.drop n r
theorem Reps.ints : ∀ {vs : List V} {is : List Int}, Reps K H vs (is.map .int) → vs = is.map V.int
  | _, [], .nil => rfl
  | _, i :: is, .cons h r => by cases h; rw [Reps.ints (is := is) r]; rfl
theorem Reps.of_ints : ∀ (is : List Int), Reps K H (is.map V.int) (is.map .int)
  | [] => .nil
  | i :: is => .cons (.int i) (Reps.of_ints is)
theorem Reps.strs : ∀ {vs : List V} {is : List Str}, Reps K H vs (is.map .str) → vs = is.map V.str
  | _, [], .nil => rfl
  | _, i :: is, .cons h r => by cases h; rw [Reps.strs (is := is) r]; rfl
theorem Reps.bools : ∀ {vs : List V} {is : List Bool}, Reps K H vs (is.map .bool) → vs = is.map V.bl
  | _, [], .nil => rfl
  | _, i :: is, .cons h r => by cases h; rw [Reps.bools (is := is) r]; rfl
theorem Reps.of_get : ∀ {vs : List V} {ds : List PyData}, vs.length = ds.length → (∀ (i : Nat) (v : V) (d : PyData), vs[i]? = some v → ds[i]? = some d → Rep K H v d) → Reps K H vs ds
  | [], [], _, _ => .nil
  | v :: vs, d :: ds, hl, h => .cons (h 0 v d rfl rfl) (Reps.of_get (by simpa using hl) fun i v' d' a b => h (i + 1) v' d' (by simpa using a) (by simpa using b))
end
/-! data without lists and dicts -/
def intsD : List PyData → Bool
  | [] => true
  | .int _ :: xs => intsD xs
  | _ :: _ => false
/-- a tuple of ints that is known to have no dict -/
def immD : List (PyData × PyData) → Bool
  | [(.none, .tuple (.bool true :: ds))] => intsD ds
  | _ => false
mutual
def imm : PyData → Bool
  | .none => true
  | .bool _ => true
  | .int _ => true
  | .str _ => true
  | .list _ => false
  | .tuple xs => imms xs
  | .dict ks => immD ks
def imms : List PyData → Bool
  | [] => true
  | x :: xs => imm x && imms xs
end
theorem intsD_imms : ∀ {xs : List PyData}, intsD xs = true → imms xs = true
  | [], _ => rfl
  | .int _ :: xs, h => by
    rw [imms, intsD_imms (xs := xs) h]
    rfl
theorem repK_immD {H : Hp} {kvs : List (Key × V)} {kds : List (PyData × PyData)} (h : RepK K H kvs kds) (hi : immD kds = true) : False := by
  unfold immD at hi
  split at hi
  · rename_i ds
    generalize hk : [(PyData.none, PyData.tuple (.bool true :: ds))] = kd at h
    cases h with
    | nil => cases hk
    | @cons k v d r s _ _ =>
      have := (Prod.mk.inj (List.cons.inj hk).1).1
      cases k <;> cases this
  · cases hi
theorem imms_all : ∀ {xs : List PyData}, (∀ x ∈ xs, imm x = true) → imms xs = true
  | [], _ => rfl
  | x :: xs, h => by
    rw [imms, h x List.mem_cons_self, imms_all fun y hy => h y (List.mem_cons_of_mem _ hy)]; rfl
theorem imm_tup {xs : List PyData} (h : ∀ x ∈ xs, imm x = true) : imm (.tuple xs) = true := imms_all h
theorem imm_map {α : Type} {f : α → PyData} {xs : List α} (h : ∀ x ∈ xs, imm (f x) = true) : imm (.tuple (xs.map f)) = true :=
  imm_tup fun y hy => by obtain ⟨x, hx, rfl⟩ := List.mem_map.mp hy; exact h x hx
/-- tuples: what stands for good -/
def isT : HO → Bool
  | .tup _ => true
  | .frz _ (.tup _) => true
  | _ => false
/-- what holds no list or dict is read by the tuples alone -/
def tupsOf (H H' : Hp) : Prop := ∀ a o, isT o = true → H a = some o → H' a = some o
theorem Rd.tups {H H' : Hp} {a : Addr} {xs : List V} (e : tupsOf H H') (h : Rd H a (.tup xs)) : Rd H' a (.tup xs) := by
  rcases h with h | ⟨o, h⟩
  · exact .inl (e _ _ rfl h)
  · exact .inr ⟨o, e _ _ rfl h⟩
mutual
theorem Rep.imm {H H' : Hp} (e : tupsOf H H') : ∀ {v : V} {d : PyData}, Rep K H v d → imm d = true → Rep K H' v d
  | _, _, .non, _ => .non
  | _, _, .bl b, _ => .bl b
  | _, _, .int i, _ => .int i
  | _, _, .str x, _ => .str x
  | _, _, .lst _ _, h => by simp [TB.imm] at h
  | _, _, .tup h r, hi => .tup (Rd.tups e h) (Reps.imm e r hi)
  | _, _, .dic _ r, h => (repK_immD r h).elim
  | _, _, .ex (x := x) (vs := vs) (ds := ds) h r, hi => by
    have hx : x = .bool true ∧ intsD ds = true := by
      have hi : immD [(.none, .tuple (x :: ds))] = true := hi
      unfold immD at hi
      split at hi
      · rename_i e
        have := List.cons.inj (PyData.tuple.inj (Prod.mk.inj (List.cons.inj e).1).2)
        exact ⟨this.1, this.2 ▸ hi⟩
      · cases hi
    obtain ⟨rfl, hd⟩ := hx
    obtain ⟨o, h1, h2⟩ := h
    exact .ex ⟨o, e _ _ rfl h1, h2⟩ (Reps.imm e r (intsD_imms hd))
theorem Reps.imm {H H' : Hp} (e : tupsOf H H') : ∀ {vs : List V} {ds : List PyData}, Reps K H vs ds → imms ds = true → Reps K H' vs ds
  | _, _, .nil, _ => .nil
  | _, _, .cons h r, hi => by
    rw [imms, Bool.and_eq_true] at hi
    exact .cons (Rep.imm e h hi.1) (Reps.imm e r hi.2)
end
/-! for == of the library: data without dicts -/
mutual
theorem Rep.dp {H : Hp} : ∀ {v : V} {d : PyData}, Rep K H v d → d.canLay0 = true → Dp K H v d
  | _, _, .non, _ => .non
  | _, _, .bl b, _ => .bl b
  | _, _, .int i, _ => .int i
  | _, _, .str x, _ => .str x
  | _, _, .lst h r, c => .lst h (Reps.dp r (by simpa [PyData.canLay0] using c))
  | _, _, .tup h r, c => .tup (.inl h) (Reps.dp r (by simpa [PyData.canLay0] using c))
  | _, _, .dic _ _, c => by simp [PyData.canLay0] at c
  | _, _, .ex _ _, c => by simp [PyData.canLay0] at c
theorem Reps.dp {H : Hp} : ∀ {vs : List V} {ds : List PyData}, Reps K H vs ds → PyData.canLayAll0 ds = true → DpAll K H vs ds
  | _, _, .nil, _ => .nil
  | _, _, .cons h r, c => by
    simp only [PyData.canLayAll0, Bool.and_eq_true] at c
    exact .cons (Rep.dp h c.1) (Reps.dp r c.2)
end

/-! ### what may be seen -/
def nf : Option HO → Option HO
  | some o => (match o with
    | .frz _ u => (match u with
      | .tup _ => some o
      | _ => none)
    | _ => some o)
  | none => none
theorem nf_T {o : HO} (h : isT o = true) : nf (some o) = some o := by
  unfold isT at h
  split at h
  · rfl
  · rfl
  · cases h
theorem nf_N {o : HO} (h : ∀ ob u, o ≠ .frz ob u) : nf (some o) = some o := by
  cases o with
  | frz ob u => exact (h _ _ rfl).elim
  | _ => rfl
/-- G, and what is new since H, and every tuple of H -/
def plus (G H H' : Hp) : Hp := fun a => match H a with
  | none => nf (H' a)
  | some o => if isT o = true then some o else G a
def non : Hp := fun _ => none
open Classical in
noncomputable def hide (O : Addr → Prop) (H : Hp) : Hp := fun a => if O a then none else H a
theorem hide_none {O : Addr → Prop} {H : Hp} {a : Addr} (h : O a) : hide O H a = none := by unfold hide; rw [if_pos h]
theorem hide_at {O : Addr → Prop} {H : Hp} {a : Addr} (h : ¬ O a) : hide O H a = H a := by unfold hide; rw [if_neg h]
theorem hide_some {O : Addr → Prop} {H : Hp} {a : Addr} {o : HO} (h : hide O H a = some o) : ¬ O a ∧ H a = some o := by
  by_cases p : O a
  · rw [hide_none p] at h; cases h
  · rw [hide_at p] at h; exact ⟨p, h⟩
theorem nf_some {x : Option HO} {o : HO} (h : nf x = some o) : x = some o := by
  unfold nf at h
  split at h
  · rename_i u
    cases u with
    | frz ob w => cases w <;> first | exact h | cases h
    | _ => exact h
  · cases h
theorem nf_eq {x : Option HO} {o : HO} (h : nf x = some o) {y : Option HO} (e : y = some o) : nf y = some o := by
  have := nf_some h
  subst e; subst this; exact h
theorem non_same {H : Hp} : Same non H := fun _ _ h => by cases h
theorem hide_same {O : Addr → Prop} {H : Hp} : Same (hide O H) H := fun _ _ h => (hide_some h).2
theorem hide_le {O O' : Addr → Prop} {H H' : Hp} (e : Same H H') (ho : ∀ a o, H a = some o → O' a → O a) : Same (hide O H) (hide O' H') := fun a o h => by
  obtain ⟨h1, h2⟩ := hide_some h
  rw [hide_at fun p => h1 (ho a o h2 p)]
  exact e a o h2
/-- the cases of what plus shows -/
theorem plus_cases {G H H' : Hp} {a : Addr} {o : HO} (h : plus G H H' a = some o) : (H a = none ∧ nf (H' a) = some o) ∨ (isT o = true ∧ H a = some o) ∨ (G a = some o ∧ ∃ u, H a = some u ∧ isT u = false) := by
  unfold plus at h
  split at h
  · exact .inl ⟨by assumption, h⟩
  · rename_i u hu
    split at h
    · rename_i t
      obtain rfl := Option.some.inj h
      exact .inr (.inl ⟨t, hu⟩)
    · rename_i t
      exact .inr (.inr ⟨h, _, hu, by simpa using t⟩)
theorem plus_new {G H H' : Hp} {a : Addr} (h : H a = none) : plus G H H' a = nf (H' a) := by unfold plus; rw [h]
theorem plus_T {G H H' : Hp} {a : Addr} {o : HO} (t : isT o = true) (h : H a = some o) : plus G H H' a = some o := by unfold plus; rw [h]; exact if_pos t
theorem plus_G {G H H' : Hp} {a : Addr} {o : HO} (t : isT o = false) (h : H a = some o) : plus G H H' a = G a := by unfold plus; rw [h]; exact if_neg (by rw [t]; exact Bool.false_ne_true)
theorem plus_old {G H H' : Hp} {a : Addr} {o : HO} (g : G a = some o) (e : Same G H) : plus G H H' a = some o := by
  have := e a o g
  cases t : isT o with
  | true => exact plus_T t this
  | false => rw [plus_G t this]; exact g
theorem plus_same {G H H' : Hp} (e : Same G H) (e' : Same H H') : Same (plus G H H') H' := fun a o h => by
  rcases plus_cases h with ⟨h1, h2⟩ | ⟨_, h1⟩ | ⟨h1, _⟩
  · exact nf_some h2
  · exact e' _ _ h1
  · exact e' _ _ (e _ _ h1)
/-- the heap grows -/
theorem plus_ext {G H H' H'' : Hp} (e : Same H' H'') : Same (plus G H H') (plus G H H'') := fun a o h => by
  rcases plus_cases h with ⟨h1, h2⟩ | ⟨t, h1⟩ | ⟨h1, u, h2, t⟩
  · rw [plus_new h1]; exact nf_eq h2 (e _ _ (nf_some h2))
  · exact plus_T t h1
  · rw [plus_G t h2]; exact h1
theorem plus_mono {G G' H H' : Hp} (e : Same G G') : Same (plus G H H') (plus G' H H') := fun a o h => by
  rcases plus_cases h with ⟨h1, h2⟩ | ⟨t, h1⟩ | ⟨h1, u, h2, t⟩
  · rw [plus_new h1]; exact h2
  · exact plus_T t h1
  · rw [plus_G t h2]; exact e _ _ h1
/-- seen since later is seen since earlier, where G shows no more than the earlier one did -/
theorem plus_back {G0 G H0 H H' : Hp} (h0 : Same H0 H) (hg : Same G (plus G0 H0 H)) (e : Same H H') (g0 : Same G0 H0) : Same (plus G H H') (plus G0 H0 H') := fun a o h => by
  rcases plus_cases h with ⟨h1, h2⟩ | ⟨t, h1⟩ | ⟨h1, u, h2, t⟩
  · have h3 : H0 a = none := by
      cases q : H0 a with
      | none => rfl
      | some u => have := h0 _ _ q; rw [h1] at this; cases this
    rw [plus_new h3]; exact h2
  · cases q : H0 a with
    | none => rw [plus_new q, e _ _ h1]; exact nf_T t
    | some u =>
      have := h0 _ _ q
      rw [h1] at this
      cases this
      exact plus_T t q
  · exact plus_ext e _ _ (hg _ _ h1)
theorem tups_plus {G H H' : Hp} (e : Same H H') : tupsOf H' (plus G H H') := fun a o t h => by
  cases q : H a with
  | none => rw [plus_new q, h]; exact nf_T t
  | some u =>
    have := e _ _ q
    rw [h] at this
    cases this
    exact plus_T t q
theorem tups_hide {O : Addr → Prop} {H : Hp} (h : ∀ a o, isT o = true → H a = some o → ¬ O a) : tupsOf H (hide O H) := fun a o t q => by rw [hide_at (h a o t q)]; exact q

/-! ### slots -/
inductive B where
  /-- data that stands still; true: all new since the entry -/
  | sh (n : Bool) (d : PyData)
  /-- a list of one's own -/
  | own (n : Bool) (a : Addr) (ds : List PyData)
  /-- a dict of one's own -/
  | odic (n : Bool) (a : Addr) (ks : List (PyData × PyData))
  /-- a tuple with lists of one's own in it -/
  | tupo (n : Bool) (xs : List (Sum PyData (Addr × List PyData)))
  /-- a list of one's own with lists of one's own in it -/
  | lso (n : Bool) (t : Addr) (xs : List (Sum PyData (Addr × List PyData)))
def itOws : List (Sum PyData (Addr × List PyData)) → List Addr
  | [] => []
  | .inl _ :: r => itOws r
  | .inr (a, _) :: r => a :: itOws r
def B.ows : B → List Addr
  | .sh _ _ => []
  | .own _ a _ => [a]
  | .odic _ a _ => [a]
  | .tupo _ xs => itOws xs
  | .lso _ t xs => t :: itOws xs
abbrev Sl := List (Option B)
def OF (G : Sl) : Addr → Prop := fun a => ∃ (i : Nat) (b : B), G[i]? = some (some b) ∧ a ∈ b.ows
structure C where
  H0 : Hp
  F : Hp
  Bs : Hp
abbrev Md := Option Bool
noncomputable def gz (c : C) (n : Bool) : Hp := if n then non else c.F
/-- none: all; some false: what stands still; some true: what is new and stands still -/
noncomputable def vis (c : C) (O : Addr → Prop) (m : Md) (H : Hp) : Hp := match m with
  | none => H
  | some n => hide O (plus (gz c n) c.H0 H)
def itData : Sum PyData (Addr × List PyData) → PyData
  | .inl d => d
  | .inr (_, ds) => .list ds
/-- what a slot holds, as one may look at it -/
def B.full : B → PyData
  | .sh _ d => d
  | .own _ _ ds => .list ds
  | .odic _ _ ks => .dict ks
  | .tupo _ xs => .tuple (xs.map itData)
  | .lso _ _ xs => .list (xs.map itData)
def RepIt (K : PySem.W.Frag) (G H : Hp) (v : V) : Sum PyData (Addr × List PyData) → Prop
  | .inl d => Rep K G v d
  | .inr (a, ds) => v = .ref a ∧ ∃ vs, H a = some (.lst vs) ∧ Reps K G vs ds
/-- G: what stands still; H: all -/
def RepB (K : PySem.W.Frag) (G : Bool → Hp) (H : Hp) (v : V) : B → Prop
  | .sh n d => Rep K (G n) v d
  | .own n a ds => v = .ref a ∧ ∃ vs, H a = some (.lst vs) ∧ Reps K (G n) vs ds
  | .odic n a ks => v = .ref a ∧ ∃ kvs, H a = some (.dK kvs) ∧ RepK K (G n) kvs ks
  | .tupo n xs => ∃ t vs, v = .ref t ∧ H t = some (.tup vs) ∧ Paired (RepIt K (G n) H) vs xs
  | .lso n t xs => v = .ref t ∧ ∃ vs, H t = some (.lst vs) ∧ Paired (RepIt K (G n) H) vs xs
structure Sits (K : PySem.W.Frag) (c : C) (G : Sl) (σ : L2.St) (H : Hp) : Prop where
  f0 : Same c.F c.H0
  h0 : Same c.H0 H
  b0 : Same c.Bs H
  fr : ∀ a, OF G a → c.H0 a = none ∧ c.Bs a = none
  mu : ∀ a, OF G a → ∃ o, H a = some o ∧ isT o = false
  dj : ∀ (i j : Nat) (b b' : B) (a : Addr), G[i]? = some (some b) → G[j]? = some (some b') → a ∈ b.ows → a ∈ b'.ows → i = j
  nd : ∀ (i : Nat) (b : B), G[i]? = some (some b) → b.ows.Nodup
  len : σ.length = G.length
  at_ : ∀ (i : Nat) (b : B), G[i]? = some (some b) → ∃ v, σ[i]? = some (some v) ∧ RepB K (fun n => vis c (OF G) (some n) H) H v b
section
variable {c : C} {G G' : Sl} {σ : L2.St} {H H' : Hp} {m : Md} {O O' : Addr → Prop} {v : V} {d : PyData}
theorem gz_same (e : Same c.F c.H0) (n : Bool) : Same (gz c n) c.H0 := by
  unfold gz
  cases n
  · exact e
  · exact non_same
theorem vis_same (f : Same c.F c.H0) (e : Same c.H0 H) : Same (vis c O m H) H := by
  cases m with
  | none => exact Same.refl H
  | some n => exact hide_same.trans (plus_same (gz_same f n) e)
theorem vis_ext (f : Same c.F c.H0) (h0 : Same c.H0 H) (e : Same H H') (ho : ∀ a o, H a = some o → O' a → O a) : Same (vis c O m H) (vis c O' m H') := by
  cases m with
  | none => exact e
  | some n =>
    refine hide_le (plus_ext e) fun a o h p => ho a o ?_ p
    exact plus_same (gz_same f n) h0 a o h
theorem vis_le (n : Bool) : Same (vis c O (some true) H) (vis c O (some n) H) := by
  cases n
  · exact hide_le (plus_mono non_same) fun _ _ _ p => p
  · exact Same.refl _
/-- data without lists is seen by whoever sees tuples -/
theorem vis_tups (h0 : Same c.H0 H) (hm : ∀ a, O a → ∃ o, H a = some o ∧ isT o = false) : tupsOf H (vis c O m H) := by
  cases m with
  | none => exact fun _ _ _ h => h
  | some n =>
    intro a o t h
    have := tups_plus (G := gz c n) h0 a o t h
    show hide O _ a = _
    rw [hide_at fun p => ?_]
    · exact this
    · obtain ⟨o, h1, h2⟩ := hm a p
      rw [h] at h1
      cases h1
      rw [t] at h2
      cases h2
theorem RepIt.mono {K1 K2 H1 H2 : Hp} (e : Same K1 K2) : ∀ {x : Sum PyData (Addr × List PyData)}, (∀ a ∈ itOws [x], ∀ xs, H1 a = some (.lst xs) → H2 a = some (.lst xs)) → RepIt K K1 H1 v x → RepIt K K2 H2 v x
  | .inl d, _, h => Rep.mono e h
  | .inr (a, ds), k, ⟨h1, vs, h2, h3⟩ => ⟨h1, vs, k a (by simp [itOws]) vs h2, Reps.mono e h3⟩
theorem RepB.mono {K1 K2 : Bool → Hp} {H1 H2 : Hp} {b : B} (e : ∀ n, Same (K1 n) (K2 n)) (k : Same H1 H2) (h : RepB K K1 H1 v b) : RepB K K2 H2 v b := by
  cases b with
  | sh n d => exact Rep.mono (e n) h
  | own n a ds => obtain ⟨h1, vs, h2, h3⟩ := h; exact ⟨h1, vs, k _ _ h2, Reps.mono (e n) h3⟩
  | odic n a ks => obtain ⟨h1, vs, h2, h3⟩ := h; exact ⟨h1, vs, k _ _ h2, RepK.mono (e n) h3⟩
  | tupo n xs =>
    obtain ⟨t, vs, h1, h2, h3⟩ := h
    exact ⟨t, vs, h1, k _ _ h2, Paired.mapP h3 fun v x r => RepIt.mono (e n) (fun a _ xs q => k _ _ q) r⟩
  | lso n t xs =>
    obtain ⟨h1, vs, h2, h3⟩ := h
    exact ⟨h1, vs, k _ _ h2, Paired.mapP h3 fun v x r => RepIt.mono (e n) (fun a _ xs q => k _ _ q) r⟩
/-- a look at it -/
theorem RepB.full {W : Bool → Hp} {b : B} (e : ∀ n, Same (W n) H) (h : RepB K W H v b) : Rep K H v b.full := by
  cases b with
  | sh n d => exact Rep.mono (e n) h
  | own n a ds => obtain ⟨rfl, vs, h2, h3⟩ := h; exact .lst (.inl (.inl h2)) (Reps.mono (e n) h3)
  | odic n a ks => obtain ⟨rfl, vs, h2, h3⟩ := h; exact .dic (.inl h2) (RepK.mono (e n) h3)
  | tupo n xs =>
    obtain ⟨t, vs, rfl, h2, h3⟩ := h
    refine .tup (.inl h2) ?_
    clear h2
    induction h3 with
    | nil => exact .nil
    | @cons v x vs xs r _ ih =>
      refine .cons ?_ ih
      cases x with
      | inl d => exact Rep.mono (e n) r
      | inr p => obtain ⟨a, ds⟩ := p; obtain ⟨rfl, ws, h4, h5⟩ := r; exact .lst (.inl (.inl h4)) (Reps.mono (e n) h5)
  | lso n t xs =>
    obtain ⟨rfl, vs, h2, h3⟩ := h
    refine .lst (.inl (.inl h2)) ?_
    clear h2
    induction h3 with
    | nil => exact .nil
    | @cons v x vs xs r _ ih =>
      refine .cons ?_ ih
      cases x with
      | inl d => exact Rep.mono (e n) r
      | inr p => obtain ⟨a, ds⟩ := p; obtain ⟨rfl, ws, h4, h5⟩ := r; exact .lst (.inl (.inl h4)) (Reps.mono (e n) h5)
theorem Sits.ext (e : Sits K c G σ H) (s : Same H H') : Sits K c G σ H' where
  f0 := e.f0
  h0 := e.h0.trans s
  b0 := e.b0.trans s
  fr := e.fr
  mu := fun a h => let ⟨o, h1, h2⟩ := e.mu a h; ⟨o, s _ _ h1, h2⟩
  dj := e.dj
  nd := e.nd
  len := e.len
  at_ := fun i b h => by
    obtain ⟨v, h1, h2⟩ := e.at_ i b h
    exact ⟨v, h1, h2.mono (fun n => vis_ext e.f0 e.h0 s fun _ _ _ p => p) s⟩
theorem Sits.vsame (e : Sits K c G σ H) : Same (vis c (OF G) m H) H := vis_same e.f0 e.h0
theorem Sits.vext (e : Sits K c G σ H) (s : Same H H') : Same (vis c (OF G) m H) (vis c (OF G) m H') := vis_ext e.f0 e.h0 s fun _ _ _ p => p
theorem Sits.imm (e : Sits K c G σ H) (h : Rep K H v d) (hi : imm d = true) : Rep K (vis c (OF G) m H) v d := Rep.imm (vis_tups e.h0 e.mu) h hi
/-- another context over the same slots: a later base -/
theorem set_at {G : Sl} {i j : Nat} {x : Option B} {b : B} (h : (G.set i x)[j]? = some (some b)) : (j = i ∧ x = some b) ∨ (j ≠ i ∧ G[j]? = some (some b)) := by
  by_cases e : i = j
  · subst e
    by_cases hl : i < G.length
    · rw [List.getElem?_set_self hl] at h
      exact .inl ⟨rfl, Option.some.inj h⟩
    · rw [List.getElem?_eq_none (by simpa using hl)] at h; cases h
  · rw [List.getElem?_set_ne e] at h
    exact .inr ⟨fun q => e q.symm, h⟩
/-- slot i gets b: its lists and dicts of its own are new, or were the slot's ahead, or were taken out of the slots -/
theorem Sits.put {i : Nat} {b : B} (e : Sits K c G σ H) (s : Same H H') (hi : i < G.length)
    (hb : RepB K (fun n => vis c (OF (G.set i (some b))) (some n) H') H' v b) (hn : b.ows.Nodup)
    (hf : ∀ a ∈ b.ows, (H a = none ∧ ∃ o, H' a = some o ∧ isT o = false)) : Sits K c (G.set i (some b)) (σ.set i (some v)) H' := by
  have sub : ∀ a, OF (G.set i (some b)) a → OF G a ∨ a ∈ b.ows := fun a ⟨j, b', h1, h2⟩ => by
    rcases set_at h1 with ⟨_, h⟩ | ⟨_, h⟩
    · cases h; exact .inr h2
    · exact .inl ⟨j, b', h, h2⟩
  have nn : ∀ {K : Hp} {a : Addr}, Same K H → H a = none → K a = none := fun {K a} k h => by
    cases q : K a with
    | none => rfl
    | some u => have := k _ _ q; rw [h] at this; cases this
  have ho : ∀ a o, H a = some o → OF (G.set i (some b)) a → OF G a := fun a o h p => by
    rcases sub a p with q | q
    · exact q
    · rw [(hf a q).1] at h; cases h
  refine ⟨e.f0, e.h0.trans s, e.b0.trans s, fun a h => ?_, fun a h => ?_, fun j k b1 b2 a h1 h2 h3 h4 => ?_, fun j b' h => ?_, by simp [e.len], fun j b' h => ?_⟩
  · rcases sub a h with q | q
    · exact e.fr a q
    · exact ⟨nn e.h0 (hf a q).1, nn e.b0 (hf a q).1⟩
  · rcases sub a h with q | q
    · obtain ⟨o, h1, h2⟩ := e.mu a q; exact ⟨o, s _ _ h1, h2⟩
    · exact (hf a q).2
  · have old : ∀ {j : Nat} {b' : B}, G[j]? = some (some b') → a ∈ b'.ows → a ∈ b.ows → False := fun {j b'} q r z => by
      obtain ⟨o, h5, _⟩ := e.mu a ⟨j, b', q, r⟩
      rw [(hf a z).1] at h5; cases h5
    rcases set_at h1 with ⟨rfl, q⟩ | ⟨hj, q⟩ <;> rcases set_at h2 with ⟨rfl, q'⟩ | ⟨hk, q'⟩
    · rfl
    · cases q; exact (old q' h4 h3).elim
    · cases q'; exact (old q h3 h4).elim
    · exact e.dj j k b1 b2 a q q' h3 h4
  · rcases set_at h with ⟨_, q⟩ | ⟨_, q⟩
    · cases q; exact hn
    · exact e.nd j b' q
  · rcases set_at h with ⟨rfl, q⟩ | ⟨hj, q⟩
    · cases q
      exact ⟨v, by rw [List.getElem?_set_self (by rw [e.len]; exact hi)], hb⟩
    · obtain ⟨w, h1, h2⟩ := e.at_ j b' q
      exact ⟨w, by rw [List.getElem?_set_ne (fun z => hj z.symm)]; exact h1, h2.mono (fun n => vis_ext e.f0 e.h0 s ho) s⟩
/-- a slot is forgotten -/
theorem Sits.drop {i : Nat} (e : Sits K c G σ H) : Sits K c (G.set i none) σ H := by
  have at' : ∀ {j b}, (G.set i none)[j]? = some (some b) → G[j]? = some (some b) := fun {j b} h => by
    rcases set_at h with ⟨_, q⟩ | ⟨_, q⟩
    · cases q
    · exact q
  have sub : ∀ a, OF (G.set i none) a → OF G a := fun a ⟨j, b', h1, h2⟩ => ⟨j, b', at' h1, h2⟩
  refine ⟨e.f0, e.h0, e.b0, fun a h => e.fr a (sub a h), fun a h => e.mu a (sub a h), fun j k b1 b2 a h1 h2 => e.dj j k b1 b2 a (at' h1) (at' h2), fun j b' h => e.nd j b' (at' h), by simp [e.len], fun j b' h => ?_⟩
  obtain ⟨w, h1, h2⟩ := e.at_ j b' (at' h)
  exact ⟨w, h1, h2.mono (fun n => vis_ext e.f0 e.h0 (Same.refl H) fun a _ _ p => sub a p) (Same.refl H)⟩
/-- less is known: each slot as it was, or forgotten -/
def Les (G G' : Sl) : Prop := G'.length = G.length ∧ ∀ (i : Nat) (b : B), G'[i]? = some (some b) → G[i]? = some (some b)
theorem Sits.less (e : Sits K c G σ H) (l : Les G G') : Sits K c G' σ H := by
  have sub : ∀ a, OF G' a → OF G a := fun a ⟨j, b', h1, h2⟩ => ⟨j, b', l.2 _ _ h1, h2⟩
  refine ⟨e.f0, e.h0, e.b0, fun a h => e.fr a (sub a h), fun a h => e.mu a (sub a h), fun j k b1 b2 a h1 h2 => e.dj j k b1 b2 a (l.2 _ _ h1) (l.2 _ _ h2), fun j b' h => e.nd j b' (l.2 _ _ h), by rw [e.len, l.1], fun j b' h => ?_⟩
  obtain ⟨w, h1, h2⟩ := e.at_ j b' (l.2 _ _ h)
  exact ⟨w, h1, h2.mono (fun n => vis_ext e.f0 e.h0 (Same.refl H) fun a _ _ p => sub a p) (Same.refl H)⟩
/-- a list or dict of one's own is changed in its place -/
theorem Sits.write {i : Nat} {b b' : B} {a : Addr} {o : HO} (e : Sits K c G σ H) (hi : G[i]? = some (some b)) (hw : b'.ows = b.ows) (ha : a ∈ b.ows) (hm : isT o = false)
    (hb : ∀ v, RepB K (fun n => vis c (OF G) (some n) H) H v b → RepB K (fun n => vis c (OF G) (some n) H) (upd H a o) v b') : Sits K c (G.set i (some b')) σ (upd H a o) := by
  have hl : i < G.length := (List.getElem?_eq_some_iff.mp hi).1
  have eq : OF (G.set i (some b')) = OF G := by
    funext x
    refine propext ⟨fun ⟨j, b1, h1, h2⟩ => ?_, fun ⟨j, b1, h1, h2⟩ => ?_⟩
    · rcases set_at h1 with ⟨rfl, q⟩ | ⟨_, q⟩
      · cases q; exact ⟨j, b, hi, hw ▸ h2⟩
      · exact ⟨j, b1, q, h2⟩
    · by_cases z : i = j
      · subst z
        rw [hi] at h1; cases h1
        exact ⟨i, b', by rw [List.getElem?_set_self hl], hw ▸ h2⟩
      · exact ⟨j, b1, by rw [List.getElem?_set_ne z]; exact h1, h2⟩
  have own : OF G a := ⟨i, b, hi, ha⟩
  have hv : ∀ n, vis c (OF G) (some n) (upd H a o) = vis c (OF G) (some n) H := fun n => by
    funext x
    show hide (OF G) _ x = hide (OF G) _ x
    by_cases p : OF G x
    · rw [hide_none p, hide_none p]
    · rw [hide_at p, hide_at p]
      have : upd H a o x = H x := upd_ne fun z => p (z ▸ own)
      unfold plus
      rw [this]
  have st : ∀ {K : Hp}, K a = none → Same K H → Same K (upd H a o) := fun {K} k s x u h => by
    rw [upd_ne (ne_of_none h k)]; exact s _ _ h
  refine ⟨e.f0, st (e.fr a own).1 e.h0, st (e.fr a own).2 e.b0, fun x h => e.fr x (eq ▸ h), fun x h => ?_, fun j k b1 b2 x h1 h2 h3 h4 => ?_, fun j b1 h => ?_, by simp [e.len], fun j b1 h => ?_⟩
  · by_cases z : x = a
    · subst z; exact ⟨o, upd_same, hm⟩
    · obtain ⟨u, h1, h2⟩ := e.mu x (eq ▸ h)
      exact ⟨u, by rw [upd_ne z]; exact h1, h2⟩
  · have bk : ∀ {j : Nat} {b1 : B}, (G.set i (some b'))[j]? = some (some b1) → x ∈ b1.ows → ∃ b2, G[j]? = some (some b2) ∧ x ∈ b2.ows := fun {j b1} q r => by
      rcases set_at q with ⟨rfl, q'⟩ | ⟨_, q'⟩
      · cases q'; exact ⟨b, hi, hw ▸ r⟩
      · exact ⟨b1, q', r⟩
    obtain ⟨c1, q1, r1⟩ := bk h1 h3
    obtain ⟨c2, q2, r2⟩ := bk h2 h4
    exact e.dj j k c1 c2 x q1 q2 r1 r2
  · rcases set_at h with ⟨_, q⟩ | ⟨_, q⟩
    · cases q; rw [hw]; exact e.nd i b hi
    · exact e.nd j b1 q
  · have hv' : (fun n => vis c (OF G) (some n) (upd H a o)) = fun n => vis c (OF G) (some n) H := funext hv
    rw [eq, hv']
    rcases set_at h with ⟨rfl, q⟩ | ⟨hj, q⟩
    · cases q
      obtain ⟨w, h1, h2⟩ := e.at_ j b hi
      refine ⟨w, h1, ?_⟩
      exact hb w h2
    · obtain ⟨w, h1, h2⟩ := e.at_ j b1 q
      refine ⟨w, h1, ?_⟩
      have keep : ∀ x ∈ b1.ows, x ≠ a := fun x hx z => hj (e.dj j i b1 b x q hi hx (z ▸ ha))
      cases b1 with
      | sh n d => exact h2
      | own n x ds =>
        obtain ⟨r1, vs, r2, r3⟩ := h2
        exact ⟨r1, vs, by rw [upd_ne (keep x (by simp [B.ows]))]; exact r2, r3⟩
      | odic n x ks =>
        obtain ⟨r1, vs, r2, r3⟩ := h2
        exact ⟨r1, vs, by rw [upd_ne (keep x (by simp [B.ows]))]; exact r2, r3⟩
      | tupo n xs =>
        obtain ⟨t, vs, r1, r2, r3⟩ := h2
        refine ⟨t, vs, r1, ?_, ?_⟩
        · rw [upd_ne fun z => ?_]
          · exact r2
          · obtain ⟨u, h5, h6⟩ := e.mu a own
            rw [← z, r2] at h5
            cases h5
            cases h6
        · have : ∀ x ∈ itOws xs, x ≠ a := keep
          clear r2 q h hb keep
          induction r3 with
          | nil => exact .nil
          | @cons v x vs xs r _ ih =>
            refine .cons (RepIt.mono (Same.refl _) (fun y hy ws q => ?_) r) (ih fun y hy => this y ?_)
            · rw [upd_ne (this y ?_)]
              · exact q
              · cases x with
                | inl d => simp [itOws] at hy
                | inr p => obtain ⟨z, ds⟩ := p; simp [itOws] at hy ⊢; exact .inl hy
            · cases x with
              | inl d => exact hy
              | inr p => obtain ⟨z, ds⟩ := p; exact List.mem_cons_of_mem _ hy
      | lso n t xs =>
        obtain ⟨r1, vs, r2, r3⟩ := h2
        refine ⟨r1, vs, by rw [upd_ne (keep t (by simp [B.ows]))]; exact r2, ?_⟩
        · have : ∀ x ∈ itOws xs, x ≠ a := fun x hx => keep x (by simp [B.ows, hx])
          clear r2 q h hb keep
          induction r3 with
          | nil => exact .nil
          | @cons v x vs xs r _ ih =>
            refine .cons (RepIt.mono (Same.refl _) (fun y hy ws q => ?_) r) (ih fun y hy => this y ?_)
            · rw [upd_ne (this y ?_)]
              · exact q
              · cases x with
                | inl d => simp [itOws] at hy
                | inr p => obtain ⟨z, ds⟩ := p; simp [itOws] at hy ⊢; exact .inl hy
            · cases x with
              | inl d => exact hy
              | inr p => obtain ⟨z, ds⟩ := p; exact List.mem_cons_of_mem _ hy
end
end
end TB

/-! TB rules: judgements over slots and data, one lemma a construct. -/
namespace TB
open PySem PySem.Spec PyProof.Rows L2
section
variable {K : PySem.W.Frag}

/-! ### judgements -/
def DE (K : PySem.W.Frag) (m : Md) (te : TE) (G : Sl) (d : PyData) : Prop := ∀ (c : C) (σ : L2.St) (H : Hp), Sits K c G σ H → ∀ Q : VK, (∀ v H', Same H H' → Rep K (vis c (OF G) m H') v d → Q v H') → te σ H Q
def DA (K : PySem.W.Frag) (m : Md) (ta : TA) (G : Sl) (ds : List PyData) : Prop := ∀ (c : C) (σ : L2.St) (H : Hp), Sits K c G σ H → ∀ Q : List V → Hp → Prop, (∀ vs H', Same H H' → Reps K (vis c (OF G) m H') vs ds → Q vs H') → ta σ H Q
def DT (K : PySem.W.Frag) (tt : TT) (G : Sl) (b : Bool) : Prop := ∀ (c : C) (σ : L2.St) (H : Hp), Sits K c G σ H → ∀ Q : Bool → Hp → Prop, (∀ H', Same H H' → Q b H') → tt σ H Q
def DO (K : PySem.W.Frag) (to : TO) (G : Sl) (o : Option Int) : Prop := ∀ (c : C) (σ : L2.St) (H : Hp), Sits K c G σ H → ∀ Q : Option Int → Hp → Prop, (∀ H', Same H H' → Q o H') → to σ H Q
/-- what a def hands back, by data -/
inductive R where
  | val (n : Bool) (d : PyData)
  | own (n : Bool) (ds : List PyData)
  | odic (n : Bool) (ks : List (PyData × PyData))
  | tupo (n : Bool) (xs : List (Sum PyData (List PyData)))
  | lso (n : Bool) (xs : List (Sum PyData (List PyData)))
def itR : Sum PyData (Addr × List PyData) → Sum PyData (List PyData)
  | .inl d => .inl d
  | .inr (_, ds) => .inr ds
def B.strip : B → R
  | .sh n d => .val n d
  | .own n _ ds => .own n ds
  | .odic n _ ks => .odic n ks
  | .tupo n xs => .tupo n (xs.map itR)
  | .lso n _ xs => .lso n (xs.map itR)
def itP : Sum PyData (List PyData) → PyData
  | .inl d => d
  | .inr ds => .list ds
def R.full : R → PyData
  | .val _ d => d
  | .own _ ds => .list ds
  | .odic _ ks => .dict ks
  | .tupo _ xs => .tuple (xs.map itP)
  | .lso _ xs => .list (xs.map itP)
def R.nw : R → Bool
  | .val n _ => n
  | .own n _ => n
  | .odic n _ => n
  | .tupo n _ => n
  | .lso n _ => n
theorem full_strip : ∀ b : B, b.strip.full = b.full
  | .sh _ _ => rfl
  | .own _ _ _ => rfl
  | .odic _ _ _ => rfl
  | .tupo _ xs => by
    show PyData.tuple ((xs.map itR).map itP) = PyData.tuple (xs.map itData)
    rw [List.map_map]
    congr 1
    refine List.map_congr_left fun x _ => ?_
    cases x with
    | inl d => rfl
    | inr p => rfl
  | .lso _ _ xs => by
    show PyData.list ((xs.map itR).map itP) = PyData.list (xs.map itData)
    rw [List.map_map]
    congr 1
    refine List.map_congr_left fun x _ => ?_
    cases x with
    | inl d => rfl
    | inr p => rfl
noncomputable def gq (P : Hp) (n : Bool) : Hp := if n then non else P
/-- v holds r: lists of its own are new since H; what stands still is seen by P, or new -/
def RetR (K : PySem.W.Frag) (P H H' : Hp) (v : V) (r : R) : Prop :=
  ∃ b : B, b.strip = r ∧ b.ows.Nodup ∧ (∀ a ∈ b.ows, H a = none) ∧ RepB K (fun n => hide (fun a => a ∈ b.ows) (plus (gq P n) H H')) H' v b
/-- an expression hands back r -/
def DR (K : PySem.W.Frag) (te : TE) (G : Sl) (r : R) : Prop := ∀ (c : C) (σ : L2.St) (H : Hp), Sits K c G σ H → ∀ Q : VK, (∀ v H', Same H H' → (∃ b : B, b.strip = r ∧ b.ows.Nodup ∧ (∀ a ∈ b.ows, H a = none) ∧
  RepB K (fun n => hide (fun a => a ∈ b.ows) (vis c (OF G) (some n) H')) H' v b) → Q v H') → te σ H Q
structure Post where
  nx : Sl → Prop := fun _ => False
  rt : R → Prop := fun _ => False
  bk : Sl → Prop := fun _ => False
  ct : Sl → Prop := fun _ => False
def DS (K : PySem.W.Frag) (ts : TS) (G : Sl) (P : Post) : Prop := ∀ (c : C) (σ : L2.St) (H : Hp) (D : Ends), Sits K c G σ H →
  (∀ G' σ' H', P.nx G' → Sits K c G' σ' H' → D.nx σ' H') → (∀ r v H', P.rt r → Same c.H0 H' → RetR K c.F c.H0 H' v r → D.rt v H') →
  (∀ G' σ' H', P.bk G' → Sits K c G' σ' H' → D.bk σ' H') → (∀ G' σ' H', P.ct G' → Sits K c G' σ' H' → D.ct σ' H') → ts D σ H

section
variable {m m' : Md} {n : Bool} {te ta tb tx : TE} {tt tu : TT} {G : Sl} {d x y z : PyData} {ds es : List PyData} {i j : Nat} {c : C} {σ : L2.St} {H H' : Hp} {v : V}

/-! ### helpers -/
theorem non_of {K1 K2 : Hp} {a : Addr} (e : Same K1 K2) (h : K2 a = none) : K1 a = none := by
  cases q : K1 a with
  | none => rfl
  | some u => have := e _ _ q; rw [h] at this; cases this
theorem Sits.nof (e : Sits K c G σ H) {a : Addr} (h : H a = none) : ¬ OF G a := fun p => by
  obtain ⟨o, h1, _⟩ := e.mu a p
  rw [h] at h1; cases h1
/-- what is seen, and what is new -/
theorem Sits.plus (e : Sits K c G σ H) (s : Same H H') : Same (plus (vis c (OF G) m H) H H') (vis c (OF G) m H') := by
  cases m with
  | none => exact plus_same (Same.refl H) s
  | some k =>
    intro a o h
    show hide (OF G) _ a = some o
    rcases plus_cases h with ⟨h1, h2⟩ | ⟨t, h1⟩ | ⟨h1, _⟩
    · rw [hide_at (e.nof h1), plus_new (non_of e.h0 h1)]; exact h2
    · rw [hide_at fun p => ?_]
      · cases q : c.H0 a with
        | none => rw [plus_new q, s _ _ h1]; exact nf_T t
        | some u =>
          have := e.h0 _ _ q
          rw [h1] at this; cases this
          exact plus_T t q
      · obtain ⟨o, h3, h4⟩ := e.mu a p
        rw [h1] at h3; cases h3; rw [t] at h4; cases h4
    · exact (vis_ext (m := some k) e.f0 e.h0 s fun _ _ _ p => p) a o h1
theorem Sits.modes (e : Sits K c G σ H) (n : Bool) : Same (vis c (OF G) (some true) H) (vis c (OF G) (some n) H) := vis_le n
/-- a mode may be read where another one holds -/
def okM : Md → Bool → Bool
  | none, _ => true
  | some true, n => n
  | some false, _ => true
theorem vis_ok (e : Sits K c G σ H) (h : okM m n = true) : Same (vis c (OF G) (some n) H) (vis c (OF G) m H) := by
  cases m with
  | none => exact e.vsame
  | some k =>
    cases k
    · cases n
      · exact Same.refl _
      · exact vis_le false
    · cases n
      · cases h
      · exact Same.refl _

/-! ### values -/
theorem de_sh (h : G[i]? = some (some (.sh n d))) (hm : okM m n = true) : DE K m (tVar i) G d := fun c σ H e Q q => by
  obtain ⟨v, h1, h2⟩ := e.at_ i _ h
  exact ⟨v, h1, q v H (Same.refl H) (Rep.mono (vis_ok e hm) h2)⟩
theorem de_full {b : B} (h : G[i]? = some (some b)) : DE K none (tVar i) G b.full := fun c σ H e Q q => by
  obtain ⟨v, h1, h2⟩ := e.at_ i _ h
  exact ⟨v, h1, q v H (Same.refl H) (h2.full fun n => e.vsame)⟩
theorem de_own {a : Addr} (h : G[i]? = some (some (.own n a ds))) : DE K none (tVar i) G (.list ds) := de_full h
theorem de_odic {a : Addr} {ks : List (PyData × PyData)} (h : G[i]? = some (some (.odic n a ks))) : DE K none (tVar i) G (.dict ks) := de_full h
theorem de_imm (h : DE K none te G d) (hi : imm d = true) : DE K m te G d := fun c σ H e Q q => h c σ H e Q fun v H' s r => q v H' s ((e.ext s).imm r hi)
theorem de_pk (h : DE K (some n) te G d) : DE K none te G d := fun c σ H e Q q => h c σ H e Q fun v H' s r => q v H' s (Rep.mono (e.ext s).vsame r)
theorem de_nw (h : DE K (some true) te G d) : DE K m te G d := fun c σ H e Q q => h c σ H e Q fun v H' s r => q v H' s (Rep.mono (vis_ok (e.ext s) (by cases m with | none => rfl | some k => cases k <;> rfl)) r)
theorem de_int {i : Int} : DE K m (tC (.int i)) G (.int i) := fun c σ H e Q q => q _ H (Same.refl H) (.int i)
theorem de_bl {b : Bool} : DE K m (tC (.bl b)) G (.bool b) := fun c σ H e Q q => q _ H (Same.refl H) (.bl b)
theorem de_str {s : Str} : DE K m (tC (.str s)) G (.str s) := fun c σ H e Q q => q _ H (Same.refl H) (.str s)
theorem de_non : DE K m (tC .non) G .none := fun c σ H e Q q => q _ H (Same.refl H) .non
theorem de_to {d' : PyData} (h : DE K m te G d) (e : d = d') : DE K m te G d' := e ▸ h
theorem dt_to {b b' : Bool} (h : DT K tt G b) (e : b = b') : DT K tt G b' := e ▸ h
theorem da_nil : DA K m tNil G [] := fun c σ H e Q q => q _ H (Same.refl H) .nil
theorem da_cons {tr : TA} (h : DE K m te G d) (hr : DA K m tr G ds) : DA K m (tCons te tr) G (d :: ds) := fun c σ H e Q q =>
  h c σ H e _ fun v H1 s1 r1 => hr c σ H1 (e.ext s1) _ fun vs H2 s2 r2 => q _ H2 (s1.trans s2) (.cons (Rep.mono ((e.ext s1).vext s2) r1) r2)
theorem da_pk {t : TA} (h : DA K (some n) t G ds) : DA K none t G ds := fun c σ H e Q q => h c σ H e Q fun v H' s r => q v H' s (Reps.mono (e.ext s).vsame r)

/-! ### operations -/
/-- by data: P sees the operands; the result is seen by P, or new -/
def Opd (K : PySem.W.Frag) (r : R2) (x y z : PyData) : Prop := ∀ (P H : Hp) (v u : V) (Q : VK), Same P H → Rep K P v x → Rep K P u y → (∀ w H', Same H H' → Rep K (plus P H H') w z → Q w H') → r v u H Q
theorem de_op {r : R2} (hr : Opd K r x y z) (ha : DE K m ta G x) (hb : DE K m tb G y) : DE K m (tOp r ta tb) G z := fun c σ H e Q q =>
  ha c σ H e _ fun v H1 s1 r1 => hb c σ H1 (e.ext s1) _ fun u H2 s2 r2 => hr _ H2 v u _ ((e.ext s1).ext s2).vsame (Rep.mono ((e.ext s1).vext s2) r1) r2 fun w H3 s3 r3 =>
    q w H3 ((s1.trans s2).trans s3) (Rep.mono (((e.ext s1).ext s2).plus s3) r3)
/-- a value without lists -/
theorem de_op0 {r : R2} (hr : Opd K r x y z) (hz : imm z = true) (ha : DE K none ta G x) (hb : DE K none tb G y) : DE K m (tOp r ta tb) G z := de_imm (de_op hr ha hb) hz
theorem rep_imm {P H : Hp} {w : V} (h : Rep K non w z) : Rep K (plus P H H') w z := Rep.mono (fun _ _ q => by cases q) h
theorem opd_I0 {g : Int → Int → V} {i j : Int} (hz : Rep K non (g i j) z) : Opd K (rI0 g) (.int i) (.int j) z := fun P H v u Q s r1 r2 q => by
  cases r1; cases r2
  exact ⟨i, j, rfl, rfl, q _ H (Same.refl H) (rep_imm hz)⟩
theorem opd_I {C : Int → Int → Prop} {g : Int → Int → V} {i j : Int} (hc : C i j) (hz : Rep K non (g i j) z) : Opd K (rI C g) (.int i) (.int j) z := fun P H v u Q s r1 r2 q => by
  cases r1; cases r2
  exact ⟨i, j, rfl, rfl, hc, q _ H (Same.refl H) (rep_imm hz)⟩
/-- a new list, a new tuple -/
theorem rep_newL {P H : Hp} {p : Addr} {vs : List V} (hp : H p = none) (h : Reps K P vs ds) (s : Same P H) : Rep K (plus P H (upd H p (.lst vs))) (.ref p) (.list ds) :=
  .lst (.inl (.inl (by rw [plus_new hp, upd_same]; rfl))) (Reps.mono (fun a o q => plus_old q s) h)
theorem rep_newT {P H : Hp} {p : Addr} {vs : List V} (hp : H p = none) (h : Reps K P vs ds) (s : Same P H) : Rep K (plus P H (upd H p (.tup vs))) (.ref p) (.tuple ds) :=
  .tup (.inl (by rw [plus_new hp, upd_same]; rfl)) (Reps.mono (fun a o q => plus_old q s) h)
theorem same_new {p : Addr} {o : HO} (h : H p = none) : Same H (upd H p o) := fun a u e => by
  rw [upd_ne (ne_of_none e h)]; exact e
theorem rep_old {P H : Hp} {w : V} (h : Rep K P w z) (s : Same P H) : Rep K (plus P H H) w z := Rep.mono (fun a o q => plus_old q s) h

/-! + -/
def rAddI : R2 := rI0 fun i j => .int (i + j)
def rAddS : R2 := fun x y H Q => ∃ i j, x = .str i ∧ y = .str j ∧ i.length + j.length ≤ sizeLine ∧ Q (.str (i ++ j)) H
theorem rd_lst {P H : Hp} {a : Addr} {xs : List V} (s : Same P H) (h : SqL K P a xs) : SqL K H a xs := Same.seq s h
theorem rd_tup {P H : Hp} {a : Addr} {xs : List V} (s : Same P H) (h : Rd P a (.tup xs)) : SqT K H a xs := .inl (Rd.same s h)
/-- lists, also locked ones, also the module's -/
def rCatQ (K : PySem.W.Frag) : R2 := fun x y H Q => ∃ l b xs zs, x = .ref l ∧ y = .ref b ∧ SqL K H l xs ∧ SqL K H b zs ∧ xs.length + zs.length ≤ sizeLine ∧ ∀ p, H p = none → Q (.ref p) (upd H p (.lst (xs ++ zs)))
theorem op_catQ {X : Cx} : OpR X (binaryOp .Add) (rCatQ X.K) := by
  intro pins s σ H x y v u Q I rx ry h
  obtain ⟨l, b, xs, zs, rfl, rfl, hH, hB, hz, q⟩ := h
  cases rx
  cases ry
  obtain ⟨its, r, pl, _⟩ := I.list hH
  obtain ⟨its2, r2, pl2, _⟩ := I.list hB
  have hl := r.length
  have hl2 := r2.length
  obtain ⟨⟨cls, dd, data, sl⟩, ho, hc, n, hd⟩ := pl.isList
  obtain ⟨⟨cls2, dd2, data2, sl2⟩, ho2, hc2, n2, hd2⟩ := pl2.isList
  simp only at hc hd hc2 hd2
  subst hc hd hc2 hd2
  have e : its.toArray ++ its2.toArray = (its ++ its2).toArray := by simp
  refine concat_meets ⟨_, ho, rfl⟩ ⟨_, ho2, rfl⟩ noFill_list_add seq_list_add PySem.F.slot_list_add PySem.F.entry_list_add (PySem.F.args_list_add_2 _ _) (list_addW l b its.toArray its2.toArray n n2 dd dd2 sl sl2 (by simp; omega)) ⟨ho, ho2, ?_⟩
  rw [e]
  exact ⟨.ref _, _, I.lnew (t' := s.toks) (r.append r2) (by rw [List.length_append]; omega), rfl, q _ I.fresh⟩
end
section
variable {m m' : Md} {n : Bool} {te ta tb tx : TE} {tt tu : TT} {G : Sl} {d x y z : PyData} {ds es : List PyData} {i j : Nat} {c : C} {σ : L2.St} {H H' : Hp} {v : V}
def rPlusQ (K : PySem.W.Frag) : R2 := fun x y H Q => (rAddI x y H Q ∨ rCatQ K x y H Q) ∨ rCatA K x y H Q ∨ rAddS x y H Q
theorem op_plusQ {X : Cx} : OpR X (binaryOp .Add) (rPlusQ X.K) := OpR.or (OpR.or op_add op_catQ) (OpR.or op_catA op_add_str)
theorem opq_add {i j : Int} : Opd K (rPlusQ K) (.int i) (.int j) (.int (i + j)) := fun P H v u Q s r1 r2 q => .inl (.inl (opd_I0 (g := fun i j => .int (i + j)) (.int _) P H v u Q s r1 r2 q))
theorem opq_catT (hl : ds.length + es.length ≤ 100000) : Opd K (rPlusQ K) (.tuple ds) (.tuple es) (.tuple (ds ++ es)) := fun P H v u Q s r1 r2 q => by
  cases r1 with
  | @tup a xs _ h1 r1 =>
    cases r2 with
    | @tup b ys _ h2 r2 =>
      refine .inr (.inl ⟨a, b, xs, ys, rfl, rfl, rd_tup s h1, rd_tup s h2, (by rw [Reps.length r1, Reps.length r2]; exact Nat.le_trans hl (by decide)), fun hx => ?_, fun hx hy => ?_, fun hx hy p hp => ?_⟩)
      · subst hx; cases r1; exact q _ H (Same.refl H) (rep_old (.tup h2 r2) s)
      · subst hy; cases r2; rw [List.append_nil] at q; exact q _ H (Same.refl H) (rep_old (.tup h1 r1) s)
      · exact q _ _ (same_new hp) (rep_newT hp (r1.append r2) s)
theorem opq_cat (hl : ds.length + es.length ≤ 100000) : Opd K (rPlusQ K) (.list ds) (.list es) (.list (ds ++ es)) := fun P H v u Q s r1 r2 q => by
  cases r1 with
  | @lst a xs _ h1 r1 =>
    cases r2 with
    | @lst b ys _ h2 r2 =>
      exact .inl (.inr ⟨a, b, xs, ys, rfl, rfl, rd_lst s h1, rd_lst s h2, (by rw [Reps.length r1, Reps.length r2]; exact Nat.le_trans hl (by decide)), fun p hp => q _ _ (same_new hp) (rep_newL hp (r1.append r2) s)⟩)
theorem opq_str {a b : Str} (hl : a.length + b.length ≤ 100000) : Opd K (rPlusQ K) (.str a) (.str b) (.str (a ++ b)) := fun P H v u Q s r1 r2 q => by
  cases r1; cases r2
  exact .inr (.inr ⟨a, b, rfl, rfl, Nat.le_trans hl (by decide), q _ H (Same.refl H) (.str _)⟩)
theorem de_add {a b : Int} (ha : DE K none ta G (.int a)) (hb : DE K none tb G (.int b)) : DE K m (tOp (rPlusQ K) ta tb) G (.int (a + b)) := de_op0 opq_add rfl ha hb
theorem de_catT (ha : DE K m ta G (.tuple ds)) (hb : DE K m tb G (.tuple es)) (hl : ds.length + es.length ≤ 100000) : DE K m (tOp (rPlusQ K) ta tb) G (.tuple (ds ++ es)) := de_op (opq_catT hl) ha hb
theorem de_cat (ha : DE K m ta G (.list ds)) (hb : DE K m tb G (.list es)) (hl : ds.length + es.length ≤ 100000) : DE K m (tOp (rPlusQ K) ta tb) G (.list (ds ++ es)) := de_op (opq_cat hl) ha hb
theorem de_catS {a b : Str} (ha : DE K none ta G (.str a)) (hb : DE K none tb G (.str b)) (hl : a.length + b.length ≤ 100000) : DE K m (tOp (rPlusQ K) ta tb) G (.str (a ++ b)) := de_op0 (opq_str hl) rfl ha hb

/-! - // % ** -/
def rSubI : R2 := rI0 fun i j => .int (i - j)
theorem op_subI {X : Cx} : OpR X (binaryOp .Sub) rSubI := op_sub
theorem de_sub {a b : Int} (ha : DE K none ta G (.int a)) (hb : DE K none tb G (.int b)) : DE K m (tOp rSubI ta tb) G (.int (a - b)) := de_op0 (opd_I0 (g := fun i j => .int (i - j)) (.int _)) rfl ha hb
def rMod : R2 := rI (fun _ j => 0 < j) fun i j => .int (i % j)
theorem op_modI {X : Cx} : OpR X (binaryOp .Mod) rMod := op_mod
theorem de_mod {a b : Int} (ha : DE K none ta G (.int a)) (hb : DE K none tb G (.int b)) (h : 0 < b) : DE K m (tOp rMod ta tb) G (.int (a % b)) := de_op0 (opd_I (g := fun i j => .int (i % j)) h (.int _)) rfl ha hb
def rFloor : R2 := rI CDivW fun i j => .int (i / j)
theorem op_floor {X : Cx} : OpR X (binaryOp .FloorDiv) rFloor := op_fdivW
theorem de_floor {a b : Int} (ha : DE K none ta G (.int a)) (hb : DE K none tb G (.int b)) (h : 0 < b) (h2 : b.natAbs.log2 < 9000) : DE K m (tOp rFloor ta tb) G (.int (a / b)) := de_op0 (opd_I (C := CDivW) (g := fun i j => .int (i / j)) ⟨h, h2⟩ (.int _)) rfl ha hb
def rPow : R2 := rI CPow fun i j => .int (i ^ j.toNat)
theorem op_powI {X : Cx} : OpR X (binaryOp .Pow) rPow := op_pow
theorem de_pow {a b : Int} (ha : DE K none ta G (.int a)) (hb : DE K none tb G (.int b)) (h : 0 ≤ b ∧ b ≤ 1000000 ∧ a.natAbs < 2 ^ 64) : DE K m (tOp rPow ta tb) G (.int (a ^ b.toNat)) := de_op0 (opd_I (C := CPow) (g := fun i j => .int (i ^ j.toNat)) h (.int _)) rfl ha hb
/-! * : ints of together at most a hundred million bits; a tuple so many times -/
def CMulX (i j : Int) : Prop := i.natAbs.log2 + j.natAbs.log2 < 100000000
theorem CMulX.ok {i j : Int} (h : CMulX i j) : IntMulOk i j := by
  have b : ∀ x : Int, Builtin.Int.intBits x ≤ x.natAbs.log2 + 1 := fun x => by
    unfold Builtin.Int.intBits
    split <;> omega
  have h1 := b i
  have h2 := b j
  have h3 : i.natAbs.log2 + j.natAbs.log2 < 100000000 := h
  have e : bitsLine = 134217728 := by decide
  unfold IntMulOk
  intro z
  rw [Bool.and_eq_true] at z
  have z2 := z.2
  unfold Builtin.Int.intTooBig at z2
  have z3 := of_decide_eq_true z2
  rw [e] at z3
  omega
def rMulI : R2 := rI CMulX fun i j => .int (i * j)
theorem op_mulI {X : Cx} : OpR X (binaryOp .Mult) rMulI := opI fun _ _ _ _ _ _ _ hc q => PyProof.Rows.mul_int q hc.ok
def rTimes (K : PySem.W.Frag) : R2 := fun x y H Q => rMulI x y H Q ∨ rRepT K x y H Q
theorem op_times {X : Cx} : OpR X (binaryOp .Mult) (rTimes X.K) := OpR.or op_mulI op_repT
theorem de_mul {a b : Int} (ha : DE K none ta G (.int a)) (hb : DE K none tb G (.int b)) (h : CMulX a b) : DE K m (tOp (rTimes K) ta tb) G (.int (a * b)) :=
  de_op0 (fun P H v u Q s r1 r2 q => .inl (opd_I (C := CMulX) (g := fun i j => .int (i * j)) h (.int _) P H v u Q s r1 r2 q)) rfl ha hb
theorem Reps.flat {H : Hp} {vs : List V} {ds : List PyData} (h : Reps K H vs ds) : ∀ k : Nat, Reps K H (List.replicate k vs).flatten (List.replicate k ds).flatten
  | 0 => .nil
  | k + 1 => by rw [List.replicate_succ, List.replicate_succ, List.flatten_cons, List.flatten_cons]; exact h.append (Reps.flat h k)
theorem de_repT {k : Int} (ha : DE K m ta G (.tuple ds)) (hb : DE K m tb G (.int k)) (h0 : ds ≠ []) (h2 : 2 ≤ k) (hk : k ≤ 1000) (hl : ds.length ≤ 1000) : DE K m (tOp (rTimes K) ta tb) G (.tuple (List.replicate k.toNat ds).flatten) :=
  de_op (fun P H v u Q s r1 r2 q => by
    cases r2
    cases r1 with
    | @tup a xs _ h1 r1 => exact .inr ⟨a, k, xs, rfl, rfl, rd_tup s h1, (fun z => by subst z; cases r1; exact h0 rfl), h2, hk, by rw [Reps.length r1]; exact hl, fun p hp => q _ _ (same_new hp) (rep_newT hp (Reps.flat r1 _) s)⟩) ha hb
/-! ### comparisons -/
def rLt : R2 := rI0 fun i j => .bl (decide (i < j))
def rLe : R2 := rI0 fun i j => .bl (decide (i ≤ j))
def rGt : R2 := rI0 fun i j => .bl (decide (j < i))
def rGe : R2 := rI0 fun i j => .bl (decide (j ≤ i))
theorem op_ltI {X : Cx} : OpR X (compareOp .Lt) rLt := op_lt
theorem op_leI {X : Cx} : OpR X (compareOp .LtE) rLe := op_le
theorem op_gtI {X : Cx} : OpR X (compareOp .Gt) rGt := op_gt
theorem op_geI {X : Cx} : OpR X (compareOp .GtE) rGe := op_ge
theorem de_lt {a b : Int} (ha : DE K none ta G (.int a)) (hb : DE K none tb G (.int b)) : DE K m (tOp rLt ta tb) G (.bool (decide (a < b))) := de_op0 (opd_I0 (g := fun i j => .bl (decide (i < j))) (.bl _)) rfl ha hb
theorem de_le {a b : Int} (ha : DE K none ta G (.int a)) (hb : DE K none tb G (.int b)) : DE K m (tOp rLe ta tb) G (.bool (decide (a ≤ b))) := de_op0 (opd_I0 (g := fun i j => .bl (decide (i ≤ j))) (.bl _)) rfl ha hb
theorem de_gt {a b : Int} (ha : DE K none ta G (.int a)) (hb : DE K none tb G (.int b)) : DE K m (tOp rGt ta tb) G (.bool (decide (b < a))) := de_op0 (opd_I0 (g := fun i j => .bl (decide (j < i))) (.bl _)) rfl ha hb
theorem de_ge {a b : Int} (ha : DE K none ta G (.int a)) (hb : DE K none tb G (.int b)) : DE K m (tOp rGe ta tb) G (.bool (decide (b ≤ a))) := de_op0 (opd_I0 (g := fun i j => .bl (decide (j ≤ i))) (.bl _)) rfl ha hb
theorem de_eq (ha : DE K none ta G x) (hb : DE K none tb G y) (hx : SeqAt.shaped x = true) (hy : SeqAt.shaped y = true) : DE K m (tOp (rEqD K) ta tb) G (.bool (PyData.eqv x y)) :=
  de_op0 (fun P H v u Q s r1 r2 q => ⟨x, y, Rep.dp (Rep.mono s r1) (SeqAt.canLay_of_shaped hx), Rep.dp (Rep.mono s r2) (SeqAt.canLay_of_shaped hy), hx, hy, q _ H (Same.refl H) (.bl _)⟩) rfl ha hb
theorem de_ne (ha : DE K none ta G x) (hb : DE K none tb G y) (hx : SeqAt.shaped x = true) (hy : SeqAt.shaped y = true) : DE K m (tOp (rNeD K) ta tb) G (.bool (!PyData.eqv x y)) :=
  de_op0 (fun P H v u Q s r1 r2 q => ⟨x, y, Rep.dp (Rep.mono s r1) (SeqAt.canLay_of_shaped hx), Rep.dp (Rep.mono s r2) (SeqAt.canLay_of_shaped hy), hx, hy, q _ H (Same.refl H) (.bl _)⟩) rfl ha hb
theorem eqv_int {a b : Int} : PyData.eqv (.int a) (.int b) = decide (a = b) := by
  show (a == b) = _
  by_cases h : a = b <;> simp [h]
theorem de_eqI {a b : Int} (ha : DE K none ta G (.int a)) (hb : DE K none tb G (.int b)) : DE K m (tOp (rEqD K) ta tb) G (.bool (decide (a = b))) := de_to (de_eq ha hb rfl rfl) (congrArg _ eqv_int)
theorem de_neI {a b : Int} (ha : DE K none ta G (.int a)) (hb : DE K none tb G (.int b)) : DE K m (tOp (rNeD K) ta tb) G (.bool (!decide (a = b))) := de_to (de_ne ha hb rfl rfl) (by rw [eqv_int])
/-! is, is not: None, True, False on the right -/
def konst : V → Bool
  | .non => true
  | .bl _ => true
  | _ => false
def rIs : R2 := fun x y H Q => konst y = true ∧ Q (.bl (decide (x = y))) H
def rIsNot : R2 := fun x y H Q => konst y = true ∧ Q (.bl (!decide (x = y))) H
theorem konst_is {x y : V} {v u : Value} (rx : RelV x v) (ry : RelV y u) (h : konst y = true) : plainIs v u = true ∧ (v == u) = decide (x = y) := by
  cases y <;> first | (cases h; done) | skip
  · cases ry
    cases x <;> first
      | (obtain ⟨t, rfl⟩ := rx; exact ⟨rfl, rfl⟩)
      | (cases rx; exact ⟨rfl, rfl⟩)
  · rename_i b
    cases ry
    cases x <;> first
      | (obtain ⟨t, rfl⟩ := rx; exact ⟨rfl, rfl⟩)
      | (cases rx; refine ⟨rfl, ?_⟩; first | rfl | (rename_i k; cases k <;> cases b <;> rfl))
theorem op_is {X : Cx} : OpR X (compareOp .Is) rIs := by
  intro pins s σ H x y v u Q I rx ry h
  obtain ⟨k, q⟩ := h
  obtain ⟨h1, h2⟩ := konst_is rx ry k
  exact wpAny_is_plain h1 (fin_bl I q h2.symm)
theorem op_isNot {X : Cx} : OpR X (compareOp .IsNot) rIsNot := by
  intro pins s σ H x y v u Q I rx ry h
  obtain ⟨k, q⟩ := h
  obtain ⟨h1, h2⟩ := konst_is rx ry k
  exact wpAny_isNot_plain h1 (fin_bl I q (by rw [h2]))
def isV : PyData → PyData → Bool
  | .none, .none => true
  | .bool a, .bool b => a == b
  | _, _ => false
def konstD : PyData → Bool
  | .none => true
  | .bool _ => true
  | _ => false
theorem is_iff {P : Hp} {v u : V} (h1 : Rep K P v x) (h2 : Rep K P u y) (h : konstD y = true) : konst u = true ∧ decide (v = u) = isV x y := by
  cases h2 <;> first | (cases h; done) | skip
  · cases h1 <;> exact ⟨rfl, by simp [isV]⟩
  · rename_i b
    cases h1 <;> refine ⟨rfl, ?_⟩ <;> first | (simp [isV]; done) | (rename_i k; cases k <;> cases b <;> rfl)
theorem de_is (ha : DE K none ta G x) (hb : DE K none tb G y) (h : konstD y = true) : DE K m (tOp rIs ta tb) G (.bool (isV x y)) :=
  de_op0 (fun P H v u Q s r1 r2 q => by
    obtain ⟨h1, h2⟩ := is_iff r1 r2 h
    exact ⟨h1, q _ H (Same.refl H) (by rw [h2]; exact .bl _)⟩) rfl ha hb
theorem de_isNot (ha : DE K none ta G x) (hb : DE K none tb G y) (h : konstD y = true) : DE K m (tOp rIsNot ta tb) G (.bool (!isV x y)) :=
  de_op0 (fun P H v u Q s r1 r2 q => by
    obtain ⟨h1, h2⟩ := is_iff r1 r2 h
    exact ⟨h1, q _ H (Same.refl H) (by rw [h2]; exact .bl _)⟩) rfl ha hb
end
end
end TB

/-! TB statements: subscripts, displays, tests, calls, statements, loops, comprehensions. -/
namespace TB
open PySem PySem.Spec PyProof.Rows L2
section
variable {K : PySem.W.Frag}
section
variable {m m' : Md} {n : Bool} {te ta tb tx tc : TE} {tt tu : TT} {G : Sl} {d x y z : PyData} {ds es : List PyData} {i j : Nat} {c : C} {σ : L2.St} {H H' : Hp} {v : V}

/-! ### subscripts, slices -/
def rDGet : R2 := fun x y H Q => ∃ a v, x = .ref a ∧ DGet H a y (some v) ∧ Q v H
theorem ix_dict {X : Cx} (hu : X.A.units + 1 < cLine) : IxR X rDGet := by
  intro value slice pins s σ H x y v u Q I rx ry h hs
  obtain ⟨a, w, rfl, g, q⟩ := h
  cases rx
  have hT := dict_typeIs I g
  unfold subscriptTail
  refine wpAny_bind ?_
  rw [getitemInPython_of_ne hT.not_modules]
  refine wpAny_bind (wpAny_specialOf hT PySem.F.slot_dict_getitem.lookup ?_)
  have fin : wpAny (model X.prog X.w) X.A (subscripted slice false (.ref a) u) (fun r s3 => wpAny (model X.prog X.w) X.A (letTemporaryGo value (.ref a) r >>= fun _ => pure r) (EP X pins σ Q) X.xe s3) X.xe s := by
    rw [hs]
    exact wpAny_operating (wpAny_mono (d_getItem hu I g ry fun w' s3 I3 rw' => (⟨w, H, I3, rw', q⟩ : EP X pins σ Q w' s3)) (fun r s3 h3 => wpAny_bind (wpAny_letTemporaryGo (wpAny_pure h3))) fun _ _ x => x)
  first
    | exact wpAny_pure (wpAny_bind fin)
    | exact wpAny_bind (wpAny_pure (wpAny_bind fin))
    | exact wpAny_bind fin
def rSub (K : PySem.W.Frag) : R2 := fun x y H Q => rIx K x y H Q ∨ rDGet x y H Q
theorem ix_sub {X : Cx} (hu : X.A.units + 1 < cLine) : IxR X (rSub X.K) := IxR.or ix_seq (ix_dict hu)
theorem Reps.atI {H : Hp} {vs : List V} {k : Int} (h : Reps K H vs ds) (e : L2.atI ds k = some d) : ∃ v, L2.atI vs k = some v ∧ Rep K H v d := by
  unfold L2.atI at e ⊢
  rw [h.length]
  cases q : ixN ds.length k with
  | none => rw [q] at e; cases e
  | some j => rw [q] at e; exact h.get e
theorem de_ixT {k : Int} (ha : DE K m ta G (.tuple ds)) (hb : DE K none tb G (.int k)) (h : L2.atI ds k = some d) : DE K m (tOp (rSub K) ta tb) G d :=
  de_op (fun P H v u Q s r1 r2 q => by
    cases r2
    cases r1 with
    | @tup a xs _ h1 r1 =>
      obtain ⟨w, h2, h3⟩ := r1.atI h
      exact .inl (.inr (.inl ⟨a, xs, k, w, rfl, rfl, rd_tup s h1, h2, q w H (Same.refl H) (rep_old h3 s)⟩))) ha (de_imm hb rfl)
theorem de_ixL {k : Int} (ha : DE K m ta G (.list ds)) (hb : DE K none tb G (.int k)) (h : L2.atI ds k = some d) : DE K m (tOp (rSub K) ta tb) G d :=
  de_op (fun P H v u Q s r1 r2 q => by
    cases r2
    cases r1 with
    | @lst a xs _ h1 r1 =>
      obtain ⟨w, h2, h3⟩ := r1.atI h
      exact .inl (.inl ⟨a, xs, k, w, rfl, rfl, rd_lst s h1, h2, q w H (Same.refl H) (rep_old h3 s)⟩)) ha (de_imm hb rfl)
/-- an item of a list of one's own -/
theorem de_ixO {a : Addr} {k : Int} (hg : G[i]? = some (some (.own n a ds))) (hm : okM m n = true) (hb : DE K none tb G (.int k)) (h : L2.atI ds k = some d) : DE K m (tOp (rSub K) (tVar i) tb) G d := fun c σ H e Q q => by
  obtain ⟨w, h1, rfl, vs, h2, h3⟩ := e.at_ i _ hg
  refine ⟨_, h1, hb c σ H e _ fun u H2 s2 r2 => ?_⟩
  cases r2
  obtain ⟨w, h4, h5⟩ := h3.atI h
  exact .inl (.inl ⟨a, vs, k, w, rfl, rfl, .inl (.inl (s2 _ _ h2)), h4, q w H2 s2 (Rep.mono (vis_ok (e.ext s2) hm) (Rep.mono (e.vext (m := some n) s2) h5))⟩)
theorem do_none : DO K tNoPart G none := fun c σ H e Q q => q H (Same.refl H)
theorem do_some {k : Int} (h : DE K none te G (.int k)) : DO K (tPart te) G (some k) := fun c σ H e Q q => h c σ H e _ fun v H1 s r => by
  cases r
  exact ⟨k, rfl, q H1 s⟩
abbrev RSl := V → Option Int → Option Int → Hp → VK → Prop
def rSl (K : PySem.W.Frag) : RSl := fun x lo hi H Q => rSlL K x lo hi H Q ∨ rSlA K x lo hi H Q ∨ rSlS x lo hi H Q
theorem sl_any {X : Cx} : SlR X (rSl X.K) := SlR.or sl_list (SlR.or sl_tupA sl_str)
def cutD (xs : List PyData) (lo hi : Option Int) : List PyData := (xs.drop (HT.sIx xs.length 0 lo)).take (HT.sIx xs.length xs.length hi - HT.sIx xs.length 0 lo)
theorem Reps.cut {H : Hp} {vs : List V} (h : Reps K H vs ds) (lo hi : Option Int) : Reps K H (cutV vs lo hi) (cutD ds lo hi) := by
  unfold cutV cutD
  rw [h.length]
  exact Reps.take _ (Reps.drop _ h)
theorem de_slL {tl th : TO} {lo hi : Option Int} (ha : DE K m ta G (.list ds)) (hl : DO K tl G lo) (hh : DO K th G hi) : DE K m (tSl (rSl K) ta tl th) G (.list (cutD ds lo hi)) := fun c σ H e Q q =>
  ha c σ H e _ fun v H1 s1 r1 => hl c σ H1 (e.ext s1) _ fun H2 s2 => hh c σ H2 ((e.ext s1).ext s2) _ fun H3 s3 => by
    have e1 := e.ext s1
    have e3 := (e1.ext s2).ext s3
    have r3 := Rep.mono ((e1.ext s2).vext s3) (Rep.mono (e1.vext s2) r1)
    cases r3 with
    | @lst a xs _ h1 r =>
      refine .inl ⟨a, xs, rfl, rd_lst e3.vsame h1, fun p hp => q _ _ (((s1.trans s2).trans s3).trans (same_new hp)) ?_⟩
      exact Rep.mono (e3.plus (same_new hp)) (rep_newL hp (r.cut lo hi) e3.vsame)
theorem de_slT {tl th : TO} {lo hi : Option Int} (ha : DE K m ta G (.tuple ds)) (hl : DO K tl G lo) (hh : DO K th G hi) : DE K m (tSl (rSl K) ta tl th) G (.tuple (cutD ds lo hi)) := fun c σ H e Q q =>
  ha c σ H e _ fun v H1 s1 r1 => hl c σ H1 (e.ext s1) _ fun H2 s2 => hh c σ H2 ((e.ext s1).ext s2) _ fun H3 s3 => by
    have e1 := e.ext s1
    have e3 := (e1.ext s2).ext s3
    have r3 := Rep.mono ((e1.ext s2).vext s3) (Rep.mono (e1.vext s2) r1)
    cases r3 with
    | @tup a xs _ h1 r =>
      refine .inr (.inl ⟨a, xs, rfl, rd_tup e3.vsame h1, fun hw => ?_, fun hw p hp => ?_⟩)
      · have hc : cutD ds lo hi = ds := by
          unfold cutD
          rw [← r.length, hw.1, hw.2, List.drop_zero, Nat.sub_zero, r.length, List.take_length]
        rw [hc] at q
        exact q _ H3 ((s1.trans s2).trans s3) (.tup h1 r)
      · exact q _ _ (((s1.trans s2).trans s3).trans (same_new hp)) (Rep.mono (e3.plus (same_new hp)) (rep_newT hp (r.cut lo hi) e3.vsame))

/-! ### displays -/
theorem de_tup {t : TA} (h : DA K m t G ds) (hl : ds.length ≤ 100000) : DE K m (tTup t) G (.tuple ds) := fun c σ H e Q q => h c σ H e _ fun vs H1 s1 r1 =>
  ⟨by rw [r1.length]; exact Nat.le_trans hl (by decide), fun p hp => q _ _ (s1.trans (same_new hp)) (Rep.mono ((e.ext s1).plus (same_new hp)) (rep_newT hp r1 (e.ext s1).vsame))⟩
theorem de_lst {t : TA} (h : DA K m t G ds) (hl : ds.length ≤ 100000) : DE K m (tLst t) G (.list ds) := fun c σ H e Q q => h c σ H e _ fun vs H1 s1 r1 =>
  ⟨by rw [r1.length]; exact Nat.le_trans hl (by decide), fun p hp => q _ _ (s1.trans (same_new hp)) (Rep.mono ((e.ext s1).plus (same_new hp)) (rep_newL hp r1 (e.ext s1).vsame))⟩
theorem de_dnew : DE K m tDNewK G (.dict []) := fun c σ H e Q q p hp => q _ _ (same_new hp) (Rep.mono (e.plus (same_new hp)) (.dic (.inl (by rw [plus_new hp, upd_same]; rfl)) .nil))

/-! ### tests -/
theorem dt_test {b : Bool} (h : DE K none te G (.bool b)) : DT K (tTest te) G b := fun c σ H e Q q => h c σ H e _ fun v H1 s r => by
  cases r
  exact ⟨b, rfl, q H1 s⟩
theorem dt_B {b : Bool} (h : DE K none te G (.bool b)) : DT K (tB te) G b := fun c σ H e Q q => h c σ H e _ fun v H1 s r => by
  cases r
  exact ⟨b, rfl, q H1 s⟩
theorem dt_not {b : Bool} (h : DT K tt G b) : DT K (tNot tt) G (!b) := fun c σ H e Q q => h c σ H e _ fun H1 s => q H1 s
theorem dt_and {a b : Bool} (h1 : DT K tt G a) (h2 : a = true → DT K tu G b) : DT K (tAnd tt tu) G (a && b) := fun c σ H e Q q => h1 c σ H e _ fun H1 s => by
  cases a with
  | true =>
    show tu σ H1 Q
    exact h2 rfl c σ H1 (e.ext s) _ fun H2 s2 => q H2 (s.trans s2)
  | false =>
    show Q false H1
    exact q H1 s
theorem dt_or {a b : Bool} (h1 : DT K tt G a) (h2 : a = false → DT K tu G b) : DT K (tOr tt tu) G (a || b) := fun c σ H e Q q => h1 c σ H e _ fun H1 s => by
  cases a with
  | true =>
    show Q true H1
    exact q H1 s
  | false =>
    show tu σ H1 Q
    exact h2 rfl c σ H1 (e.ext s) _ fun H2 s2 => q H2 (s.trans s2)
theorem de_andV {a b : Bool} (h1 : DE K none ta G (.bool a)) (h2 : a = true → DE K none tb G (.bool b)) : DE K m (tAndV ta tb) G (.bool (a && b)) := de_imm (fun c σ H e Q q => h1 c σ H e _ fun v H1 s r => by
  cases r
  refine ⟨a, rfl, ?_⟩
  cases a with
  | true =>
    show tb σ H1 Q
    exact h2 rfl c σ H1 (e.ext s) _ fun w H2 s2 r2 => q w H2 (s.trans s2) r2
  | false =>
    show Q (.bl false) H1
    exact q _ H1 s (.bl _)) rfl
theorem de_orV {a b : Bool} (h1 : DE K none ta G (.bool a)) (h2 : a = false → DE K none tb G (.bool b)) : DE K m (tOrV ta tb) G (.bool (a || b)) := de_imm (fun c σ H e Q q => h1 c σ H e _ fun v H1 s r => by
  cases r
  refine ⟨a, rfl, ?_⟩
  cases a with
  | true =>
    show Q (.bl true) H1
    exact q _ H1 s (.bl _)
  | false =>
    show tb σ H1 Q
    exact h2 rfl c σ H1 (e.ext s) _ fun w H2 s2 r2 => q w H2 (s.trans s2) r2) rfl
theorem de_notV {a : Bool} (h1 : DE K none ta G (.bool a)) : DE K m (tNotV ta) G (.bool (!a)) := de_imm (fun c σ H e Q q => h1 c σ H e _ fun v H1 s r => by
  cases r
  exact ⟨a, rfl, q _ H1 s (.bl _)⟩) rfl
theorem de_ifE {b : Bool} (h : DT K tt G b) (h1 : b = true → DE K m ta G d) (h2 : b = false → DE K m tb G d) : DE K m (tIf tt ta tb) G d := fun c σ H e Q q => h c σ H e _ fun H1 s => by
  cases b with
  | true =>
    show ta σ H1 Q
    exact h1 rfl c σ H1 (e.ext s) _ fun w H2 s2 r2 => q w H2 (s.trans s2) r2
  | false =>
    show tb σ H1 Q
    exact h2 rfl c σ H1 (e.ext s) _ fun w H2 s2 r2 => q w H2 (s.trans s2) r2
/-- a < b < c on ints: by two comparisons -/
theorem de_chain {r r' : R2} {a b : Bool} (hr : Opd K r x y (.bool a)) (hr' : a = true → Opd K r' y z (.bool b)) (ha : DE K none ta G x) (hb : DE K none tb G y) (hc : a = true → DE K none tc G z) : DE K m (tChain r r' ta tb tc) G (.bool (a && b)) := de_imm (fun c σ H e Q q =>
  ha c σ H e _ fun v H1 s1 r1 => hb c σ H1 (e.ext s1) _ fun u H2 s2 r2 => hr H2 H2 v u _ (Same.refl H2) (Rep.mono s2 r1) r2 fun w H3 s3 r3 => by
    cases r3
    refine ⟨a, rfl, ?_⟩
    cases a with
    | true =>
      show tc σ H3 _
      refine hc rfl c σ H3 (((e.ext s1).ext s2).ext s3) _ fun w H4 s4 r4 => ?_
      refine hr' rfl H4 H4 u w _ (Same.refl H4) (Rep.mono (s3.trans s4) r2) r4 fun w' H5 s5 r5 => ?_
      cases r5
      exact q _ H5 ((((s1.trans s2).trans s3).trans s4).trans s5) (.bl _)
    | false =>
      show Q (.bl false) H3
      exact q _ H3 ((s1.trans s2).trans s3) (.bl _)) rfl
theorem opd_lt {a b : Int} : Opd K rLt (.int a) (.int b) (.bool (decide (a < b))) := opd_I0 (g := fun i j => .bl (decide (i < j))) (.bl _)
theorem opd_le {a b : Int} : Opd K rLe (.int a) (.int b) (.bool (decide (a ≤ b))) := opd_I0 (g := fun i j => .bl (decide (i ≤ j))) (.bl _)

/-! ### calls -/
/-- by data: what a builtin's call hands back -/
def Cld (K : PySem.W.Frag) (r : List V → Hp → VK → Prop) (xs : List PyData) (z : PyData) : Prop := ∀ (P H : Hp) (vs : List V) (Q : VK), Same P H → Reps K P vs xs → (∀ w H', Same H H' → Rep K (plus P H H') w z → Q w H') → r vs H Q
theorem de_cb {r : List V → Hp → VK → Prop} {t : TA} (hr : Cld K r ds z) (ha : DA K m t G ds) : DE K m (tCB r t) G z := fun c σ H e Q q => ha c σ H e _ fun vs H1 s1 r1 =>
  hr _ H1 vs _ (e.ext s1).vsame r1 fun w H2 s2 r2 => q w H2 (s1.trans s2) (Rep.mono ((e.ext s1).plus s2) r2)
theorem de_cb0 {r : List V → Hp → VK → Prop} {t : TA} (hr : Cld K r ds z) (hz : imm z = true) (ha : DA K none t G ds) : DE K m (tCB r t) G z := de_imm (de_cb hr ha) hz
/-- the promise of a def: for each i its arguments by data, when they are good, and what it hands back -/
def spD (K : PySem.W.Frag) {ι : Type} (args : ι → List PyData) (pre : ι → Prop) (res : ι → R → Prop) : Sp := fun vs H Q _ => ∃ (P : Hp) (i : ι), Same P H ∧ Reps K P vs (args i) ∧ pre i ∧ ∀ r v H', res i r → Same H H' → RetR K P H H' v r → Q v H'
theorem spD_len {ι : Type} {args : ι → List PyData} {pre : ι → Prop} {res : ι → R → Prop} {k : Nat} (hk : ∀ i, (args i).length = k) : ∀ vs H Q E, spD K args pre res vs H Q E → vs.length = k := fun vs H Q E ⟨P, i, _, h, _⟩ => by rw [h.length, hk]
theorem ret_full {P : Hp} {r : R} {O : Addr → Prop} (h : ∃ b : B, b.strip = r ∧ b.ows.Nodup ∧ (∀ a ∈ b.ows, H a = none) ∧ RepB K (fun n => hide (fun a => a ∈ b.ows) (plus (gq P n) H H')) H' v b) (s : Same P H) (e : Same H H') : Rep K H' v r.full := by
  obtain ⟨b, rfl, _, _, h⟩ := h
  rw [full_strip]
  refine h.full fun n => hide_same.trans (plus_same ?_ e)
  unfold gq
  cases n
  · exact s
  · exact non_same
/-- a call as r: lists of its own handed on -/
theorem dr_callS {ι : Type} {args : ι → List PyData} {pre : ι → Prop} {res : ι → R → Prop} {t : TA} {E : XK} {r : R} {sp : Sp} (hsp : ∀ vs H Q, spD K args pre res vs H Q E → sp vs H Q E) (k : ι) (ha : DA K m t G (args k)) (hp : pre k) (hr : ∀ r', res k r' → r' = r) (hm : r.nw = true ∨ m = some false) : DR K (tCall sp [] E t) G r := fun c σ H e Q q =>
  ha c σ H e _ fun vs H1 s1 r1 => by
    have e1 := e.ext s1
    refine hsp _ _ _ ⟨vis c (OF G) m H1, k, e1.vsame, by rw [List.append_nil]; exact r1, hp, fun r' v H' h1 s2 h2 => ?_⟩
    have := hr r' h1
    subst this
    obtain ⟨b, hb, hn, hf, h⟩ := h2
    refine q v H' (s1.trans s2) ⟨b, hb, hn, fun a ha => non_of s1 (hf a ha), ?_⟩
    have key : ∀ n, (r'.nw = true → n = true) → Same (hide (fun a => a ∈ b.ows) (plus (gq (vis c (OF G) m H1) n) H1 H')) (hide (fun a => a ∈ b.ows) (vis c (OF G) (some n) H')) := fun n hn => by
      refine hide_le ?_ fun _ _ _ p => p
      cases n with
      | true => exact (plus_mono (G' := vis c (OF G) (some true) H1) non_same).trans (e1.plus s2)
      | false =>
        rcases hm with z | z
        · exact (Bool.noConfusion (hn z))
        · subst z; exact e1.plus (m := some false) s2
    have bn : ∀ n, b.strip.nw = n → RepB K (fun k => hide (fun a => a ∈ b.ows) (plus (gq (vis c (OF G) m H1) k) H1 H')) H' v b → RepB K (fun k => hide (fun a => a ∈ b.ows) (vis c (OF G) (some k) H')) H' v b := fun n hn h => by
      have hk : ∀ k, k = b.strip.nw → (r'.nw = true → k = true) := fun k hk z => by rw [hk, hb, z]
      cases b with
      | sh n d => exact Rep.mono (key n (hk n rfl)) h
      | own n a ds => obtain ⟨h1, vs, h2, h3⟩ := h; exact ⟨h1, vs, h2, Reps.mono (key n (hk n rfl)) h3⟩
      | odic n a ks => obtain ⟨h1, vs, h2, h3⟩ := h; exact ⟨h1, vs, h2, RepK.mono (key n (hk n rfl)) h3⟩
      | tupo n xs =>
        obtain ⟨t, vs, h1, h2, h3⟩ := h
        exact ⟨t, vs, h1, h2, Paired.mapP h3 fun v x r => RepIt.mono (key n (hk n rfl)) (fun a _ xs q => q) r⟩
      | lso n t xs =>
        obtain ⟨h1, vs, h2, h3⟩ := h
        exact ⟨h1, vs, h2, Paired.mapP h3 fun v x r => RepIt.mono (key n (hk n rfl)) (fun a _ xs q => q) r⟩
    exact bn _ rfl h
theorem dr_call {ι : Type} {args : ι → List PyData} {pre : ι → Prop} {res : ι → R → Prop} {t : TA} {E : XK} {r : R} (k : ι) (ha : DA K m t G (args k)) (hp : pre k) (hr : ∀ r', res k r' → r' = r) (hm : r.nw = true ∨ m = some false) : DR K (tCall (spD K args pre res) [] E t) G r := dr_callS (fun _ _ _ h => h) k ha hp hr hm
theorem its_full {G1 H1 W : Hp} (e : Same G1 W) : ∀ {vs : List V} {xs : List (Sum PyData (Addr × List PyData))}, (∀ a ∈ itOws xs, ∀ ws, H1 a = some (.lst ws) → W a = some (.lst ws)) → Paired (RepIt K G1 H1) vs xs → Reps K W vs (xs.map itData)
  | [], [], _, .nil => .nil
  | v :: vs, x :: xs, k, .cons r t => by
    refine .cons ?_ (its_full e (fun a ha => k a ?_) t)
    · cases x with
      | inl d => exact Rep.mono e r
      | inr p =>
        obtain ⟨a, ds⟩ := p
        obtain ⟨rfl, ws, h4, h5⟩ := r
        exact .lst (.inl (.inl (k a (by simp [itOws]) ws h4))) (Reps.mono e h5)
    · cases x with
      | inl d => exact ha
      | inr p => obtain ⟨b, ds⟩ := p; exact List.mem_cons_of_mem _ ha
/-- what is handed back, seen as data that stands still -/
theorem de_dr {r : R} (h : DR K te G r) (hm : okM m r.nw = true) : DE K m te G r.full := fun c σ H e Q q => h c σ H e _ fun v H' s ⟨b, hb, hn, hf, hr⟩ => q v H' s (by
  subst hb
  rw [full_strip]
  have e1 := e.ext s
  have vo := vis_ok e1 hm
  have see : ∀ (a : Addr) (o : HO), a ∈ b.ows → H' a = some o → (∀ ob u, o ≠ .frz ob u) → vis c (OF G) m H' a = some o := fun a o ha ho hz => by
    have hn := hf a ha
    cases m with
    | none => exact ho
    | some k =>
      show hide (OF G) _ a = _
      rw [hide_at (e.nof hn), plus_new (non_of e.h0 hn), ho]
      exact nf_N hz
  have sub : Same (hide (fun a => a ∈ b.ows) (vis c (OF G) (some b.strip.nw) H')) (vis c (OF G) m H') := hide_same.trans vo
  cases b with
  | sh n d => exact Rep.mono sub hr
  | own n a ds =>
    obtain ⟨rfl, vs, h2, h3⟩ := hr
    exact .lst (.inl (.inl (see a _ (by simp [B.ows]) h2 (by intro _ _ z; cases z)))) (Reps.mono sub h3)
  | odic n a ks =>
    obtain ⟨rfl, vs, h2, h3⟩ := hr
    exact .dic (.inl (see a _ (by simp [B.ows]) h2 (by intro _ _ z; cases z))) (RepK.mono sub h3)
  | tupo n xs =>
    obtain ⟨t, vs, rfl, h2, h3⟩ := hr
    refine .tup (.inl (vis_tups e1.h0 e1.mu t _ rfl h2)) ?_
    exact its_full sub (fun a ha ws h => see a _ ha h (by intro _ _ z; cases z)) h3
  | lso n t xs =>
    obtain ⟨rfl, vs, h2, h3⟩ := hr
    refine .lst (.inl (.inl (see t _ (by simp [B.ows]) h2 (by intro _ _ z; cases z)))) ?_
    exact its_full sub (fun a ha ws h => see a _ (by simp [B.ows, ha]) h (by intro _ _ z; cases z)) h3)
theorem de_call {ι : Type} {args : ι → List PyData} {pre : ι → Prop} {res : ι → R → Prop} {t : TA} {E : XK} {r : R} (k : ι) (ha : DA K m' t G (args k)) (hp : pre k) (hr : ∀ r', res k r' → r' = r) (hm : r.nw = true ∨ m' = some false) (hm' : okM m r.nw = true) : DE K m (tCall (spD K args pre res) [] E t) G r.full :=
  de_dr (dr_call k ha hp hr hm) hm'
/-- the usual: new, or without lists -/
theorem de_callN {ι : Type} {args : ι → List PyData} {pre : ι → Prop} {res : ι → R → Prop} {t : TA} {E : XK} {r : R} (k : ι) (ha : DA K none t G (args k)) (hp : pre k) (hr : ∀ r', res k r' → r' = r) (hn : r.nw = true) : DE K m (tCall (spD K args pre res) [] E t) G r.full :=
  de_call k ha hp hr (.inl hn) (by rw [hn]; cases m with | none => rfl | some k => cases k <;> rfl)
theorem dr_de (h : DE K (some n) te G d) : DR K te G (.val n d) := fun c σ H e Q q => h c σ H e _ fun v H' s r => q v H' s ⟨.sh n d, rfl, List.nodup_nil, fun _ h => (by simp [B.ows] at h), by
  show Rep K (hide _ _) v d
  exact Rep.mono (fun a o h => by rw [hide_at (by simp [B.ows])]; exact h) r⟩
/-- a new list of one's own: a display, and what else makes one -/
def DN (K : PySem.W.Frag) (n : Bool) (te : TE) (G : Sl) (ds : List PyData) : Prop := ∀ (c : C) (σ : L2.St) (H : Hp), Sits K c G σ H → ∀ Q : VK, (∀ a vs H', H a = none → Same H H' → H' a = some (.lst vs) → Reps K (hide (fun b => b = a) (vis c (OF G) (some n) H')) vs ds → Q (.ref a) H') → te σ H Q
theorem dr_new (h : DN K n te G ds) : DR K te G (.own n ds) := fun c σ H e Q q => h c σ H e _ fun a vs H' hn s ha r => q _ H' s ⟨.own n a ds, rfl, by simp [B.ows], fun b hb => (by simp [B.ows] at hb; rw [hb]; exact hn), rfl, vs, ha, by
  refine Reps.mono (hide_le (Same.refl _) fun b o _ p => ?_) r
  simpa [B.ows] using p⟩
theorem dn_lst {t : TA} (h : DA K (some n) t G ds) (hl : ds.length ≤ 100000) : DN K n (tLst t) G ds := fun c σ H e Q q => h c σ H e _ fun vs H1 s1 r1 =>
  ⟨by rw [r1.length]; exact Nat.le_trans hl (by decide), fun p hp => by
    refine q p vs _ (non_of s1 hp) (s1.trans (same_new hp)) upd_same (Reps.mono (fun a o h => ?_) r1)
    have := (e.ext s1).vext (m := some n) (same_new (o := .lst vs) hp) a o h
    rw [hide_at fun z => ?_]
    · exact this
    · subst z
      have := (e.ext s1).vsame a o h
      rw [hp] at this; cases this⟩
end
end
end TB

/-! TB do: statements, loops, comprehensions, builtins. -/
namespace TB
open PySem PySem.Spec PyProof.Rows L2
section
variable {K : PySem.W.Frag}
section
variable {m m' : Md} {n : Bool} {te ta tb tx tc : TE} {tt tu : TT} {ts tv : TS} {G G' : Sl} {d x y z : PyData} {ds es : List PyData} {i j : Nat} {c : C} {σ : L2.St} {H H' : Hp} {v : V} {P P' : Post}

/-! ### statements -/
theorem ds_next (h : P.nx G) : DS K tNext G P := fun c σ H D e k _ _ _ => k G σ H h e
theorem ds_brk (h : P.bk G) : DS K tBreak G P := fun c σ H D e _ _ k _ => k G σ H h e
theorem ds_cont (h : P.ct G) : DS K tCont G P := fun c σ H D e _ _ _ k => k G σ H h e
theorem ds_seq (h : DS K ts G { P with nx := fun G' => DS K tv G' P }) : DS K (tSeq ts tv) G P := fun c σ H D e k1 k2 k3 k4 =>
  h c σ H { D with nx := tv D } e (fun G' σ' H' p e' => p c σ' H' D e' k1 k2 k3 k4) k2 k3 k4
theorem DS.less (h : DS K ts G' P) (l : Les G G') : DS K ts G P := fun c σ H D e => h c σ H D (e.less l)
theorem DS.imp (h : DS K ts G P) (h1 : ∀ G', P.nx G' → P'.nx G') (h2 : ∀ r, P.rt r → P'.rt r) (h3 : ∀ G', P.bk G' → P'.bk G') (h4 : ∀ G', P.ct G' → P'.ct G') : DS K ts G P' := fun c σ H D e k1 k2 k3 k4 =>
  h c σ H D e (fun G' σ' H' p => k1 G' σ' H' (h1 _ p)) (fun r v H' p => k2 r v H' (h2 _ p)) (fun G' σ' H' p => k3 G' σ' H' (h3 _ p)) (fun G' σ' H' p => k4 G' σ' H' (h4 _ p))
theorem ds_if {b : Bool} (h : DT K tt G b) (h1 : b = true → DS K ts G P) (h2 : b = false → DS K tv G P) : DS K (tIfS tt ts tv) G P := fun c σ H D e k1 k2 k3 k4 => h c σ H e _ fun H1 s => by
  have e1 := e.ext s
  cases b with
  | true =>
    show ts D σ H1
    exact h1 rfl c σ H1 D e1 k1 k2 k3 k4
  | false =>
    show tv D σ H1
    exact h2 rfl c σ H1 D e1 k1 k2 k3 k4
theorem its_own {G1 H1 : Hp} {a : Addr} : ∀ {vs : List V} {xs : List (Sum PyData (Addr × List PyData))}, Paired (RepIt K G1 H1) vs xs → a ∈ itOws xs → ∃ ws, H1 a = some (.lst ws)
  | [], [], .nil, h => by simp [itOws] at h
  | v :: vs, .inl d :: xs, .cons r t, h => its_own t h
  | v :: vs, .inr (b, ds) :: xs, .cons r t, h => by
    obtain ⟨_, ws, h4, _⟩ := r
    rcases List.mem_cons.mp h with q | q
    · rw [q]; exact ⟨_, h4⟩
    · exact its_own t q
/-- a name gets what an expression hands back -/
theorem ds_asg {r : R} (h : DR K te G r) (hi : i < G.length) (k : ∀ b : B, b.strip = r → P.nx (G.set i (some b))) : DS K (tAsg te (gName i)) G P := fun c σ H D e k1 _ _ _ => h c σ H e _ fun v H' s ⟨b, hb, hn, hf, hr⟩ => by
  show D.nx (σ.set i (some v)) H'
  have e1 := e.ext s
  have sub : ∀ n, Same (hide (fun a => a ∈ b.ows) (vis c (OF G) (some n) H')) (vis c (OF (G.set i (some b))) (some n) H') := fun n a o h => by
    obtain ⟨h1, h2⟩ := hide_some h
    obtain ⟨h3, h4⟩ := hide_some h2
    show hide _ _ a = _
    rw [hide_at fun p => ?_]
    · exact h4
    · obtain ⟨j, b', q1, q2⟩ := p
      rcases set_at q1 with ⟨_, q⟩ | ⟨_, q⟩
      · cases q; exact h1 q2
      · exact h3 ⟨j, b', q, q2⟩
  have own : ∀ a ∈ b.ows, ∃ o, H' a = some o ∧ isT o = false := fun a ha => by
    cases b with
    | sh n d => simp [B.ows] at ha
    | own n x ds => simp [B.ows] at ha; obtain ⟨_, vs, h2, _⟩ := hr; rw [ha]; exact ⟨_, h2, rfl⟩
    | odic n x ks => simp [B.ows] at ha; obtain ⟨_, vs, h2, _⟩ := hr; rw [ha]; exact ⟨_, h2, rfl⟩
    | tupo n xs =>
      obtain ⟨t, vs, _, _, h3⟩ := hr
      obtain ⟨ws, h4⟩ := its_own h3 ha
      exact ⟨_, h4, rfl⟩
    | lso n t xs =>
      obtain ⟨_, vs, h2, h3⟩ := hr
      rcases List.mem_cons.mp ha with z | z
      · rw [z]; exact ⟨_, h2, rfl⟩
      · obtain ⟨ws, h4⟩ := its_own h3 z
        exact ⟨_, h4, rfl⟩
  refine k1 _ _ _ (k b hb) (e.put s hi (hr.mono sub (Same.refl _)) hn fun a ha => ⟨hf a ha, own a ha⟩)
theorem ds_set (h : DE K (some n) te G d) (hi : i < G.length) (k : P.nx (G.set i (some (.sh n d)))) : DS K (tAsg te (gName i)) G P := ds_asg (dr_de h) hi fun b hb => by
  cases b <;> first | (cases hb; exact k) | cases hb
theorem ds_own (h : DR K te G (.own n ds)) (hi : i < G.length) (k : ∀ a, P.nx (G.set i (some (.own n a ds)))) : DS K (tAsg te (gName i)) G P := ds_asg h hi fun b hb => by
  cases b <;> first | (cases hb; exact k _) | cases hb
theorem ds_expr (h : DE K none te G d) (k : P.nx G) : DS K (tDrop te) G P := fun c σ H D e k1 _ _ _ => h c σ H e _ fun v H' s _ => k1 G σ H' k (e.ext s)
theorem gq_gz {c : C} {n : Bool} : gq c.F n = gz c n := rfl
theorem ds_ret {r : R} (h : DR K te G r) (k : P.rt r) : DS K (tRet te) G P := fun c σ H D e _ k2 _ _ => h c σ H e _ fun v H' s ⟨b, hb, hn, hf, hr⟩ => by
  refine k2 r v H' k (e.h0.trans s) ⟨b, hb, hn, fun a ha => non_of e.h0 (hf a ha), ?_⟩
  exact hr.mono (fun n => hide_le hide_same fun _ _ _ p => p) (Same.refl _)
theorem ds_retD (h : DE K (some n) te G d) (k : P.rt (.val n d)) : DS K (tRet te) G P := ds_ret (dr_de h) k
theorem ds_retN (k : P.rt (.val true .none)) : DS K tRetN G P := fun c σ H D e _ k2 _ _ => k2 _ .non H k e.h0 ⟨.sh true .none, rfl, List.nodup_nil, fun _ h => (by simp [B.ows] at h), .non⟩
/-- return of a name: also what is one's own -/
theorem ds_retV {b : B} (hg : G[i]? = some (some b)) (k : P.rt b.strip) : DS K (tRet (tVar i)) G P := fun c σ H D e _ k2 _ _ => by
  obtain ⟨v, h1, h2⟩ := e.at_ i b hg
  refine ⟨v, h1, k2 _ v H k e.h0 ⟨b, rfl, e.nd i b hg, fun a ha => (e.fr a ⟨i, b, hg, ha⟩).1, ?_⟩⟩
  exact h2.mono (fun n => hide_le (Same.refl _) fun a o _ p => ⟨i, b, hg, p⟩) (Same.refl _)
/-- xs.append(e), xs one's own -/
theorem ds_append {a : Addr} (hg : G[i]? = some (some (.own n a ds))) (h : DE K (some n) te G d) (hl : ds.length < 100000) (k : P.nx (G.set i (some (.own n a (ds ++ [d]))))) : DS K (tDrop (tBM K "list" rAppend (tVar i) (tCons te tNil))) G P := fun c σ H D e k1 _ _ _ => by
  obtain ⟨w, h1, rfl, vs, h2, h3⟩ := e.at_ i _ hg
  refine ⟨_, h1, Or.inl ⟨rfl, vs, .inl (.inl h2)⟩, h c σ H e _ fun u H1 s r => ?_⟩
  have e1 := e.ext s
  refine ⟨a, vs, u, rfl, rfl, s _ _ h2, by rw [h3.length]; exact Nat.lt_of_lt_of_le hl (by decide), k1 _ _ _ k (e1.write hg rfl (by simp [B.ows]) rfl fun v hv => ?_)⟩
  obtain ⟨rfl, ws, h4, h5⟩ := hv
  rw [s _ _ h2] at h4
  cases h4
  exact ⟨rfl, _, upd_same, h5.append (.cons r .nil)⟩
/-- xs[k] = e, xs one's own -/
theorem ds_setItem {a : Addr} {k : Int} {j : Nat} (hg : G[i]? = some (some (.own n a ds))) (h : DE K (some n) te G d) (hk : DE K none tx G (.int k)) (hj : ixN ds.length k = some j) (kk : P.nx (G.set i (some (.own n a (ds.set j d))))) : DS K (tAsg te (gSub (tVar i) tx rSetL)) G P := fun c σ H D e k1 _ _ _ =>
  h c σ H e _ fun u H1 s r => by
    have e1 := e.ext s
    obtain ⟨w, h1, rfl, vs, h2, h3⟩ := e1.at_ i _ hg
    refine ⟨_, h1, hk c σ H1 e1 _ fun q H2 s2 r2 => ?_⟩
    cases r2
    have e2 := e1.ext s2
    refine ⟨a, vs, k, j, rfl, rfl, s2 _ _ h2, by rw [h3.length]; exact hj, k1 _ _ _ kk (e2.write hg rfl (by simp [B.ows]) rfl fun v hv => ?_)⟩
    obtain ⟨rfl, ws, h4, h5⟩ := hv
    rw [s2 _ _ h2] at h4
    cases h4
    exact ⟨rfl, _, upd_same, Reps.set j (Rep.mono (e1.vext s2) r) h5⟩
/-- a, b = e1, e2 -/
theorem ds_par {t : TA} (h : DA K (some n) t G [x, y]) (hi : i < G.length) (hj : j < G.length) (k : P.nx ((G.set i (some (.sh n x))).set j (some (.sh n y)))) : DS K (tPar i j t) G P := fun c σ H D e k1 _ _ _ => h c σ H e _ fun vs H' s r => by
  cases r with
  | @cons v _ _ _ r1 r =>
    cases r with
    | @cons w _ _ _ r2 r =>
      cases r
      have e1 := e.ext s
      have p1 := e.put (b := .sh n x) (v := v) s hi (show Rep K _ v x from Rep.mono (vis_ext e.f0 e1.h0 (Same.refl _) fun a o _ p => by
        obtain ⟨q, b', q1, q2⟩ := p
        rcases set_at q1 with ⟨_, z⟩ | ⟨_, z⟩
        · cases z; simp [B.ows] at q2
        · exact ⟨q, b', z, q2⟩) r1) List.nodup_nil fun a ha => by simp [B.ows] at ha
      have p2 := p1.put (i := j) (b := .sh n y) (v := w) (Same.refl _) (by simpa using hj) (show Rep K _ w y from Rep.mono (vis_ext e.f0 e1.h0 (Same.refl _) fun a o _ p => by
        obtain ⟨q, b', q1, q2⟩ := p
        rcases set_at q1 with ⟨_, z⟩ | ⟨_, z⟩
        · cases z; simp [B.ows] at q2
        · rcases set_at z with ⟨_, z⟩ | ⟨_, z⟩
          · cases z; simp [B.ows] at q2
          · exact ⟨q, b', z, q2⟩) r2) List.nodup_nil fun a ha => by simp [B.ows] at ha
      exact ⟨v, w, rfl, k1 _ _ _ k p2⟩

/-! ### targets -/
/-- a target takes data that is seen at mode n -/
def DG (K : PySem.W.Frag) (g : TG) (n : Bool) (d : PyData) (G : Sl) (N : Sl → Prop) : Prop := ∀ (c : C) (σ : L2.St) (H : Hp) (v : V) (Q : L2.St → Hp → Prop), Sits K c G σ H → Rep K (vis c (OF G) (some n) H) v d → (∀ G' σ', N G' → Sits K c G' σ' H → Q σ' H) → g v σ H Q
def DGs (K : PySem.W.Frag) (g : TGs) (n : Bool) (ds : List PyData) (G : Sl) (N : Sl → Prop) : Prop := ∀ (c : C) (σ : L2.St) (H : Hp) (vs : List V) (Q : L2.St → Hp → Prop), Sits K c G σ H → Reps K (vis c (OF G) (some n) H) vs ds → (∀ G' σ', N G' → Sits K c G' σ' H → Q σ' H) → g vs σ H Q
theorem Sits.putS (e : Sits K c G σ H) (hi : i < G.length) (r : Rep K (vis c (OF G) (some n) H) v d) : Sits K c (G.set i (some (.sh n d))) (σ.set i (some v)) H :=
  e.put (b := .sh n d) (v := v) (Same.refl _) hi (show Rep K _ v d from Rep.mono (vis_ext e.f0 e.h0 (Same.refl _) fun a o _ p => by
    obtain ⟨q, b', q1, q2⟩ := p
    rcases set_at q1 with ⟨_, z⟩ | ⟨_, z⟩
    · cases z; simp [B.ows] at q2
    · exact ⟨q, b', z, q2⟩) r) List.nodup_nil fun a ha => by simp [B.ows] at ha
theorem Sits.putV (e : Sits K c G σ H) : Same (vis c (OF G) m H) (vis c (OF (G.set i (some (.sh n d)))) m H) := vis_ext e.f0 e.h0 (Same.refl _) fun a o _ p => by
    obtain ⟨q, b', q1, q2⟩ := p
    rcases set_at q1 with ⟨_, z⟩ | ⟨_, z⟩
    · cases z; simp [B.ows] at q2
    · exact ⟨q, b', z, q2⟩
theorem dg_name {N : Sl → Prop} (hi : i < G.length) (k : N (G.set i (some (.sh n d)))) : DG K (gName i) n d G N := fun c σ H v Q e r q => q _ _ k (e.putS hi r)
theorem dgs_nil {N : Sl → Prop} (k : N G) : DGs K gNil n [] G N := fun c σ H vs Q e r q => by
  cases r
  exact ⟨rfl, q G σ k e⟩
/-- the names of a written tuple, one after another -/
theorem dgs_name {N : Sl → Prop} {g : TGs} (hi : i < G.length) (k : DGs K g n ds (G.set i (some (.sh n d))) N) : DGs K (gCons (gName i) g) n (d :: ds) G N := fun c σ H vs Q e r q => by
  cases r with
  | @cons v _ vs _ r1 r =>
    exact ⟨v, vs, rfl, k c _ H vs Q (e.putS hi r1) (Reps.mono e.putV r) q⟩
theorem dg_tup {N : Sl → Prop} {g : TGs} {k : Nat} (hl : ds.length = k) (h : DGs K g n ds G N) : DG K (gTup K k g) n (.tuple ds) G N := fun c σ H v Q e r q => by
  cases r with
  | @tup a xs _ h1 r => exact ⟨a, xs, rfl, .inl (Rd.same e.vsame h1), by rw [r.length]; exact hl, h c σ H xs Q e r q⟩
/-- a tuple within the tuple -/
theorem dgs_tup {N : Sl → Prop} {g h : TGs} {k : Nat} {es : List PyData} (hl : es.length = k) (hd : DGs K g n es G fun G' => DGs K h n ds G' N) (hm : imms ds = true) : DGs K (gCons (gTup K k g) h) n (.tuple es :: ds) G N := fun c σ H vs Q e r q => by
  cases r with
  | @cons v _ vs _ r1 r =>
    refine ⟨v, vs, rfl, ?_⟩
    refine dg_tup hl hd c σ H v _ e r1 fun G' σ' p e' => ?_
    exact p c σ' H vs Q e' (Reps.imm (vis_tups e'.h0 e'.mu) (Reps.mono e.vsame r) hm) q
theorem ds_asgG {g : TG} (h : DE K (some n) te G d) (hg : DG K g n d G P.nx) : DS K (tAsg te g) G P := fun c σ H D e k1 _ _ _ => h c σ H e _ fun v H' s r => hg c σ H' v _ (e.ext s) r fun G' σ' p e' => k1 G' σ' H' p e'

/-! ### what is walked -/
/-- J gives the data ds at mode n, while what F shows stands -/
structure Src (K : PySem.W.Frag) (J : It) (F : Hp) (n : Bool) (c : C) (O : Addr → Prop) (ds : List PyData) : Prop where
  goes : ∀ i H, i < ds.length → Same F H → J.go i H
  stops : ∀ H, Same F H → J.stop ds.length H
  yields : ∀ (i : Nat) (H : Hp) (x : V) (H' : Hp) (d : PyData), ds[i]? = some d → Same F H → J.yld i H x H' → Same H H' ∧
    ∀ (G : Sl) (σ : L2.St) (c' : C), c'.F = c.F → (∀ a o, F a = some o → c'.H0 a = c.H0 a) → c'.Bs = F → Sits K c' G σ H → Rep K (vis c' (OF G) (some n) H') x d
def DI (K : PySem.W.Frag) (n : Bool) (wi : TI) (G : Sl) (ds : List PyData) : Prop := ∀ (c : C) (σ : L2.St) (H : Hp), Sits K c G σ H → ∀ R : It → Hp → Prop,
  (∀ J H', Same H H' → Src K J (hide (OF G) H') n c (OF G) ds → R J H') → wi σ H R
/-- the context with a later base: what stands still now -/
theorem Sits.base (e : Sits K c G σ H) : Sits K { c with Bs := hide (OF G) H } G σ H where
  f0 := e.f0
  h0 := e.h0
  b0 := hide_same
  fr := fun a h => ⟨(e.fr a h).1, hide_none h⟩
  mu := e.mu
  dj := e.dj
  nd := e.nd
  len := e.len
  at_ := fun i b h => by
    obtain ⟨v, h1, h2⟩ := e.at_ i b h
    exact ⟨v, h1, h2.mono (fun n => Same.refl _) (Same.refl _)⟩
theorem Sits.unbase {F : Hp} (e : Sits K { c with Bs := F } G σ H) (s : Same c.Bs F) : Sits K c G σ H where
  f0 := e.f0
  h0 := e.h0
  b0 := s.trans e.b0
  fr := fun a h => ⟨(e.fr a h).1, non_of s (e.fr a h).2⟩
  mu := e.mu
  dj := e.dj
  nd := e.nd
  len := e.len
  at_ := fun i b h => by
    obtain ⟨v, h1, h2⟩ := e.at_ i b h
    exact ⟨v, h1, h2.mono (fun n => Same.refl _) (Same.refl _)⟩
theorem Sits.bsub (e : Sits K c G σ H) : Same c.Bs (hide (OF G) H) := fun a o h => by
  rw [hide_at fun p => ?_]
  · exact e.b0 a o h
  · rw [(e.fr a p).2] at h; cases h
/-- a for: its word by the turn and the slots -/
theorem ds_for {wi : TI} {g : TG} (hI : DI K n wi G ds) (I : Nat → Sl → Prop) (h0 : I 0 G)
    (hs : ∀ (k : Nat) (d : PyData) (Gk : Sl), ds[k]? = some d → I k Gk → DG K g n d Gk fun G' => DS K ts G' { nx := I (k + 1), ct := I (k + 1), bk := P.nx, rt := P.rt })
    (hd : ∀ Gn, I ds.length Gn → P.nx Gn) : DS K (tFor wi g ts) G P := fun c σ H D e k1 k2 k3 k4 => hI c σ H e _ fun J H1 s S => by
  have e1 := e.ext s
  have eb := e1.base
  refine ⟨fun i m σ H => m = ds.length - i ∧ i ≤ ds.length ∧ ∃ Gk, I i Gk ∧ Sits K { c with Bs := hide (OF G) H1 } Gk σ H, ⟨ds.length, by simp, Nat.zero_le _, G, h0, eb⟩, ?_⟩
  rintro i m σ' H' ⟨rfl, hi, Gk, hk, ek⟩
  by_cases hlt : i < ds.length
  · refine .inr ⟨S.goes i H' hlt ek.b0, fun σ2 H2 => ∃ Gk, I (i + 1) Gk ∧ Sits K { c with Bs := hide (OF G) H1 } Gk σ2 H2, fun σ2 H2 q => ⟨ds.length - (i + 1), by omega, rfl, hlt, q⟩, fun x H2 y => ?_⟩
    have hd' : ds[i]? = some ds[i] := List.getElem?_eq_getElem hlt
    obtain ⟨s2, r2⟩ := S.yields i H' x H2 _ hd' ek.b0 y
    have ek2 := ek.ext s2
    refine hs i _ Gk hd' hk _ σ' H2 x _ ek2 (r2 Gk σ' _ rfl (fun _ _ _ => rfl) rfl ek) fun G' σ2 hp e' => ?_
    refine hp _ σ2 H2 _ e' (fun G2 σ3 H3 q e3 => ⟨G2, q, e3⟩) k2 (fun G2 σ3 H3 q e3 => k1 G2 σ3 H3 q (e3.unbase e1.bsub)) fun G2 σ3 H3 q e3 => ⟨G2, q, e3⟩
  · have : i = ds.length := by omega
    subst this
    exact .inl ⟨S.stops H' ek.b0, k1 Gk σ' H' (hd Gk hk) (ek.unbase e1.bsub)⟩
/-- a while: its word by a number that falls -/
theorem ds_while (I : Nat → Sl → Prop) (m0 : Nat) (h0 : I m0 G)
    (hs : ∀ m Gk, I m Gk → ∃ b, DT K tt Gk b ∧ (b = true → DS K ts Gk { nx := fun G' => ∃ m', m' < m ∧ I m' G', ct := fun G' => ∃ m', m' < m ∧ I m' G', bk := P.nx, rt := P.rt }) ∧ (b = false → P.nx Gk)) : DS K (tWhile tt ts) G P := fun c σ H D e k1 k2 k3 k4 => by
  refine ⟨fun m σ H => ∃ Gk, I m Gk ∧ Sits K c Gk σ H, ⟨m0, G, h0, e⟩, ?_⟩
  rintro m σ' H' ⟨Gk, hk, ek⟩
  obtain ⟨b, ht, hb, hn⟩ := hs m Gk hk
  refine ht c σ' H' ek _ fun H1 s => ?_
  cases b with
  | true =>
    show ∃ N : L2.St → Hp → Prop, _ ∧ _
    refine ⟨fun σ2 H2 => ∃ m' G', m' < m ∧ I m' G' ∧ Sits K c G' σ2 H2, fun σ2 H2 ⟨m', G', q1, q2, q3⟩ => ⟨m', q1, G', q2, q3⟩, ?_⟩
    exact hb rfl c σ' H1 _ (ek.ext s) (fun G' σ2 H2 ⟨m', q1, q2⟩ e2 => ⟨m', G', q1, q2, e2⟩) k2 (fun G' σ2 H2 q e2 => k1 G' σ2 H2 q e2) fun G' σ2 H2 ⟨m', q1, q2⟩ e2 => ⟨m', G', q1, q2, e2⟩
  | false =>
    show D.nx σ' H1
    exact k1 Gk σ' H1 (hn rfl) (ek.ext s)
end
end
end TB

/-! TB lc: sources of walks, comprehensions. -/
namespace TB
open PySem PySem.Spec PyProof.Rows L2
section
variable {K : PySem.W.Frag}
section
variable {m m' : Md} {n n' : Bool} {te ta tb tx tc : TE} {tt tu : TT} {ts tv : TS} {G G' : Sl} {d x y z : PyData} {ds es : List PyData} {i j : Nat} {c : C} {σ : L2.St} {H H' : Hp} {v : V} {P P' : Post}
theorem vis_hide (f : Same c.F c.H0) (e : Same c.H0 H) {O : Addr → Prop} : Same (vis c O (some n) H) (hide O H) := hide_le (plus_same (gz_same f n) e) fun _ _ _ p => p
/-- what stood still stands still -/
theorem src_see {O : Addr → Prop} {F Hs : Hp} {c' : C} (f : Same c.F c.H0) (e0 : Same c.H0 Hs) (hF : F = hide O Hs) (s : Same F H) (e : Sits K c' G σ H) (h1 : c'.F = c.F) (h2 : ∀ a o, F a = some o → c'.H0 a = c.H0 a) (h3 : c'.Bs = F) :
    Same (vis c O (some n) Hs) (vis c' (OF G) (some n) H) := fun a o h => by
  have hf : F a = some o := by rw [hF]; exact vis_hide f e0 a o h
  have hn : ¬ OF G a := fun p => by
    have := (e.fr a p).2
    rw [h3, hf] at this; cases this
  have hh := h2 a o hf
  obtain ⟨_, hp⟩ := hide_some h
  show hide (OF G) _ a = some o
  rw [hide_at hn]
  have hH := s a o hf
  rcases plus_cases hp with ⟨q1, q2⟩ | ⟨t, q1⟩ | ⟨q1, u, q2, t⟩
  · rw [plus_new (hh.trans q1)]; exact nf_eq q2 hH
  · exact plus_T t (hh.trans q1)
  · have hg : gz c' n = gz c n := by unfold gz; rw [h1]
    rw [plus_G t (hh.trans q2), hg]
    exact q1
theorem di_list (h : DE K (some n) ta G (.list ds)) : DI K n (iList K ta) G ds := fun c σ H e R k => h c σ H e _ fun v H' s r => by
  cases r with
  | @lst a xs _ h1 r =>
    have e1 := e.ext s
    have hq : ∀ {H2}, Same (hide (OF G) H') H2 → SqL K H2 a xs := fun s2 => SqL.same ((vis_hide e.f0 e1.h0).trans s2) h1
    refine ⟨a, rfl, ⟨xs, SqL.same e1.vsame h1⟩, k _ H' s ⟨fun i H2 hi s2 => ?_, fun H2 s2 => ⟨xs, hq s2, Nat.le_of_eq r.length⟩, fun i H2 x H3 d hd s2 y => ?_⟩⟩
    · have hi2 : i < xs.length := by rw [r.length]; exact hi
      exact ⟨xs, xs[i], hq s2, List.getElem?_eq_getElem hi2⟩
    · obtain ⟨rfl, y2⟩ := y
      refine ⟨Same.refl _, fun G2 σ2 c' q1 q2 q3 e2 => ?_⟩
      obtain ⟨w, w1, w2⟩ := r.get hd
      rw [y2 xs (hq s2)] at w1
      cases w1
      exact Rep.mono (src_see e.f0 e1.h0 rfl s2 e2 q1 q2 q3) w2
theorem di_tup (h : DE K (some n) ta G (.tuple ds)) : DI K n (iTup K ta) G ds := fun c σ H e R k => h c σ H e _ fun v H' s r => by
  cases r with
  | @tup a xs _ h1 r =>
    have e1 := e.ext s
    have hq : ∀ {H2}, Same (hide (OF G) H') H2 → SqT K H2 a xs := fun s2 => .inl (Rd.same ((vis_hide e.f0 e1.h0).trans s2) h1)
    refine ⟨a, rfl, ⟨xs, .inl (Rd.same e1.vsame h1)⟩, k _ H' s ⟨fun i H2 hi s2 => ?_, fun H2 s2 => ⟨xs, hq s2, Nat.le_of_eq r.length⟩, fun i H2 x H3 d hd s2 y => ?_⟩⟩
    · have hi2 : i < xs.length := by rw [r.length]; exact hi
      exact ⟨xs, xs[i], hq s2, List.getElem?_eq_getElem hi2⟩
    · obtain ⟨rfl, y2⟩ := y
      refine ⟨Same.refl _, fun G2 σ2 c' q1 q2 q3 e2 => ?_⟩
      obtain ⟨w, w1, w2⟩ := r.get hd
      rw [y2 xs (hq s2)] at w1
      cases w1
      exact Rep.mono (src_see e.f0 e1.h0 rfl s2 e2 q1 q2 q3) w2
/-- a list or a tuple -/
def iSeq (K : PySem.W.Frag) (tl : TE) : TI := fun σ H R => tl σ H fun x H1 => (∃ a, x = .ref a ∧ (∃ xs, SqL K H1 a xs) ∧ R (Itl K a) H1) ∨ ∃ a, x = .ref a ∧ (∃ xs, SqT K H1 a xs) ∧ R (Itt K a) H1
theorem di_listS (h : DE K (some n) ta G (.list ds)) : DI K n (iSeq K ta) G ds := fun c σ H e R k => by
  have h2 := di_list (K := K) h c σ H e R k
  -- the same walk, the left way
  refine h c σ H e _ fun v H' s r => ?_
  cases r with
  | @lst a xs _ h1 r =>
    have e1 := e.ext s
    have hq : ∀ {H2}, Same (hide (OF G) H') H2 → SqL K H2 a xs := fun s2 => SqL.same ((vis_hide e.f0 e1.h0).trans s2) h1
    refine .inl ⟨a, rfl, ⟨xs, SqL.same e1.vsame h1⟩, k _ H' s ⟨fun i H2 hi s2 => ?_, fun H2 s2 => ⟨xs, hq s2, Nat.le_of_eq r.length⟩, fun i H2 x H3 d hd s2 y => ?_⟩⟩
    · have hi2 : i < xs.length := by rw [r.length]; exact hi
      exact ⟨xs, xs[i], hq s2, List.getElem?_eq_getElem hi2⟩
    · obtain ⟨rfl, y2⟩ := y
      refine ⟨Same.refl _, fun G2 σ2 c' q1 q2 q3 e2 => ?_⟩
      obtain ⟨w, w1, w2⟩ := r.get hd
      rw [y2 xs (hq s2)] at w1
      cases w1
      exact Rep.mono (src_see e.f0 e1.h0 rfl s2 e2 q1 q2 q3) w2
theorem di_tupS (h : DE K (some n) ta G (.tuple ds)) : DI K n (iSeq K ta) G ds := fun c σ H e R k => by
  refine h c σ H e _ fun v H' s r => ?_
  cases r with
  | @tup a xs _ h1 r =>
    have e1 := e.ext s
    have hq : ∀ {H2}, Same (hide (OF G) H') H2 → SqT K H2 a xs := fun s2 => .inl (Rd.same ((vis_hide e.f0 e1.h0).trans s2) h1)
    refine .inr ⟨a, rfl, ⟨xs, .inl (Rd.same e1.vsame h1)⟩, k _ H' s ⟨fun i H2 hi s2 => ?_, fun H2 s2 => ⟨xs, hq s2, Nat.le_of_eq r.length⟩, fun i H2 x H3 d hd s2 y => ?_⟩⟩
    · have hi2 : i < xs.length := by rw [r.length]; exact hi
      exact ⟨xs, xs[i], hq s2, List.getElem?_eq_getElem hi2⟩
    · obtain ⟨rfl, y2⟩ := y
      refine ⟨Same.refl _, fun G2 σ2 c' q1 q2 q3 e2 => ?_⟩
      obtain ⟨w, w1, w2⟩ := r.get hd
      rw [y2 xs (hq s2)] at w1
      cases w1
      exact Rep.mono (src_see e.f0 e1.h0 rfl s2 e2 q1 q2 q3) w2
theorem pi_seq {X : Cx} {tg l : Expr} {tl : TE} (hl : PE X l tl) : PI X tg l (iSeq X.K tl) := by
  refine ⟨fun pins s σ H R I h => ?_⟩
  refine thn (hl.run pins s σ H _ I h) fun v s1 ⟨x, H1, I1, r1, q1⟩ => ?_
  rcases q1 with ⟨a, e, ⟨xs, hq⟩, q⟩ | ⟨a, e, ⟨xs, hq⟩, q⟩
  · subst e
    cases r1
    obtain ⟨its, rv, p, hz⟩ := I1.list hq
    refine wpAny_pyIter_list p.isList ?_
    refine ⟨s1.heap.objs.size, [s1.heap.objs.size], _, _, H1, rfl, I1.kept (t' := s1.toks) fun b o e => Heap.get?_push_of_some _ e, turn_list a _, ⟨_, Heap.get?_push_size _ rfl, rfl, rfl⟩, fun b hb => ?_, q⟩
    have e : b = s1.heap.objs.size := by simpa using hb
    subst e
    exact I1.fpOk (Nat.le_refl _) (I1.hok.fresh (Nat.le_refl _))
  · subst e
    cases r1
    obtain ⟨its, rv, p, hz⟩ := I1.tuple hq
    refine wpAny_pyIter_tuple (show s1.heap.IsTuple a its.toArray from p) ?_
    refine ⟨s1.heap.objs.size, [s1.heap.objs.size], _, _, H1, rfl, I1.kept (t' := s1.toks) fun b o e => Heap.get?_push_of_some _ e, turn_tuple a _, ⟨_, Heap.get?_push_size _ rfl, rfl, rfl⟩, fun b hb => ?_, q⟩
    have e : b = s1.heap.objs.size := by simpa using hb
    subst e
    exact I1.fpOk (Nat.le_refl _) (I1.hok.fresh (Nat.le_refl _))
/-- ranges -/
def rgD (lo : Int) (k : Nat) : List PyData := (List.range k).map fun i => .int (lo + (i : Nat))
theorem src_range {lo : Int} {k : Nat} {F : Hp} {O : Addr → Prop} : Src K (Itr lo k) F true c O (rgD lo k) :=
  ⟨fun i H hi _ => (show i < k by simpa [rgD] using hi), fun H _ => (show k ≤ (rgD lo k).length by simp [rgD]), fun i H x H' d hd s y => by
    obtain ⟨rfl, rfl⟩ := y
    refine ⟨Same.refl _, fun G σ c' _ _ _ e => ?_⟩
    unfold rgD at hd
    rw [List.getElem?_map] at hd
    cases q : (List.range k)[i]? with
    | none => rw [q] at hd; cases hd
    | some w =>
      rw [q] at hd
      have : w = i := by
        obtain ⟨h1, h2⟩ := List.getElem?_eq_some_iff.mp q
        rw [List.getElem_range] at h2; exact h2.symm
      subst this
      cases hd
      exact .int _⟩
theorem di_range1 {k : Int} (h : DE K none te G (.int k)) (h1 : -(2 ^ 62) ≤ k) (h2 : k < 2 ^ 62) : DI K true (iRng1 (tCons te tNil)) G (rgD 0 k.toNat) := fun c σ H e R q => h c σ H e _ fun v H' s r => by
  cases r
  exact ⟨k, rfl, h1, h2, q _ H' s src_range⟩
theorem di_range2 {lo hi : Int} (h : DE K none ta G (.int lo)) (h' : DE K none tb G (.int hi)) (hb : -(2 ^ 62) ≤ lo ∧ lo < 2 ^ 62 ∧ -(2 ^ 62) ≤ hi ∧ hi < 2 ^ 62) : DI K true (iRng2 (tCons ta (tCons tb tNil))) G (rgD lo (hi - lo).toNat) := fun c σ H e R q => h c σ H e _ fun v H1 s1 r1 => h' c σ H1 (e.ext s1) _ fun u H2 s2 r2 => by
  cases r1; cases r2
  exact ⟨lo, hi, rfl, hb, q _ H2 (s1.trans s2) src_range⟩
/-- pairs: a new tuple a turn -/
theorem pair_see {O : Addr → Prop} {F Hs : Hp} {c' : C} {T : Addr} {xs : List V} (e : Sits K c' G σ H) (hT : H T = none) (h : Reps K (vis c' (OF G) (some n) H) xs ds) : Rep K (vis c' (OF G) (some n) (upd H T (.tup xs))) (.ref T) (.tuple ds) := by
  refine .tup (.inl ?_) (Reps.mono (e.vext (same_new hT)) h)
  show hide (OF G) _ T = _
  rw [hide_at (e.nof hT), plus_new (non_of e.h0 hT), upd_same]
  rfl
theorem zip_at {xs ys : List PyData} {i : Nat} {d : PyData} (h : (List.zipWith (fun a b => PyData.tuple [a, b]) xs ys)[i]? = some d) : ∃ a b, xs[i]? = some a ∧ ys[i]? = some b ∧ d = .tuple [a, b] := by
  rw [List.getElem?_zipWith] at h
  cases q : xs[i]? with
  | none => rw [q] at h; cases h
  | some a =>
    cases q' : ys[i]? with
    | none => rw [q, q'] at h; cases h
    | some b => rw [q, q'] at h; exact ⟨a, b, rfl, rfl, (Option.some.inj h).symm⟩
theorem di_zipT (h : DE K (some n) ta G (.tuple ds)) (h' : DE K (some n) tb G (.tuple es)) : DI K n (RZ.iZipA K (tCons ta (tCons tb tNil))) G (List.zipWith (fun a b => .tuple [a, b]) ds es) := fun c σ H e R k => h c σ H e _ fun v H1 s1 r1 => h' c σ H1 (e.ext s1) _ fun u H2 s2 r2 => by
  have e1 := e.ext s1
  have e2 := e1.ext s2
  have r1 := Rep.mono (e1.vext s2) r1
  cases r1 with
  | @tup a xs _ p1 r1 =>
    cases r2 with
    | @tup b ys _ p2 r2 =>
      have l1 := r1.length
      have l2 := r2.length
      have ha : ∀ {H3}, Same (hide (OF G) H2) H3 → SqT K H3 a xs := fun s3 => .inl (Rd.same ((vis_hide e.f0 e2.h0).trans s3) p1)
      have hb : ∀ {H3}, Same (hide (OF G) H2) H3 → SqT K H3 b ys := fun s3 => .inl (Rd.same ((vis_hide e.f0 e2.h0).trans s3) p2)
      refine ⟨a, b, xs, ys, rfl, .inr ⟨.inl (Rd.same e2.vsame p1), .inl (Rd.same e2.vsame p2), k _ H2 (s1.trans s2) ⟨fun i H3 hi s3 => ?_, fun H3 s3 => ⟨xs, ys, ha s3, hb s3, ?_⟩, fun i H3 x H4 d hd s3 y => ?_⟩⟩⟩
      · rw [List.length_zipWith] at hi
        have i1 : i < xs.length := by omega
        have i2 : i < ys.length := by omega
        exact ⟨xs, ys, xs[i], ys[i], ha s3, hb s3, List.getElem?_eq_getElem i1, List.getElem?_eq_getElem i2⟩
      · rw [List.length_zipWith]; omega
      · obtain ⟨T, x1, y1, rfl, hT, rfl, q1, q2⟩ := y
        refine ⟨same_new hT, fun G2 σ2 c' z1 z2 z3 e3 => ?_⟩
        obtain ⟨da, db, k1, k2, rfl⟩ := zip_at hd
        obtain ⟨w1, u1, v1⟩ := r1.get k1
        obtain ⟨w2, u2, v2⟩ := r2.get k2
        rw [q1 xs (ha s3)] at u1; cases u1
        rw [q2 ys (hb s3)] at u2; cases u2
        have see := src_see (n := n) e.f0 e2.h0 rfl s3 e3 z1 z2 z3
        exact pair_see (O := OF G) (F := H2) (Hs := H2) e3 hT (.cons (Rep.mono see v1) (.cons (Rep.mono see v2) .nil))
theorem di_zipL (h : DE K (some n) ta G (.list ds)) (h' : DE K (some n) tb G (.list es)) : DI K n (RZ.iZipA K (tCons ta (tCons tb tNil))) G (List.zipWith (fun a b => .tuple [a, b]) ds es) := fun c σ H e R k => h c σ H e _ fun v H1 s1 r1 => h' c σ H1 (e.ext s1) _ fun u H2 s2 r2 => by
  have e1 := e.ext s1
  have e2 := e1.ext s2
  have r1 := Rep.mono (e1.vext s2) r1
  cases r1 with
  | @lst a xs _ p1 r1 =>
    cases r2 with
    | @lst b ys _ p2 r2 =>
      have l1 := r1.length
      have l2 := r2.length
      have ha : ∀ {H3}, Same (hide (OF G) H2) H3 → SqL K H3 a xs := fun s3 => SqL.same s3 (SqL.same (vis_hide e.f0 e2.h0) p1)
      have hb : ∀ {H3}, Same (hide (OF G) H2) H3 → SqL K H3 b ys := fun s3 => SqL.same s3 (SqL.same (vis_hide e.f0 e2.h0) p2)
      refine ⟨a, b, xs, ys, rfl, .inl ⟨SqL.same e2.vsame p1, SqL.same e2.vsame p2, k _ H2 (s1.trans s2) ⟨fun i H3 hi s3 => ?_, fun H3 s3 => ⟨xs, ys, ha s3, hb s3, ?_⟩, fun i H3 x H4 d hd s3 y => ?_⟩⟩⟩
      · rw [List.length_zipWith] at hi
        have i1 : i < xs.length := by omega
        have i2 : i < ys.length := by omega
        exact ⟨xs, ys, xs[i], ys[i], ha s3, hb s3, List.getElem?_eq_getElem i1, List.getElem?_eq_getElem i2⟩
      · rw [List.length_zipWith]; omega
      · obtain ⟨T, x1, y1, rfl, hT, rfl, q1, q2⟩ := y
        refine ⟨same_new hT, fun G2 σ2 c' z1 z2 z3 e3 => ?_⟩
        obtain ⟨da, db, k1, k2, rfl⟩ := zip_at hd
        obtain ⟨w1, u1, v1⟩ := r1.get k1
        obtain ⟨w2, u2, v2⟩ := r2.get k2
        rw [q1 xs (ha s3)] at u1; cases u1
        rw [q2 ys (hb s3)] at u2; cases u2
        have see := src_see (n := n) e.f0 e2.h0 rfl s3 e3 z1 z2 z3
        exact pair_see (O := OF G) (F := H2) (Hs := H2) e3 hT (.cons (Rep.mono see v1) (.cons (Rep.mono see v2) .nil))

/-! ### comprehensions -/
def wipeG (G : Sl) : List Nat → Sl
  | [] => G
  | v :: vs => (wipeG G vs).set v none
theorem wipeG_at : ∀ {vs : List Nat} {i : Nat} {b : B}, (wipeG G vs)[i]? = some (some b) → G[i]? = some (some b)
  | [], _, _, h => h
  | v :: vs, i, b, h => by
    rcases set_at h with ⟨_, q⟩ | ⟨_, q⟩
    · cases q
    · exact wipeG_at q
theorem wipeG_len : ∀ vs : List Nat, (wipeG G vs).length = G.length
  | [] => rfl
  | v :: vs => by unfold wipeG; rw [List.length_set, wipeG_len vs]
/-- no slot that the block wipes is one's own -/
def NoOwn (G : Sl) (vs : List Nat) : Prop := ∀ a, OF G a → OF (wipeG G vs) a
theorem Sits.wipe (e : Sits K c G σ H) : ∀ vs : List Nat, Sits K c (wipeG G vs) (L2.wipe σ vs) H
  | [] => e
  | v :: vs => by
    have ih := Sits.wipe e vs
    have : Sits K c ((wipeG G vs).set v none) (L2.wipe σ vs) H := ih.drop
    refine { this with len := by simp [wipeG, L2.wipe, ih.len], at_ := fun i b h => ?_ }
    obtain ⟨w, h1, h2⟩ := this.at_ i b h
    refine ⟨w, ?_, h2⟩
    unfold L2.wipe
    rcases set_at h with ⟨_, q⟩ | ⟨hi, q⟩
    · cases q
    · rw [List.getElem?_set_ne (fun z => hi z.symm)]; exact h1
/-- the target stores in the wiped slots alone -/
def GW (g : TG) (vs : List Nat) : Prop := ∀ (v : V) (σ : L2.St) (H : Hp) (Q Q' : L2.St → Hp → Prop), (∀ σ' H', Q σ' H' → L2.wipe σ' vs = L2.wipe σ vs → Q' σ' H') → g v σ H Q → g v σ H Q'
def GWs (g : TGs) (vs : List Nat) : Prop := ∀ (v : List V) (σ : L2.St) (H : Hp) (Q Q' : L2.St → Hp → Prop), (∀ σ' H', Q σ' H' → L2.wipe σ' vs = L2.wipe σ vs → Q' σ' H') → g v σ H Q → g v σ H Q'
theorem wipe_set {x : Option V} : ∀ {vs : List Nat}, i ∈ vs → L2.wipe (σ.set i x) vs = L2.wipe σ vs
  | [], h => by simp at h
  | v :: vs, h => by
    unfold L2.wipe
    by_cases hv : i ∈ vs
    · rw [wipe_set hv]
    · have e : i = v := by
        rcases List.mem_cons.mp h with q | q
        · exact q
        · exact (hv q).elim
      subst e
      have : ∀ {us : List Nat}, i ∉ us → L2.wipe (σ.set i x) us = (L2.wipe σ us).set i x := fun {us} => by
        induction us with
        | nil => intro _; rfl
        | cons u us ih =>
          intro hu
          have h1 : i ≠ u := fun z => hu (by simp [z])
          have h2 : i ∉ us := fun z => hu (by simp [z])
          unfold L2.wipe
          rw [ih h2, List.set_comm _ _ h1]
      rw [this hv, List.set_set]
theorem wipe_idem : ∀ (vs us : List Nat), (∀ v ∈ vs, v ∈ us) → L2.wipe (L2.wipe σ vs) us = L2.wipe σ us
  | [], us, _ => rfl
  | v :: vs, us, h => by
    rw [show L2.wipe σ (v :: vs) = (L2.wipe σ vs).set v none from rfl, wipe_set (h v (by simp))]
    exact wipe_idem vs us fun w hw => h w (by simp [hw])
theorem gw_name {vs : List Nat} (h : i ∈ vs) : GW (gName i) vs := fun v σ H Q Q' k q => k _ _ q (wipe_set h)
theorem gws_nil {vs : List Nat} : GWs gNil vs := fun v σ H Q Q' k q => ⟨q.1, k _ _ q.2 rfl⟩
theorem gws_cons {g : TG} {h : TGs} {vs : List Nat} (h1 : GW g vs) (h2 : GWs h vs) : GWs (gCons g h) vs := fun v σ H Q Q' k ⟨w, r, e, q⟩ =>
  ⟨w, r, e, h1 w σ H _ _ (fun σ1 H1 q1 e1 => h2 r σ1 H1 _ _ (fun σ2 H2 q2 e2 => k _ _ q2 (e2.trans e1)) q1) q⟩
theorem gw_tup {g : TGs} {vs : List Nat} {k : Nat} (h : GWs g vs) : GW (gTup K k g) vs := fun v σ H Q Q' kk ⟨a, xs, h1, h2, h3, q⟩ => ⟨a, xs, h1, h2, h3, h xs σ H Q Q' kk q⟩

/-- the new list of a comprehension: seen by nobody while it grows -/
def withD (c : C) (D : Addr) (acc : List V) (F : Hp) : C := { F := c.F, H0 := upd c.H0 D (.lst acc), Bs := F }
theorem vis_withD {D : Addr} {acc : List V} {F : Hp} {O : Addr → Prop} (hf : c.F D = none) {n : Bool} : vis (withD c D acc F) O (some n) H = fun a => if a = D then none else vis c O (some n) H a := by
  funext a
  show hide O (plus (gz (withD c D acc F) n) (upd c.H0 D (.lst acc)) H) a = _
  by_cases hD : a = D
  · subst hD
    rw [if_pos rfl]
    by_cases p : O a
    · rw [hide_none p]
    · rw [hide_at p]
      unfold plus
      rw [upd_same]
      show gz (withD c a acc F) n a = none
      unfold gz
      cases n
      · exact hf
      · rfl
  · rw [if_neg hD]
    show _ = hide O (plus (gz c n) c.H0 H) a
    by_cases p : O a
    · rw [hide_none p, hide_none p]
    · rw [hide_at p, hide_at p]
      unfold plus
      rw [upd_ne hD]
      rfl
theorem lc_start {vs : List Nat} {D : Addr} (e : Sits K c G σ H) (hD : H D = none) : Sits K (withD c D [] (hide (OF G) H)) (wipeG G vs) (L2.wipe σ vs) (upd H D (.lst [])) := by
  have w := e.wipe vs
  have hf : c.F D = none := non_of (e.f0.trans e.h0) hD
  have h0 : c.H0 D = none := non_of e.h0 hD
  have sub : ∀ a, OF (wipeG G vs) a → OF G a := fun a ⟨i, b, q1, q2⟩ => ⟨i, b, wipeG_at q1, q2⟩
  have ne : ∀ a, OF (wipeG G vs) a → a ≠ D := fun a p z => by
    obtain ⟨o, h1, _⟩ := w.mu a p
    rw [z, hD] at h1; cases h1
  refine ⟨fun a o h => ?_, fun a o h => ?_, fun a o h => ?_, fun a h => ⟨?_, ?_⟩, fun a h => ?_, w.dj, w.nd, w.len, fun i b h => ?_⟩
  · show upd c.H0 D _ a = _
    rw [upd_ne (ne_of_none h hf)]; exact e.f0 a o h
  · by_cases z : a = D
    · subst z
      have h : upd c.H0 a (.lst []) a = some o := h
      rw [upd_same] at h ⊢; exact h
    · have h : upd c.H0 D (.lst []) a = some o := h
      rw [upd_ne z] at h ⊢; exact e.h0 a o h
  · have : H a = some o := hide_same a o h
    rw [upd_ne (ne_of_none this hD)]; exact this
  · show upd c.H0 D _ a = none
    rw [upd_ne (ne a h)]; exact (e.fr a (sub a h)).1
  · exact hide_none (sub a h)
  · obtain ⟨o, h1, h2⟩ := w.mu a h
    exact ⟨o, by rw [upd_ne (ne a h)]; exact h1, h2⟩
  · obtain ⟨v, h1, h2⟩ := w.at_ i b h
    refine ⟨v, h1, h2.mono (fun n a o q => ?_) (same_new hD)⟩
    have q' : vis c (OF (wipeG G vs)) (some n) H a = some o := q
    have hne : a ≠ D := ne_of_none (w.vsame a o q') hD
    show vis (withD c D [] _) _ (some n) _ a = _
    rw [vis_withD hf]
    show (if a = D then none else _) = _
    rw [if_neg hne]
    exact w.vext (same_new hD) a o q'
/-- one item more -/
theorem lc_more {D : Addr} {acc acc' : List V} {F : Hp} (e : Sits K (withD c D acc F) G σ H) (hD : H D = some (.lst acc)) (hf : c.F D = none) (hF : F D = none) :
    Sits K (withD c D acc' F) G σ (upd H D (.lst acc')) ∧ ∀ n, vis (withD c D acc' F) (OF G) (some n) (upd H D (.lst acc')) = vis (withD c D acc F) (OF G) (some n) H := by
  have ne : ∀ a, OF G a → a ≠ D := fun a p z => by
    have := (e.fr a p).1
    have h : upd c.H0 D (.lst acc) a = none := this
    rw [z, upd_same] at h; cases h
  have hv : ∀ n, vis (withD c D acc' F) (OF G) (some n) (upd H D (.lst acc')) = vis (withD c D acc F) (OF G) (some n) H := fun n => by
    rw [vis_withD hf, vis_withD hf]
    funext a
    by_cases z : a = D
    · rw [if_pos z, if_pos z]
    · rw [if_neg z, if_neg z]
      show hide (OF G) (plus _ _ _) a = hide (OF G) (plus _ _ _) a
      by_cases p : OF G a
      · rw [hide_none p, hide_none p]
      · rw [hide_at p, hide_at p]
        unfold plus
        rw [upd_ne z]
  refine ⟨⟨fun a o h => ?_, fun a o h => ?_, fun a o h => ?_, fun a h => ⟨?_, (e.fr a h).2⟩, fun a h => ?_, e.dj, e.nd, e.len, fun i b h => ?_⟩, hv⟩
  · have h1 := e.f0 a o h
    have h1 : upd c.H0 D (.lst acc) a = some o := h1
    have hne : a ≠ D := ne_of_none h hf
    show upd c.H0 D (.lst acc') a = _
    rw [upd_ne hne] at h1 ⊢; exact h1
  · by_cases z : a = D
    · subst z
      have h : upd c.H0 a (.lst acc') a = some o := h
      rw [upd_same] at h ⊢; exact h
    · have h : upd c.H0 D (.lst acc') a = some o := h
      rw [upd_ne z] at h ⊢
      exact e.h0 a o (show upd c.H0 D (.lst acc) a = some o by rw [upd_ne z]; exact h)
  · rw [upd_ne (ne_of_none h hF)]; exact e.b0 a o h
  · have := (e.fr a h).1
    have h' : upd c.H0 D (.lst acc) a = none := this
    show upd c.H0 D (.lst acc') a = none
    rw [upd_ne (ne a h)] at h' ⊢; exact h'
  · obtain ⟨o, h1, h2⟩ := e.mu a h
    exact ⟨o, by rw [upd_ne (ne a h)]; exact h1, h2⟩
  · obtain ⟨v, h1, h2⟩ := e.at_ i b h
    refine ⟨v, h1, ?_⟩
    have hv' : (fun n => vis (withD c D acc' F) (OF G) (some n) (upd H D (.lst acc'))) = fun n => vis (withD c D acc F) (OF G) (some n) H := funext hv
    rw [hv']
    cases b with
    | sh n d => exact h2
    | own n x ds =>
      obtain ⟨r1, ws, r2, r3⟩ := h2
      exact ⟨r1, ws, by rw [upd_ne (ne x ⟨i, _, h, by simp [B.ows]⟩)]; exact r2, r3⟩
    | odic n x ks =>
      obtain ⟨r1, ws, r2, r3⟩ := h2
      exact ⟨r1, ws, by rw [upd_ne (ne x ⟨i, _, h, by simp [B.ows]⟩)]; exact r2, r3⟩
    | tupo n xs =>
      obtain ⟨t, ws, r1, r2, r3⟩ := h2
      refine ⟨t, ws, r1, ?_, ?_⟩
      · rw [upd_ne fun z => ?_]
        · exact r2
        · rw [z, hD] at r2; cases r2
      · have key : ∀ a ∈ itOws xs, a ≠ D := fun a ha => ne a ⟨i, _, h, ha⟩
        clear h h1 hv hv' r2
        induction r3 with
        | nil => exact .nil
        | @cons v x vs xs r _ ih =>
          refine .cons (RepIt.mono (Same.refl _) (fun y hy ws q => ?_) r) (ih fun y hy => key y ?_)
          · rw [upd_ne (key y ?_)]
            · exact q
            · cases x with
              | inl d => simp [itOws] at hy
              | inr p => obtain ⟨z, ds⟩ := p; simp [itOws] at hy ⊢; exact .inl hy
          · cases x with
            | inl d => exact hy
            | inr p => obtain ⟨z, ds⟩ := p; exact List.mem_cons_of_mem _ hy
    | lso n t xs =>
      obtain ⟨r1, ws, r2, r3⟩ := h2
      refine ⟨r1, ws, by rw [upd_ne (ne t ⟨i, _, h, by simp [B.ows]⟩)]; exact r2, ?_⟩
      · have key : ∀ a ∈ itOws xs, a ≠ D := fun a ha => ne a ⟨i, _, h, by simp [B.ows, ha]⟩
        clear h h1 hv hv' r2
        induction r3 with
        | nil => exact .nil
        | @cons v x vs xs r _ ih =>
          refine .cons (RepIt.mono (Same.refl _) (fun y hy ws q => ?_) r) (ih fun y hy => key y ?_)
          · rw [upd_ne (key y ?_)]
            · exact q
            · cases x with
              | inl d => simp [itOws] at hy
              | inr p => obtain ⟨z, ds⟩ := p; simp [itOws] at hy ⊢; exact .inl hy
          · cases x with
            | inl d => exact hy
            | inr p => obtain ⟨z, ds⟩ := p; exact List.mem_cons_of_mem _ hy
/-- [f(x) for x in xs if p(x)]: a new list; n: what it holds; n': what is walked -/
theorem dn_lc {α : Type} {wi : TI} {g : TG} {vs : List Nat} (xs : List α) (inj : α → PyData) (p : α → Bool) (f : α → PyData) (hI : DI K n' wi G (xs.map inj)) (hv : NoOwn G vs) (hg : GW g vs) (hl : xs.length ≤ 100000)
    (hb : ∀ x ∈ xs, DG K g n' (inj x) (wipeG G vs) fun G' => (∀ a, OF (wipeG G vs) a → OF G' a) ∧ DT K tt G' (p x) ∧ (p x = true → DE K (some n) te G' (f x))) : DN K n (tLc wi g tt te vs) G ((xs.filter p).map f) := fun c σ H e Q q => hI c σ H e _ fun J H1 s S D hD => by
  have e1 := e.ext s
  have hf : c.F D = none := non_of (e1.f0.trans e1.h0) hD
  have hF : hide (OF G) H1 D = none := non_of hide_same hD
  refine ⟨fun i m H2 => m = xs.length - i ∧ i ≤ xs.length ∧ ∃ acc, Sits K (withD c D acc (hide (OF G) H1)) (wipeG G vs) (L2.wipe σ vs) H2 ∧ H2 D = some (.lst acc) ∧ Same H1 H2 ∧
    Reps K (vis (withD c D acc (hide (OF G) H1)) (OF (wipeG G vs)) (some n) H2) acc (((xs.take i).filter p).map f), ⟨xs.length, by simp, Nat.zero_le _, [], lc_start e1 hD, upd_same, same_new hD, by simpa using .nil⟩, ?_⟩
  rintro i m H2 ⟨rfl, hi, acc, e2, hd, s2, r2⟩
  by_cases hlt : i < xs.length
  · have hx : (xs.map inj)[i]? = some (inj xs[i]) := by rw [List.getElem?_map, List.getElem?_eq_getElem hlt]; rfl
    refine .inr ⟨S.goes i H2 (by simpa using hlt) (hide_same.trans s2), fun H' => ∃ acc, Sits K (withD c D acc (hide (OF G) H1)) (wipeG G vs) (L2.wipe σ vs) H' ∧ H' D = some (.lst acc) ∧ Same H1 H' ∧
      Reps K (vis (withD c D acc (hide (OF G) H1)) (OF (wipeG G vs)) (some n) H') acc (((xs.take (i + 1)).filter p).map f), fun H' w => ⟨xs.length - (i + 1), by omega, rfl, hlt, w⟩, fun x H3 y => ?_⟩
    obtain ⟨s3, rx⟩ := S.yields i H2 x H3 _ hx (hide_same.trans s2) y
    have e3 := e2.ext s3
    have rx' := rx (wipeG G vs) (L2.wipe σ vs) (withD c D acc (hide (OF G) H1)) rfl (fun a o h => by
      show upd c.H0 D _ a = _
      rw [upd_ne (ne_of_none h hF)]) rfl e2
    have tk : (xs.take (i + 1)) = xs.take i ++ [xs[i]] := by rw [List.take_add_one, List.getElem?_eq_getElem hlt]; rfl
    refine hg x (L2.wipe σ vs) H3 _ _ (fun σ2 H4 q1 e4 => ⟨e4.trans (wipe_idem vs vs fun v h => h), q1⟩) ?_
    refine hb xs[i] (List.getElem_mem hlt) _ _ H3 x _ e3 rx' fun G' σ2 ⟨ho, ht, hE⟩ e4 => ?_
    refine ht _ σ2 H3 e4 _ fun H4 s4 => ?_
    have e5 := e4.ext s4
    cases hp : p xs[i] with
    | true =>
      show te σ2 H4 _
      refine hE hp _ σ2 H4 e5 _ fun y H5 s5 ry => ?_
      have s25 : Same H2 H5 := (s3.trans s4).trans s5
      have hd5 := s25 _ _ hd
      obtain ⟨e6, v6⟩ := lc_more (acc' := acc ++ [y]) (e2.ext s25) hd5 hf hF
      refine ⟨acc, hd5, ?_, acc ++ [y], e6, upd_same, fun a o h => ?_, ?_⟩
      · have h1 := r2.length
        have h2 : (((xs.take i).filter p).map f).length ≤ xs.length := by
          rw [List.length_map]
          exact Nat.le_trans (List.length_filter_le _ _) (by rw [List.length_take]; omega)
        exact Nat.lt_of_le_of_lt (by omega : acc.length ≤ 100000) (by decide)
      · rw [upd_ne (ne_of_none h hD)]; exact s25 a o (s2 a o h)
      · rw [tk, List.filter_append, List.map_append, v6]
        refine Reps.append (Reps.mono ((e2.vext (m := some n) s25)) r2) ?_
        have : [xs[i]].filter p = [xs[i]] := by simp [hp]
        rw [this]
        refine .cons (Rep.mono (hide_le (Same.refl _) fun a o _ w => ho a w) ry) .nil
    | false =>
      show ∃ acc, _
      have s24 : Same H2 H4 := s3.trans s4
      refine ⟨acc, e2.ext s24, s24 _ _ hd, s2.trans s24, ?_⟩
      have : [xs[i]].filter p = [] := by simp [hp]
      rw [tk, List.filter_append, this, List.append_nil]
      exact Reps.mono (e2.vext (m := some n) s24) r2
  · have hn : i = xs.length := by omega
    subst hn
    refine .inl ⟨by have := S.stops H2 (hide_same.trans s2); simpa using this, ?_⟩
    rw [List.take_length] at r2
    refine q D acc H2 (non_of s hD) (s.trans s2) hd (Reps.mono (fun a o h => ?_) r2)
    rw [vis_withD hf] at h
    have h : (if a = D then none else vis c (OF (wipeG G vs)) (some n) H2 a) = some o := h
    by_cases z : a = D
    · rw [if_pos z] at h; cases h
    · rw [if_neg z] at h
      rw [hide_at (O := fun b => b = D) z]
      exact hide_le (Same.refl _) (fun a o _ w => hv a w) a o h
theorem dt_yes : DT K tYes G true := fun c σ H e Q q => q H (Same.refl H)
/-- without a test -/
theorem dn_lcM {α : Type} {wi : TI} {g : TG} {vs : List Nat} (xs : List α) (inj : α → PyData) (f : α → PyData) (hI : DI K n' wi G (xs.map inj)) (hv : NoOwn G vs) (hg : GW g vs) (hl : xs.length ≤ 100000)
    (hb : ∀ x ∈ xs, DG K g n' (inj x) (wipeG G vs) fun G' => (∀ a, OF (wipeG G vs) a → OF G' a) ∧ DE K (some n) te G' (f x)) : DN K n (tLc wi g tYes te vs) G (xs.map f) := by
  have := dn_lc (tt := tYes) (n := n) (n' := n') (te := te) xs inj (fun _ => true) f hI hv hg hl fun x hx => fun c σ H v Q e r q => hb x hx c σ H v Q e r fun G' σ' h => q G' σ' ⟨h.1, dt_yes, fun _ => h.2⟩
  rwa [show xs.filter (fun _ => true) = xs from List.filter_eq_self.mpr fun _ _ => rfl] at this
theorem keep_set {G : Sl} {i : Nat} {x : Option B} (h : ∀ b, G[i]? = some (some b) → b.ows = []) : ∀ a, OF G a → OF (G.set i x) a := fun a ⟨j, b, h1, h2⟩ => ⟨j, b, by
  by_cases z : i = j
  · subst z; rw [h b h1] at h2; simp at h2
  · rw [List.getElem?_set_ne z]; exact h1, h2⟩
theorem de_dn (h : DN K n te G ds) (hm : okM m n = true) : DE K m te G (.list ds) := de_dr (dr_new h) hm
end
end
end TB

/-! TB builtins by data. -/
namespace TB
open PySem PySem.Spec PyProof.Rows L2
section
variable {K : PySem.W.Frag}
section
variable {m m' : Md} {n n' : Bool} {te ta tb tx tc : TE} {tt tu : TT} {ts tv : TS} {G G' : Sl} {d x y z : PyData} {ds es : List PyData} {i j : Nat} {c : C} {σ : L2.St} {H H' : Hp} {v : V} {P P' : Post} {t : TA}
/-! len -/
def rLen (K : PySem.W.Frag) : List V → Hp → VK → Prop := fun xs H Q => (∃ x n, xs = [x] ∧ LenV K x H n ∧ Q (.int n) H) ∨ ∃ a kvs, xs = [V.ref a] ∧ Rd H a (.dK kvs) ∧ Q (.int kvs.length) H
theorem call_lenR {X : Cx} : CallR X (.builtin "len") (fun xs H Q => ∃ a kvs, xs = [V.ref a] ∧ Rd H a (.dK kvs) ∧ Q (.int kvs.length) H) := fun pins s σ H xs us Q I r ⟨a, kvs, e, ha, q⟩ => by
  subst e
  obtain ⟨u, rfl, ru⟩ := vals1 r
  cases ru
  exact d_len I ha fun t s1 J => ⟨.int kvs.length, H, J, ⟨t, rfl⟩, q⟩
theorem call_lenA {X : Cx} : CallR X (.builtin "len") (rLen X.K) := CallR.or call_len call_lenR
theorem reps1 {H : Hp} {vs : List V} (h : Reps K H vs [d]) : ∃ v, vs = [v] ∧ Rep K H v d := by
  cases h with
  | cons r t => cases t; exact ⟨_, rfl, r⟩
theorem reps2 {H : Hp} {vs : List V} (h : Reps K H vs [d, x]) : ∃ v w, vs = [v, w] ∧ Rep K H v d ∧ Rep K H w x := by
  cases h with
  | cons r t => obtain ⟨w, rfl, q⟩ := reps1 t; exact ⟨_, w, rfl, r, q⟩
theorem de_lenL (h : DE K none te G (.list ds)) : DE K m (tCB (rLen K) (tCons te tNil)) G (.int (ds.length : Nat)) := de_cb0 (ds := [.list ds]) (fun P H vs Q s r q => by
  obtain ⟨v, rfl, r'⟩ := reps1 r
  clear r
  cases r' with
  | @lst a xs _ h1 r => exact .inl ⟨_, ds.length, rfl, .inl ⟨xs, rd_lst s h1, r.length.symm⟩, q _ H (Same.refl H) (.int _)⟩) rfl (da_cons h da_nil)
theorem de_lenT (h : DE K none te G (.tuple ds)) : DE K m (tCB (rLen K) (tCons te tNil)) G (.int (ds.length : Nat)) := de_cb0 (ds := [.tuple ds]) (fun P H vs Q s r q => by
  obtain ⟨v, rfl, r'⟩ := reps1 r
  clear r
  cases r' with
  | @tup a xs _ h1 r => exact .inl ⟨_, ds.length, rfl, .inr ⟨xs, rd_tup s h1, r.length.symm⟩, q _ H (Same.refl H) (.int _)⟩) rfl (da_cons h da_nil)
theorem de_lenS {s : Str} (h : DE K none te G (.str s)) (hl : s.length ≤ 100000) : DE K m (tCB (rLen K) (tCons te tNil)) G (.int (s.length : Nat)) := de_cb0 (ds := [.str s]) (fun P H vs Q s r q => by
  obtain ⟨v, rfl, r'⟩ := reps1 r
  clear r
  cases r'
  exact .inl ⟨_, _, rfl, ⟨Nat.le_trans hl (by decide), rfl⟩, q _ H (Same.refl H) (.int _)⟩) rfl (da_cons h da_nil)
/-! sum of a list of ints -/
theorem de_sum {ns : List Int} (h : DE K none te G (.list (ns.map .int))) : DE K m (tCB (rSum K) (tCons te tNil)) G (.int ns.sum) := de_cb0 (ds := [.list (ns.map .int)]) (fun P H vs Q s r q => by
  obtain ⟨v, rfl, r'⟩ := reps1 r
  clear r
  cases r' with
  | @lst a xs _ h1 r =>
    have := r.ints
    subst this
    exact ⟨a, ns, rfl, rd_lst s h1, q _ H (Same.refl H) (.int _)⟩) rfl (da_cons h da_nil)
/-! int(x), list(x), tuple(x) -/
def rInt1 : List V → Hp → VK → Prop := fun xs H Q => (∃ i, xs = [.int i] ∧ Q (.int i) H) ∨ ∃ k, xs = [.bl k] ∧ Q (.int (if k then 1 else 0)) H
theorem call_intA {X : Cx} : CallR X (.type "int") rInt1 := call_int1
theorem de_intI {a : Int} (h : DE K none te G (.int a)) : DE K m (tCB rInt1 (tCons te tNil)) G (.int a) := de_cb0 (ds := [.int a]) (fun P H vs Q s r q => by
  obtain ⟨v, rfl, r'⟩ := reps1 r
  clear r
  cases r'
  exact .inl ⟨a, rfl, q _ H (Same.refl H) (.int _)⟩) rfl (da_cons h da_nil)
theorem de_intB {a : Bool} (h : DE K none te G (.bool a)) : DE K m (tCB rInt1 (tCons te tNil)) G (.int (if a then 1 else 0)) := de_cb0 (ds := [.bool a]) (fun P H vs Q s r q => by
  obtain ⟨v, rfl, r'⟩ := reps1 r
  clear r
  cases r'
  exact .inr ⟨a, rfl, q _ H (Same.refl H) (.int _)⟩) rfl (da_cons h da_nil)
def rListOf (K : PySem.W.Frag) : List V → Hp → VK → Prop := fun xs H Q => ∃ p ys, xs = [.ref p] ∧ (SqL K H p ys ∨ SqT K H p ys) ∧ ∀ l, H l = none → Q (.ref l) (upd H l (.lst ys))
theorem call_listA {X : Cx} : CallR X (.type "list") (rListOf X.K) := call_list_of
/-- a new list of the items -/
theorem dn_cbL {r : List V → Hp → VK → Prop} (hr : ∀ (P H : Hp) (vs : List V) (Q : VK), Same P H → Reps K P vs ds → (∀ l ws, H l = none → Reps K P ws es → Q (.ref l) (upd H l (.lst ws))) → r vs H Q) (ha : DA K (some n) t G ds) : DN K n (tCB r t) G es := fun c σ H e Q q => ha c σ H e _ fun vs H1 s1 r1 => by
  have e1 := e.ext s1
  refine hr _ H1 vs _ e1.vsame r1 fun l ws hl rw' => q l ws _ (non_of s1 hl) (s1.trans (same_new hl)) upd_same (Reps.mono (fun a o h => ?_) rw')
  rw [hide_at (O := fun b => b = l) fun z => ?_]
  · exact e1.vext (same_new hl) a o h
  · subst z
    have := e1.vsame a o h
    rw [hl] at this; cases this
theorem dn_list (h : DE K (some n) te G (.list ds)) : DN K n (tCB (rListOf K) (tCons te tNil)) G ds := dn_cbL (ds := [.list ds]) (fun P H vs Q s r q => by
  obtain ⟨v, rfl, r'⟩ := reps1 r
  clear r
  cases r' with
  | @lst a xs _ h1 r => exact ⟨a, xs, rfl, .inl (rd_lst s h1), fun l hl => q l xs hl r⟩) (da_cons h da_nil)
theorem dn_listT (h : DE K (some n) te G (.tuple ds)) : DN K n (tCB (rListOf K) (tCons te tNil)) G ds := dn_cbL (ds := [.tuple ds]) (fun P H vs Q s r q => by
  obtain ⟨v, rfl, r'⟩ := reps1 r
  clear r
  cases r' with
  | @tup a xs _ h1 r => exact ⟨a, xs, rfl, .inr (rd_tup s h1), fun l hl => q l xs hl r⟩) (da_cons h da_nil)
def rTupOf (K : PySem.W.Frag) : List V → Hp → VK → Prop := fun xs H Q => ∃ p ys, xs = [.ref p] ∧ ((SqL K H p ys ∧ ∀ l, H l = none → Q (.ref l) (upd H l (.tup ys))) ∨ (SqT K H p ys ∧ Q (.ref p) H))
theorem call_tupA {X : Cx} : CallR X (.type "tuple") (rTupOf X.K) := call_tuple_of
theorem de_tupL (h : DE K m te G (.list ds)) : DE K m (tCB (rTupOf K) (tCons te tNil)) G (.tuple ds) := de_cb (ds := [.list ds]) (fun P H vs Q s r q => by
  obtain ⟨v, rfl, r'⟩ := reps1 r
  clear r
  cases r' with
  | @lst a xs _ h1 r => exact ⟨a, xs, rfl, .inl ⟨rd_lst s h1, fun l hl => q _ _ (same_new hl) (rep_newT hl r s)⟩⟩) (da_cons h da_nil)
/-! isinstance -/
def tyD : PyData → String
  | .none => "NoneType"
  | .bool _ => "bool"
  | .int _ => "int"
  | .str _ => "str"
  | .list _ => "list"
  | .tuple _ => "tuple"
  | .dict _ => "dict"
def exK : PyData → Bool
  | .dict ((.none, _) :: _) => true
  | _ => false
theorem rep_ty {P : Hp} (s : Same P H) (h : Rep K P v d) (hx : exK d = false) : TyX K H v (.type (tyD d)) := by
  cases h with
  | ex h r => cases hx
  | non => exact .base .non
  | bl b => exact .base (.bl b)
  | int i => exact .base (.int i)
  | str x => exact .base (.str x)
  | lst h r =>
    rcases h with (h | ⟨o, h⟩) | ⟨o, its, n, h, hc, _⟩
    · exact .base (.lst (s _ _ h))
    · exact .base (.frz (s _ _ h))
    · exact .kList h hc
  | tup h r =>
    rcases h with h | ⟨o, h⟩
    · exact .base (.tup (s _ _ h))
    · exact .fTuple (s _ _ h)
  | dic h r =>
    rcases h with h | ⟨o, h⟩
    · exact .base (.dK (s _ _ h))
    · exact .fDict (s _ _ h)
/-- isinstance(x, T), T a built-in type -/
theorem de_isi {T : String} {b : Bool} (h : DE K none te G d) (hb : kitB (tyD d) T = some b) (hx : exK d = false := by rfl) : DE K m (tCB (rIsi K) (tCons te (tCons (tC (.ty T)) tNil))) G (.bool b) := de_imm (fun c σ H e Q q => h c σ H e _ fun v H1 s r =>
  ⟨v, .ty T, .type (tyD d), .type T, b, rfl, .ty T, rep_ty (Same.refl H1) r hx, kit_ty hb, q _ H1 s (.bl _)⟩) rfl
end
end
end TB

/-! TB defs: a def of the text, its promise by data. -/
namespace TB
open PySem PySem.Spec PyProof.Rows L2
section
variable {K : PySem.W.Frag}
/-- the def st stands by the name x -/
def Here (K : PySem.W.Frag) (mg : Str → Option Value) (x : Str) (st : Stmt) (ps : List Str) : Prop := ∃ (f : Addr) (fd : FuncData), Fun K x x st f fd ∧ mg x = some (.ref f) ∧ Binds K fd ps []
/-- .. and keeps its promise -/
def DefOk (P : Program) (w : World) (K : PySem.W.Frag) (mg : Str → Option Value) (base : Heap) (k : Nat) (x : Str) (ps : List Str) (sp : Sp) : Prop :=
  ∃ (f : Addr) (fd : FuncData), FnOk P w K mg base CX0 k f fd ps sp ∧ mg x = some (.ref f) ∧ PySem.W.keepIn K (.ref f) = true ∧ Binds K fd ps []
section
variable {P : Program} {w : World} {mg : Str → Option Value} {base : Heap}
def ent (N : List Str) (ds : List PyData) : Sl := ds.map (fun d => some (B.sh false d)) ++ List.replicate (N.length - ds.length) none
theorem reps_slots {H : Hp} {vs : List V} {ds : List PyData} (h : Reps K H vs ds) {i : Nat} {b : B} (q : (ds.map fun d => some (B.sh false d))[i]? = some (some b)) : ∃ v d, vs[i]? = some v ∧ b = .sh false d ∧ Rep K H v d := by
  rw [List.getElem?_map] at q
  cases e : ds[i]? with
  | none => rw [e] at q; cases q
  | some d =>
    rw [e] at q
    cases q
    obtain ⟨v, h1, h2⟩ := h.get e
    exact ⟨v, d, h1, rfl, h2⟩
theorem ent_sits {F H : Hp} {N : List Str} {vs : List V} {ds : List PyData} (hf : Same F H) (h : Reps K F vs ds) : Sits K ⟨H, F, H⟩ (ent N ds) (L2.start N vs) H := by
  have at' : ∀ {i : Nat} {b : B}, (ent N ds)[i]? = some (some b) → (ds.map fun d => some (B.sh false d))[i]? = some (some b) := fun {i b} q => by
    unfold ent at q
    by_cases hi : i < (ds.map fun d => some (B.sh false d)).length
    · rwa [List.getElem?_append_left hi] at q
    · rw [List.getElem?_append_right (by omega)] at q
      have := List.getElem?_eq_some_iff.mp q
      obtain ⟨h1, h2⟩ := this
      rw [List.getElem_replicate] at h2
      cases h2
  have none' : ∀ a, ¬ OF (ent N ds) a := fun a ⟨i, b, q1, q2⟩ => by
    obtain ⟨v, d, _, rfl, _⟩ := reps_slots h (at' q1)
    simp [B.ows] at q2
  refine ⟨hf, Same.refl _, Same.refl _, fun a q => (none' a q).elim, fun a q => (none' a q).elim, fun i j b b' a q1 _ q3 _ => (none' a ⟨i, b, q1, q3⟩).elim, fun i b q => ?_, ?_, fun i b q => ?_⟩
  · obtain ⟨v, d, _, rfl, _⟩ := reps_slots h (at' q)
    exact List.nodup_nil
  · unfold L2.start ent
    simp [h.length]
  · obtain ⟨v, d, h1, rfl, h2⟩ := reps_slots h (at' q)
    refine ⟨v, ?_, Rep.mono (fun a o hh => ?_) h2⟩
    · unfold L2.start
      rw [List.getElem?_append_left (by rw [List.length_map]; exact (List.getElem?_eq_some_iff.mp h1).1), List.getElem?_map, h1]
      rfl
    · show hide _ _ a = _
      rw [hide_at (none' a)]
      exact plus_old hh hf
/-- the whole of a def: its body's transformer keeps the promise -/
theorem mkFn {x : Str} {st : Stmt} {N ps : List Str} {k : Nat} {ts : TS} {ι : Type} {args : ι → List PyData} {pre : ι → Prop} {res : ι → R → Prop} {f : Addr} {fd : FuncData} (F : Fun K x x st f fd) (S : FnScope N ps (defScope st)) (hlen : ∀ i, (args i).length = ps.length)
    (hder : ∀ (f : Addr) (cdv : Value) (A : Around) (outer : List Env) (s : Shared) (H : Hp) (E : XK), Room k (A.deeper (envOfC x (defScope st) s.heap.objs.size f cdv)) → PSs (cxOf CX0 P w K mg base N x (defScope st) f cdv A outer s H E).nox (defBody st) ts)
    (hds : ∀ i, pre i → DS K ts (ent N (args i)) { nx := fun _ => res i (.val true .none), rt := res i }) : FnOk P w K mg base CX0 (k + 1) f fd ps (spD K args pre res) := by
  refine F.ok S (spD_len hlen) (fun cdv A outer s H vs Q E hr hsp => ⟨ts, hder f cdv A outer s H E hr, ?_⟩)
  obtain ⟨F, i, hF, hv, hp, kq⟩ := hsp
  refine hds i hp ⟨H, F, H⟩ _ H _ (ent_sits hF hv) (fun G' σ' H' p e => ?_) (fun r v H' p s h => kq r v H' p s h) (fun _ _ _ p => p.elim) (fun _ _ _ p => p.elim)
  exact kq _ .non H' p e.h0 ⟨.sh true .none, rfl, List.nodup_nil, fun _ h => (by simp [B.ows] at h), .non⟩
/-- .. by a promise of one's own -/
theorem mkFnR {x : Str} {st : Stmt} {N ps : List Str} {k : Nat} {ts : TS} {sp : Sp} {f : Addr} {fd : FuncData} (F : Fun K x x st f fd) (S : FnScope N ps (defScope st)) (hlen : ∀ vs H Q E, sp vs H Q E → vs.length = ps.length)
    (hder : ∀ (f : Addr) (cdv : Value) (A : Around) (outer : List Env) (s : Shared) (H : Hp) (E : XK), Room k (A.deeper (envOfC x (defScope st) s.heap.objs.size f cdv)) → PSs (cxOf CX0 P w K mg base N x (defScope st) f cdv A outer s H E).nox (defBody st) ts)
    (hraw : ∀ vs H Q E, sp vs H Q E → ts { nx := fun _ H' => Q .non H', rt := Q } (L2.start N vs) H) : FnOk P w K mg base CX0 (k + 1) f fd ps sp :=
  F.ok S hlen (fun cdv A outer s H vs Q E hr hsp => ⟨ts, hder f cdv A outer s H E hr, hraw vs H Q E hsp⟩)
theorem mkDefR {x : Str} {st : Stmt} {N ps : List Str} {k : Nat} {ts : TS} {sp : Sp} (h : Here K mg x st ps) (S : FnScope N ps (defScope st)) (hlen : ∀ vs H Q E, sp vs H Q E → vs.length = ps.length)
    (hder : ∀ (f : Addr) (cdv : Value) (A : Around) (outer : List Env) (s : Shared) (H : Hp) (E : XK), Room k (A.deeper (envOfC x (defScope st) s.heap.objs.size f cdv)) → PSs (cxOf CX0 P w K mg base N x (defScope st) f cdv A outer s H E).nox (defBody st) ts)
    (hraw : ∀ vs H Q E, sp vs H Q E → ts { nx := fun _ H' => Q .non H', rt := Q } (L2.start N vs) H) : DefOk P w K mg base (k + 1) x ps sp := by
  obtain ⟨f, fd, F, hm, b⟩ := h
  exact ⟨f, fd, mkFnR F S hlen hder hraw, hm, F.kp, b⟩
/-- the raw form of a promise by data -/
theorem raw_of {N : List Str} {ts : TS} {ι : Type} {args : ι → List PyData} {pre : ι → Prop} {res : ι → R → Prop} (hds : ∀ i, pre i → DS K ts (ent N (args i)) { nx := fun _ => res i (.val true .none), rt := res i }) :
    ∀ vs H Q E, spD K args pre res vs H Q E → ts { nx := fun _ H' => Q .non H', rt := Q } (L2.start N vs) H := fun vs H Q E hsp => by
  obtain ⟨F, i, hF, hv, hp, kq⟩ := hsp
  refine hds i hp ⟨H, F, H⟩ _ H _ (ent_sits hF hv) (fun G' σ' H' p e => ?_) (fun r v H' p s h => kq r v H' p s h) (fun _ _ _ p => p.elim) (fun _ _ _ p => p.elim)
  exact kq _ .non H' p e.h0 ⟨.sh true .none, rfl, List.nodup_nil, fun _ h => (by simp [B.ows] at h), .non⟩
theorem mkDef {x : Str} {st : Stmt} {N ps : List Str} {k : Nat} {ts : TS} {ι : Type} {args : ι → List PyData} {pre : ι → Prop} {res : ι → R → Prop} (h : Here K mg x st ps) (S : FnScope N ps (defScope st)) (hlen : ∀ i, (args i).length = ps.length)
    (hder : ∀ (f : Addr) (cdv : Value) (A : Around) (outer : List Env) (s : Shared) (H : Hp) (E : XK), Room k (A.deeper (envOfC x (defScope st) s.heap.objs.size f cdv)) → PSs (cxOf CX0 P w K mg base N x (defScope st) f cdv A outer s H E).nox (defBody st) ts)
    (hds : ∀ i, pre i → DS K ts (ent N (args i)) { nx := fun _ => res i (.val true .none), rt := res i }) : DefOk P w K mg base (k + 1) x ps (spD K args pre res) := by
  obtain ⟨f, fd, F, hm, b⟩ := h
  exact ⟨f, fd, mkFn F S hlen hder hds, hm, F.kp, b⟩
theorem pe_callD {X : Cx} {k : Nat} {x : Str} {ps : List Str} {sp : Sp} {p pos : Pos} {e : Expr} {es : List Expr} {t : TA} (D : DefOk X.prog X.w X.K X.mg X.base k x ps sp) (hr : Room k X.A) (hg : Gl X x) (ha : PA X (e :: es) t) (hdb : (x == ("__debug__" : Str)) = false := by decide)
    (he : starEach (e :: es) X.env = (false, eval e X.env) :: starEach es X.env := by rfl) (hpl : (backTo pos (starEach es X.env)).any (·.1) = false := by rfl) : PE X (.Call (.Name x p) (e :: es) [] pos) (tCall sp [] E0 t) := by
  obtain ⟨f, fd, F, hm, kp, b⟩ := D
  exact pe_call F hr hg hm kp b .nil pass0 ha hdb he hpl
theorem DefOk.mono {j k : Nat} {x : Str} {ps : List Str} {sp : Sp} (D : DefOk P w K mg base j x ps sp) (h : j ≤ k) : DefOk P w K mg base k x ps sp := by
  obtain ⟨f, fd, F, r⟩ := D
  exact ⟨f, fd, F.mono h, r⟩
end
section
variable {X : Cx}
def rIsiA (K : PySem.W.Frag) : List V → Hp → VK → Prop := fun xs H Q => rIsi K xs H Q ∨ rIsiT K xs H Q
theorem call_isiA : CallR X (.builtin "isinstance") (rIsiA X.K) := CallR.or call_isi call_isiT
theorem pe_globI {x : Str} {i : Int} {pos : Pos} (hg : Gl X x) (hm : ∃ t, X.mg x = some (.int i t)) (hd : (x == ("__debug__" : Str)) = false := by decide) : PE X (.Name x pos) (tC (.int i)) := by
  obtain ⟨t, hm⟩ := hm
  exact pe_glob hg hm ⟨t, rfl⟩ hd
theorem pe_globS {x s : Str} {pos : Pos} (hg : Gl X x) (hm : ∃ t, X.mg x = some (.str s t)) (hd : (x == ("__debug__" : Str)) = false := by decide) : PE X (.Name x pos) (tC (.str s)) := by
  obtain ⟨t, hm⟩ := hm
  exact pe_glob hg hm ⟨t, rfl⟩ hd
theorem pe_ty (T : String) {x : Str} {pos : Pos} (hg : Gl X x) (hm : X.mg x = none) (hv : bootBuiltins x = some (.type T)) (hn : x ≠ "__name__" := by decide) (hd : (x == ("__debug__" : Str)) = false := by decide) : PE X (.Name x pos) (tC (.ty T)) := pe_bltn hg hm hv rfl hn hd
/-! a[i] = v: a list, a dict -/
def rSetD : V → V → V → Hp → (Hp → Prop) → Prop := fun o i v H Q => ∃ a H4, o = .ref a ∧ DPut H a i v H4 ∧ Q H4
theorem set_dict (hu : X.A.units + 1 < cLine) : PSet X rSetD := by
  intro pins s σ H o i v ov iv u Q I ro ri rv h
  obtain ⟨a, H4, rfl, g, q⟩ := h
  cases ro
  exact d_setItem hu I g ri rv fun s' I' => ⟨H4, I', q⟩
def rSetA : V → V → V → Hp → (Hp → Prop) → Prop := fun o i v H Q => rSetL o i v H Q ∨ rSetD o i v H Q
theorem set_any (hu : X.A.units + 1 < cLine) : PSet X rSetA := by
  intro pins s σ H o i v ov iv u Q I ro ri rv h
  rcases h with h | h
  · exact set_list pins s σ H o i v ov iv u Q I ro ri rv h
  · exact set_dict hu pins s σ H o i v ov iv u Q I ro ri rv h
/-! in, not in: lists of data; tuples of flat things; dicts; texts -/
def rInDict (neg : Bool) : R2 := fun y x H Q => ∃ a o, x = .ref a ∧ DGet H a y o ∧ Q (.bl (if neg then !o.isSome else o.isSome)) H
theorem op_inDict (hu : X.A.units + 1 < cLine) : OpR X (compareOp .In) (rInDict false) := by
  intro pins s σ H x y v u Q I rx ry h
  obtain ⟨a, o, rfl, g, q⟩ := h
  cases ry
  exact d_in hu I g rx fun s' I' => ⟨.bl o.isSome, H, I', rfl, q⟩
theorem op_notInDict (hu : X.A.units + 1 < cLine) : OpR X (compareOp .NotIn) (rInDict true) := by
  intro pins s σ H x y v u Q I rx ry h
  obtain ⟨a, o, rfl, g, q⟩ := h
  cases ry
  exact d_notIn hu I g rx fun s' I' => ⟨.bl (!o.isSome), H, I', rfl, q⟩
def rInS : R2 := fun x y H Q => ∃ i j, x = .str i ∧ y = .str j ∧ Q (.bl (!(Builtin.Str.occurrences j i 0 j.length 1).isEmpty)) H
def rNotInS : R2 := fun x y H Q => ∃ i j, x = .str i ∧ y = .str j ∧ Q (.bl (!(!(Builtin.Str.occurrences j i 0 j.length 1).isEmpty))) H
def rInA (K : PySem.W.Frag) : R2 := fun x y H Q => (rInD K x y H Q ∨ rIn K false x y H Q) ∨ rInDict false x y H Q ∨ rInS x y H Q
def rNotInA (K : PySem.W.Frag) : R2 := fun x y H Q => (rNotInD K x y H Q ∨ rIn K true x y H Q) ∨ rInDict true x y H Q ∨ rNotInS x y H Q
theorem op_inA (hu : X.A.units + 64 + 1 < cLine) : OpR X (compareOp .In) (rInA X.K) := OpR.or (OpR.or (op_inD (by omega)) op_in_seq) (OpR.or (op_inDict (by omega)) op_in_str)
theorem op_notInA (hu : X.A.units + 64 + 1 < cLine) : OpR X (compareOp .NotIn) (rNotInA X.K) := OpR.or (OpR.or (op_notInD (by omega)) op_notIn_seq) (OpR.or (op_notInDict (by omega)) op_notin_str)
theorem un65 {A : Around} {k : Nat} (hr : Room k A) : A.units + 64 + 1 < cLine := by have := hr.un; omega
def rNeg : V → Hp → VK → Prop := rU fun i => .int (-i)
theorem un_negI : UnR X (unaryOp .USub) rNeg := un_neg
variable {m : Md} {te : TE} {G : Sl} {d : PyData}
theorem de_neg {a : Int} (h : DE K none te G (.int a)) : DE K m (tUn rNeg te) G (.int (-a)) := de_imm (fun c σ H e Q q => h c σ H e _ fun v H1 s r => by
  cases r
  exact ⟨a, rfl, q _ H1 s (.int _)⟩) rfl
theorem de_isiA {T : String} {b : Bool} (h : DE K none te G d) (hb : kitB (tyD d) T = some b) (hx : exK d = false := by rfl) : DE K m (tCB (rIsiA K) (tCons te (tCons (tC (.ty T)) tNil))) G (.bool b) := de_imm (fun c σ H e Q q => h c σ H e _ fun v H1 s r =>
  .inl ⟨v, .ty T, .type (tyD d), .type T, b, rfl, .ty T, rep_ty (Same.refl H1) r hx, kit_ty hb, q _ H1 s (.bl _)⟩) rfl
end
theorem ret_true {P H H' : Hp} {v : V} {n : Bool} {b : Bool} (h : RetR K P H H' v (.val n (.bool b))) : v = .bl b := by
  obtain ⟨b', hb, _, _, h⟩ := h
  cases b' <;> first | (cases hb; done) | skip
  cases hb
  have h : Rep K _ v (.bool b) := h
  cases h
  rfl
end
end TB

/-! TB extra: sums, least and greatest of lists and of tuples. -/
namespace TB
open PySem PySem.Spec PyProof.Rows L2
section
variable {prog : Program} {w : World} {A : Around} {E : Value → Shared → Prop} {s : Shared} {l : Addr} {xs : Array (Int × Tok)} {its : List Value} {ns : List Int} {Q : Value → Shared → Prop}
theorem iter_intTup {Q : Value → Shared → Prop} (hl : s.heap.IsTuple l (intItems xs))
    (h : ∀ s2 : Shared, s2 = { s with heap := s.heap.push { cls := .type "tuple_iterator", data := .fields #[.ref l, .int 0 0] } } →
      (s2.heap.IsTupleIter s.heap.objs.size l 0 ∧ s2.heap.IsTuple l (intItems xs)) → (∀ b ∈ [s.heap.objs.size, l], b < s2.heap.objs.size) → l ≠ s.heap.objs.size → Q (.ref s.heap.objs.size) s2) :
    wpAny (model prog w) A (pyIter (.ref l)) Q E s := by
  have hlt : l < s.heap.objs.size := by obtain ⟨_, e, _⟩ := hl; exact Heap.lt_size e
  refine wpAny_pyIter_tuple hl (h _ rfl ⟨⟨_, Heap.get?_push_size _ rfl, rfl, rfl⟩, hl.push _⟩ (fun b hb => ?_) (Nat.ne_of_lt hlt))
  show b < (s.heap.push _).objs.size
  rw [Heap.size_push]
  rcases List.mem_cons.mp hb with rfl | hb
  · exact Nat.lt_succ_self _
  · rcases List.mem_cons.mp hb with rfl | hb
    · exact Nat.lt_succ_of_lt hlt
    · cases hb
theorem old_keptT {h' : Heap} (hk : ∀ b o, b ∉ [s.heap.objs.size] → (s.heap.push { cls := .type "tuple_iterator", data := .fields #[.ref l, .int 0 0] }).get? b = some o → h'.get? b = some o) :
    ∀ b o, s.heap.get? b = some o → h'.get? b = some o := fun b o e => hk b o (fun z => absurd (Heap.lt_size e) ((List.mem_singleton.mp z) ▸ Nat.lt_irrefl _)) (Heap.get?_push_of_some _ e)
theorem sum_rawT (hh : A.handled = none) (hl : s.heap.IsTuple l its.toArray) (hi : IntsAre its ns)
    (h : ∀ h' tk t', (∀ b o, s.heap.get? b = some o → h'.get? b = some o) → Q (.int ns.sum t') { s with heap := h', toks := tk }) : wpAny (model prog w) A (call (.builtin "sum") [.ref l]) Q E s := by
  obtain ⟨xs, e⟩ := hi.allInts.items
  have hn : numsOf (intItems xs).toList = ns := by rw [← e]; exact hi.numsOf
  rw [nums_intItems] at hn
  rw [e] at hl
  refine call_sum_walkG (iter_intTup hl fun s2 e st hfp hlI => ?_)
  subst e
  refine ⟨_, _, _, _, _, _, numAt xs, rfl, Walks.tuple (A := A.in1) hh _ l hlI (intItems xs), st, hfp, (fun _ _ => intItems_at), fun h' tk t' hk => ?_⟩
  have := h h' tk t' (old_keptT hk)
  rw [preSum_eq, List.take_of_length_le (by simp [intItems]), hn]; exact this
theorem min_rawT (hh : A.handled = none) (hl : s.heap.IsTuple l its.toArray) (hi : IntsAre its ns) (hne : 0 < ns.length)
    (h : ∀ h' tk M t', (∀ b o, s.heap.get? b = some o → h'.get? b = some o) → M ∈ ns → (∀ a, a ∈ ns → M ≤ a) → Q (.int M t') { s with heap := h', toks := tk }) : wpAny (model prog w) A (call (.builtin "min") [.ref l]) Q E s := by
  obtain ⟨xs, e⟩ := hi.allInts.items
  have hn : numsOf (intItems xs).toList = ns := by rw [← e]; exact hi.numsOf
  rw [nums_intItems] at hn
  subst hn
  rw [e] at hl
  have hsz : 0 < xs.size := by simpa using hne
  refine call_min_walk (iter_intTup hl fun s2 e st hfp hlI => ?_)
  subst e
  refine ⟨_, _, _, _, _, _, _, rfl, Walks.tuple (A := A.in1) hh _ l hlI (intItems xs), st, hfp, by simpa [intItems] using hsz, CmpOf.ints_lt (numAt xs) (fun _ _ => intItems_at), fun v h' tk hP hk => ?_⟩
  have hv : (intItems xs)[argBest (fun i j => decide (numAt xs i < numAt xs j)) (xs.size - 1)]? = some v := by simpa [intItems] using hP
  obtain ⟨t, rfl⟩ := intItems_at hv
  obtain ⟨h1, h2⟩ := argBest_lt (numAt xs) (xs.size - 1)
  refine h h' tk _ t (old_keptT hk) ?_ fun a ha => ?_
  · rw [numAt_eq]; exact PySem.getD_mem (by rw [List.length_map, Array.length_toList]; omega)
  · obtain ⟨j, hj, rfl⟩ := mem_getD ha
    rw [List.length_map, Array.length_toList] at hj
    rw [← numAt_eq]; exact h2 j (by omega)
theorem max_rawT (hh : A.handled = none) (hl : s.heap.IsTuple l its.toArray) (hi : IntsAre its ns) (hne : 0 < ns.length)
    (h : ∀ h' tk M t', (∀ b o, s.heap.get? b = some o → h'.get? b = some o) → M ∈ ns → (∀ a, a ∈ ns → a ≤ M) → Q (.int M t') { s with heap := h', toks := tk }) : wpAny (model prog w) A (call (.builtin "max") [.ref l]) Q E s := by
  obtain ⟨xs, e⟩ := hi.allInts.items
  have hn : numsOf (intItems xs).toList = ns := by rw [← e]; exact hi.numsOf
  rw [nums_intItems] at hn
  subst hn
  rw [e] at hl
  have hsz : 0 < xs.size := by simpa using hne
  refine call_max_walk (iter_intTup hl fun s2 e st hfp hlI => ?_)
  subst e
  refine ⟨_, _, _, _, _, _, _, rfl, Walks.tuple (A := A.in1) hh _ l hlI (intItems xs), st, hfp, by simpa [intItems] using hsz, CmpOf.ints_gt (numAt xs) (fun _ _ => intItems_at), fun v h' tk hP hk => ?_⟩
  have hv : (intItems xs)[argBest (fun i j => decide (numAt xs i > numAt xs j)) (xs.size - 1)]? = some v := by simpa [intItems] using hP
  obtain ⟨t, rfl⟩ := intItems_at hv
  obtain ⟨h1, h2⟩ := argBest_gt (numAt xs) (xs.size - 1)
  refine h h' tk _ t (old_keptT hk) ?_ fun a ha => ?_
  · rw [numAt_eq]; exact PySem.getD_mem (by rw [List.length_map, Array.length_toList]; omega)
  · obtain ⟨j, hj, rfl⟩ := mem_getD ha
    rw [List.length_map, Array.length_toList] at hj
    rw [← numAt_eq]; exact h2 j (by omega)
end
section
variable {X : Cx} {K : PySem.W.Frag} {m : Md} {te : TE} {G : Sl} {ns : List Int}
def rSumT (K : PySem.W.Frag) : List V → Hp → VK → Prop := fun vs H Q => ∃ (a : Addr) (ns : List Int), vs = [V.ref a] ∧ SqT K H a (ns.map V.int) ∧ Q (.int ns.sum) H
def rMinT (K : PySem.W.Frag) : List V → Hp → VK → Prop := fun vs H Q => ∃ (a : Addr) (ns : List Int), vs = [V.ref a] ∧ SqT K H a (ns.map V.int) ∧ 0 < ns.length ∧ ∀ m, m ∈ ns → (∀ y, y ∈ ns → m ≤ y) → Q (.int m) H
def rMaxT (K : PySem.W.Frag) : List V → Hp → VK → Prop := fun vs H Q => ∃ (a : Addr) (ns : List Int), vs = [V.ref a] ∧ SqT K H a (ns.map V.int) ∧ 0 < ns.length ∧ ∀ m, m ∈ ns → (∀ y, y ∈ ns → y ≤ m) → Q (.int m) H
theorem cr_sumT (hc : X.calm = true) : CallR X (.builtin "sum") (rSumT X.K) := by
  intro pins s σ H vs us Q I r h
  obtain ⟨a, ns, rfl, hs, q⟩ := h
  obtain ⟨its, rv, hl, _⟩ := I.tuple hs
  rw [Vals.ref1 r]
  exact sum_rawT (I.ok.hd hc) (show s.heap.IsTuple a its.toArray from hl) rv.ints fun h' tk t' hk => ⟨.int _, H, I.kept hk, ⟨_, rfl⟩, q⟩
theorem cr_minT (hc : X.calm = true) : CallR X (.builtin "min") (rMinT X.K) := by
  intro pins s σ H vs us Q I r h
  obtain ⟨a, ns, rfl, hs, hne, q⟩ := h
  obtain ⟨its, rv, hl, _⟩ := I.tuple hs
  rw [Vals.ref1 r]
  exact min_rawT (I.ok.hd hc) (show s.heap.IsTuple a its.toArray from hl) rv.ints hne fun h' tk m t' hk h1 h2 => ⟨.int _, H, I.kept hk, ⟨_, rfl⟩, q m h1 h2⟩
theorem cr_maxT (hc : X.calm = true) : CallR X (.builtin "max") (rMaxT X.K) := by
  intro pins s σ H vs us Q I r h
  obtain ⟨a, ns, rfl, hs, hne, q⟩ := h
  obtain ⟨its, rv, hl, _⟩ := I.tuple hs
  rw [Vals.ref1 r]
  exact max_rawT (I.ok.hd hc) (show s.heap.IsTuple a its.toArray from hl) rv.ints hne fun h' tk m t' hk h1 h2 => ⟨.int _, H, I.kept hk, ⟨_, rfl⟩, q m h1 h2⟩
def rSumA (K : PySem.W.Frag) : List V → Hp → VK → Prop := fun xs H Q => rSum K xs H Q ∨ rSumT K xs H Q
theorem call_sumA (hc : X.calm = true) : CallR X (.builtin "sum") (rSumA X.K) := CallR.or (cr_sum hc) (cr_sumT hc)
theorem de_sumL (h : DE K none te G (.list (ns.map .int))) : DE K m (tCB (rSumA K) (tCons te tNil)) G (.int ns.sum) := de_cb0 (ds := [.list (ns.map .int)]) (fun P H vs Q s r q => by
  obtain ⟨v, rfl, r'⟩ := reps1 r
  clear r
  cases r' with
  | @lst a xs _ h1 r =>
    have := r.ints
    subst this
    exact .inl ⟨a, ns, rfl, rd_lst s h1, q _ H (Same.refl H) (.int _)⟩) rfl (da_cons h da_nil)
theorem de_sumT (h : DE K none te G (.tuple (ns.map .int))) : DE K m (tCB (rSumA K) (tCons te tNil)) G (.int ns.sum) := de_cb0 (ds := [.tuple (ns.map .int)]) (fun P H vs Q s r q => by
  obtain ⟨v, rfl, r'⟩ := reps1 r
  clear r
  cases r' with
  | @tup a xs _ h1 r =>
    have := r.ints
    subst this
    exact .inr ⟨a, ns, rfl, rd_tup s h1, q _ H (Same.refl H) (.int _)⟩) rfl (da_cons h da_nil)
/-- the least of a list, 0 of none -/
def minL : List Int → Int
  | [] => 0
  | x :: xs => xs.foldl min x
theorem foldl_min : ∀ (xs : List Int) (x : Int), (xs.foldl min x ∈ x :: xs) ∧ ∀ y ∈ x :: xs, xs.foldl min x ≤ y
  | [], x => ⟨by simp, fun y h => by simp at h; simp [h]⟩
  | z :: xs, x => by
    obtain ⟨h1, h2⟩ := foldl_min xs (min x z)
    refine ⟨?_, fun y hy => ?_⟩
    · rw [List.foldl_cons]
      rcases List.mem_cons.mp h1 with h | h
      · rw [h]
        rcases Int.le_total x z with q | q
        · rw [Int.min_eq_left q]; simp
        · rw [Int.min_eq_right q]; simp
      · simp [h]
    · rw [List.foldl_cons]
      have hm := h2 (min x z) (by simp)
      rcases List.mem_cons.mp hy with h | h
      · subst h; exact Int.le_trans hm (Int.min_le_left _ _)
      · rcases List.mem_cons.mp h with h | h
        · subst h; exact Int.le_trans hm (Int.min_le_right _ _)
        · exact h2 y (by simp [h])
theorem minL_spec {ns : List Int} (h : 0 < ns.length) : minL ns ∈ ns ∧ ∀ y ∈ ns, minL ns ≤ y := by
  cases ns with
  | nil => simp at h
  | cons x xs => exact foldl_min xs x
theorem minL_uniq {ns : List Int} {m : Int} (h : 0 < ns.length) (h1 : m ∈ ns) (h2 : ∀ y ∈ ns, m ≤ y) : m = minL ns := by
  obtain ⟨a, b⟩ := minL_spec h
  exact Int.le_antisymm (h2 _ a) (b _ h1)
def maxL : List Int → Int
  | [] => 0
  | x :: xs => xs.foldl max x
theorem foldl_max : ∀ (xs : List Int) (x : Int), (xs.foldl max x ∈ x :: xs) ∧ ∀ y ∈ x :: xs, y ≤ xs.foldl max x
  | [], x => ⟨by simp, fun y h => by simp at h; simp [h]⟩
  | z :: xs, x => by
    obtain ⟨h1, h2⟩ := foldl_max xs (max x z)
    refine ⟨?_, fun y hy => ?_⟩
    · rw [List.foldl_cons]
      rcases List.mem_cons.mp h1 with h | h
      · rw [h]
        rcases Int.le_total x z with q | q
        · rw [Int.max_eq_right q]; simp
        · rw [Int.max_eq_left q]; simp
      · simp [h]
    · rw [List.foldl_cons]
      have hm := h2 (max x z) (by simp)
      rcases List.mem_cons.mp hy with h | h
      · subst h; exact Int.le_trans (Int.le_max_left _ _) hm
      · rcases List.mem_cons.mp h with h | h
        · subst h; exact Int.le_trans (Int.le_max_right _ _) hm
        · exact h2 y (by simp [h])
theorem maxL_spec {ns : List Int} (h : 0 < ns.length) : maxL ns ∈ ns ∧ ∀ y ∈ ns, y ≤ maxL ns := by
  cases ns with
  | nil => simp at h
  | cons x xs => exact foldl_max xs x
theorem maxL_uniq {ns : List Int} {m : Int} (h : 0 < ns.length) (h1 : m ∈ ns) (h2 : ∀ y ∈ ns, y ≤ m) : m = maxL ns := by
  obtain ⟨a, b⟩ := maxL_spec h
  exact Int.le_antisymm (b _ h1) (h2 _ a)
/-! min: a list, a tuple, two ints; max: a list, two ints -/
def rMin2 : List V → Hp → VK → Prop := fun xs H Q => ∃ i j, xs = [.int i, .int j] ∧ Q (.int (if j < i then j else i)) H
def rMax2 : List V → Hp → VK → Prop := fun xs H Q => ∃ i j, xs = [.int i, .int j] ∧ Q (.int (if j > i then j else i)) H
def rMinA (K : PySem.W.Frag) : List V → Hp → VK → Prop := fun xs H Q => rMin K xs H Q ∨ rMinT K xs H Q ∨ rMin2 xs H Q
def rMaxA (K : PySem.W.Frag) : List V → Hp → VK → Prop := fun xs H Q => rMax K xs H Q ∨ rMaxT K xs H Q ∨ rMax2 xs H Q
theorem call_minA (hc : X.calm = true) : CallR X (.builtin "min") (rMinA X.K) := CallR.or (cr_min hc) (CallR.or (cr_minT hc) (call_min2 hc))
theorem call_maxA (hc : X.calm = true) : CallR X (.builtin "max") (rMaxA X.K) := CallR.or (cr_max hc) (CallR.or (cr_maxT hc) (call_max2 hc))
theorem de_minL (h : DE K none te G (.list (ns.map .int))) (h0 : 0 < ns.length) : DE K m (tCB (rMinA K) (tCons te tNil)) G (.int (minL ns)) := de_cb0 (ds := [.list (ns.map .int)]) (fun P H vs Q s r q => by
  obtain ⟨v, rfl, r'⟩ := reps1 r
  clear r
  cases r' with
  | @lst a xs _ h1 r =>
    have := r.ints
    subst this
    exact .inl ⟨a, ns, rfl, rd_lst s h1, h0, fun m h1 h2 => q _ H (Same.refl H) (by rw [minL_uniq h0 h1 h2]; exact .int _)⟩) rfl (da_cons h da_nil)
theorem de_minT (h : DE K none te G (.tuple (ns.map .int))) (h0 : 0 < ns.length) : DE K m (tCB (rMinA K) (tCons te tNil)) G (.int (minL ns)) := de_cb0 (ds := [.tuple (ns.map .int)]) (fun P H vs Q s r q => by
  obtain ⟨v, rfl, r'⟩ := reps1 r
  clear r
  cases r' with
  | @tup a xs _ h1 r =>
    have := r.ints
    subst this
    exact .inr (.inl ⟨a, ns, rfl, rd_tup s h1, h0, fun m h1 h2 => q _ H (Same.refl H) (by rw [minL_uniq h0 h1 h2]; exact .int _)⟩)) rfl (da_cons h da_nil)
theorem de_maxT (h : DE K none te G (.tuple (ns.map .int))) (h0 : 0 < ns.length) : DE K m (tCB (rMaxA K) (tCons te tNil)) G (.int (maxL ns)) := de_cb0 (ds := [.tuple (ns.map .int)]) (fun P H vs Q s r q => by
  obtain ⟨v, rfl, r'⟩ := reps1 r
  clear r
  cases r' with
  | @tup a xs _ h1 r =>
    have := r.ints
    subst this
    exact .inr (.inl ⟨a, ns, rfl, rd_tup s h1, h0, fun m h1 h2 => q _ H (Same.refl H) (by rw [maxL_uniq h0 h1 h2]; exact .int _)⟩)) rfl (da_cons h da_nil)
theorem de_maxL (h : DE K none te G (.list (ns.map .int))) (h0 : 0 < ns.length) : DE K m (tCB (rMaxA K) (tCons te tNil)) G (.int (maxL ns)) := de_cb0 (ds := [.list (ns.map .int)]) (fun P H vs Q s r q => by
  obtain ⟨v, rfl, r'⟩ := reps1 r
  clear r
  cases r' with
  | @lst a xs _ h1 r =>
    have := r.ints
    subst this
    exact .inl ⟨a, ns, rfl, rd_lst s h1, h0, fun m h1 h2 => q _ H (Same.refl H) (by rw [maxL_uniq h0 h1 h2]; exact .int _)⟩) rfl (da_cons h da_nil)
theorem de_max2 {ta tb : TE} {a b : Int} (h : DE K none ta G (.int a)) (h' : DE K none tb G (.int b)) : DE K m (tCB (rMaxA K) (tCons ta (tCons tb tNil))) G (.int (max a b)) := de_cb0 (ds := [.int a, .int b]) (fun P H vs Q s r q => by
  obtain ⟨v, u, rfl, r1, r2⟩ := reps2 r
  cases r1; cases r2
  refine .inr (.inr ⟨a, b, rfl, q _ H (Same.refl H) ?_⟩)
  have : (if b > a then b else a) = max a b := by omega
  rw [this]; exact .int _) rfl (da_cons h (da_cons h' da_nil))
end
section
variable {K : PySem.W.Frag} {n : Bool} {ta : TE} {G : Sl} {ds : List PyData}
/-- reversed(xs), xs a list that stands still -/
theorem di_revL (h : DE K (some n) ta G (.list ds)) : DI K n (RT.iRevA K ta) G ds.reverse := fun c σ H e R k => by
  refine h c σ H e _ fun v H' s r => ?_
  cases r with
  | @lst a xs _ h1 r =>
    have e1 := e.ext s
    have hq : ∀ {H2}, Same (hide (OF G) H') H2 → SqL K H2 a xs := fun s2 => SqL.same ((vis_hide e.f0 e1.h0).trans s2) h1
    have hl := r.length
    refine ⟨a, xs, rfl, .inl ⟨SqL.same e1.vsame h1, k _ H' s ⟨fun i H2 hi s2 => ?_, fun H2 s2 => (show xs.length ≤ ds.reverse.length by rw [List.length_reverse, hl]; exact Nat.le_refl _), fun i H2 x H3 d hd s2 y => ?_⟩⟩⟩
    · rw [List.length_reverse] at hi
      have hi2 : xs.length - 1 - i < xs.length := by omega
      exact ⟨by omega, xs, xs[xs.length - 1 - i], hq s2, List.getElem?_eq_getElem hi2⟩
    · obtain ⟨rfl, y2⟩ := y
      refine ⟨Same.refl _, fun G2 σ2 c' q1 q2 q3 e2 => ?_⟩
      have hi : i < ds.length := by
        have := (List.getElem?_eq_some_iff.mp hd).1
        rwa [List.length_reverse] at this
      rw [List.getElem?_reverse hi] at hd
      obtain ⟨w, w1, w2⟩ := r.get hd
      rw [← hl, y2 xs (hq s2)] at w1
      cases w1
      exact Rep.mono (src_see e.f0 e1.h0 rfl s2 e2 q1 q2 q3) w2
end
end TB

/-! TB num: sizes of ints, powers of ten, items of mapped lists; plain Lean. -/
namespace TB
open PySem PySem.Spec PyProof.Rows L2
section
variable {K : PySem.W.Frag}
/-! sizes -/
def SB : Nat := 1048577
theorem SB_ge : 200 ≤ SB := by decide
theorem cm_of {a b : Int} {n k : Nat} (ha : a.natAbs < 2 ^ n) (hb : b.natAbs < 2 ^ k) (h0 : 0 < n) (h1 : 0 < k) (h : n + k ≤ 90000000) : CMulX a b := by
  have x := PySem.Flt.log2_lt_of h0 ha
  have y := PySem.Flt.log2_lt_of h1 hb
  unfold CMulX
  omega
theorem lt_up {a : Int} {n k : Nat} (h : a.natAbs < 2 ^ n) (hk : n ≤ k) : a.natAbs < 2 ^ k := Nat.lt_of_lt_of_le h (Nat.pow_le_pow_right (by decide) hk)
theorem lt_add {a b : Int} {n : Nat} (ha : a.natAbs < 2 ^ n) (hb : b.natAbs < 2 ^ n) : (a + b).natAbs < 2 ^ (n + 1) := by
  rw [Nat.pow_succ]; omega
theorem lt_sub {a b : Int} {n : Nat} (ha : a.natAbs < 2 ^ n) (hb : b.natAbs < 2 ^ n) : (a - b).natAbs < 2 ^ (n + 1) := by
  rw [Nat.pow_succ]; omega
theorem lt_mul {a b : Int} {n k : Nat} (ha : a.natAbs < 2 ^ n) (hb : b.natAbs < 2 ^ k) : (a * b).natAbs < 2 ^ (n + k) := L2.wide_lt ha hb
/-- two ints of at most 40,000 bits -/
theorem cm_small {a b : Int} (ha : a.natAbs < 2 ^ 40000) (hb : b.natAbs < 2 ^ 40000) : CMulX a b := cm_of ha hb (by decide) (by decide) (by decide)
/-- two ints below 10 ^ 70 -/
def T70 : Int := 10000000000000000000000000000000000000000000000000000000000000000000000
theorem cm_om {a b : Int} (h1 : -10000000000000000000000000000000000000000000000000000000000000000000000 < a) (h2 : a < 10000000000000000000000000000000000000000000000000000000000000000000000)
    (h3 : -10000000000000000000000000000000000000000000000000000000000000000000000 < b) (h4 : b < 10000000000000000000000000000000000000000000000000000000000000000000000) : CMulX a b :=
  cm_of (n := 240) (k := 240) (Nat.lt_of_lt_of_le (show a.natAbs < 10000000000000000000000000000000000000000000000000000000000000000000000 by omega) (by decide)) (Nat.lt_of_lt_of_le (show b.natAbs < 10000000000000000000000000000000000000000000000000000000000000000000000 by omega) (by decide)) (by decide) (by decide) (by decide)
theorem lg_om {b : Int} (h1 : 0 < b) (h2 : b < 10000000000000000000000000000000000000000000000000000000000000000000000) : b.natAbs.log2 < 9000 :=
  Nat.lt_of_lt_of_le (PySem.Flt.log2_lt_of (n := b.natAbs) (k := 240) (by decide) (Nat.lt_of_lt_of_le (show b.natAbs < 10000000000000000000000000000000000000000000000000000000000000000000000 by omega) (by decide))) (by decide)
theorem log2_mono {a b : Nat} (h : a ≤ b) : a.log2 ≤ b.log2 := by
  by_cases ha : a = 0
  · subst ha; simp
  · exact (Nat.le_log2 (by omega)).mpr (Nat.le_trans (Nat.log2_self_le ha) h)
theorem log_lt {a : Int} {n : Nat} (h : a.natAbs < 2 ^ n) (h0 : 0 < n) : a.natAbs.log2 < n := PySem.Flt.log2_lt_of h0 h
/-- sums and products of bounded ints -/
theorem nat_bound {a : Int} {b : Int} {n : Nat} (h0 : 0 ≤ a) (h : a < b) (hb : b ≤ 2 ^ n) : a.natAbs < 2 ^ n := by
  have : (a.natAbs : Int) < ((2 ^ n : Nat) : Int) := by
    rw [Int.natAbs_of_nonneg h0]
    have : ((2 ^ n : Nat) : Int) = 2 ^ n := by simp
    omega
  exact Int.ofNat_lt.mp this
def T40 : Int := 10000000000000000000000000000000000000000
theorem T40_lt : T40 ≤ 2 ^ 133 := by decide
theorem bd40 {a : Int} (h : 0 ≤ a ∧ a < T40) : a.natAbs < 2 ^ 133 := nat_bound h.1 h.2 T40_lt
theorem pos_of_mul {g x : Int} (hg : 0 < g) (h : 0 < g * x) : 0 < x := Int.lt_of_not_ge fun hx => by
  have := Int.mul_le_mul_of_nonneg_left hx (Int.le_of_lt hg)
  rw [Int.mul_zero] at this
  omega
theorem le_mul_pos {g x : Int} (hg : 0 < g) (h : 0 ≤ x) : x ≤ g * x := by
  have := Int.mul_le_mul_of_nonneg_right (show 1 ≤ g by omega) h
  rwa [Int.one_mul] at this
/-! items -/
theorem atI_lit {α : Type} {xs : List α} {j : Nat} {d : α} {k : Int} (e : k = (j : Nat)) (h : xs[j]? = some d) : L2.atI xs k = some d := by rw [e]; exact atI_nat h
theorem atI_map {α β : Type} {f : α → β} {xs : List α} {j : Nat} {x : α} {k : Int} (h : xs[j]? = some x) (e : k = (j : Nat)) : L2.atI (xs.map f) k = some (f x) := atI_lit e (by rw [List.getElem?_map, h]; rfl)
theorem atI_get {α : Type} {xs : List α} {k : Int} (h0 : 0 ≤ k) (h : k < (xs.length : Nat)) : ∃ x, L2.atI xs k = some x ∧ xs[k.toNat]? = some x := by
  have hk : k.toNat < xs.length := by omega
  exact ⟨xs[k.toNat], atI_lit (by omega) (List.getElem?_eq_getElem hk), List.getElem?_eq_getElem hk⟩
section
variable {m : Md} {n : Bool} {G : Sl} {i : Nat} {d : PyData}
theorem de_shI (h : G[i]? = some (some (.sh n d))) (hi : imm d = true) : DE K m (tVar i) G d := de_imm (de_full h) hi
theorem de_pw {k : Nat} {c : Int} (h : (10 : Int) ^ k = c) (hk : k ≤ 1000) : DE K m (tOp rPow (tC (.int 10)) (tC (.int (k : Nat)))) G (.int c) := by
  have := de_pow (K := K) (m := m) (G := G) (a := 10) (b := (k : Nat)) de_int de_int ⟨by omega, by omega, by decide⟩
  rwa [Int.toNat_natCast, h] at this
theorem de_p9 : DE K m (tOp rPow (tC (.int 10)) (tC (.int 9))) G (.int 1000000000) := de_pw (k := 9) (by decide) (by decide)
theorem de_p10 : DE K m (tOp rPow (tC (.int 10)) (tC (.int 10))) G (.int 10000000000) := de_pw (k := 10) (by decide) (by decide)
theorem de_p12 : DE K m (tOp rPow (tC (.int 10)) (tC (.int 12))) G (.int 1000000000000) := de_pw (k := 12) (by decide) (by decide)
theorem de_p15 : DE K m (tOp rPow (tC (.int 10)) (tC (.int 15))) G (.int 1000000000000000) := de_pw (k := 15) (by decide) (by decide)
theorem de_p17 : DE K m (tOp rPow (tC (.int 10)) (tC (.int 17))) G (.int 100000000000000000) := de_pw (k := 17) (by decide) (by decide)
theorem de_p18 : DE K m (tOp rPow (tC (.int 10)) (tC (.int 18))) G (.int 1000000000000000000) := de_pw (k := 18) (by decide) (by decide)
theorem de_p19 : DE K m (tOp rPow (tC (.int 10)) (tC (.int 19))) G (.int 10000000000000000000) := de_pw (k := 19) (by decide) (by decide)
theorem de_p20 : DE K m (tOp rPow (tC (.int 10)) (tC (.int 20))) G (.int 100000000000000000000) := de_pw (k := 20) (by decide) (by decide)
theorem de_p25 : DE K m (tOp rPow (tC (.int 10)) (tC (.int 25))) G (.int 10000000000000000000000000) := de_pw (k := 25) (by decide) (by decide)
theorem de_p28 : DE K m (tOp rPow (tC (.int 10)) (tC (.int 28))) G (.int 10000000000000000000000000000) := de_pw (k := 28) (by decide) (by decide)
theorem de_p30 : DE K m (tOp rPow (tC (.int 10)) (tC (.int 30))) G (.int 1000000000000000000000000000000) := de_pw (k := 30) (by decide) (by decide)
theorem de_p39 : DE K m (tOp rPow (tC (.int 10)) (tC (.int 39))) G (.int 1000000000000000000000000000000000000000) := de_pw (k := 39) (by decide) (by decide)
theorem de_p40 : DE K m (tOp rPow (tC (.int 10)) (tC (.int 40))) G (.int T40) := de_pw (k := 40) (by decide) (by decide)
theorem de_p59 : DE K m (tOp rPow (tC (.int 10)) (tC (.int 59))) G (.int 100000000000000000000000000000000000000000000000000000000000) := de_pw (k := 59) (by decide) (by decide)
end
section
variable {ts tv : TS} {G : Sl} {P : Post}
theorem ds_setE {te : TE} {n : Bool} {i : Nat} {d d' : PyData} (h : DE K (some n) te G d) (e : d = d') (hi : i < G.length) (k : P.nx (G.set i (some (.sh n d')))) : DS K (tAsg te (gName i)) G P := ds_set (e ▸ h) hi k
theorem ds_retE {te : TE} {n : Bool} {d d' : PyData} (h : DE K (some n) te G d) (e : d = d') (k : P.rt (.val n d')) : DS K (tRet te) G P := ds_retD (e ▸ h) k
theorem de_trans {te : TE} {m : Md} {d d' : PyData} (h : DE K m te G d) (e : d = d') : DE K m te G d' := e ▸ h
/-- xs[k] = e, xs one's own -/
theorem ds_setItemA {te tx : TE} {n : Bool} {i : Nat} {d : PyData} {ds : List PyData} {a : Addr} {k : Int} {j : Nat} (hg : G[i]? = some (some (.own n a ds))) (h : DE K (some n) te G d) (hk : DE K none tx G (.int k)) (hj : ixN ds.length k = some j) (kk : P.nx (G.set i (some (.own n a (ds.set j d))))) : DS K (tAsg te (gSub (tVar i) tx rSetA)) G P := fun c σ H D e k1 _ _ _ =>
  h c σ H e _ fun u H1 s r => by
    have e1 := e.ext s
    obtain ⟨w, h1, rfl, vs, h2, h3⟩ := e1.at_ i _ hg
    refine ⟨_, h1, hk c σ H1 e1 _ fun q H2 s2 r2 => ?_⟩
    cases r2
    have e2 := e1.ext s2
    refine .inl ⟨a, vs, k, j, rfl, rfl, s2 _ _ h2, by rw [h3.length]; exact hj, k1 _ _ _ kk (e2.write hg rfl (by simp [B.ows]) rfl fun v hv => ?_)⟩
    obtain ⟨rfl, ws, h4, h5⟩ := hv
    rw [s2 _ _ h2] at h4
    cases h4
    exact ⟨rfl, _, upd_same, Reps.set j (Rep.mono (e1.vext s2) r) h5⟩
/-- what holds between two statements -/
theorem ds_cut (M : Sl → Prop) (h : DS K ts G { P with nx := M }) (k : ∀ G', M G' → DS K tv G' P) : DS K (tSeq ts tv) G P := ds_seq (h.imp (fun G' p => k G' p) (fun _ p => p) (fun _ p => p) (fun _ p => p))
end
section
variable {m : Md} {G : Sl} {d : PyData} {ds : List PyData} {i : Nat} {v : V} {r : R2} {ta tb te : TE} {q : List V → Hp → VK → Prop} {t : TA} {tt : TT} {b : Bool}
theorem gd_var (h : DE K m (tVar i) G d) : DE K m (tVar i) G d := h
theorem gd_c (h : DE K m (tC v) G d) : DE K m (tC v) G d := h
theorem gd_op (h : DE K m (tOp r ta tb) G d) : DE K m (tOp r ta tb) G d := h
theorem gd_cb (h : DE K m (tCB q t) G d) : DE K m (tCB q t) G d := h
theorem gd_de (h : DE K m te G d) : DE K m te G d := h
theorem gd_da (h : DA K m t G ds) : DA K m t G ds := h
theorem gd_dt (h : DT K tt G b) : DT K tt G b := h
end
section
variable {m : Md} {n : Bool} {te ta tb : TE} {tt : TT} {ts : TS} {g : TG} {G : Sl} {P : Post} {i j : Nat} {d : PyData}
theorem rgD_at {lo : Int} {q k : Nat} {d : PyData} (h : (rgD lo q)[k]? = some d) : k < q ∧ d = .int (lo + (k : Nat)) := by
  unfold rgD at h
  rw [List.getElem?_map] at h
  cases e : (List.range q)[k]? with
  | none => rw [e] at h; cases h
  | some w =>
    rw [e] at h
    obtain ⟨h1, h2⟩ := List.getElem?_eq_some_iff.mp e
    rw [List.getElem_range] at h2
    subst h2
    cases h
    exact ⟨by simpa using h1, rfl⟩
/-- for x in range(q), x a name -/
theorem ds_forR {z : Int} {q : Nat} (h : DE K none te G (.int z)) (hz : z = (q : Nat)) (hq : q ≤ 100000) (I : Nat → Sl → Prop) (h0 : I 0 G) (hl : ∀ k Gk, I k Gk → i < Gk.length)
    (hs : ∀ (k : Nat) (Gk : Sl), k < q → I k Gk → DS K ts (Gk.set i (some (.sh true (.int (k : Nat))))) { nx := I (k + 1), ct := I (k + 1), bk := P.nx, rt := P.rt }) (hd : ∀ Gn, I q Gn → P.nx Gn) : DS K (tFor (iRng1 (tCons te tNil)) (gName i) ts) G P := by
  have hr := di_range1 (K := K) h (by omega) (by omega)
  have ht : z.toNat = q := by omega
  rw [ht] at hr
  refine ds_for (n := true) hr I h0 (fun k d Gk hd' hk => ?_) (fun Gn hn => hd Gn (by simpa [rgD] using hn))
  obtain ⟨h1, rfl⟩ := rgD_at hd'
  refine dg_name (hl k Gk hk) ?_
  rw [Int.zero_add]
  exact hs k Gk h1 hk
/-- the block's slot is none of one's own -/
theorem noOwn1 (h : ∀ b, G[j]? = some (some b) → b.ows = []) : NoOwn G [j] := fun a hh => keep_set h a hh
/-- [e for x in range(q)] -/
theorem dn_lcR {z : Int} {q : Nat} (f : Nat → PyData) (h : DE K none ta G (.int z)) (hz : z = (q : Nat)) (hq : q ≤ 100000) (hj : j < G.length) (ho : ∀ b, G[j]? = some (some b) → b.ows = [])
    (hb : ∀ k < q, DE K (some n) te (G.set j (some (.sh true (.int (k : Nat))))) (f k)) : DN K n (tLc (iRng1 (tCons ta tNil)) (gName j) tYes te [j]) G ((List.range q).map f) := by
  have hr := di_range1 (K := K) h (by omega) (by omega)
  have ht : z.toNat = q := by omega
  rw [ht] at hr
  refine dn_lcM (n' := true) (List.range q) (fun k => .int (0 + (k : Nat))) f hr (noOwn1 ho) (gw_name (by simp)) (by simpa using hq) fun k hk => ?_
  have hk : k < q := List.mem_range.mp hk
  refine dg_name (by simpa [wipeG] using hj) ⟨keep_set fun b hb => ?_, ?_⟩
  · rcases set_at hb with ⟨_, q⟩ | ⟨q, _⟩
    · cases q
    · exact (q rfl).elim
  · rw [Int.zero_add, show wipeG G [j] = G.set j none from rfl, List.set_set]
    exact hb k hk
/-- [e for x in xs], xs a list or a tuple of f-data -/
theorem dn_lcX {α : Type} {n' : Bool} {wi : TI} (xs : List α) (inj : α → PyData) (f : α → PyData) (h : DI K n' wi G (xs.map inj)) (hq : xs.length ≤ 100000) (hj : j < G.length) (ho : ∀ b, G[j]? = some (some b) → b.ows = [])
    (hb : ∀ x ∈ xs, DE K (some n) te (G.set j (some (.sh n' (inj x)))) (f x)) : DN K n (tLc wi (gName j) tYes te [j]) G (xs.map f) := by
  refine dn_lcM (n' := n') xs inj f h (noOwn1 ho) (gw_name (by simp)) hq fun k hk => ?_
  refine dg_name (by simpa [wipeG] using hj) ⟨keep_set fun b hb => ?_, ?_⟩
  · rcases set_at hb with ⟨_, q⟩ | ⟨q, _⟩
    · cases q
    · exact (q rfl).elim
  · rw [show wipeG G [j] = G.set j none from rfl, List.set_set]
    exact hb k hk
/-- .. if a test -/
theorem dn_lcXi {α : Type} {n' : Bool} {wi : TI} (xs : List α) (inj : α → PyData) (p : α → Bool) (f : α → PyData) (h : DI K n' wi G (xs.map inj)) (hq : xs.length ≤ 100000) (hj : j < G.length) (ho : ∀ b, G[j]? = some (some b) → b.ows = [])
    (ht : ∀ x ∈ xs, DT K tt (G.set j (some (.sh n' (inj x)))) (p x)) (hb : ∀ x ∈ xs, p x = true → DE K (some n) te (G.set j (some (.sh n' (inj x)))) (f x)) : DN K n (tLc wi (gName j) tt te [j]) G ((xs.filter p).map f) := by
  refine dn_lc (n' := n') xs inj p f h (noOwn1 ho) (gw_name (by simp)) hq fun k hk => ?_
  refine dg_name (by simpa [wipeG] using hj) ⟨keep_set fun b hb => ?_, ?_, fun hp => ?_⟩
  · rcases set_at hb with ⟨_, q⟩ | ⟨q, _⟩
    · cases q
    · exact (q rfl).elim
  · rw [show wipeG G [j] = G.set j none from rfl, List.set_set]
    exact ht k hk
  · rw [show wipeG G [j] = G.set j none from rfl, List.set_set]
    exact hb k hk hp
theorem ds_ownE {ds ds' : List PyData} (h : DN K n te G ds) (e : ds = ds') (hi : i < G.length) (k : ∀ a, P.nx (G.set i (some (.own n a ds')))) : DS K (tAsg te (gName i)) G P := ds_own (dr_new (e ▸ h)) hi k
theorem ds_appE {a : Addr} {ds ds' : List PyData} (hg : G[i]? = some (some (.own n a ds))) (h : DE K (some n) te G d) (hl : ds.length < 100000) (e : ds ++ [d] = ds') (k : P.nx (G.set i (some (.own n a ds')))) : DS K (tDrop (tBM K "list" rAppend (tVar i) (tCons te tNil))) G P := ds_append hg h hl (e ▸ k)
end
/-- a script: at most 63 ints, none of more than 2^20 bits -/
structure Scr (ns : List Int) : Prop where
  len : ns.length ≤ 63
  sz : ∀ n ∈ ns, n.natAbs < 2 ^ SB
theorem Scr.of {ns : List Int} (h : ns.length ≤ 63) (hb : ∀ n ∈ ns, Builtin.Int.intBits n ≤ 1048576) : Scr ns := ⟨h, fun n hn => by
  have := hb n hn
  unfold Builtin.Int.intBits at this
  by_cases h0 : n = 0
  · subst h0
    exact Nat.pow_pos (by decide)
  · split at this
    · rename_i q; exact (h0 (by simpa using q)).elim
    · have hl : n.natAbs.log2 < SB := by unfold SB; omega
      exact (Nat.log2_lt (by omega)).mp hl⟩
end
end TB

/-! TB exc: defs that refuse; try. -/
namespace TB
open PySem PySem.Spec PyProof.Rows L2
section
variable {K : PySem.W.Frag} {m : Md} {te : TE} {tt : TT} {ts tv : TS} {G : Sl} {P : Post} {C : Addr} {E : XK} {i : Nat}
/-- an own class of errors, over ValueError, without words of its own -/
structure ExF (K : PySem.W.Frag) (mg : Str → Option Value) (nm : Str) (C : Addr) : Prop where
  g : mg nm = some (.ref C)
  x : PySem.W.excIn K C [.type "ValueError", .type "Exception", .type "BaseException", .type "object"] "ValueError.__new__" = true
  k : PySem.W.keepIn K (.ref C) = true
  b : PySem.W.subIn K (.ref C) (.type "BaseException") = some true
  t : PySem.W.typeIn K (.ref C) = some (.type "type")
theorem passC {X : Cx} : Passes (L2.CX X.prog X.w) X E0 := fun _ _ _ _ _ _ _ ⟨_, _, _, _, _, _, _, _, _, _, _, _, h⟩ => h.elim
def tRaise (C : Addr) (E : XK) : TS := fun _ _ H => E (.ref C) none H
theorem ps_refuse {X : Cx} {x msg : Str} {j : Nat} {p p2 pos pos2 : Pos} (T : ExF X.K X.mg x C) (hc : X.calm = true) (tk : L2.Takes X (fun cls d _ H => E cls d H)) (hg : Gl X x) (hd : (x == ("__debug__" : Str)) = false := by decide) :
    PS X (.Raise (some (.Call (.Name x p) [.Constant (.str msg) j p2] [] pos)) none pos2) (tRaise C E) :=
  L2.ps_raise hc tk (L2.pmk_own PySem.F.excBase_ValueError T.x T.g T.k (raises_own T.b T.t) hg hd)
/-- a def that may refuse -/
def DefOkX (P : Program) (w : World) (K : PySem.W.Frag) (mg : Str → Option Value) (base : Heap) (k : Nat) (x : Str) (ps : List Str) (sp : Sp) : Prop :=
  ∃ (f : Addr) (fd : FuncData), FnOk P w K mg base (L2.CX P w) k f fd ps sp ∧ mg x = some (.ref f) ∧ PySem.W.keepIn K (.ref f) = true ∧ Binds K fd ps []
theorem pe_callX {X : Cx} {k : Nat} {x : Str} {ps : List Str} {sp : Sp} {p pos : Pos} {e : Expr} {es : List Expr} {t : TA} (D : DefOkX X.prog X.w X.K X.mg X.base k x ps sp) (hr : Room k X.A) (hg : Gl X x) (hx : Passes (L2.CX X.prog X.w) X E) (ha : PA X (e :: es) t) (hdb : (x == ("__debug__" : Str)) = false := by decide)
    (he : starEach (e :: es) X.env = (false, eval e X.env) :: starEach es X.env := by rfl) (hpl : (backTo pos (starEach es X.env)).any (·.1) = false := by rfl) : PE X (.Call (.Name x p) (e :: es) [] pos) (tCall sp [] E t) := by
  obtain ⟨f, fd, F, hm, kp, b⟩ := D
  exact pe_call F hr hg hm kp b .nil hx ha hdb he hpl
theorem pe_callXS {X : Cx} {W : WX} {k : Nat} {x : Str} {ps : List Str} {sp : Sp} {p pos : Pos} {e : Expr} {es : List Expr} {t : TA} (D : DefOkX X.prog X.w X.K X.mg X.base k x ps sp) (hr : Room k X.A) (hg : Gl X x) (tk : L2.Takes X W) (ha : PA X (e :: es) t) (hdb : (x == ("__debug__" : Str)) = false := by decide)
    (he : starEach (e :: es) X.env = (false, eval e X.env) :: starEach es X.env := by rfl) (hpl : (backTo pos (starEach es X.env)).any (·.1) = false := by rfl) : PE X (.Call (.Name x p) (e :: es) [] pos) (tCallS sp (WE W) t) := by
  obtain ⟨f, fd, F, hm, kp, b⟩ := D
  exact pe_callS F hr hg hm kp b (fun σ => passAt tk σ) ha hdb he hpl
section
variable {Pg : Program} {w : World} {mg : Str → Option Value} {base : Heap}
theorem mkDefX {x : Str} {st : Stmt} {N ps : List Str} {k : Nat} {ts : XK → TS} {sp : Sp} (h : Here K mg x st ps) (S : FnScope N ps (defScope st)) (hlen : ∀ vs H Q E, sp vs H Q E → vs.length = ps.length)
    (hder : ∀ (f : Addr) (cdv : Value) (A : Around) (outer : List Env) (s : Shared) (H : Hp) (E : XK), Room k (A.deeper (envOfC x (defScope st) s.heap.objs.size f cdv)) → PSs (cxOf (L2.CX Pg w) Pg w K mg base N x (defScope st) f cdv A outer s H E) (defBody st) (ts E))
    (hraw : ∀ vs H Q E, sp vs H Q E → ts E { nx := fun _ H' => Q .non H', rt := Q } (L2.start N vs) H) : DefOkX Pg w K mg base (k + 1) x ps sp := by
  obtain ⟨f, fd, F, hm, b⟩ := h
  exact ⟨f, fd, F.okX S hlen (fun cdv A outer s H vs Q E hr hsp => ⟨ts E, hder f cdv A outer s H E hr, hraw vs H Q E hsp⟩), hm, F.kp, b⟩
end
/-- what is refused, by data -/
def badOf (K : PySem.W.Frag) {ι : Type} (args : ι → List PyData) (bad : ι → Prop) (C : Addr) : Sp := fun vs H _ E => ∃ (P : Hp) (i : ι), Same P H ∧ Reps K P vs (args i) ∧ bad i ∧ ∀ H', Same H H' → E (.ref C) none H'
def spX (K : PySem.W.Frag) (C : Addr) {ι : Type} (args : ι → List PyData) (pre : ι → Prop) (res : ι → R → Prop) (bad : ι → Prop) : Sp := fun vs H Q E => spD K args pre res vs H Q E ∨ badOf K args bad C vs H Q E
theorem spX_len {ι : Type} {args : ι → List PyData} {pre bad : ι → Prop} {res : ι → R → Prop} {k : Nat} (hk : ∀ i, (args i).length = k) : ∀ vs H Q E, spX K C args pre res bad vs H Q E → vs.length = k := fun vs H Q E h => by
  rcases h with h | ⟨P, i, _, h, _⟩
  · exact spD_len hk vs H Q E h
  · rw [h.length, hk]
/-- it is refused -/
def DXe (K : PySem.W.Frag) (te : TE) (G : Sl) (E : XK) (C : Addr) : Prop := ∀ (c : TB.C) (σ : L2.St) (H : Hp), Sits K c G σ H → ∀ Q : VK, (∀ H', Same c.H0 H' → E (.ref C) none H') → te σ H Q
def DX (K : PySem.W.Frag) (ts : TS) (G : Sl) (E : XK) (C : Addr) : Prop := ∀ (c : TB.C) (σ : L2.St) (H : Hp) (D : Ends), Sits K c G σ H → (∀ H', Same c.H0 H' → E (.ref C) none H') → ts D σ H
theorem dx_raise : DX K (tRaise C E) G E C := fun c σ H D e k => k H e.h0
theorem dx_drop (h : DXe K te G E C) : DX K (tDrop te) G E C := fun c σ H D e k => h c σ H e _ k
theorem dx_ret (h : DXe K te G E C) : DX K (tRet te) G E C := fun c σ H D e k => h c σ H e _ k
theorem dx_seq1 (h : DX K ts G E C) : DX K (tSeq ts tv) G E C := fun c σ H D e k => h c σ H _ e k
theorem dx_seq2 (h : DS K ts G { nx := fun G' => DX K tv G' E C, rt := fun _ => False, bk := fun _ => False, ct := fun _ => False }) : DX K (tSeq ts tv) G E C := fun c σ H D e k =>
  h c σ H _ e (fun G' σ' H' p e' => p c σ' H' D e' k) (fun _ _ _ p => p.elim) (fun _ _ _ p => p.elim) (fun _ _ _ p => p.elim)
theorem dx_if {b : Bool} (h : DT K tt G b) (h1 : b = true → DX K ts G E C) (h2 : b = false → DX K tv G E C) : DX K (tIfS tt ts tv) G E C := fun c σ H D e k => h c σ H e _ fun H1 s => by
  cases b with
  | true =>
    show ts D σ H1
    exact h1 rfl c σ H1 D (e.ext s) k
  | false =>
    show tv D σ H1
    exact h2 rfl c σ H1 D (e.ext s) k
section
variable {ι : Type} {args : ι → List PyData} {pre bad : ι → Prop} {res : ι → R → Prop} {t : TA}
theorem dxe_call (k : ι) (ha : DA K none t G (args k)) (hb : bad k) : DXe K (tCall (spX K C args pre res bad) [] E t) G E C := fun c σ H e Q q => ha c σ H e _ fun vs H1 s1 r1 => by
  have e1 := e.ext s1
  exact .inr ⟨vis c (OF G) none H1, k, e1.vsame, by rw [List.append_nil]; exact r1, hb, fun H' s => q H' (e1.h0.trans s)⟩
theorem de_callX {r : R} (k : ι) (ha : DA K none t G (args k)) (hp : pre k) (hr : ∀ r', res k r' → r' = r) (hn : r.nw = true) : DE K m (tCall (spX K C args pre res bad) [] E t) G r.full :=
  de_dr (dr_callS (args := args) (pre := pre) (res := res) (fun _ _ _ h => .inl h) k ha hp hr (.inl hn)) (by rw [hn]; cases m with | none => rfl | some k => cases k <;> rfl)
theorem raw_bad {N : List Str} {ts : XK → TS} (hbad : ∀ i, bad i → ∀ E, DX K (ts E) (ent N (args i)) E C) : ∀ vs H Q E, badOf K args bad C vs H Q E → ts E { nx := fun _ H' => Q .non H', rt := Q } (L2.start N vs) H := fun vs H Q E ⟨F, i, hF, hv, hp, k⟩ =>
  hbad i hp E ⟨H, F, H⟩ _ H _ (ent_sits hF hv) k
theorem raw_X {N : List Str} {ts : XK → TS} (hds : ∀ E i, pre i → DS K (ts E) (ent N (args i)) { nx := fun _ => res i (.val true .none), rt := res i }) (hbad : ∀ i, bad i → ∀ E, DX K (ts E) (ent N (args i)) E C) :
    ∀ vs H Q E, spX K C args pre res bad vs H Q E → ts E { nx := fun _ H' => Q .non H', rt := Q } (L2.start N vs) H := fun vs H Q E h => by
  rcases h with h | h
  · exact raw_of (hds E) vs H Q E h
  · exact raw_bad hbad vs H Q E h
/-! try: a call that is refused -/
def tTry1 (K : PySem.W.Frag) (cv : Value) (tb : WX → TS) (ts : TS) : TS := fun D σ H => tb (wOnly K cv (fun _ _ _ => ts) (fun _ _ _ _ => False) D) D σ H
theorem ds_try1 {cv : Value} (hm : PySem.W.exmOne K (.ref C) cv = some true) (k : ι) (ha : DA K none t G (args k)) (hb : bad k) (hs : DS K ts G P) : DS K (tTry1 K cv (fun W => tDrop (tCallS (spX K C args pre res bad) (WE W) t)) ts) G P := fun c σ H D e k1 k2 k3 k4 => ha c σ H e _ fun vs H1 s1 r1 => by
  have e1 := e.ext s1
  exact .inr ⟨vis c (OF G) none H1, k, e1.vsame, r1, hb, fun H' s => ⟨true, hm, fun _ a _ => hs c σ H' D (e1.ext s) k1 k2 k3 k4, fun q => nomatch q⟩⟩
def tTry2 (K : PySem.W.Frag) (cv : Value) (i : Nat) (tb : WX → TS) (ts : Addr → Value → Option Addr → TS) : TS := fun D σ H => tb (wAs K cv i ts (fun _ _ _ _ => False) D) D σ H
/-- return e and isinstance(error, T) -/
def tSuiteIs (K : PySem.W.Frag) (C : Addr) (j i : Nat) (T : String) : Addr → Value → Option Addr → TS := fun a cls d D σ H => cls = .ref C ∧ d = none ∧ tRet (tAndV (tVar j) (tCB (rIsE K C a) (tCons (tVar i) (tCons (tC (.ty T)) tNil)))) D σ H
theorem pss_given {X : Cx} {ss : List Stmt} {t : TS} {p q : Prop} (h : p → q → PSs X ss t) : PSs X ss (fun D σ H => p ∧ q ∧ t D σ H) := ⟨fun pins s σ H D I x => (h x.1 x.2.1).run pins s σ H D I x.2.2⟩
theorem ds_try2 {cv : Value} {T : String} {n : Bool} {j : Nat} (hm : PySem.W.exmOne K (.ref C) cv = some true) (hk : PySem.W.kitOne K (.ref C) (.type T) = some true) (k : ι) (ha : DA K none t G (args k)) (hb : bad k) (hi : i < G.length) (hij : i ≠ j) (hg : G[j]? = some (some (.sh n (.bool true)))) (hr : P.rt (.val true (.bool true))) :
    DS K (tTry2 K cv i (fun W => tDrop (tCallS (spX K C args pre res bad) (WE W) t)) (tSuiteIs K C j i T)) G P := fun c σ H D e k1 k2 k3 k4 => ha c σ H e _ fun vs H1 s1 r1 => by
  have e1 := e.ext s1
  refine .inr ⟨vis c (OF G) none H1, k, e1.vsame, r1, hb, fun H' s => ⟨true, hm, fun _ a _ => ?_, fun q => nomatch q⟩⟩
  have e2 := e1.ext s
  obtain ⟨v, h1, h2⟩ := e2.at_ j _ hg
  have h2 : Rep K _ v (.bool true) := h2
  cases h2
  refine ⟨rfl, rfl, .bl true, ?_, true, rfl, ?_⟩
  · rw [List.getElem?_set_ne hij]; exact h1
  · rw [if_pos rfl]
    refine ⟨.ref a, ?_, .ty T, .type T, true, rfl, fun u h => h, hk, ?_⟩
    · rw [List.getElem?_set_self (by have := e2.len; omega)]
    · exact k2 (.val true (.bool true)) (.bl true) H' hr e2.h0 ⟨.sh true (.bool true), rfl, List.nodup_nil, fun _ h => (by simp [B.ows] at h), .bl true⟩
end
end
end TB

/-! TB dic: dicts of one's own, by int and text keys. -/
namespace TB
open PySem PySem.Spec PyProof.Rows L2
section
variable {K : PySem.W.Frag}
section
variable {m m' : Md} {n n' : Bool} {te ta tb tx tc : TE} {tt tu : TT} {ts tv : TS} {G G' : Sl} {d x y z : PyData} {ds es : List PyData} {i j : Nat} {c : C} {σ : L2.St} {H H' : Hp} {v : V} {P P' : Post}
def withK (c : C) (D : Addr) (acc : List (Key × V)) (F : Hp) : C := { F := c.F, H0 := upd c.H0 D (.dK acc), Bs := F }
theorem vis_withK {D : Addr} {acc : List (Key × V)} {F : Hp} {O : Addr → Prop} (hf : c.F D = none) {n : Bool} : vis (withK c D acc F) O (some n) H = fun a => if a = D then none else vis c O (some n) H a := by
  funext a
  show hide O (plus (gz (withK c D acc F) n) (upd c.H0 D (.dK acc)) H) a = _
  by_cases hD : a = D
  · subst hD
    rw [if_pos rfl]
    by_cases p : O a
    · rw [hide_none p]
    · rw [hide_at p]
      unfold plus
      rw [upd_same]
      show gz (withK c a acc F) n a = none
      unfold gz
      cases n
      · exact hf
      · rfl
  · rw [if_neg hD]
    show _ = hide O (plus (gz c n) c.H0 H) a
    by_cases p : O a
    · rw [hide_none p, hide_none p]
    · rw [hide_at p, hide_at p]
      unfold plus
      rw [upd_ne hD]
      rfl
theorem kc_start {vs : List Nat} {D : Addr} (e : Sits K c G σ H) (hD : H D = none) : Sits K (withK c D [] (hide (OF G) H)) (wipeG G vs) (L2.wipe σ vs) (upd H D (.dK [])) := by
  have w := e.wipe vs
  have hf : c.F D = none := non_of (e.f0.trans e.h0) hD
  have h0 : c.H0 D = none := non_of e.h0 hD
  have sub : ∀ a, OF (wipeG G vs) a → OF G a := fun a ⟨i, b, q1, q2⟩ => ⟨i, b, wipeG_at q1, q2⟩
  have ne : ∀ a, OF (wipeG G vs) a → a ≠ D := fun a p z => by
    obtain ⟨o, h1, _⟩ := w.mu a p
    rw [z, hD] at h1; cases h1
  refine ⟨fun a o h => ?_, fun a o h => ?_, fun a o h => ?_, fun a h => ⟨?_, ?_⟩, fun a h => ?_, w.dj, w.nd, w.len, fun i b h => ?_⟩
  · show upd c.H0 D _ a = _
    rw [upd_ne (ne_of_none h hf)]; exact e.f0 a o h
  · by_cases z : a = D
    · subst z
      have h : upd c.H0 a (.dK []) a = some o := h
      rw [upd_same] at h ⊢; exact h
    · have h : upd c.H0 D (.dK []) a = some o := h
      rw [upd_ne z] at h ⊢; exact e.h0 a o h
  · have : H a = some o := hide_same a o h
    rw [upd_ne (ne_of_none this hD)]; exact this
  · show upd c.H0 D _ a = none
    rw [upd_ne (ne a h)]; exact (e.fr a (sub a h)).1
  · exact hide_none (sub a h)
  · obtain ⟨o, h1, h2⟩ := w.mu a h
    exact ⟨o, by rw [upd_ne (ne a h)]; exact h1, h2⟩
  · obtain ⟨v, h1, h2⟩ := w.at_ i b h
    refine ⟨v, h1, h2.mono (fun n a o q => ?_) (same_new hD)⟩
    have q' : vis c (OF (wipeG G vs)) (some n) H a = some o := q
    have hne : a ≠ D := ne_of_none (w.vsame a o q') hD
    show vis (withK c D [] _) _ (some n) _ a = _
    rw [vis_withK hf]
    show (if a = D then none else _) = _
    rw [if_neg hne]
    exact w.vext (same_new hD) a o q'
/-- one item more -/
theorem kc_more {D : Addr} {acc acc' : List (Key × V)} {F : Hp} (e : Sits K (withK c D acc F) G σ H) (hD : H D = some (.dK acc)) (hf : c.F D = none) (hF : F D = none) :
    Sits K (withK c D acc' F) G σ (upd H D (.dK acc')) ∧ ∀ n, vis (withK c D acc' F) (OF G) (some n) (upd H D (.dK acc')) = vis (withK c D acc F) (OF G) (some n) H := by
  have ne : ∀ a, OF G a → a ≠ D := fun a p z => by
    have := (e.fr a p).1
    have h : upd c.H0 D (.dK acc) a = none := this
    rw [z, upd_same] at h; cases h
  have hv : ∀ n, vis (withK c D acc' F) (OF G) (some n) (upd H D (.dK acc')) = vis (withK c D acc F) (OF G) (some n) H := fun n => by
    rw [vis_withK hf, vis_withK hf]
    funext a
    by_cases z : a = D
    · rw [if_pos z, if_pos z]
    · rw [if_neg z, if_neg z]
      show hide (OF G) (plus _ _ _) a = hide (OF G) (plus _ _ _) a
      by_cases p : OF G a
      · rw [hide_none p, hide_none p]
      · rw [hide_at p, hide_at p]
        unfold plus
        rw [upd_ne z]
  refine ⟨⟨fun a o h => ?_, fun a o h => ?_, fun a o h => ?_, fun a h => ⟨?_, (e.fr a h).2⟩, fun a h => ?_, e.dj, e.nd, e.len, fun i b h => ?_⟩, hv⟩
  · have h1 := e.f0 a o h
    have h1 : upd c.H0 D (.dK acc) a = some o := h1
    have hne : a ≠ D := ne_of_none h hf
    show upd c.H0 D (.dK acc') a = _
    rw [upd_ne hne] at h1 ⊢; exact h1
  · by_cases z : a = D
    · subst z
      have h : upd c.H0 a (.dK acc') a = some o := h
      rw [upd_same] at h ⊢; exact h
    · have h : upd c.H0 D (.dK acc') a = some o := h
      rw [upd_ne z] at h ⊢
      exact e.h0 a o (show upd c.H0 D (.dK acc) a = some o by rw [upd_ne z]; exact h)
  · rw [upd_ne (ne_of_none h hF)]; exact e.b0 a o h
  · have := (e.fr a h).1
    have h' : upd c.H0 D (.dK acc) a = none := this
    show upd c.H0 D (.dK acc') a = none
    rw [upd_ne (ne a h)] at h' ⊢; exact h'
  · obtain ⟨o, h1, h2⟩ := e.mu a h
    exact ⟨o, by rw [upd_ne (ne a h)]; exact h1, h2⟩
  · obtain ⟨v, h1, h2⟩ := e.at_ i b h
    refine ⟨v, h1, ?_⟩
    have hv' : (fun n => vis (withK c D acc' F) (OF G) (some n) (upd H D (.dK acc'))) = fun n => vis (withK c D acc F) (OF G) (some n) H := funext hv
    rw [hv']
    cases b with
    | sh n d => exact h2
    | own n x ds =>
      obtain ⟨r1, ws, r2, r3⟩ := h2
      exact ⟨r1, ws, by rw [upd_ne (ne x ⟨i, _, h, by simp [B.ows]⟩)]; exact r2, r3⟩
    | odic n x ks =>
      obtain ⟨r1, ws, r2, r3⟩ := h2
      exact ⟨r1, ws, by rw [upd_ne (ne x ⟨i, _, h, by simp [B.ows]⟩)]; exact r2, r3⟩
    | tupo n xs =>
      obtain ⟨t, ws, r1, r2, r3⟩ := h2
      refine ⟨t, ws, r1, ?_, ?_⟩
      · rw [upd_ne fun z => ?_]
        · exact r2
        · rw [z, hD] at r2; cases r2
      · have key : ∀ a ∈ itOws xs, a ≠ D := fun a ha => ne a ⟨i, _, h, ha⟩
        clear h h1 hv hv' r2
        induction r3 with
        | nil => exact .nil
        | @cons v x vs xs r _ ih =>
          refine .cons (RepIt.mono (Same.refl _) (fun y hy ws q => ?_) r) (ih fun y hy => key y ?_)
          · rw [upd_ne (key y ?_)]
            · exact q
            · cases x with
              | inl d => simp [itOws] at hy
              | inr p => obtain ⟨z, ds⟩ := p; simp [itOws] at hy ⊢; exact .inl hy
          · cases x with
            | inl d => exact hy
            | inr p => obtain ⟨z, ds⟩ := p; exact List.mem_cons_of_mem _ hy
    | lso n t xs =>
      obtain ⟨r1, ws, r2, r3⟩ := h2
      refine ⟨r1, ws, by rw [upd_ne (ne t ⟨i, _, h, by simp [B.ows]⟩)]; exact r2, ?_⟩
      · have key : ∀ a ∈ itOws xs, a ≠ D := fun a ha => ne a ⟨i, _, h, by simp [B.ows, ha]⟩
        clear h h1 hv hv' r2
        induction r3 with
        | nil => exact .nil
        | @cons v x vs xs r _ ih =>
          refine .cons (RepIt.mono (Same.refl _) (fun y hy ws q => ?_) r) (ih fun y hy => key y ?_)
          · rw [upd_ne (key y ?_)]
            · exact q
            · cases x with
              | inl d => simp [itOws] at hy
              | inr p => obtain ⟨z, ds⟩ := p; simp [itOws] at hy ⊢; exact .inl hy
          · cases x with
            | inl d => exact hy
            | inr p => obtain ⟨z, ds⟩ := p; exact List.mem_cons_of_mem _ hy
/-! what a dict holds -/
theorem kD_inj {a b : Key} (h : kD a = kD b) : a = b := by
  cases a <;> cases b <;> first | (cases h; rfl) | cases h
abbrev KD := List (Key × PyData)
def kk (m : KD) : List (PyData × PyData) := m.map fun p => (kD p.1, p.2)
theorem kk_ex {m : KD} {z : PyData} (h : PyData.dict (kk m) = .dict [(.none, z)]) : False := by
  have h := PyData.dict.inj h
  cases m with
  | nil => cases h
  | cons p m =>
    obtain ⟨k, d⟩ := p
    have := (List.cons.inj h).1
    cases k <;> cases this
def valD (m : KD) (k : Key) : Option PyData := (m.find? fun kv => decide (kv.1 = k)).map (·.2)
def putD (m : KD) (k : Key) (d : PyData) : KD := if (m.any fun kv => decide (kv.1 = k)) then m.map (fun kv => if kv.1 = k then (kv.1, d) else kv) else m ++ [(k, d)]
theorem repk_kk : ∀ {kvs : List (Key × V)} {m : KD}, RepK K H kvs (kk m) → kvs.length = m.length ∧ ∀ (i : Nat) (p : Key × V), (kvs[i]? = some p → ∃ d, m[i]? = some (p.1, d) ∧ Rep K H p.2 d)
  | [], [], _ => ⟨rfl, fun i p h => by simp at h⟩
  | [], p :: m, h => by cases h
  | q :: kvs, [], h => by cases h
  | q :: kvs, p :: m, h => by
    obtain ⟨pk, pd⟩ := p
    have h : RepK K H (q :: kvs) ((kD pk, pd) :: kk m) := h
    generalize hz : kD pk = z at h
    cases h with
    | @cons k v d r s h1 h2 =>
      have hk : k = pk := (kD_inj hz).symm
      subst hk
      obtain ⟨hl, hi⟩ := repk_kk h2
      refine ⟨by simp [hl], fun i p e => ?_⟩
      cases i with
      | zero => simp at e; subst e; exact ⟨pd, rfl, h1⟩
      | succ i => exact hi i p (by simpa using e)
theorem repk_val : ∀ {kvs : List (Key × V)} {m : KD}, RepK K H kvs (kk m) → ∀ k, (valD m k = none → valV kvs k = none) ∧ (∀ d, valD m k = some d → ∃ v, valV kvs k = some v ∧ Rep K H v d)
  | [], [], _, k => ⟨fun _ => rfl, fun d h => by simp [valD] at h⟩
  | [], p :: m, h, k => by cases h
  | q :: kvs, [], h, k => by cases h
  | q :: kvs, p :: m, h, k => by
    obtain ⟨pk, pd⟩ := p
    have h : RepK K H (q :: kvs) ((kD pk, pd) :: kk m) := h
    generalize hz : kD pk = z at h
    cases h with
    | @cons k' v d r s h1 h2 =>
      have hk : k' = pk := (kD_inj hz).symm
      subst hk
      have ih := repk_val h2 k
      by_cases e : k' = k
      · refine ⟨fun h => ?_, fun d h => ?_⟩
        · simp [valD, List.find?_cons, e] at h
        · simp [valD, List.find?_cons, e] at h
          subst h
          exact ⟨v, valV_pos e, h1⟩
      · have e1 : valD ((k', pd) :: m) k = valD m k := by simp [valD, List.find?_cons, e]
        rw [e1, valV_neg e]
        exact ih
theorem repk_any : ∀ {kvs : List (Key × V)} {m : KD}, RepK K H kvs (kk m) → ∀ k, (kvs.any fun kv => decide (kv.1 = k)) = (m.any fun kv => decide (kv.1 = k))
  | [], [], _, k => rfl
  | [], p :: m, h, k => by cases h
  | q :: kvs, [], h, k => by cases h
  | q :: kvs, p :: m, h, k => by
    obtain ⟨pk, pd⟩ := p
    have h : RepK K H (q :: kvs) ((kD pk, pd) :: kk m) := h
    generalize hz : kD pk = z at h
    cases h with
    | @cons k' v d r s h1 h2 =>
      have hk : k' = pk := (kD_inj hz).symm
      subst hk
      rw [List.any_cons, List.any_cons, repk_any h2 k]
theorem repk_snoc {k : Key} {v : V} {d : PyData} (hv : Rep K H v d) : ∀ {kvs : List (Key × V)} {m : KD}, RepK K H kvs (kk m) → RepK K H (kvs ++ [(k, v)]) (kk (m ++ [(k, d)]))
  | [], [], _ => .cons hv .nil
  | [], p :: m, h => by cases h
  | q :: kvs, [], h => by cases h
  | q :: kvs, p :: m, h => by
    obtain ⟨pk, pd⟩ := p
    have h : RepK K H (q :: kvs) ((kD pk, pd) :: kk m) := h
    show RepK K H (q :: (kvs ++ [(k, v)])) ((kD pk, pd) :: kk (m ++ [(k, d)]))
    generalize hz : kD pk = z at h ⊢
    cases h with
    | cons h1 h2 => exact .cons h1 (repk_snoc hv h2)
theorem repk_repl {k : Key} {v : V} {d : PyData} (hv : Rep K H v d) : ∀ {kvs : List (Key × V)} {m : KD}, RepK K H kvs (kk m) → RepK K H (kvs.map fun kv => if kv.1 = k then (kv.1, v) else kv) (kk (m.map fun kv => if kv.1 = k then (kv.1, d) else kv))
  | [], [], _ => .nil
  | [], p :: m, h => by cases h
  | q :: kvs, [], h => by cases h
  | q :: kvs, p :: m, h => by
    obtain ⟨pk, pd⟩ := p
    have h : RepK K H (q :: kvs) ((kD pk, pd) :: kk m) := h
    generalize hz : kD pk = z at h
    cases h with
    | @cons k' v' d' r s h1 h2 =>
      have hk : k' = pk := (kD_inj hz).symm
      subst hk
      have ih := repk_repl (k := k) hv h2
      rw [List.map_cons, List.map_cons]
      by_cases e : k' = k
      · rw [if_pos e, if_pos e]; exact .cons hv ih
      · rw [if_neg e, if_neg e]; exact .cons h1 ih
theorem repk_put {k : Key} {v : V} {d : PyData} {kvs : List (Key × V)} {m : KD} (h : RepK K H kvs (kk m)) (hv : Rep K H v d) : RepK K H (putK kvs k v) (kk (putD m k d)) := by
  have e := repk_any h k
  unfold putK putD
  rw [e]
  split
  · exact repk_repl hv h
  · exact repk_snoc hv h
theorem rep_key {k : Key} (h : Rep K H v (kD k)) : v = kV k := by
  cases k <;> (cases h; rfl)
theorem repk_opt {kvs : List (Key × V)} {m : KD} (h : RepK K H kvs (kk m)) (k : Key) : (valV kvs k).isSome = (valD m k).isSome := by
  obtain ⟨h1, h2⟩ := repk_val h k
  cases e : valD m k with
  | none => rw [h1 e]; rfl
  | some d => obtain ⟨v, h3, _⟩ := h2 d e; rw [h3]; rfl
end
section
variable {m : Md} {n : Bool} {te ty tx : TE} {G : Sl} {P : Post} {i : Nat} {a : Addr} {D : KD} {k : Key} {d : PyData}
/-- k in d, d one's own -/
theorem de_inO (hg : G[i]? = some (some (.odic n a (kk D)))) (hk : DE K none ty G (kD k)) : DE K m (tOp (rInA K) ty (tVar i)) G (.bool (valD D k).isSome) := de_imm (fun c σ H e Q q => hk c σ H e _ fun v H1 s r => by
  have e1 := e.ext s
  obtain ⟨w, h1, rfl, kvs, h2, h3⟩ := e1.at_ i _ hg
  have hv := rep_key r
  subst hv
  refine ⟨_, h1, .inr (.inl ⟨a, valV kvs k, rfl, DGet.k h2, q _ H1 s ?_⟩)⟩
  rw [repk_opt h3 k]
  exact .bl _) rfl
theorem de_notInO (hg : G[i]? = some (some (.odic n a (kk D)))) (hk : DE K none ty G (kD k)) : DE K m (tOp (rNotInA K) ty (tVar i)) G (.bool (!(valD D k).isSome)) := de_imm (fun c σ H e Q q => hk c σ H e _ fun v H1 s r => by
  have e1 := e.ext s
  obtain ⟨w, h1, rfl, kvs, h2, h3⟩ := e1.at_ i _ hg
  have hv := rep_key r
  subst hv
  refine ⟨_, h1, .inr (.inl ⟨a, valV kvs k, rfl, DGet.k h2, q _ H1 s ?_⟩)⟩
  rw [repk_opt h3 k]
  exact .bl _) rfl
/-- d[k], d one's own -/
theorem de_ixDO (hg : G[i]? = some (some (.odic n a (kk D)))) (hm : okM m n = true) (hk : DE K none ty G (kD k)) (h : valD D k = some d) : DE K m (tOp (rSub K) (tVar i) ty) G d := fun c σ H e Q q => by
  obtain ⟨w, h1, rfl, kvs, h2, h3⟩ := e.at_ i _ hg
  refine ⟨_, h1, hk c σ H e _ fun u H2 s2 r2 => ?_⟩
  have hv := rep_key r2
  subst hv
  obtain ⟨w, h4, h5⟩ := (repk_val h3 k).2 d h
  exact .inr ⟨a, w, rfl, by rw [← h4]; exact DGet.k (s2 _ _ h2), q w H2 s2 (Rep.mono (vis_ok (e.ext s2) hm) (Rep.mono (e.vext (m := some n) s2) h5))⟩
/-- d[k] of data -/
theorem de_ixD (hd : DE K m te G (.dict (kk D))) (hk : DE K none ty G (kD k)) (h : valD D k = some d) : DE K m (tOp (rSub K) te ty) G d :=
  de_op (x := .dict (kk D)) (y := kD k) (fun P H v u Q s r1 r2 q => by
    have hv := rep_key r2
    subst hv
    generalize hz : PyData.dict (kk D) = z at r1
    cases r1 <;> first | (cases hz; done) | exact (kk_ex hz).elim | skip
    rename_i a kvs kds h1 r1
    cases hz
    obtain ⟨w, h4, h5⟩ := (repk_val r1 k).2 d h
    exact .inr ⟨a, w, rfl, .inl ⟨kvs, k, Rd.same s h1, rfl, h4.symm⟩, q w H (Same.refl H) (rep_old h5 s)⟩) hd (de_imm hk (by cases k <;> rfl))
/-- d.get(k) of data -/
theorem de_get1 (hd : DE K m te G (.dict (kk D))) (hk : DE K none ty G (kD k)) : DE K m (tDGet1 te ty) G ((valD D k).getD .none) := fun c σ H e Q q => hd c σ H e _ fun v H1 s1 r1 => by
  have e1 := e.ext s1
  generalize hz : PyData.dict (kk D) = z at r1
  cases r1 <;> first | (cases hz; done) | exact (kk_ex hz).elim | skip
  rename_i a kvs kds h1 r1
  cases hz
  refine ⟨a, rfl, .inl ⟨kvs, Rd.same e1.vsame h1⟩, hk c σ H1 e1 _ fun u H2 s2 r2 => ?_⟩
  have hv := rep_key r2
  subst hv
  refine ⟨valV kvs k, .inl ⟨kvs, k, Rd.same s2 (Rd.same e1.vsame h1), rfl, rfl⟩, q _ H2 (s1.trans s2) ?_⟩
  obtain ⟨h2, h3⟩ := repk_val r1 k
  cases e : valD D k with
  | none => rw [h2 e]; exact .non
  | some d => obtain ⟨w, h4, h5⟩ := h3 d e; rw [h4]; exact Rep.mono (e1.vext s2) h5
/-- d[k] = e, d one's own -/
theorem ds_setItemD (hg : G[i]? = some (some (.odic n a (kk D)))) (h : DE K (some n) te G d) (hk : DE K none tx G (kD k)) (hl : D.length < 100000) (kx : P.nx (G.set i (some (.odic n a (kk (putD D k d)))))) : DS K (tAsg te (gSub (tVar i) tx rSetA)) G P := fun c σ H D' e k1 _ _ _ =>
  h c σ H e _ fun u H1 s r => by
    have e1 := e.ext s
    obtain ⟨w, h1, rfl, kvs, h2, h3⟩ := e1.at_ i _ hg
    refine ⟨_, h1, hk c σ H1 e1 _ fun q H2 s2 r2 => ?_⟩
    have hv := rep_key r2
    subst hv
    have e2 := e1.ext s2
    have hlen : kvs.length < sizeLine := by rw [(repk_kk h3).1]; exact Nat.lt_of_lt_of_le hl (by decide)
    refine .inr ⟨a, _, rfl, DPut.k (s2 _ _ h2) hlen, k1 _ _ _ kx (e2.write hg rfl (by simp [B.ows]) rfl fun v hv => ?_)⟩
    obtain ⟨rfl, ws, h4, h5⟩ := hv
    rw [s2 _ _ h2] at h4
    cases h4
    exact ⟨rfl, _, upd_same, repk_put h5 (Rep.mono (e1.vext s2) r)⟩
/-- {k: e}: a dict of one's own -/
theorem dr_disp1 (hk : DE K none ty G (kD k)) (h : DE K (some n) te G d) : DR K (tDisp [(ty, te)]) G (.odic n (kk [(k, d)])) := fun c σ H e Q q p hp => by
  have hf : c.F p = none := non_of (e.f0.trans e.h0) hp
  have hF : hide (OF G) H p = none := non_of hide_same hp
  have e1 : Sits K (withK c p [] (hide (OF G) H)) G σ (upd H p (.dK [])) := kc_start (vs := []) e hp
  refine hk _ σ _ e1 _ fun x H1 s1 r1 => h _ σ H1 (e1.ext s1) _ fun y H2 s2 r2 => ?_
  have hv := rep_key r1
  subst hv
  have e2 := (e1.ext s1).ext s2
  have hd : H2 p = some (.dK []) := (s1.trans s2) _ _ upd_same
  obtain ⟨e3, v3⟩ := kc_more (acc' := [(k, y)]) e2 hd hf hF
  refine ⟨hd, [(k, y)], rfl, (show 1 ≤ 15 by decide), q _ _ (fun b o hb => ?_) ⟨.odic n p (kk [(k, d)]), rfl, by simp [B.ows], fun b hb => (by simp [B.ows] at hb; rw [hb]; exact hp), rfl, [(k, y)], upd_same, .cons (Rep.mono (fun b o hb => ?_) r2) .nil⟩⟩
  · have hne : b ≠ p := ne_of_none hb hp
    rw [upd_ne hne]
    exact (s1.trans s2) _ _ (by rw [upd_ne hne]; exact hb)
  · have hb' : vis (withK c p [(k, y)] (hide (OF G) H)) (OF G) (some n) (upd H2 p (.dK [(k, y)])) b = some o := by rw [v3 n]; exact hb
    rw [vis_withK hf] at hb'
    have hb' : (if b = p then none else vis c (OF G) (some n) (upd H2 p (.dK [(k, y)])) b) = some o := hb'
    show hide (fun a => a ∈ (B.odic n p (kk [(k, d)])).ows) (vis c (OF G) (some n) (upd H2 p (.dK (mergeK [] [(k, y)])))) b = some o
    by_cases z : b = p
    · rw [if_pos z] at hb'; cases hb'
    · rw [if_neg z] at hb'
      rw [hide_at (fun w => z (by simpa [B.ows] using w))]
      exact hb'
/-- x = xs.pop() -/
theorem ds_pop {j : Nat} {ds : List PyData} (hg : G[i]? = some (some (.own n a ds))) (hd : ds[ds.length - 1]? = some d) (hj : j < G.length) (hij : j ≠ i) (k : P.nx ((G.set j (some (.sh n d))).set i (some (.own n a ds.dropLast)))) : DS K (tAsg (tBM0 K "list" rPop (tVar i)) (gName j)) G P := fun c σ H D e k1 _ _ _ => by
  obtain ⟨w, h1, rfl, vs, h2, h3⟩ := e.at_ i _ hg
  obtain ⟨y, h4, h5⟩ := h3.get hd
  have e1 := e.putS hj h5
  have hg1 : (G.set j (some (.sh n d)))[i]? = some (some (.own n a ds)) := by rw [List.getElem?_set_ne hij]; exact hg
  refine ⟨_, h1, Or.inl ⟨rfl, vs, .inl (.inl h2)⟩, a, vs, y, rfl, rfl, h2, by rw [h3.length]; exact h4, k1 _ _ _ k (e1.write hg1 rfl (by simp [B.ows]) rfl fun v hv => ?_)⟩
  obtain ⟨rfl, ws, h6, h7⟩ := hv
  rw [h2] at h6
  cases h6
  refine ⟨rfl, _, upd_same, ?_⟩
  rw [List.dropLast_eq_take, List.dropLast_eq_take, h7.length]
  exact h7.take _
/-- a dict handed back, kept by a name -/
theorem ds_odic {ks : List (PyData × PyData)} (h : DR K te G (.odic n ks)) (hi : i < G.length) (k : ∀ a, P.nx (G.set i (some (.odic n a ks)))) : DS K (tAsg te (gName i)) G P := ds_asg h hi fun b hb => by
  cases b <;> first | (cases hb; exact k _) | cases hb
/-! for k, v in d.items(), d a call's new dict: it is locked as soon as it is there -/
def tLockNew (te : TE) : TE := fun σ H Q => te σ H fun x H1 => ∃ (d : Addr) (kvs : List (Key × V)), x = .ref d ∧ H1 d = some (.dK kvs) ∧ ∀ o, Q x (upd H1 d (.frz o (.dK kvs)))
theorem pe_lockNew {X : Cx} {e : Expr} (he : PE X e te) : PE X e (tLockNew te) := ⟨fun pins s σ H Q I h => thn (he.run pins s σ H _ I h) fun u s1 ⟨x, H1, I1, rx, d, kvs, _, hd, q⟩ => by
  obtain ⟨o, I2⟩ := I1.lock hd True.intro
  exact ⟨x, _, I2, rx, q o⟩⟩
theorem di_itemsC (h : DR K te G (.odic n (kk D))) : DI K n (iItems (tLockNew te)) G (D.map fun p => .tuple [kD p.1, p.2]) := fun c σ H e R k => h c σ H e _ fun v H1 s ⟨b, hb, hn, hf, hr⟩ => by
  cases b <;> first | (cases hb; done) | skip
  rename_i n a ks
  cases hb
  obtain ⟨rfl, kvs, h2, h3⟩ := hr
  have h3 : RepK K (hide (fun z => z ∈ [a]) (vis c (OF G) (some n) H1)) kvs (kk D) := h3
  have ha : H a = none := hf a (by simp [B.ows])
  obtain ⟨hl, hi⟩ := repk_kk h3
  refine ⟨a, kvs, rfl, h2, fun o => ?_⟩
  have sH : Same H (upd H1 a (.frz o (.dK kvs))) := fun b u hb => by rw [upd_ne (ne_of_none hb ha)]; exact s b u hb
  have e0 : Same c.H0 (upd H1 a (.frz o (.dK kvs))) := e.h0.trans sH
  have na : ¬ OF G a := e.nof ha
  have hF : hide (OF G) (upd H1 a (.frz o (.dK kvs))) a = some (.frz o (.dK kvs)) := by rw [hide_at na, upd_same]
  have s1 : Same (hide (fun z => z ∈ [a]) (vis c (OF G) (some n) H1)) (vis c (OF G) (some n) (upd H1 a (.frz o (.dK kvs)))) := fun b u hb => by
    obtain ⟨z1, z2⟩ := hide_some hb
    have z1 : b ≠ a := fun z => z1 (by rw [z]; simp)
    obtain ⟨z3, z4⟩ := hide_some z2
    show hide (OF G) (plus (gz c n) c.H0 (upd H1 a (.frz o (.dK kvs)))) b = some u
    rw [hide_at z3]
    unfold plus at z4 ⊢
    rw [upd_ne z1]
    exact z4
  refine ⟨a, o, kvs, rfl, upd_same, k _ _ sH ⟨fun i H2 hx s2 => ⟨s2 _ _ hF, by simpa [hl] using hx⟩, fun H2 s2 => ⟨s2 _ _ hF, by simp [hl]⟩, fun i H2 x H3 d hd s2 y => ?_⟩⟩
  obtain ⟨T, ky, v, q1, rfl, hT, rfl⟩ := y
  obtain ⟨d', q2, q3⟩ := hi i _ q1
  rw [List.getElem?_map, q2] at hd
  cases hd
  refine ⟨same_new hT, fun G2 σ2 c' z1 z2 z3 e3 => ?_⟩
  have see := src_see (n := n) e.f0 e0 rfl s2 e3 z1 z2 z3
  exact pair_see (O := OF G) (F := H2) (Hs := H2) e3 hT (.cons (by cases ky <;> first | exact .int _ | exact .str _) (.cons (Rep.mono (s1.trans see) q3) .nil))
end
end
end TB

/-! TB keys: sorted(f(..).keys()), the keys ints. -/
namespace TB
open PySem PySem.Spec PyProof.Rows L2
section
variable {X : Cx} {pins : List (Addr × Obj)} {σ : L2.St} {H : Hp} {s : Shared} {Q : VK}
theorem ints_all {us : List Value} {ks : List Int} (hl : us.length = ks.length) (h : ∀ (j : Nat) (v : Value) (x : Int), us[j]? = some v → ks[j]? = some x → ∃ t : Tok, v = Value.int x t) : IntsAre us ks :=
  ints_each hl fun j v e => by
    have hj : j < ks.length := by rw [← hl]; exact (List.getElem?_eq_some_iff.mp e).1
    obtain ⟨t, ht⟩ := h j v ks[j] e (List.getElem?_eq_getElem hj)
    exact ⟨ks[j], t, List.getElem?_eq_getElem hj, ht⟩
/-- sorted of whatever the library can collect, where what it collects is ints -/
theorem sorted_by {T : String} {r d : Addr} {n : Nat} {Pr : Nat → Value → Prop} {OK : Heap → Prop} (S : PySem.W.KdlSrc X.prog X.w T r d n Pr OK) (hc : X.calm = true) (I : Inv X pins σ H s) (hok : OK s.heap) {ks : List Int} (hn : n = ks.length) (h64 : ks.length < 64)
    (hP : ∀ j v x, Pr j v → ks[j]? = some x → ∃ t, v = .int x t) (q : ∀ (ys : List Int) (p : Addr), ys.Perm ks → ys.Pairwise (· ≤ ·) → H p = none → Q (.ref p) (upd H p (.lst (ys.map V.int)))) :
    wpAny (model X.prog X.w) X.A (call (.builtin "sorted") [.ref r]) (EP X pins σ Q) X.xe s := by
  have big : ks.length ≤ sizeLine := Nat.le_trans (Nat.le_of_lt h64) (by decide)
  refine Calls.call_function_entry kind_sorted plain_sorted entry_sorted (args_sorted1 _) ?_
  unfold Builtin.«sorted»
  refine wpAny_bind (m := checkCount "sorted" 1 1 _) (wpAny_pure (wpAny_bind ?_))
  refine PySem.W.kdu_collect (A := X.A.in1) S (I.ok.hd hc) hok (hn ▸ big) fun hp tk acc old got => ?_
  have J : Inv X pins σ H { s with heap := hp, toks := tk } := I.kept old
  have len : acc.toList.length = ks.length := by rw [Array.length_toList, got.1, hn]
  have hI : IntsAre acc.toList ks := ints_all len fun j v x e ex => hP j v x (got.2 j v (by rwa [← Array.getElem?_toList])) ex
  refine wpAny_bind (wpAny_newList ?_ (len ▸ big))
  have at1 : (hp.push (seqObj "list" acc.toList.toArray 0)).get? hp.objs.size = some (seqObj "list" acc.toList.toArray 0) := Heap.get?_push_size _ rfl
  show wpAny _ _ _ _ _ { s with heap := hp.push (seqObj "list" acc.toList.toArray 0), toks := tk }
  refine wpAny_bind (wpAny_holding (wpAny_call_entry slot_list_sort ⟨_, at1, rfl⟩ entry_list_sort ?_ (args_list_sort _)))
  refine list_sort_tree (s := { s with heap := hp.push (seqObj "list" acc.toList.toArray 0), toks := tk }) at1 hI (len ▸ h64) fun out ys o1 o2 o3 => ⟨_, rfl, ?_⟩
  obtain ⟨cap, at2⟩ := sortedHeap_at (vs := acc.toList) (out := out) at1
  have fits : (ys.map V.int).length ≤ sizeLine := by rw [List.length_map, o2.length_eq]; exact big
  have laid := J.laid (a := hp.objs.size) (o := .lst (ys.map V.int)) (h' := sortedHeap (hp.push (seqObj "list" acc.toList.toArray 0)) hp.objs.size acc.toList out) (t' := tk) (fun b u e => by
    have hb : b < hp.objs.size := Heap.lt_size e
    rw [sortedHeap_old (Nat.ne_of_lt hb) (by rw [size_push']; exact Nat.lt_succ_of_lt hb)]
    exact Heap.get?_push_of_some _ e) (Nat.le_refl _) ⟨fits, out.toList, cap, vals_of_ints o1, (by rw [Array.toArray_toList]; exact at2)⟩
  exact wpAny_pure ⟨_, rfl, .ref hp.objs.size, _, laid, rfl, q ys _ o2 o3 (J.hok.fresh (Nat.le_refl _))⟩
/-- sorted(e.keys()), e a dict by ints alone -/
def tSortedKeys (te : TE) : TE := fun σ H Q => te σ H fun x H1 => ∃ (a : Addr) (kvs : List (Key × V)) (ks : List Int), x = .ref a ∧ Rd H1 a (.dK kvs) ∧ kvs.map (·.1) = ks.map Sum.inl ∧ ks.length < 64 ∧
  ∀ (ys : List Int) (p : Addr), ys.Perm ks → ys.Pairwise (· ≤ ·) → H1 p = none → Q (.ref p) (upd H1 p (.lst (ys.map V.int)))
theorem pe_sortedKeys {te : TE} {e : Expr} {p apos cpos pos : Pos} (hc : X.calm = true) (he : PE X e te) (hg : Gl X "sorted") (hm : X.mg "sorted" = none) (hv : bootBuiltins "sorted" = some (.builtin "sorted")) (hbase : attributeBase e "keys" X.env (eval e X.env) = eval e X.env := by rfl) (hline : (apos.endLine == cpos.line) = true := by rfl)
    (hs : starEach [.Call (.Attribute e "keys" apos) [] [] cpos] X.env = (false, eval (.Call (.Attribute e "keys" apos) [] [] cpos) X.env) :: starEach [] X.env := by rfl) (hpl : (backTo pos (starEach [] X.env)).any (·.1) = false := by rfl) :
    PE X (.Call (.Name "sorted" p) [.Call (.Attribute e "keys" apos) [] [] cpos] [] pos) (tSortedKeys te) := ⟨fun pins s0 σ H Q I hq => by
  refine wpAny_Call_Name_kw (ld_blt I hg hm hv (callWith_builtin1 ?_ hs hpl))
  rw [hs]
  refine (show wpAny _ _ (spliced ((false, eval (.Call (.Attribute e "keys" apos) [] [] cpos) X.env) :: backTo pos (starEach [] X.env))) _ _ s0 from Calls.spliced_cons (wpAny_Call_method (T := "dict") (id := "dict.keys") hbase rfl hline F.plainAttrs_dict F.slot_dict_keys F.type_dict_keys ?_))
  refine thn (he.run pins s0 σ H _ I hq) fun u s1 ⟨x, H1, I1, rx, a, kvs, ks, ex, hd, hks, h64, q⟩ => ?_
  subst ex
  cases rx
  obtain ⟨_, lo, vs, rel, dd⟩ := dk_rd I1.hok hd
  obtain ⟨ep, hat⟩ := dd.dictAt
  have keys : vs.map (·.1) = ks.map Sum.inl := rel.keys.symm.trans hks
  have many : vs.length = ks.length := by simpa using congrArg List.length keys
  refine ⟨dd.typeIs, dd.mapOf.noDict, (show wpAny _ _ (callWith cpos (.builtin "dict.keys") [.ref a] [] []) _ X.xe s1 from method_meetsIn F.slot_dict_keys F.entry_dict_keys rfl (PySem.evalArgs_none ⟨rfl, dd.typeIs, F.args_dict_keys_1 _, _, PySem.W.kdl_meets_keys (mixKind X.prog X.w) a lo, ⟨vs, dd⟩, Calls.spliced_nil ?_⟩))⟩
  refine sorted_by (PySem.W.kdl_keys (knd := mixKind X.prog X.w) (kvs := vs) (ep := ep)) hc (I1.kept (t' := s1.toks) fun b o z => Heap.get?_push_of_some _ z) ⟨⟨_, Heap.get?_push_size _ rfl, rfl, rfl⟩, hat.push _⟩ many h64 (fun j v x ⟨k, y, e1, e2⟩ ex => ?_) q
  have e3 : (ks.map Sum.inl)[j]? = some k := by rw [← keys, List.getElem?_map, e1]; rfl
  rw [List.getElem?_map, ex] at e3
  cases e3
  rcases keyIs_shape (show keyIs (Sum.inl x) v = true from e2) with ⟨i, t, ek, ev⟩ | ⟨_, _, ek, _⟩
  · cases ek; exact ⟨t, ev⟩
  · cases ek⟩
end
/-! the rising order of ints -/
theorem sorted_uniq : ∀ {a b : List Int}, a.Perm b → a.Pairwise (· ≤ ·) → b.Pairwise (· ≤ ·) → a = b
  | [], b, h, _, _ => by
    have := h.length_eq
    cases b with
    | nil => rfl
    | cons x b => simp at this
  | x :: a, [], h, _, _ => by simpa using h.length_eq
  | x :: a, y :: b, h, ha, hb => by
    have ha' := List.pairwise_cons.mp ha
    have hb' := List.pairwise_cons.mp hb
    have e : x = y := by
      have h1 : x ∈ y :: b := h.mem_iff.mp (by simp)
      have h2 : y ∈ x :: a := h.mem_iff.mpr (by simp)
      rcases List.mem_cons.mp h1 with q | q
      · exact q
      · rcases List.mem_cons.mp h2 with r | r
        · exact r.symm
        · exact Int.le_antisymm (ha'.1 y r) (hb'.1 x q)
    subst e
    rw [sorted_uniq (h.cons_inv) ha'.2 hb'.2]
def sortI (l : List Int) : List Int := l.mergeSort (fun a b => decide (a ≤ b))
theorem sortI_perm (l : List Int) : (sortI l).Perm l := List.mergeSort_perm l _
theorem sortI_rising (l : List Int) : (sortI l).Pairwise (· ≤ ·) := by
  have := List.pairwise_mergeSort (le := fun a b : Int => decide (a ≤ b)) (fun a b c h1 h2 => by simp at h1 h2 ⊢; omega) (fun a b => by simp; omega) l
  exact this.imp fun h => by simpa using h
section
variable {K : PySem.W.Frag} {n : Bool} {te : TE} {G : Sl}
def kI (l : List (Int × PyData)) : KD := l.map fun p => (.inl p.1, p.2)
theorem repk_keys {H : Hp} : ∀ {kvs : List (Key × V)} {m : KD}, RepK K H kvs (kk m) → kvs.map (·.1) = m.map (·.1) := fun {kvs m} h => by
  obtain ⟨hl, hi⟩ := repk_kk h
  refine List.ext_getElem? fun i => ?_
  rw [List.getElem?_map, List.getElem?_map]
  cases e : kvs[i]? with
  | none =>
    have : m[i]? = none := by rw [List.getElem?_eq_none_iff] at e ⊢; omega
    rw [this]; rfl
  | some p => obtain ⟨d, h1, _⟩ := hi i p e; rw [h1]; rfl
theorem dn_sortedKeys {l : List (Int × PyData)} (h : DE K none te G (.dict (kk (kI l)))) (hl : l.length < 64) : DN K n (tSortedKeys te) G ((sortI (l.map (·.1))).map .int) := fun c σ H e Q q => h c σ H e _ fun v H1 s r => by
  generalize hz : PyData.dict (kk (kI l)) = z at r
  cases r <;> first | (cases hz; done) | exact (kk_ex hz).elim | skip
  rename_i a kvs kds h1 r1
  cases hz
  have e1 := e.ext s
  refine ⟨a, kvs, l.map (·.1), rfl, Rd.same e1.vsame h1, ?_, by simpa using hl, fun ys p o1 o2 hp => ?_⟩
  · rw [repk_keys r1]; unfold kI; rw [List.map_map, List.map_map]; rfl
  · have : ys = sortI (l.map (·.1)) := sorted_uniq (o1.trans (sortI_perm _).symm) o2 (sortI_rising _)
    subst this
    exact q p _ (upd H1 p (.lst _)) (non_of s hp) (s.trans (same_new hp)) upd_same (Reps.of_ints _)
/-- list(range(q)) -/
theorem dn_listRg {z : Int} {q : Nat} (h : DE K none te G (.int z)) (hz : z = (q : Nat)) (hq : q ≤ 100000) : DN K n (tLstRg (tRg1 te)) G ((List.range q).map fun k : Nat => .int (k : Nat)) := fun c σ H e Q k => h c σ H e _ fun v H1 s r => by
  cases r
  subst hz
  refine ⟨_, rfl, by unfold RgOk; omega, fun p hp => ?_⟩
  refine k p _ (upd H1 p (.lst _)) (non_of s hp) (s.trans (same_new hp)) upd_same ?_
  have : rgV 0 ((q : Nat) : Int) = ((List.range q).map fun k : Nat => (k : Int)).map V.int := by
    unfold rgV
    rw [List.map_map]
    simp
  have e2 : ((List.range q).map fun k : Nat => PyData.int (k : Nat)) = ((List.range q).map fun k : Nat => (k : Int)).map PyData.int := by rw [List.map_map]; rfl
  rw [this, e2]
  exact Reps.of_ints _
end
end TB

/-! TB mirror: what the statements compute, as plain Lean over data; sound once for all. -/
namespace TB
open PySem PySem.Spec PyProof.Rows L2
inductive Q where
  | v (d : PyData)
  | l (ds : List PyData)
  | k (D : KD)
  | t (xs : List (Sum PyData (List PyData)))
  | ll (xs : List (Sum PyData (List PyData)))
def Q.r : Q → R
  | .v d => .val false d
  | .l ds => .own false ds
  | .k D => .odic false (kk D)
  | .t xs => .tupo false xs
  | .ll xs => .lso false xs
def Q.full : Q → PyData
  | .v d => d
  | .l ds => .list ds
  | .k D => .dict (kk D)
  | .t xs => .tuple (xs.map itP)
  | .ll xs => .list (xs.map itP)
def Q.isV : Q → Bool
  | .v _ => true
  | _ => false
theorem Q.full_r (q : Q) : q.r.full = q.full := by cases q <;> rfl
theorem Q.nw_r (q : Q) : q.r.nw = false := by cases q <;> rfl
abbrev Stt := List (Option Q)
def Abs (G : Sl) (g : Stt) : Prop := G.map (Option.map B.strip) = g.map (Option.map Q.r)
section
variable {G G' : Sl} {g g' : Stt} {i : Nat} {q : Q} {b : B}
theorem Abs.len (h : Abs G g) : G.length = g.length := by
  have := congrArg List.length h
  simpa using this
theorem Abs.at_ (h : Abs G g) (e : g[i]? = some (some q)) : ∃ b, G[i]? = some (some b) ∧ b.strip = q.r := by
  have := congrArg (fun l => l[i]?) h
  simp only [List.getElem?_map, e] at this
  cases z : G[i]? with
  | none => rw [z] at this; cases this
  | some x =>
    rw [z] at this
    cases x with
    | none => cases this
    | some b => simp at this; exact ⟨b, rfl, this⟩
theorem Abs.back (h : Abs G g) (e : G[i]? = some (some b)) : ∃ q, g[i]? = some (some q) ∧ b.strip = q.r := by
  have := congrArg (fun l => l[i]?) h
  simp only [List.getElem?_map, e] at this
  cases z : g[i]? with
  | none => rw [z] at this; cases this
  | some x =>
    rw [z] at this
    cases x with
    | none => cases this
    | some q => simp at this; exact ⟨q, rfl, this⟩
theorem Abs.non (h : Abs G g) (e : g[i]? = some none) : G[i]? = some none := by
  have := congrArg (fun l => l[i]?) h
  simp only [List.getElem?_map, e] at this
  cases z : G[i]? with
  | none => rw [z] at this; cases this
  | some x =>
    rw [z] at this
    cases x with
    | none => rfl
    | some b => cases this
theorem Abs.set (h : Abs G g) (hb : b.strip = q.r) : Abs (G.set i (some b)) (g.set i (some q)) := by
  unfold Abs at h ⊢
  rw [List.map_set, List.map_set, h]
  simp [hb]
theorem Abs.setN (h : Abs G g) : Abs (G.set i none) (g.set i none) := by
  unfold Abs at h ⊢
  rw [List.map_set, List.map_set, h]
  rfl
end
theorem strip_v {b : B} {d : PyData} (h : b.strip = (Q.v d).r) : b = .sh false d := by
  cases b <;> first | (cases h; rfl) | cases h
theorem strip_l {b : B} {ds : List PyData} (h : b.strip = (Q.l ds).r) : ∃ a, b = .own false a ds := by
  cases b <;> first | (cases h; exact ⟨_, rfl⟩) | cases h
theorem strip_d {b : B} {D : KD} (h : b.strip = (Q.k D).r) : ∃ a, b = .odic false a (kk D) := by
  cases b <;> first | (cases h; exact ⟨_, rfl⟩) | cases h
theorem strip_t {b : B} {xs : List (Sum PyData (List PyData))} (h : b.strip = (Q.t xs).r) : ∃ ys, b = .tupo false ys ∧ ys.map itR = xs := by
  cases b <;> first | (cases h; exact ⟨_, rfl, rfl⟩) | cases h
theorem strip_ll {b : B} {xs : List (Sum PyData (List PyData))} (h : b.strip = (Q.ll xs).r) : ∃ t ys, b = .lso false t ys ∧ ys.map itR = xs := by
  cases b <;> first | (cases h; exact ⟨_, _, rfl, rfl⟩) | cases h
theorem Abs.v {G : Sl} {g : Stt} {i : Nat} {d : PyData} (h : Abs G g) (e : g[i]? = some (some (.v d))) : G[i]? = some (some (.sh false d)) := by
  obtain ⟨b, h1, h2⟩ := h.at_ e
  rw [h1, strip_v h2]
theorem Abs.l {G : Sl} {g : Stt} {i : Nat} {ds : List PyData} (h : Abs G g) (e : g[i]? = some (some (.l ds))) : ∃ a, G[i]? = some (some (.own false a ds)) := by
  obtain ⟨b, h1, h2⟩ := h.at_ e
  obtain ⟨a, rfl⟩ := strip_l h2
  exact ⟨a, h1⟩
theorem Abs.k {G : Sl} {g : Stt} {i : Nat} {D : KD} (h : Abs G g) (e : g[i]? = some (some (.k D))) : ∃ a, G[i]? = some (some (.odic false a (kk D))) := by
  obtain ⟨b, h1, h2⟩ := h.at_ e
  obtain ⟨a, rfl⟩ := strip_d h2
  exact ⟨a, h1⟩

/-! ### the mirror's kinds -/
abbrev EM := Stt → Option (Bool × PyData)
abbrev AM := Stt → Option (Bool × List PyData)
abbrev TM := Stt → Option Bool
abbrev IM := Stt → Option (List PyData)
abbrev RM := Stt → Option Q
abbrev GM := PyData → Stt → Option Stt
inductive Oc where
  | nx (g : Stt)
  | rt (q : Q)
  | bk (g : Stt)
  | ct (g : Stt)
abbrev SM := Stt → Option Oc
abbrev MF := List PyData → Option Q
def md (b : Bool) : Md := if b then some false else none
section
variable (K : PySem.W.Frag)
def SE (te : TE) (em : EM) : Prop := ∀ G g b d, Abs G g → em g = some (b, d) → DE K (md b) te G d
def SA (ta : TA) (am : AM) : Prop := ∀ G g b ds, Abs G g → am g = some (b, ds) → DA K (md b) ta G ds
def ST (tt : TT) (tm : TM) : Prop := ∀ G g b, Abs G g → tm g = some b → DT K tt G b
def SO (to : TO) (om : Stt → Option (Option Int)) : Prop := ∀ G g k, Abs G g → om g = some k → DO K to G k
def SI (wi : TI) (im : IM) : Prop := ∀ G g ds, Abs G g → im g = some ds → DI K false wi G ds
def SR (te : TE) (rm : RM) : Prop := ∀ G g q, Abs G g → rm g = some q → DR K te G q.r
def SG (vs : List Nat) (tg : TG) (gm : GM) : Prop := GW tg vs ∧ ∀ G g d g', Abs G g → gm d g = some g' → DG K tg false d G fun G' => Abs G' g' ∧ ∀ i, i ∉ vs → G'[i]? = G[i]?
def PO : Oc → Post
  | .nx g => { nx := fun G => Abs G g }
  | .rt q => { rt := fun r => r = q.r }
  | .bk g => { bk := fun G => Abs G g }
  | .ct g => { ct := fun G => Abs G g }
def SS (ts : TS) (sm : SM) : Prop := ∀ G g o, Abs G g → sm g = some o → DS K ts G (PO o)
end
section
variable {K : PySem.W.Frag} {te ta tb tx tc : TE} {tt tu : TT} {ts tv : TS} {t : TA} {ea eb ec em : EM} {am : AM} {tm um : TM} {sm um' vm : SM} {rm : RM} {i j : Nat}
/-! ### weaker modes -/
theorem de_md {b : Bool} {G : Sl} {d : PyData} (h : DE K (md b) te G d) : DE K none te G d := by
  cases b
  · exact h
  · exact de_pk h
theorem da_md {b : Bool} {G : Sl} {ds : List PyData} (h : DA K (md b) t G ds) : DA K none t G ds := by
  cases b
  · exact h
  · exact da_pk h
theorem de_lift {b : Bool} {G : Sl} {d : PyData} (h : DE K (md b) te G d) (k : (b || imm d) = true) : DE K (some false) te G d := by
  cases b
  · exact de_imm (de_md h) (by simpa using k)
  · exact h
theorem de_and {b c : Bool} {G : Sl} {d : PyData} (h : DE K (md b) te G d) : DE K (md (b && c)) te G d := by
  cases b
  · exact h
  · cases c
    · exact de_md h
    · exact h
theorem de_and2 {b c : Bool} {G : Sl} {d : PyData} (h : DE K (md c) te G d) : DE K (md (b && c)) te G d := by
  rw [Bool.and_comm]; exact de_and h
theorem de_orI {b : Bool} {G : Sl} {d : PyData} (h : DE K (md b) te G d) : DE K (md (b || imm d)) te G d := by
  cases b
  · cases e : imm d
    · exact h
    · exact de_imm (de_md h) e
  · exact h
theorem SE.no (h : SE K te em) {G : Sl} {g : Stt} {b : Bool} {d : PyData} (a : Abs G g) (e : em g = some (b, d)) : DE K none te G d := de_md (h G g b d a e)

/-! ### values -/
def eLit (d : PyData) : EM := fun _ => some (true, d)
def eVar (i : Nat) : EM := fun g => match g[i]? with
  | some (some q) => some (q.isV, q.full)
  | _ => none
theorem strip_full {b : B} {q : Q} (h : b.strip = q.r) : b.full = q.full := by rw [← full_strip, h, q.full_r]
theorem se_var : SE K (tVar i) (eVar i) := fun G g b d a e => by
  unfold eVar at e
  split at e
  · rename_i q hq
    cases e
    obtain ⟨b, h1, h2⟩ := a.at_ hq
    cases q with
    | v d => rw [strip_v h2] at h1; exact de_sh h1 rfl
    | _ => rw [← strip_full h2]; exact de_full h1
  · cases e
theorem se_int {k : Int} : SE K (tC (.int k)) (eLit (.int k)) := fun G g b d a e => by cases e; exact de_int
theorem se_bl {k : Bool} : SE K (tC (.bl k)) (eLit (.bool k)) := fun G g b d a e => by cases e; exact de_bl
theorem se_str {k : Str} : SE K (tC (.str k)) (eLit (.str k)) := fun G g b d a e => by cases e; exact de_str
theorem se_non : SE K (tC .non) (eLit .none) := fun G g b d a e => by cases e; exact de_non
def aNil : AM := fun _ => some (true, [])
def aCons (e : EM) (r : AM) : AM := fun g => match e g with
  | some (b, d) => match r g with
    | some (c, ds) => some (b && c, d :: ds)
    | none => none
  | none => none
theorem da_and {b c : Bool} {G : Sl} {ds : List PyData} (h : DA K (md b) t G ds) : DA K (md (b && c)) t G ds := by
  cases b
  · exact h
  · cases c
    · exact da_md h
    · exact h
theorem da_and2 {b c : Bool} {G : Sl} {ds : List PyData} (h : DA K (md c) t G ds) : DA K (md (b && c)) t G ds := by
  rw [Bool.and_comm]; exact da_and h
theorem sa_nil : SA K tNil aNil := fun G g b d a e => by cases e; exact da_nil
theorem sa_cons (h : SE K te em) (h' : SA K t am) : SA K (tCons te t) (aCons em am) := fun G g b ds a e => by
  unfold aCons at e
  split at e
  · rename_i b1 d1 e1
    split at e
    · rename_i c2 ds2 e2
      cases e
      exact da_cons (de_and (h G g _ _ a e1)) (da_and2 (h' G g _ _ a e2))
    · cases e
  · cases e
/-! ### operations whose result holds no list -/
def eOp (f : PyData → PyData → Option PyData) (x y : EM) : EM := fun g => match x g with
  | some (b, d) => match y g with
    | some (c, d') => match f d d' with
      | some z => some (true, z)
      | none => none
    | none => none
  | none => none
def Op0 (K : PySem.W.Frag) (r : R2) (f : PyData → PyData → Option PyData) : Prop := ∀ (G : Sl) (x y z : PyData) (ta tb : TE), f x y = some z → DE K none ta G x → DE K none tb G y → DE K (some false) (tOp r ta tb) G z
theorem se_op {r : R2} {f : PyData → PyData → Option PyData} (hf : Op0 K r f) (h : SE K ta ea) (h' : SE K tb eb) : SE K (tOp r ta tb) (eOp f ea eb) := fun G g b d a e => by
  unfold eOp at e
  split at e
  · rename_i b1 d1 e1
    split at e
    · rename_i c2 d2 e2
      split at e
      · rename_i z hz
        cases e
        exact hf G _ _ _ _ _ hz (h.no a e1) (h'.no a e2)
      · cases e
    · cases e
  · cases e
def pI (f : Int → Int → PyData) : PyData → PyData → Option PyData
  | .int a, .int b => some (f a b)
  | _, _ => none
def pIc (c : Int → Int → Bool) (f : Int → Int → PyData) : PyData → PyData → Option PyData
  | .int a, .int b => if c a b then some (f a b) else none
  | _, _ => none
theorem op_pI {r : R2} {f : Int → Int → PyData} (h : ∀ (G : Sl) (a b : Int) (ta tb : TE), DE K none ta G (.int a) → DE K none tb G (.int b) → DE K (some false) (tOp r ta tb) G (f a b)) : Op0 K r (pI f) := fun G x y z ta tb e h1 h2 => by
  cases x <;> cases y <;> first | (cases e; exact h G _ _ _ _ h1 h2) | cases e
theorem op_pIc {r : R2} {c : Int → Int → Bool} {f : Int → Int → PyData} (h : ∀ (G : Sl) (a b : Int) (ta tb : TE), c a b = true → DE K none ta G (.int a) → DE K none tb G (.int b) → DE K (some false) (tOp r ta tb) G (f a b)) : Op0 K r (pIc c f) := fun G x y z ta tb e h1 h2 => by
  unfold pIc at e
  split at e
  · split at e
    · cases e; exact h G _ _ _ _ (by assumption) h1 h2
    · cases e
  · cases e
def cMul (a b : Int) : Bool := decide (a.natAbs.log2 + b.natAbs.log2 < 100000000)
def cDiv (b : Int) : Bool := decide (0 < b) && decide (b.natAbs.log2 < 9000)
def cPow (a b : Int) : Bool := decide (0 ≤ b) && decide (b ≤ 1000000) && decide (a.natAbs < 2 ^ 64)
def pSub := pI fun a b => .int (a - b)
def pMul := pIc cMul fun a b => .int (a * b)
def pMod := pIc (fun _ b => decide (0 < b)) fun a b => .int (a % b)
def pFloor := pIc (fun _ b => cDiv b) fun a b => .int (a / b)
def pPow := pIc cPow fun a b => .int (a ^ b.toNat)
def pLt := pI fun a b => .bool (decide (a < b))
def pLe := pI fun a b => .bool (decide (a ≤ b))
def pGt := pI fun a b => .bool (decide (b < a))
def pGe := pI fun a b => .bool (decide (b ≤ a))
theorem o_sub : Op0 K rSubI pSub := op_pI fun _ _ _ _ _ h1 h2 => de_sub h1 h2
theorem o_mul : Op0 K (rTimes K) pMul := op_pIc fun _ a b _ _ c h1 h2 => de_mul h1 h2 (show a.natAbs.log2 + b.natAbs.log2 < 100000000 from of_decide_eq_true c)
theorem o_mod : Op0 K rMod pMod := op_pIc fun _ _ _ _ _ c h1 h2 => de_mod h1 h2 (of_decide_eq_true c)
theorem o_floor : Op0 K rFloor pFloor := op_pIc fun _ _ _ _ _ c h1 h2 => by
  unfold cDiv at c; rw [Bool.and_eq_true] at c
  exact de_floor h1 h2 (of_decide_eq_true c.1) (of_decide_eq_true c.2)
theorem o_pow : Op0 K rPow pPow := op_pIc fun _ _ _ _ _ c h1 h2 => by
  unfold cPow at c; rw [Bool.and_eq_true, Bool.and_eq_true] at c
  exact de_pow h1 h2 ⟨of_decide_eq_true c.1.1, of_decide_eq_true c.1.2, of_decide_eq_true c.2⟩
theorem o_lt : Op0 K rLt pLt := op_pI fun _ _ _ _ _ h1 h2 => de_lt h1 h2
theorem o_le : Op0 K rLe pLe := op_pI fun _ _ _ _ _ h1 h2 => de_le h1 h2
theorem o_gt : Op0 K rGt pGt := op_pI fun _ _ _ _ _ h1 h2 => de_gt h1 h2
theorem o_ge : Op0 K rGe pGe := op_pI fun _ _ _ _ _ h1 h2 => de_ge h1 h2
def pEq (x y : PyData) : Option PyData := if SeqAt.shaped x && SeqAt.shaped y then some (.bool (PyData.eqv x y)) else none
def pNe (x y : PyData) : Option PyData := if SeqAt.shaped x && SeqAt.shaped y then some (.bool (!PyData.eqv x y)) else none
theorem o_eq : Op0 K (rEqD K) pEq := fun G x y z ta tb e h1 h2 => by
  unfold pEq at e
  split at e
  · rename_i c; rw [Bool.and_eq_true] at c
    cases e; exact de_eq h1 h2 c.1 c.2
  · cases e
theorem o_ne : Op0 K (rNeD K) pNe := fun G x y z ta tb e h1 h2 => by
  unfold pNe at e
  split at e
  · rename_i c; rw [Bool.and_eq_true] at c
    cases e; exact de_ne h1 h2 c.1 c.2
  · cases e
def pIs (x y : PyData) : Option PyData := if konstD y then some (.bool (isV x y)) else none
def pIsNot (x y : PyData) : Option PyData := if konstD y then some (.bool (!isV x y)) else none
theorem o_is : Op0 K rIs pIs := fun G x y z ta tb e h1 h2 => by
  unfold pIs at e
  split at e
  · cases e; exact de_is h1 h2 (by assumption)
  · cases e
theorem o_isNot : Op0 K rIsNot pIsNot := fun G x y z ta tb e h1 h2 => by
  unfold pIsNot at e
  split at e
  · cases e; exact de_isNot h1 h2 (by assumption)
  · cases e
/-! + : also lists, tuples, texts -/
def pAdd : PyData → PyData → Option PyData
  | .int a, .int b => some (.int (a + b))
  | .list xs, .list ys => if xs.length + ys.length ≤ 100000 then some (.list (xs ++ ys)) else none
  | .tuple xs, .tuple ys => if xs.length + ys.length ≤ 100000 then some (.tuple (xs ++ ys)) else none
  | .str a, .str b => if a.length + b.length ≤ 100000 then some (.str (a ++ b)) else none
  | _, _ => none
def eAdd (x y : EM) : EM := fun g => match x g with
  | some (b, d) => match y g with
    | some (c, d') => match pAdd d d' with
      | some z => some (b && c || imm z, z)
      | none => none
    | none => none
  | none => none
theorem o_add {G : Sl} {x y z : PyData} {b : Bool} (e : pAdd x y = some z) (h1 : DE K (md b) ta G x) (h2 : DE K (md b) tb G y) : DE K (md b) (tOp (rPlusQ K) ta tb) G z := by
  unfold pAdd at e
  split at e
  · cases e; exact de_add (de_md h1) (de_md h2)
  · split at e
    · cases e; exact de_cat h1 h2 (by assumption)
    · cases e
  · split at e
    · cases e; exact de_catT h1 h2 (by assumption)
    · cases e
  · split at e
    · cases e; exact de_catS (de_md h1) (de_md h2) (by assumption)
    · cases e
  · cases e
theorem se_add (h : SE K ta ea) (h' : SE K tb eb) : SE K (tOp (rPlusQ K) ta tb) (eAdd ea eb) := fun G g b d a e => by
  unfold eAdd at e
  split at e
  · rename_i b1 d1 e1
    split at e
    · rename_i c2 d2 e2
      split at e
      · rename_i z hz
        cases e
        exact de_orI (o_add hz (de_and (h G g _ _ a e1)) (de_and2 (h' G g _ _ a e2)))
      · cases e
    · cases e
  · cases e
/-! negative ints -/
def eNeg (x : EM) : EM := fun g => match x g with
  | some (_, .int a) => some (true, .int (-a))
  | _ => none
theorem se_neg (h : SE K ta ea) : SE K (tUn rNeg ta) (eNeg ea) := fun G g b d a e => by
  unfold eNeg at e
  split at e
  · rename_i e1; cases e; exact de_neg (h.no a e1)
  · cases e
def keyOf : PyData → Option Key
  | .int k => some (.inl k)
  | .str s => some (.inr s)
  | _ => none
theorem keyOf_kD {d : PyData} {k : Key} (h : keyOf d = some k) : d = kD k := by
  unfold keyOf at h
  split at h <;> first | (cases h; rfl) | cases h
/-! ### dicts as data -/
def unkk : List (PyData × PyData) → Option KD
  | [] => some []
  | (k, d) :: r => match keyOf k with
    | some k' => match unkk r with
      | some D => some ((k', d) :: D)
      | none => none
    | none => none
theorem unkk_of : ∀ {ks : List (PyData × PyData)} {D : KD}, unkk ks = some D → ks = kk D
  | [], D, h => by cases h; rfl
  | (k, d) :: r, D, h => by
    unfold unkk at h
    split at h
    · rename_i k' hk
      split at h
      · rename_i D' hD; cases h; rw [unkk_of hD, keyOf_kD hk]; rfl
      · cases h
    · cases h
theorem keyOf_D (k : Key) : keyOf (kD k) = some k := by cases k <;> rfl
theorem unkk_kk : ∀ D : KD, unkk (kk D) = some D
  | [] => rfl
  | (k, d) :: D => by
    show unkk ((kD k, d) :: kk D) = _
    unfold unkk
    rw [keyOf_D, unkk_kk D]
/-! places -/
def pIx : PyData → PyData → Option PyData
  | .list ds, .int k => L2.atI ds k
  | .tuple ds, .int k => L2.atI ds k
  | .dict ks, d => match unkk ks with
    | some D => match keyOf d with
      | some k => valD D k
      | none => none
    | none => none
  | _, _ => none
theorem pIx_dict {ks : List (PyData × PyData)} {d z : PyData} (h : (match unkk ks with
    | some D => match keyOf d with
      | some k => valD D k
      | none => none
    | none => none) = some z) : ∃ D k, ks = kk D ∧ d = kD k ∧ valD D k = some z := by
  split at h
  · rename_i D hD
    split at h
    · rename_i k hk; exact ⟨D, k, unkk_of hD, keyOf_kD hk, h⟩
    · cases h
  · cases h
def eIx (x y : EM) : EM := fun g => match x g with
  | some (b, d) => match y g with
    | some (_, d') => match pIx d d' with
      | some z => some (b || imm z, z)
      | none => none
    | none => none
  | none => none
theorem se_ix (h : SE K ta ea) (h' : SE K tb eb) : SE K (tOp (rSub K) ta tb) (eIx ea eb) := fun G g b d a e => by
  unfold eIx at e
  split at e
  · rename_i b1 d1 e1
    split at e
    · rename_i c2 d2 e2
      split at e
      · rename_i z hz
        cases e
        unfold pIx at hz
        split at hz
        · exact de_orI (de_ixL (h G g _ _ a e1) (h'.no a e2) hz)
        · exact de_orI (de_ixT (h G g _ _ a e1) (h'.no a e2) hz)
        · obtain ⟨D, k, rfl, rfl, hv⟩ := pIx_dict hz
          exact de_orI (de_ixD (h G g _ _ a e1) (h'.no a e2) hv)
        · cases hz
      · cases e
    · cases e
  · cases e
/-- x[k], x a name -/
def eIxV (i : Nat) (y : EM) : EM := fun g => match y g with
  | some (_, d') => match g[i]? with
    | some (some (.v d)) => match pIx d d' with
      | some z => some (true, z)
      | none => none
    | some (some (.l ds)) => match d' with
      | .int k => match L2.atI ds k with
        | some z => some (true, z)
        | none => none
      | _ => none
    | some (some (.k D)) => match keyOf d' with
      | some k => match valD D k with
        | some z => some (true, z)
        | none => none
      | none => none
    | some (some (.t xs)) => match pIx (.tuple (xs.map itP)) d' with
      | some z => some (imm z, z)
      | none => none
    | _ => none
  | none => none
theorem se_ixV (h' : SE K tb eb) : SE K (tOp (rSub K) (tVar i) tb) (eIxV i eb) := fun G g b d a e => by
  unfold eIxV at e
  split at e
  · rename_i c2 d2 e2
    have h2 := h'.no a e2
    split at e
    · rename_i hg
      split at e
      · rename_i z hz
        cases e
        unfold pIx at hz
        split at hz
        · exact de_ixL (de_sh (a.v hg) rfl) h2 hz
        · exact de_ixT (de_sh (a.v hg) rfl) h2 hz
        · obtain ⟨D, k, rfl, rfl, hv⟩ := pIx_dict hz
          exact de_ixD (de_sh (a.v hg) rfl) h2 hv
        · cases hz
      · cases e
    · rename_i hg
      obtain ⟨ad, hG⟩ := a.l hg
      split at e
      · split at e
        · rename_i z hz
          cases e
          exact de_ixO hG rfl h2 hz
        · cases e
      · cases e
    · rename_i hg
      obtain ⟨ad, hG⟩ := a.k hg
      split at e
      · rename_i k hk
        have := keyOf_kD hk
        subst this
        split at e
        · rename_i z hz
          cases e
          exact de_ixDO hG rfl h2 hz
        · cases e
      · cases e
    · rename_i xs hg
      split at e
      · rename_i z hz
        cases e
        obtain ⟨bb, h3, h4⟩ := a.at_ hg
        have hf : DE K none (tVar i) G (.tuple (xs.map itP)) := by
          have := de_full (K := K) h3
          rw [strip_full h4] at this; exact this
        have : DE K (md false) (tOp (rSub K) (tVar i) tb) G d := by
          cases d2 <;> first | (cases hz; done) | exact de_ixT hf h2 hz
        have := de_orI this
        rwa [Bool.false_or] at this
      · cases e
    · cases e
  · cases e
/-! slices -/
def oNo : Stt → Option (Option Int) := fun _ => some none
def oSo (e : EM) : Stt → Option (Option Int) := fun g => match e g with
  | some (_, .int k) => some (some k)
  | _ => none
theorem so_no : SO K tNoPart oNo := fun G g k a e => by cases e; exact do_none
theorem so_so (h : SE K te em) : SO K (tPart te) (oSo em) := fun G g k a e => by
  unfold oSo at e
  split at e
  · rename_i e1; cases e; exact do_some (h.no a e1)
  · cases e
def eSl (x : EM) (l h : Stt → Option (Option Int)) : EM := fun g => match x g with
  | some (b, d) => match l g with
    | some lo => match h g with
      | some hi => match d with
        | .list ds => some (b || imms (cutD ds lo hi) && false, .list (cutD ds lo hi))
        | .tuple ds => some (b || imm (.tuple (cutD ds lo hi)), .tuple (cutD ds lo hi))
        | _ => none
      | none => none
    | none => none
  | none => none
theorem se_sl {tl th : TO} {lm hm : Stt → Option (Option Int)} (h : SE K ta ea) (hl : SO K tl lm) (hh : SO K th hm) : SE K (tSl (rSl K) ta tl th) (eSl ea lm hm) := fun G g b d a e => by
  unfold eSl at e
  split at e
  · rename_i b1 d1 e1
    split at e
    · rename_i lo e2
      split at e
      · rename_i hi e3
        split at e
        · cases e
          rw [Bool.and_false, Bool.or_false]
          exact de_slL (h G g _ _ a e1) (hl G g _ a e2) (hh G g _ a e3)
        · cases e
          exact de_orI (de_slT (h G g _ _ a e1) (hl G g _ a e2) (hh G g _ a e3))
        · cases e
      · cases e
    · cases e
  · cases e
/-! tuples, lists -/
def eTup (x : AM) : EM := fun g => match x g with
  | some (b, ds) => if ds.length ≤ 100000 then some (b || imm (.tuple ds), .tuple ds) else none
  | none => none
def eLst (x : AM) : EM := fun g => match x g with
  | some (b, ds) => if ds.length ≤ 100000 then some (b || imms ds, .list ds) else none
  | none => none
theorem da_imms {G : Sl} {b : Bool} {ds : List PyData} (h : DA K (md b) t G ds) (k : (b || imms ds) = true) : DA K (some false) t G ds := by
  cases b
  · intro c σ H e Q q
    exact h c σ H e Q fun vs H' s r => q vs H' s (Reps.imm (vis_tups (e.ext s).h0 (e.ext s).mu) r (by simpa using k))
  · exact h
theorem da_orI {G : Sl} {b : Bool} {ds : List PyData} (h : DA K (md b) t G ds) : DA K (md (b || imms ds)) t G ds := by
  cases e : (b || imms ds)
  · exact da_md h
  · exact da_imms h e
theorem se_tup (h : SA K t am) : SE K (tTup t) (eTup am) := fun G g b d a e => by
  unfold eTup at e
  split at e
  · rename_i b1 d1 e1
    split at e
    · cases e; exact de_orI (de_tup (h G g _ _ a e1) (by assumption))
    · cases e
  · cases e
theorem se_lst (h : SA K t am) : SE K (tLst t) (eLst am) := fun G g b d a e => by
  unfold eLst at e
  split at e
  · rename_i b1 d1 e1
    split at e
    · cases e; exact de_lst (da_orI (h G g _ _ a e1)) (by assumption)
    · cases e
  · cases e
/-! tests -/
def mTest (x : EM) : TM := fun g => match x g with
  | some (_, .bool b) => some b
  | _ => none
theorem st_test (h : SE K te em) : ST K (tTest te) (mTest em) := fun G g b a e => by
  unfold mTest at e
  split at e
  · rename_i e1; cases e; exact dt_test (h.no a e1)
  · cases e
theorem st_B (h : SE K te em) : ST K (tB te) (mTest em) := fun G g b a e => by
  unfold mTest at e
  split at e
  · rename_i e1; cases e; exact dt_B (h.no a e1)
  · cases e
def mNot (x : TM) : TM := fun g => match x g with
  | some b => some (!b)
  | none => none
def mAnd (x y : TM) : TM := fun g => match x g with
  | some true => y g
  | some false => some false
  | none => none
def mOr (x y : TM) : TM := fun g => match x g with
  | some true => some true
  | some false => y g
  | none => none
theorem st_not (h : ST K tt tm) : ST K (tNot tt) (mNot tm) := fun G g b a e => by
  unfold mNot at e
  split at e
  · rename_i e1; cases e; exact dt_not (h G g _ a e1)
  · cases e
theorem st_and (h : ST K tt tm) (h' : ST K tu um) : ST K (tAnd tt tu) (mAnd tm um) := fun G g b a e => by
  unfold mAnd at e
  split at e
  · rename_i e1
    exact dt_and (a := true) (h G g _ a e1) (fun _ => h' G g _ a e)
  · rename_i e1
    cases e
    exact dt_and (a := false) (b := false) (h G g _ a e1) (fun z => by cases z)
  · cases e
theorem st_or (h : ST K tt tm) (h' : ST K tu um) : ST K (tOr tt tu) (mOr tm um) := fun G g b a e => by
  unfold mOr at e
  split at e
  · rename_i e1
    cases e
    exact dt_or (a := true) (b := false) (h G g _ a e1) (fun z => by cases z)
  · rename_i e1
    exact dt_or (a := false) (h G g _ a e1) (fun _ => h' G g _ a e)
  · cases e
def mYes : TM := fun _ => some true
theorem st_yes : ST K tYes mYes := fun G g b a e => by cases e; exact dt_yes
/-! and, or, not as values (of bools) -/
def eAnd (x y : EM) : EM := fun g => match x g with
  | some (_, .bool true) => match y g with
    | some (_, .bool b) => some (true, .bool b)
    | _ => none
  | some (_, .bool false) => some (true, .bool false)
  | _ => none
def eOr (x y : EM) : EM := fun g => match x g with
  | some (_, .bool false) => match y g with
    | some (_, .bool b) => some (true, .bool b)
    | _ => none
  | some (_, .bool true) => some (true, .bool true)
  | _ => none
def eNot (x : EM) : EM := fun g => match x g with
  | some (_, .bool b) => some (true, .bool (!b))
  | _ => none
theorem se_and (h : SE K ta ea) (h' : SE K tb eb) : SE K (tAndV ta tb) (eAnd ea eb) := fun G g b d a e => by
  unfold eAnd at e
  split at e
  · rename_i e1
    split at e
    · rename_i e2; cases e; exact de_andV (a := true) (h.no a e1) (fun _ => h'.no a e2)
    · cases e
  · rename_i e1; cases e; exact de_andV (a := false) (b := false) (h.no a e1) (fun z => by cases z)
  · cases e
theorem se_or (h : SE K ta ea) (h' : SE K tb eb) : SE K (tOrV ta tb) (eOr ea eb) := fun G g b d a e => by
  unfold eOr at e
  split at e
  · rename_i e1
    split at e
    · rename_i e2; cases e; exact de_orV (a := false) (h.no a e1) (fun _ => h'.no a e2)
    · cases e
  · rename_i e1; cases e; exact de_orV (a := true) (b := false) (h.no a e1) (fun z => by cases z)
  · cases e
theorem se_not (h : SE K ta ea) : SE K (tNotV ta) (eNot ea) := fun G g b d a e => by
  unfold eNot at e
  split at e
  · rename_i e1; cases e; exact de_notV (h.no a e1)
  · cases e
def eIf (t : TM) (x y : EM) : EM := fun g => match t g with
  | some true => x g
  | some false => y g
  | none => none
theorem se_if (ht : ST K tt tm) (h : SE K ta ea) (h' : SE K tb eb) : SE K (tIf tt ta tb) (eIf tm ea eb) := fun G g b d a e => by
  unfold eIf at e
  split at e
  · rename_i e1; exact de_ifE (ht G g _ a e1) (fun _ => h G g _ _ a e) (fun z => by cases z)
  · rename_i e1; exact de_ifE (ht G g _ a e1) (fun z => by cases z) (fun _ => h' G g _ _ a e)
  · cases e
/-! a < b < c -/
def eChain (f f' : PyData → PyData → Option PyData) (x y z : EM) : EM := fun g => match x g with
  | some (_, d) => match y g with
    | some (_, d') => match f d d' with
      | some (.bool true) => match z g with
        | some (_, d'') => match f' d' d'' with
          | some (.bool b) => some (true, .bool b)
          | _ => none
        | none => none
      | some (.bool false) => some (true, .bool false)
      | _ => none
    | none => none
  | none => none
def OpB (K : PySem.W.Frag) (r : R2) (f : PyData → PyData → Option PyData) : Prop := ∀ x y b, f x y = some (.bool b) → Opd K r x y (.bool b)
theorem ob_lt : OpB K rLt pLt := fun x y b e => by
  cases x <;> cases y <;> first | (cases e; exact opd_I0 (g := fun i j => .bl (decide (i < j))) (.bl _)) | cases e
theorem ob_le : OpB K rLe pLe := fun x y b e => by
  cases x <;> cases y <;> first | (cases e; exact opd_I0 (g := fun i j => .bl (decide (i ≤ j))) (.bl _)) | cases e
theorem se_chain {r r' : R2} {f f' : PyData → PyData → Option PyData} (hf : OpB K r f) (hf' : OpB K r' f') (h : SE K ta ea) (h' : SE K tb eb) (h'' : SE K tc ec) : SE K (tChain r r' ta tb tc) (eChain f f' ea eb ec) := fun G g b d a e => by
  unfold eChain at e
  split at e
  · rename_i e1
    split at e
    · rename_i e2
      split at e
      · rename_i e3
        split at e
        · rename_i e4
          split at e
          · rename_i e5
            cases e
            exact de_chain (a := true) (hf _ _ _ e3) (fun _ => hf' _ _ _ e5) (h.no a e1) (h'.no a e2) (fun _ => h''.no a e4)
          · cases e
        · cases e
      · rename_i e3
        cases e
        exact de_chain (a := false) (b := false) (r' := r') (z := .int 0) (hf _ _ _ e3) (fun z => by cases z) (h.no a e1) (h'.no a e2) (fun z => by cases z)
      · cases e
    · cases e
  · cases e
end
end TB

/-! TB mirror, 2: results, statements, loops, calls. -/
namespace TB
open PySem PySem.Spec PyProof.Rows L2
section
variable {K : PySem.W.Frag} {te ta tb tx tc : TE} {tt tu : TT} {ts tv : TS} {t : TA} {ea eb ec em : EM} {am : AM} {tm um : TM} {sm vm : SM} {rm : RM} {im : IM} {gm : GM} {wi : TI} {tg : TG} {i j : Nat}
/-! ### results -/
def rE (e : EM) : RM := fun g => match e g with
  | some (b, d) => if b || imm d then some (.v d) else none
  | none => none
theorem sr_E (h : SE K te em) : SR K te (rE em) := fun G g q a e => by
  unfold rE at e
  split at e
  · rename_i b d e1
    split at e
    · cases e; exact dr_de (de_lift (h G g _ _ a e1) (by assumption))
    · cases e
  · cases e
/-- a result, looked at -/
def eR (r : RM) : EM := fun g => match r g with
  | some q => some (true, q.full)
  | none => none
theorem se_R (h : SR K te rm) : SE K te (eR rm) := fun G g b d a e => by
  unfold eR at e
  split at e
  · rename_i q e1
    cases e
    have := de_dr (m := some false) (h G g _ a e1) (by rw [q.nw_r]; rfl)
    rw [q.full_r] at this
    exact this
  · cases e
def rLst (x : AM) : RM := fun g => match x g with
  | some (b, ds) => if (b || imms ds) && decide (ds.length ≤ 100000) then some (.l ds) else none
  | none => none
theorem sr_lst (h : SA K t am) : SR K (tLst t) (rLst am) := fun G g q a e => by
  unfold rLst at e
  split at e
  · rename_i b d e1
    split at e
    · rename_i c
      rw [Bool.and_eq_true] at c
      cases e; exact dr_new (dn_lst (da_imms (h G g _ _ a e1) c.1) (of_decide_eq_true c.2))
    · cases e
  · cases e
/-! ### weaker results -/
def R.wk : R → R
  | .val _ d => .val false d
  | .own _ ds => .own false ds
  | .odic _ ks => .odic false ks
  | .tupo _ xs => .tupo false xs
  | .lso _ xs => .lso false xs
def B.wk : B → B
  | .sh _ d => .sh false d
  | .own _ a ds => .own false a ds
  | .odic _ a ks => .odic false a ks
  | .tupo _ xs => .tupo false xs
  | .lso _ t xs => .lso false t xs
theorem wk_strip (b : B) : b.wk.strip = b.strip.wk := by cases b <;> rfl
theorem wk_ows (b : B) : b.wk.ows = b.ows := by cases b <;> rfl
theorem repB_wk {W : Bool → Hp} {H : Hp} {v : V} {b : B} (e : Same (W true) (W false)) (h : RepB K W H v b) : RepB K W H v b.wk := by
  have k : ∀ n, Same (W n) (W false) := fun n => by cases n; exact Same.refl _; exact e
  cases b with
  | sh n d => exact Rep.mono (k n) h
  | own n a ds => obtain ⟨h1, vs, h2, h3⟩ := h; exact ⟨h1, vs, h2, Reps.mono (k n) h3⟩
  | odic n a ks => obtain ⟨h1, vs, h2, h3⟩ := h; exact ⟨h1, vs, h2, RepK.mono (k n) h3⟩
  | tupo n xs =>
    obtain ⟨t, vs, h1, h2, h3⟩ := h
    exact ⟨t, vs, h1, h2, Paired.mapP h3 fun v x r => RepIt.mono (k n) (fun a _ xs q => q) r⟩
  | lso n t xs =>
    obtain ⟨h1, vs, h2, h3⟩ := h
    exact ⟨h1, vs, h2, Paired.mapP h3 fun v x r => RepIt.mono (k n) (fun a _ xs q => q) r⟩
theorem dr_wk {G : Sl} {r : R} (h : DR K te G r) : DR K te G r.wk := fun c σ H e Q q => h c σ H e Q fun v H' s ⟨b, h1, h2, h3, h4⟩ =>
  q v H' s ⟨b.wk, by rw [wk_strip, h1], by rw [wk_ows]; exact h2, by rw [wk_ows]; exact h3, by
    rw [wk_ows]; exact repB_wk (hide_le (vis_le false) fun _ _ _ p => p) h4⟩
theorem retR_wk {P H H' : Hp} {v : V} {r : R} (h : RetR K P H H' v r) : RetR K P H H' v r.wk := by
  obtain ⟨b, h1, h2, h3, h4⟩ := h
  exact ⟨b.wk, by rw [wk_strip, h1], by rw [wk_ows]; exact h2, by rw [wk_ows]; exact h3, by
    rw [wk_ows]; exact repB_wk (hide_le (plus_mono non_same) fun _ _ _ p => p) h4⟩
/-! ### content without lists is seen by all -/
def immIt : Sum PyData (List PyData) → Bool
  | .inl d => imm d
  | .inr ds => imms ds
def Q.fl : Q → Bool
  | .v d => imm d
  | .l ds => imms ds
  | .k _ => false
  | .t xs => xs.all immIt
  | .ll xs => xs.all immIt
def B.fl (b : B) : Bool := match b with
  | .sh _ d => imm d
  | .own _ _ ds => imms ds
  | .odic _ _ _ => false
  | .tupo _ xs => (xs.map itR).all immIt
  | .lso _ _ xs => (xs.map itR).all immIt
theorem im_of {b : B} {q : Q} (h : b.strip = q.r) (k : q.fl = true) : b.fl = true := by
  cases q with
  | v d => rw [strip_v h]; exact k
  | l ds => obtain ⟨a, rfl⟩ := strip_l h; exact k
  | k D => cases k
  | t xs => obtain ⟨ys, rfl, e⟩ := strip_t h; show (ys.map itR).all immIt = true; rw [e]; exact k
  | ll xs => obtain ⟨t, ys, rfl, e⟩ := strip_ll h; show (ys.map itR).all immIt = true; rw [e]; exact k
theorem repB_im {W W' : Bool → Hp} {H : Hp} {v : V} {b : B} (e : ∀ n, tupsOf (W n) (W' n)) (k : b.fl = true) (h : RepB K W H v b) : RepB K W' H v b := by
  cases b with
  | sh n d => exact Rep.imm (e n) h k
  | own n a ds => obtain ⟨h1, vs, h2, h3⟩ := h; exact ⟨h1, vs, h2, Reps.imm (e n) h3 k⟩
  | odic n a ks => cases k
  | tupo n xs =>
    obtain ⟨t, vs, h1, h2, h3⟩ := h
    refine ⟨t, vs, h1, h2, ?_⟩
    have k : (xs.map itR).all immIt = true := k
    clear h2
    induction h3 with
    | nil => exact .nil
    | @cons v x vs xs r _ ih =>
      rw [List.map_cons, List.all_cons, Bool.and_eq_true] at k
      refine .cons ?_ (ih k.2 k.2)
      cases x with
      | inl d => exact Rep.imm (e n) r k.1
      | inr p => obtain ⟨a, ds⟩ := p; obtain ⟨h4, ws, h5, h6⟩ := r; exact ⟨h4, ws, h5, Reps.imm (e n) h6 k.1⟩
  | lso n t xs =>
    obtain ⟨h1, vs, h2, h3⟩ := h
    refine ⟨h1, vs, h2, ?_⟩
    have k : (xs.map itR).all immIt = true := k
    clear h2
    induction h3 with
    | nil => exact .nil
    | @cons v x vs xs r _ ih =>
      rw [List.map_cons, List.all_cons, Bool.and_eq_true] at k
      refine .cons ?_ (ih k.2 k.2)
      cases x with
      | inl d => exact Rep.imm (e n) r k.1
      | inr p => obtain ⟨a, ds⟩ := p; obtain ⟨h4, ws, h5, h6⟩ := r; exact ⟨h4, ws, h5, Reps.imm (e n) h6 k.1⟩
/-! ### calls -/
def spM (K : PySem.W.Frag) (f : MF) : Sp := spD K (ι := List PyData) id (fun vs => (f vs).isSome = true) (fun vs r => ∃ q, f vs = some q ∧ r = q.r)
def SpOk (K : PySem.W.Frag) (sp : Sp) (dv : List V) (f : MF) : Prop := ∀ vs H Q E, spM K f (vs ++ dv) H Q E → sp (vs ++ dv) H Q E
def eCall (f : MF) (am : AM) : EM := fun g => match am g with
  | some (b, ds) => match f ds with
    | some q => some (b || imm q.full, q.full)
    | none => none
  | none => none
def rCall (f : MF) (am : AM) : RM := fun g => match am g with
  | some (b, ds) => match f ds with
    | some q => if b || q.fl then some q else none
    | none => none
  | none => none
theorem rep_none : Reps K H [V.non] [.none] := .cons .non .nil
theorem sr_call {E : XK} {sp : Sp} {f : MF} (hs : SpOk K sp [] f) (h : SA K t am) : SR K (tCall sp [] E t) (rCall f am) := fun G g q a e => by
  unfold rCall at e
  split at e
  · rename_i b ds e1
    split at e
    · rename_i q' e2
      split at e
      · rename_i c
        cases e
        cases b with
        | true => exact dr_callS (ι := List PyData) (args := id) (pre := fun vs => (f vs).isSome = true) (res := fun vs r => ∃ q, f vs = some q ∧ r = q.r) (fun vs H Q hh => by
            have := hs vs H Q E
            rw [List.append_nil] at this
            exact this hh) ds (h G g _ _ a e1) (by rw [e2]; rfl) (fun r' ⟨q', h1, h2⟩ => by rw [e2] at h1; cases h1; exact h2) (.inr rfl)
        | false =>
          have c : q.fl = true := by simpa using c
          intro cc σ H e Qc k
          refine h G g _ _ a e1 cc σ H e _ fun vs H1 s1 r1 => ?_
          have e1' := e.ext s1
          refine hs vs H1 _ _ ⟨vis cc (OF G) none H1, ds, e1'.vsame, by rw [List.append_nil]; exact r1, (show (f ds).isSome = true by rw [e2]; rfl), fun r' v H' ⟨q', h1, h2⟩ s2 ⟨b, hb, hn, hf, hr⟩ => ?_⟩
          rw [e2] at h1; cases h1
          subst h2
          refine k v H' (s1.trans s2) ⟨b, hb, hn, fun a ha => non_of s1 (hf a ha), ?_⟩
          have e3 := e1'.ext s2
          refine repB_im (fun n x xs ht hx => ?_) (im_of hb c) hr
          obtain ⟨x1, x2⟩ := hide_some hx
          have hH : H' x = some xs := by
            have : Same (plus (gq (vis cc (OF G) none H1) n) H1 H') H' := plus_same (by unfold gq; cases n; exact (show Same (if false = true then non else vis cc (OF G) none H1) H1 from by rw [if_neg Bool.false_ne_true]; exact Same.refl _); exact non_same) s2
            exact this _ _ x2
          rw [hide_at x1]
          exact vis_tups e3.h0 e3.mu x xs ht hH
      · cases e
    · cases e
  · cases e
theorem se_call {E : XK} {sp : Sp} {f : MF} (hs : SpOk K sp [] f) (h : SA K t am) : SE K (tCall sp [] E t) (eCall f am) := fun G g b d a e => by
  unfold eCall at e
  split at e
  · rename_i b ds e1
    split at e
    · rename_i q e2
      cases e
      cases b with
      | true =>
        have : SR K (tCall sp [] E t) (rCall f am) := sr_call hs h
        have := this G g q a (by unfold rCall; simp only [e1, e2]; rfl)
        have := de_dr (m := some false) this (by rw [q.nw_r]; rfl)
        rw [q.full_r] at this
        exact this
      | false =>
        refine de_orI (b := false) ?_
        intro cc σ H e Qc k
        refine h G g _ _ a e1 cc σ H e _ fun vs H1 s1 r1 => ?_
        have e1' := e.ext s1
        refine hs vs H1 _ _ ⟨vis cc (OF G) none H1, ds, e1'.vsame, by rw [List.append_nil]; exact r1, (show (f ds).isSome = true by rw [e2]; rfl), fun r' v H' ⟨q', h1, h2⟩ s2 hr => ?_⟩
        rw [e2] at h1; cases h1
        subst h2
        refine k v H' (s1.trans s2) ?_
        have := ret_full (O := fun _ => False) hr e1'.vsame s2
        rw [q.full_r] at this
        exact this
    · cases e
  · cases e
/-! ### statements -/
def sNext : SM := fun g => some (.nx g)
def sBrk : SM := fun g => some (.bk g)
def sCnt : SM := fun g => some (.ct g)
def sSeq (x y : SM) : SM := fun g => match x g with
  | some (.nx g') => y g'
  | o => o
def sIf (t : TM) (x y : SM) : SM := fun g => match t g with
  | some true => x g
  | some false => y g
  | none => none
def sAsg (i : Nat) (e : EM) : SM := fun g => match e g with
  | some (b, d) => if (b || imm d) && decide (i < g.length) then some (.nx (g.set i (some (.v d)))) else none
  | none => none
def sAsgR (i : Nat) (r : RM) : SM := fun g => match r g with
  | some q => if i < g.length then some (.nx (g.set i (some q))) else none
  | none => none
def sExp (e : EM) : SM := fun g => match e g with
  | some _ => some (.nx g)
  | none => none
def sRet (r : RM) : SM := fun g => match r g with
  | some q => some (.rt q)
  | none => none
def sRetN : SM := fun g => some (.rt (.v .none))
def sRetV (i : Nat) : SM := fun g => match g[i]? with
  | some (some q) => some (.rt q)
  | _ => none
def sApp (i : Nat) (e : EM) : SM := fun g => match e g with
  | some (b, d) => match g[i]? with
    | some (some (.l ds)) => if (b || imm d) && decide (ds.length < 100000) then some (.nx (g.set i (some (.l (ds ++ [d]))))) else none
    | _ => none
  | none => none
def sSet (i : Nat) (e x : EM) : SM := fun g => match e g with
  | some (b, d) => match x g with
    | some (_, k) => match g[i]? with
      | some (some (.l ds)) => match k with
        | .int k => match ixN ds.length k with
          | some j => if b || imm d then some (.nx (g.set i (some (.l (ds.set j d))))) else none
          | none => none
        | _ => none
      | some (some (.k D)) => match keyOf k with
        | some k => if (b || imm d) && decide (D.length < 100000) then some (.nx (g.set i (some (.k (putD D k d))))) else none
        | none => none
      | _ => none
    | none => none
  | none => none
def sPop (i j : Nat) : SM := fun g => match g[i]? with
  | some (some (.l ds)) => match ds[ds.length - 1]? with
    | some d => if j < g.length then some (.nx ((g.set j (some (.v d))).set i (some (.l ds.dropLast)))) else none
    | none => none
  | _ => none
/-- what is one's own stands still from now on -/
def frz (i : Nat) (g : Stt) : Stt := match g[i]? with
  | some (some q) => g.set i (some (.v q.full))
  | _ => g
def sFrz (i : Nat) (s : SM) : SM := fun g => s (frz i g)
theorem ss_next : SS K tNext sNext := fun G g o a e => by cases e; exact ds_next a
theorem ss_brk : SS K tBreak sBrk := fun G g o a e => by cases e; exact ds_brk a
theorem ss_cnt : SS K tCont sCnt := fun G g o a e => by cases e; exact ds_cont a
theorem ss_seq (h : SS K ts sm) (h' : SS K tv vm) : SS K (tSeq ts tv) (sSeq sm vm) := fun G g o a e => by
  unfold sSeq at e
  split at e
  · rename_i g' e1
    exact ds_seq ((h G g _ a e1).imp (fun G' p => h' G' g' o p e) (fun _ p => p.elim) (fun _ p => p.elim) (fun _ p => p.elim))
  · rename_i hn
    have := h G g _ a e
    cases o with
    | nx g' => exact (hn g' e).elim
    | rt q => exact ds_seq (this.imp (fun _ p => p.elim) (fun _ p => p) (fun _ p => p.elim) (fun _ p => p.elim))
    | bk g' => exact ds_seq (this.imp (fun _ p => p.elim) (fun _ p => p.elim) (fun _ p => p) (fun _ p => p.elim))
    | ct g' => exact ds_seq (this.imp (fun _ p => p.elim) (fun _ p => p.elim) (fun _ p => p.elim) (fun _ p => p))
theorem ss_if (ht : ST K tt tm) (h : SS K ts sm) (h' : SS K tv vm) : SS K (tIfS tt ts tv) (sIf tm sm vm) := fun G g o a e => by
  unfold sIf at e
  split at e
  · rename_i e1; exact ds_if (ht G g _ a e1) (fun _ => h G g _ a e) (fun z => by cases z)
  · rename_i e1; exact ds_if (ht G g _ a e1) (fun z => by cases z) (fun _ => h' G g _ a e)
  · cases e
theorem ss_asg (h : SE K te em) : SS K (tAsg te (gName i)) (sAsg i em) := fun G g o a e => by
  unfold sAsg at e
  split at e
  · rename_i b d e1
    split at e
    · rename_i c
      rw [Bool.and_eq_true] at c
      cases e
      exact ds_set (de_lift (h G g _ _ a e1) c.1) (by rw [a.len]; exact of_decide_eq_true c.2) (a.set (q := .v d) rfl)
    · cases e
  · cases e
theorem ss_asgR (h : SR K te rm) : SS K (tAsg te (gName i)) (sAsgR i rm) := fun G g o a e => by
  unfold sAsgR at e
  split at e
  · rename_i q e1
    split at e
    · cases e
      exact ds_asg (h G g _ a e1) (by rw [a.len]; assumption) fun b hb => a.set hb
    · cases e
  · cases e
theorem ss_exp (h : SE K te em) : SS K (tDrop te) (sExp em) := fun G g o a e => by
  unfold sExp at e
  split at e
  · rename_i e1; cases e; exact ds_expr (h.no a e1) a
  · cases e
theorem ss_ret (h : SR K te rm) : SS K (tRet te) (sRet rm) := fun G g o a e => by
  unfold sRet at e
  split at e
  · rename_i e1; cases e; exact ds_ret (h G g _ a e1) rfl
  · cases e
theorem ds_retF {G : Sl} {P : Post} (k : P.rt (.val false .none)) : DS K tRetN G P := fun c σ H D e _ k2 _ _ => k2 _ .non H k e.h0 ⟨.sh false .none, rfl, List.nodup_nil, fun _ h => (by simp [B.ows] at h), .non⟩
theorem ss_retN : SS K tRetN sRetN := fun G g o a e => by cases e; exact ds_retF rfl
theorem ss_retV : SS K (tRet (tVar i)) (sRetV i) := fun G g o a e => by
  unfold sRetV at e
  split at e
  · rename_i q e1
    cases e
    obtain ⟨b, h1, h2⟩ := a.at_ e1
    exact ds_retV h1 h2
  · cases e
theorem ss_app (h : SE K te em) : SS K (tDrop (tBM K "list" rAppend (tVar i) (tCons te tNil))) (sApp i em) := fun G g o a e => by
  unfold sApp at e
  split at e
  · rename_i b d e1
    split at e
    · rename_i ds e2
      split at e
      · rename_i c
        rw [Bool.and_eq_true] at c
        cases e
        obtain ⟨ad, hG⟩ := a.l e2
        exact ds_append hG (de_lift (h G g _ _ a e1) c.1) (of_decide_eq_true c.2) (a.set (q := .l _) rfl)
      · cases e
    · cases e
  · cases e
theorem ss_set (h : SE K te em) (h' : SE K tx ea) : SS K (tAsg te (gSub (tVar i) tx rSetA)) (sSet i em ea) := fun G g o a e => by
  unfold sSet at e
  split at e
  · rename_i b d e1
    split at e
    · rename_i c k e2
      split at e
      · rename_i ds e3
        obtain ⟨ad, hG⟩ := a.l e3
        split at e
        · split at e
          · rename_i j hj
            split at e
            · rename_i c
              cases e
              exact ds_setItemA hG (de_lift (h G g _ _ a e1) c) (h'.no a e2) hj (a.set (q := .l _) rfl)
            · cases e
          · cases e
        · cases e
      · rename_i D e3
        obtain ⟨ad, hG⟩ := a.k e3
        split at e
        · rename_i kk hk
          split at e
          · rename_i c
            rw [Bool.and_eq_true] at c
            cases e
            have hx := h'.no a e2
            rw [keyOf_kD hk] at hx
            exact ds_setItemD hG (de_lift (h G g _ _ a e1) c.1) hx (of_decide_eq_true c.2) (a.set (q := .k _) rfl)
          · cases e
        · cases e
      · cases e
    · cases e
  · cases e
theorem ss_pop (hij : j ≠ i) : SS K (tAsg (tBM0 K "list" rPop (tVar i)) (gName j)) (sPop i j) := fun G g o a e => by
  unfold sPop at e
  split at e
  · rename_i ds e1
    split at e
    · rename_i d e2
      split at e
      · cases e
        obtain ⟨ad, hG⟩ := a.l e1
        exact ds_pop hG e2 (by rw [a.len]; assumption) hij ((a.set (q := .v d) rfl).set (q := .l _) rfl)
      · cases e
    · cases e
  · cases e
/-! freezing -/
theorem of_set_sub {G : Sl} {i : Nat} {d : PyData} {n : Bool} {a : Addr} (h : OF (G.set i (some (.sh n d))) a) : OF G a := by
  obtain ⟨j, b, h1, h2⟩ := h
  rcases set_at h1 with ⟨_, q⟩ | ⟨_, q⟩
  · cases q; simp [B.ows] at h2
  · exact ⟨j, b, q, h2⟩
theorem Sits.frz {c : TB.C} {G : Sl} {σ : L2.St} {H : Hp} {b : B} (e : Sits K c G σ H) (hg : G[i]? = some (some b)) (hb : b.strip.nw = false) : Sits K c (G.set i (some (.sh false b.full))) σ H := by
  obtain ⟨v, h1, h2⟩ := e.at_ i b hg
  have hi : i < G.length := (List.getElem?_eq_some_iff.mp hg).1
  have sub : Same (vis c (OF G) (some false) H) (vis c (OF (G.set i (some (.sh false b.full)))) (some false) H) := vis_ext e.f0 e.h0 (Same.refl _) fun a _ _ p => of_set_sub p
  have see : ∀ (a : Addr) (o : HO), a ∈ b.ows → H a = some o → (∀ ob u, o ≠ .frz ob u) → vis c (OF (G.set i (some (.sh false b.full)))) (some false) H a = some o := fun a o ha ho hz => by
    show hide _ _ a = _
    rw [hide_at fun p => ?_]
    · rw [plus_new (e.fr a ⟨i, b, hg, ha⟩).1, ho]
      exact nf_N hz
    · obtain ⟨j, b', q1, q2⟩ := p
      rcases set_at q1 with ⟨_, q⟩ | ⟨hj, q⟩
      · cases q; simp [B.ows] at q2
      · exact hj (e.dj j i b' b a q hg q2 ha)
  have key : Rep K (vis c (OF (G.set i (some (.sh false b.full)))) (some false) H) v b.full := by
    cases b with
    | sh n d => cases hb; exact Rep.mono sub h2
    | own n a ds => cases hb; obtain ⟨rfl, vs, h3, h4⟩ := h2; exact .lst (.inl (.inl (see a _ (by simp [B.ows]) h3 (by intro _ _ z; cases z)))) (Reps.mono sub h4)
    | odic n a ks => cases hb; obtain ⟨rfl, vs, h3, h4⟩ := h2; exact .dic (.inl (see a _ (by simp [B.ows]) h3 (by intro _ _ z; cases z))) (RepK.mono sub h4)
    | tupo n xs =>
      cases hb
      obtain ⟨t, vs, rfl, h3, h4⟩ := h2
      refine .tup (.inl ?_) (its_full sub (fun a ha ws h => see a _ ha h (by intro _ _ z; cases z)) h4)
      have hm : ∀ a, OF (G.set i (some (.sh false (B.tupo false xs).full))) a → ∃ o, H a = some o ∧ isT o = false := fun a p => e.mu a (of_set_sub p)
      exact vis_tups e.h0 hm t _ rfl h3
    | lso n t xs =>
      cases hb
      obtain ⟨rfl, vs, h3, h4⟩ := h2
      exact .lst (.inl (.inl (see t _ (by simp [B.ows]) h3 (by intro _ _ z; cases z)))) (its_full sub (fun a ha ws h => see a _ (by simp [B.ows, ha]) h (by intro _ _ z; cases z)) h4)
  have eq : σ.set i (some v) = σ := by
    apply List.ext_getElem?
    intro k
    by_cases z : i = k
    · subst z; rw [List.getElem?_set_self (by rw [e.len]; exact hi), h1]
    · rw [List.getElem?_set_ne z]
  refine ⟨e.f0, e.h0, e.b0, fun a h => e.fr a (of_set_sub h), fun a h => e.mu a (of_set_sub h), fun j k b1 b2 a q1 q2 q3 q4 => ?_, fun j b1 q => ?_, by simp [e.len], fun j b1 q => ?_⟩
  · rcases set_at q1 with ⟨_, z⟩ | ⟨_, z⟩
    · cases z; simp [B.ows] at q3
    · rcases set_at q2 with ⟨_, z'⟩ | ⟨_, z'⟩
      · cases z'; simp [B.ows] at q4
      · exact e.dj j k b1 b2 a z z' q3 q4
  · rcases set_at q with ⟨_, z⟩ | ⟨_, z⟩
    · cases z; exact List.nodup_nil
    · exact e.nd j b1 z
  · rcases set_at q with ⟨rfl, z⟩ | ⟨_, z⟩
    · cases z; exact ⟨v, h1, key⟩
    · obtain ⟨w, h3, h4⟩ := e.at_ j b1 z
      exact ⟨w, h3, h4.mono (fun n => vis_ext e.f0 e.h0 (Same.refl _) fun a _ _ p => of_set_sub p) (Same.refl _)⟩
theorem ss_frz (h : SS K ts sm) : SS K ts (sFrz i sm) := fun G g o a e => by
  unfold sFrz frz at e
  split at e
  · rename_i q hq
    obtain ⟨b, h1, h2⟩ := a.at_ hq
    have := h (G.set i (some (.sh false b.full))) _ o (by rw [strip_full h2]; exact a.set (q := .v q.full) rfl) e
    exact fun c σ H D e' => this c σ H D (e'.frz h1 (by rw [h2, q.nw_r]))
  · exact h G g o a e
/-! ### for -/
def gNm (i : Nat) : GM := fun d g => if i < g.length then some (g.set i (some (.v d))) else none
abbrev GMs := List PyData → Stt → Option Stt
def gN0 : GMs := fun ds g => match ds with
  | [] => some g
  | _ => none
def gC (i : Nat) (r : GMs) : GMs := fun ds g => match ds with
  | d :: ds => if i < g.length then r ds (g.set i (some (.v d))) else none
  | [] => none
def gCT (x : GMs) (r : GMs) : GMs := fun ds g => match ds with
  | .tuple es :: ds => if imms ds then match x es g with
    | some g' => r ds g'
    | none => none
    else none
  | _ => none
def gTp (r : GMs) : GM := fun d g => match d with
  | .tuple ds => r ds g
  | _ => none
def SGs (K : PySem.W.Frag) (vs : List Nat) (k : Nat) (tg : TGs) (gm : GMs) : Prop := GWs tg vs ∧ ∀ G g ds g', Abs G g → gm ds g = some g' → ds.length = k ∧ DGs K tg false ds G fun G' => Abs G' g' ∧ ∀ i, i ∉ vs → G'[i]? = G[i]?
theorem sg_name {vs : List Nat} (hv : i ∈ vs) : SG K vs (gName i) (gNm i) := ⟨gw_name hv, fun G g d g' a e => by
  unfold gNm at e
  split at e
  · cases e; exact dg_name (by rw [a.len]; assumption) ⟨a.set (q := .v d) rfl, fun j hj => List.getElem?_set_ne fun (z : i = j) => hj (z ▸ hv)⟩
  · cases e⟩
theorem sgs_nil {vs : List Nat} : SGs K vs 0 gNil gN0 := ⟨gws_nil, fun G g ds g' a e => by
  unfold gN0 at e
  split at e
  · cases e; exact ⟨rfl, dgs_nil ⟨a, fun _ _ => rfl⟩⟩
  · cases e⟩
theorem dgs_imp {tg : TGs} {ds : List PyData} {G : Sl} {N N' : Sl → Prop} (h : DGs K tg false ds G N) (k : ∀ G', N G' → N' G') : DGs K tg false ds G N' := fun c σ H vs Q e r q => h c σ H vs Q e r fun G' σ' p => q G' σ' (k G' p)
theorem sgs_cons {vs : List Nat} {k : Nat} {tg : TGs} {gm : GMs} (hv : i ∈ vs) (h : SGs K vs k tg gm) : SGs K vs (k + 1) (gCons (gName i) tg) (gC i gm) := ⟨gws_cons (gw_name hv) h.1, fun G g ds g' a e => by
  unfold gC at e
  split at e
  · rename_i d ds
    split at e
    · obtain ⟨h1, h2⟩ := h.2 _ _ _ _ (a.set (i := i) (b := .sh false d) (q := .v d) rfl) e
      refine ⟨by rw [List.length_cons, h1], dgs_name (by rw [a.len]; assumption) (dgs_imp h2 fun G' p => ⟨p.1, fun j hj => ?_⟩)⟩
      rw [p.2 j hj]
      exact List.getElem?_set_ne fun (z : i = j) => hj (z ▸ hv)
    · cases e
  · cases e⟩
theorem abs_any (g : Stt) : ∃ G', Abs G' g := ⟨g.map (Option.map fun q => match q with
  | .v d => .sh false d
  | .l ds => .own false 0 ds
  | .k D => .odic false 0 (kk D)
  | .t xs => .tupo false (xs.map fun x => match x with
    | .inl d => .inl d
    | .inr ds => .inr (0, ds))
  | .ll xs => .lso false 0 (xs.map fun x => match x with
    | .inl d => .inl d
    | .inr ds => .inr (0, ds))), by
      unfold Abs
      rw [List.map_map]
      refine List.map_congr_left fun x _ => ?_
      cases x with
      | none => rfl
      | some q =>
        cases q with
        | t xs =>
          simp only [Function.comp, Option.map, B.strip, Q.r, List.map_map]
          congr 2
          refine (List.map_congr_left fun x _ => ?_).trans (List.map_id xs)
          cases x <;> rfl
        | ll xs =>
          simp only [Function.comp, Option.map, B.strip, Q.r, List.map_map]
          congr 2
          refine (List.map_congr_left fun x _ => ?_).trans (List.map_id xs)
          cases x <;> rfl
        | _ => rfl⟩
theorem sgs_tup {vs : List Nat} {k j : Nat} {tg th : TGs} {gm hm : GMs} (h : SGs K vs j th hm) (h' : SGs K vs k tg gm) : SGs K vs (k + 1) (gCons (gTup K j th) tg) (gCT hm gm) := ⟨gws_cons (gw_tup h.1) h'.1, fun G g ds g' a e => by
  unfold gCT at e
  split at e
  · rename_i es ds
    split at e
    · rename_i hi
      split at e
      · rename_i g1 e1
        obtain ⟨h1, h2⟩ := h.2 _ _ _ _ a e1
        refine ⟨?_, dgs_tup h1 (fun c σ H vs Q s r q => h2 c σ H vs Q s r fun G' σ' p s' => q G' σ' (dgs_imp (h'.2 _ _ _ _ p.1 e).2 fun G2 p2 => ⟨p2.1, fun j hj => by rw [p2.2 j hj, p.2 j hj]⟩) s') hi⟩
        obtain ⟨G', hG'⟩ := abs_any g1
        rw [List.length_cons, (h'.2 _ _ _ _ hG' e).1]
      · cases e
    · cases e
  · cases e⟩
theorem sg_tup {vs : List Nat} {k : Nat} {tg : TGs} {gm : GMs} (h : SGs K vs k tg gm) : SG K vs (gTup K k tg) (gTp gm) := ⟨gw_tup h.1, fun G g d g' a e => by
  unfold gTp at e
  split at e
  · obtain ⟨h1, h2⟩ := h.2 _ _ _ _ a e
    exact dg_tup h1 h2
  · cases e⟩
def forRun (gm : GM) (s : SM) : List PyData → Stt → Option Oc
  | [], g => some (.nx g)
  | d :: ds, g => match gm d g with
    | some g1 => match s g1 with
      | some (.nx g2) => forRun gm s ds g2
      | some (.ct g2) => forRun gm s ds g2
      | some (.bk g2) => some (.nx g2)
      | some (.rt q) => some (.rt q)
      | none => none
    | none => none
def sFor (im : IM) (gm : GM) (s : SM) : SM := fun g => match im g with
  | some ds => forRun gm s ds g
  | none => none
theorem ss_for (hi : SI K wi im) {vs : List Nat} (hg : SG K vs tg gm) (h : SS K ts sm) : SS K (tFor wi tg ts) (sFor im gm sm) := fun G g o a e => by
  unfold sFor at e
  split at e
  · rename_i ds e1
    refine ds_for (hi G g _ a e1) (fun k G' => ∃ g', Abs G' g' ∧ forRun gm sm (ds.drop k) g' = some o) ⟨g, a, e⟩ (fun k d Gk hd ⟨g', a', e'⟩ => ?_) (fun Gn ⟨g', a', e'⟩ => ?_)
    · have hk : k < ds.length := (List.getElem?_eq_some_iff.mp hd).1
      rw [List.drop_eq_getElem_cons hk, show ds[k] = d from (List.getElem?_eq_some_iff.mp hd).2] at e'
      unfold forRun at e'
      split at e'
      · rename_i g1 e2
        intro c σ H v Q s r q
        refine hg.2 Gk g' d g1 a' e2 c σ H v Q s r fun G2 σ2 p s2 => q G2 σ2 ?_ s2
        have p := p.1
        split at e'
        · rename_i g2 e3
          exact (h G2 g1 _ p e3).imp (fun G3 p3 => ⟨g2, p3, e'⟩) (fun _ p => p.elim) (fun _ p => p.elim) (fun _ p => p.elim)
        · rename_i g2 e3
          exact (h G2 g1 _ p e3).imp (fun _ p => p.elim) (fun _ p => p.elim) (fun _ p => p.elim) (fun G3 p3 => ⟨g2, p3, e'⟩)
        · rename_i g2 e3
          cases e'
          exact (h G2 g1 _ p e3).imp (fun _ p => p.elim) (fun _ p => p.elim) (fun G3 p3 => p3) (fun _ p => p.elim)
        · rename_i q e3
          cases e'
          exact (h G2 g1 _ p e3).imp (fun _ p => p.elim) (fun _ p => p) (fun G3 p3 => p3.elim) (fun _ p => p.elim)
        · cases e'
      · cases e'
    · rw [List.drop_eq_nil_of_le (Nat.le_refl _)] at e'
      cases e'
      exact a'
  · cases e
/-! ### while -/
def itW (tm : TM) (s : SM) : Nat → Stt → Option Oc
  | 0, _ => none
  | n + 1, g => match tm g with
    | some true => match s g with
      | some (.nx g2) => itW tm s n g2
      | some (.ct g2) => itW tm s n g2
      | some (.bk g2) => some (.nx g2)
      | some (.rt q) => some (.rt q)
      | none => none
    | some false => some (.nx g)
    | none => none
open Classical in
noncomputable def sWhile (tm : TM) (s : SM) : SM := fun g => if h : ∃ n, (itW tm s n g).isSome then itW tm s (Classical.choose h) g else none
theorem itW_up {s : SM} : ∀ {n m : Nat} {g : Stt} {o : Oc}, n ≤ m → itW tm s n g = some o → itW tm s m g = some o
  | 0, m, g, o, _, e => by cases e
  | n + 1, 0, g, o, h, e => by omega
  | n + 1, m + 1, g, o, h, e => by
    unfold itW at e ⊢
    cases e1 : tm g with
    | none => rw [e1] at e; cases e
    | some b =>
      rw [e1] at e
      cases b with
      | false => exact e
      | true =>
        cases e2 : s g with
        | none => simp only [e2] at e; cases e
        | some x =>
          simp only [e2] at e ⊢
          cases x with
          | nx g2 => exact itW_up (by omega) e
          | ct g2 => exact itW_up (by omega) e
          | bk g2 => exact e
          | rt q => exact e
theorem sWhile_by {s : SM} {n : Nat} {g : Stt} {o : Oc} (h : itW tm s n g = some o) : sWhile tm s g = some o := by
  have hx : ∃ n, (itW tm s n g).isSome := ⟨n, by rw [h]; rfl⟩
  unfold sWhile
  rw [dif_pos hx]
  have hy := Classical.choose_spec hx
  obtain ⟨o', ho'⟩ := Option.isSome_iff_exists.mp hy
  rw [ho']
  rcases Nat.le_total n (Classical.choose hx) with z | z
  · rw [itW_up z h] at ho'; exact ho'.symm
  · rw [itW_up z ho'] at h; exact h
theorem ss_while (ht : ST K tt tm) (h : SS K ts sm) : SS K (tWhile tt ts) (sWhile tm sm) := fun G g o a e => by
  unfold sWhile at e
  split at e
  · generalize hn : Classical.choose _ = n at e
    clear hn
    refine ds_while (fun m G' => ∃ g', Abs G' g' ∧ itW tm sm m g' = some o) n ⟨g, a, e⟩ fun m Gk ⟨g', a', e'⟩ => ?_
    cases m with
    | zero => cases e'
    | succ m =>
      unfold itW at e'
      split at e'
      · rename_i e1
        refine ⟨true, ht Gk g' _ a' e1, fun _ => ?_, fun z => by cases z⟩
        split at e'
        · rename_i g2 e3
          exact (h Gk g' _ a' e3).imp (fun G3 p3 => ⟨m, Nat.lt_succ_self _, g2, p3, e'⟩) (fun _ p => p.elim) (fun _ p => p.elim) (fun _ p => p.elim)
        · rename_i g2 e3
          exact (h Gk g' _ a' e3).imp (fun _ p => p.elim) (fun _ p => p.elim) (fun _ p => p.elim) (fun G3 p3 => ⟨m, Nat.lt_succ_self _, g2, p3, e'⟩)
        · rename_i g2 e3
          cases e'
          exact (h Gk g' _ a' e3).imp (fun _ p => p.elim) (fun _ p => p.elim) (fun G3 p3 => p3) (fun _ p => p.elim)
        · rename_i q e3
          cases e'
          exact (h Gk g' _ a' e3).imp (fun _ p => p.elim) (fun _ p => p) (fun G3 p3 => p3.elim) (fun _ p => p.elim)
        · cases e'
      · rename_i e1
        cases e'
        exact ⟨false, ht Gk g' _ a' e1, (fun z => nomatch z), fun _ => a'⟩
      · cases e'
  · cases e
end
end TB

/-! TB mirror, 3: comprehensions, what is walked, builtins, defs. -/
namespace TB
open PySem PySem.Spec PyProof.Rows L2
section
variable {K : PySem.W.Frag} {te ta tb tx tc : TE} {tt tu : TT} {ts tv : TS} {t : TA} {ea eb ec em : EM} {am : AM} {tm um : TM} {sm vm : SM} {rm : RM} {im : IM} {gm : GM} {wi : TI} {tg : TG} {i j : Nat}
/-! ### what is walked -/
theorem di_wk {G : Sl} {ds : List PyData} (h : DI K true wi G ds) : DI K false wi G ds := fun c σ H e R k => h c σ H e R fun J H' s S => k J H' s ⟨S.goes, S.stops, fun i H1 x H2 d hd s2 y => by
  obtain ⟨h1, h2⟩ := S.yields i H1 x H2 d hd s2 y
  exact ⟨h1, fun G σ c' z1 z2 z3 e => Rep.mono (vis_le false) (h2 G σ c' z1 z2 z3 e)⟩⟩
/-- a list or tuple that stands still -/
def iSq (e : EM) : IM := fun g => match e g with
  | some (b, .list ds) => if b then some ds else none
  | some (b, .tuple ds) => if b || imm (.tuple ds) then some ds else none
  | _ => none
theorem si_seq (h : SE K te em) : SI K (iSeq K te) (iSq em) := fun G g ds a e => by
  unfold iSq at e
  split at e
  · rename_i b ds' e1
    split at e
    · rename_i c
      cases e
      subst c
      exact di_listS (h G g _ _ a e1)
    · cases e
  · rename_i b ds' e1
    split at e
    · cases e; exact di_tupS (de_lift (h G g _ _ a e1) (by assumption))
    · cases e
  · cases e
def rgs (lo : Int) (k : Nat) : List PyData := (List.range k).map fun i : Nat => .int (lo + i)
def rg1 (k : Nat) : List PyData := (List.range k).map fun i : Nat => .int i
theorem rg1_eq (k : Nat) : rgD 0 k = rg1 k := by
  unfold rgD rg1
  refine List.map_congr_left fun i _ => ?_
  rw [Int.zero_add]
def iR1 (e : EM) : IM := fun g => match e g with
  | some (_, .int k) => if decide (-(2 ^ 62) ≤ k) && decide (k < 2 ^ 62) then some (rg1 k.toNat) else none
  | _ => none
theorem si_r1 (h : SE K te em) : SI K (iRng1 (tCons te tNil)) (iR1 em) := fun G g ds a e => by
  unfold iR1 at e
  split at e
  · rename_i k e1
    split at e
    · rename_i c
      rw [Bool.and_eq_true] at c
      cases e
      rw [← rg1_eq]
      exact di_wk (di_range1 (h.no a e1) (of_decide_eq_true c.1) (of_decide_eq_true c.2))
    · cases e
  · cases e
def iR2 (x y : EM) : IM := fun g => match x g with
  | some (_, .int lo) => match y g with
    | some (_, .int hi) => if (decide (-(2 ^ 62) ≤ lo) && decide (lo < 2 ^ 62)) && (decide (-(2 ^ 62) ≤ hi) && decide (hi < 2 ^ 62)) then some (rgs lo (hi - lo).toNat) else none
    | _ => none
  | _ => none
theorem si_r2 (h : SE K ta ea) (h' : SE K tb eb) : SI K (iRng2 (tCons ta (tCons tb tNil))) (iR2 ea eb) := fun G g ds a e => by
  unfold iR2 at e
  split at e
  · rename_i k e1
    split at e
    · rename_i k2 e2
      split at e
      · rename_i c
        rw [Bool.and_eq_true, Bool.and_eq_true, Bool.and_eq_true] at c
        cases e
        exact di_wk (di_range2 (h.no a e1) (h'.no a e2) ⟨of_decide_eq_true c.1.1, of_decide_eq_true c.1.2, of_decide_eq_true c.2.1, of_decide_eq_true c.2.2⟩)
      · cases e
    · cases e
  · cases e
def pair (a b : PyData) : PyData := .tuple [a, b]
def iZip (x y : EM) : IM := fun g => match x g with
  | some (b, .list ds) => match y g with
    | some (c, .list es) => if b && c then some (List.zipWith pair ds es) else none
    | _ => none
  | some (b, .tuple ds) => match y g with
    | some (c, .tuple es) => if (b || imm (.tuple ds)) && (c || imm (.tuple es)) then some (List.zipWith pair ds es) else none
    | _ => none
  | _ => none
theorem si_zip (h : SE K ta ea) (h' : SE K tb eb) : SI K (RZ.iZipA K (tCons ta (tCons tb tNil))) (iZip ea eb) := fun G g ds a e => by
  unfold iZip at e
  split at e
  · rename_i k e1
    split at e
    · rename_i k2 e2
      split at e
      · rename_i c
        rw [Bool.and_eq_true] at c
        obtain ⟨c1, c2⟩ := c
        subst c1 c2
        cases e
        exact di_zipL (h G g _ _ a e1) (h' G g _ _ a e2)
      · cases e
    · cases e
  · rename_i k e1
    split at e
    · rename_i k2 e2
      split at e
      · rename_i c
        rw [Bool.and_eq_true] at c
        cases e
        exact di_zipT (de_lift (h G g _ _ a e1) c.1) (de_lift (h' G g _ _ a e2) c.2)
      · cases e
    · cases e
  · cases e
def iRev (x : EM) : IM := fun g => match x g with
  | some (b, .list ds) => if b then some ds.reverse else none
  | _ => none
theorem si_rev (h : SE K ta ea) : SI K (RT.iRevA K ta) (iRev ea) := fun G g ds a e => by
  unfold iRev at e
  split at e
  · rename_i e1
    split at e
    · rename_i c
      subst c
      cases e
      exact di_revL (h G g _ _ a e1)
    · cases e
  · cases e
/-- for k, v in f(..).items() -/
def iItm (r : RM) : IM := fun g => match r g with
  | some (.k D) => some (D.map fun p => .tuple [kD p.1, p.2])
  | _ => none
theorem si_items (h : SR K te rm) : SI K (iItems (tLockNew te)) (iItm rm) := fun G g ds a e => by
  unfold iItm at e
  split at e
  · rename_i D e1
    cases e
    exact di_itemsC (h G g _ a e1)
  · cases e
/-! ### comprehensions -/
def wipeS (g : Stt) : List Nat → Stt
  | [] => g
  | v :: vs => (wipeS g vs).set v none
theorem Abs.wipe {G : Sl} {g : Stt} (a : Abs G g) : ∀ vs : List Nat, Abs (wipeG G vs) (wipeS g vs)
  | [] => a
  | v :: vs => (Abs.wipe a vs).setN
def noOw (g : Stt) (vs : List Nat) : Bool := vs.all fun i => match g[i]? with
  | some (some q) => q.isV
  | _ => true
theorem wipeG_in {G : Sl} : ∀ {vs : List Nat} {i : Nat} {b : B}, (wipeG G vs)[i]? = some (some b) → i ∉ vs
  | [], i, b, _ => by simp
  | v :: vs, i, b, h => by
    unfold wipeG at h
    rcases set_at h with ⟨_, q⟩ | ⟨hn, q⟩
    · cases q
    · have := wipeG_in q
      simp [hn, this]
theorem wipeG_out {G : Sl} : ∀ {vs : List Nat} {i : Nat}, i ∉ vs → (wipeG G vs)[i]? = G[i]?
  | [], i, _ => rfl
  | v :: vs, i, h => by
    unfold wipeG
    rw [List.getElem?_set_ne fun z => h (by simp [z])]
    exact wipeG_out fun z => h (by simp [z])
theorem noOw_of {G : Sl} {g : Stt} {vs : List Nat} (a : Abs G g) (h : noOw g vs = true) : NoOwn G vs := fun ad ⟨i, b, h1, h2⟩ => by
  refine ⟨i, b, ?_, h2⟩
  rw [wipeG_out fun hi => ?_]
  · exact h1
  · have := List.all_eq_true.mp h i hi
    obtain ⟨q, h3, h4⟩ := a.back h1
    rw [h3] at this
    cases q with
    | v d => rw [strip_v h4] at h2; simp [B.ows] at h2
    | _ => cases this
def lcRun (gm : GM) (tm : TM) (em : EM) (g : Stt) : List PyData → Option (List PyData)
  | [] => some []
  | d :: ds => match gm d g with
    | some g1 => match tm g1 with
      | some true => match em g1 with
        | some (b, x) => if b || imm x then match lcRun gm tm em g ds with
            | some xs => some (x :: xs)
            | none => none
          else none
        | none => none
      | some false => lcRun gm tm em g ds
      | none => none
    | none => none
def rLc (im : IM) (gm : GM) (tm : TM) (em : EM) (vs : List Nat) : RM := fun g => match im g with
  | some ds => if noOw g vs && decide (ds.length ≤ 100000) then match lcRun gm tm em (wipeS g vs) ds with
      | some xs => some (.l xs)
      | none => none
    else none
  | none => none
def lcP (gm : GM) (tm : TM) (g : Stt) (d : PyData) : Bool := match gm d g with
  | some g1 => (tm g1).getD false
  | none => false
def lcF (gm : GM) (em : EM) (g : Stt) (d : PyData) : PyData := match gm d g with
  | some g1 => match em g1 with
    | some (_, x) => x
    | none => .none
  | none => .none
theorem lcRun_spec {g : Stt} : ∀ {ds xs : List PyData}, lcRun gm tm em g ds = some xs → xs = (ds.filter (lcP gm tm g)).map (lcF gm em g) ∧ ∀ d ∈ ds, ∃ g1 b, gm d g = some g1 ∧ tm g1 = some b ∧ (b = true → ∃ c x, em g1 = some (c, x) ∧ (c || imm x) = true)
  | [], xs, h => by cases h; exact ⟨rfl, fun _ h => by simp at h⟩
  | d :: ds, xs, h => by
    unfold lcRun at h
    split at h
    · rename_i g1 e1
      split at h
      · rename_i e2
        split at h
        · rename_i b x e3
          split at h
          · rename_i c
            split at h
            · rename_i ys e4
              cases h
              obtain ⟨i1, i2⟩ := lcRun_spec e4
              have p : lcP gm tm g d = true := by unfold lcP; simp only [e1, e2]; rfl
              have f : lcF gm em g d = x := by unfold lcF; simp only [e1, e3]
              refine ⟨by rw [List.filter_cons_of_pos p, List.map_cons, f, i1], fun z hz => ?_⟩
              rcases List.mem_cons.mp hz with q | q
              · subst q; exact ⟨g1, true, e1, e2, fun _ => ⟨b, x, e3, c⟩⟩
              · exact i2 z q
            · cases h
          · cases h
        · cases h
      · rename_i e2
        obtain ⟨i1, i2⟩ := lcRun_spec h
        have p : lcP gm tm g d = false := by unfold lcP; simp only [e1, e2]; rfl
        refine ⟨by rw [List.filter_cons_of_neg (by rw [p]; exact Bool.false_ne_true), i1], fun z hz => ?_⟩
        rcases List.mem_cons.mp hz with q | q
        · subst q; exact ⟨g1, false, e1, e2, fun z => by cases z⟩
        · exact i2 z q
      · cases h
    · cases h
theorem sr_lc {vs : List Nat} (hi : SI K wi im) (hg : SG K vs tg gm) (ht : ST K tt tm) (he : SE K te em) : SR K (tLc wi tg tt te vs) (rLc im gm tm em vs) := fun G g q a e => by
  unfold rLc at e
  split at e
  · rename_i ds e1
    split at e
    · rename_i c
      rw [Bool.and_eq_true] at c
      split at e
      · rename_i xs e2
        cases e
        obtain ⟨h1, h2⟩ := lcRun_spec e2
        subst h1
        refine dr_new (n := false) ?_
        have hI := hi G g ds a e1
        refine dn_lc (n' := false) ds id (lcP gm tm (wipeS g vs)) (lcF gm em (wipeS g vs)) (by rw [List.map_id]; exact hI) (noOw_of a c.1) hg.1 (of_decide_eq_true c.2) fun x hx => ?_
        obtain ⟨g1, b, k1, k2, k3⟩ := h2 x hx
        intro cc σ H v Q s r q
        refine hg.2 _ _ _ _ (a.wipe vs) k1 cc σ H v Q s r fun G' σ' p s' => q G' σ' ⟨fun ad ⟨i, b, z1, z2⟩ => ⟨i, b, by rw [p.2 i (wipeG_in z1)]; exact z1, z2⟩, ?_, ?_⟩ s'
        · have : lcP gm tm (wipeS g vs) x = b := by unfold lcP; simp only [k1, k2]; rfl
          rw [this]
          exact ht _ _ _ p.1 k2
        · intro hp
          have hb : b = true := by
            have : lcP gm tm (wipeS g vs) x = b := by unfold lcP; simp only [k1, k2]; rfl
            rw [← this]; exact hp
          obtain ⟨cx, y, k4, k5⟩ := k3 hb
          have : lcF gm em (wipeS g vs) x = y := by unfold lcF; simp only [k1, k4]
          rw [this]
          exact de_lift (he _ _ _ _ p.1 k4) k5
      · cases e
    · cases e
  · cases e
/-! ### builtins -/
def Op1 (K : PySem.W.Frag) (r : List V → Hp → VK → Prop) (f : PyData → Option PyData) : Prop := ∀ (G : Sl) (x z : PyData) (te : TE), f x = some z → DE K none te G x → DE K (some false) (tCB r (tCons te tNil)) G z
def eB1 (f : PyData → Option PyData) (x : EM) : EM := fun g => match x g with
  | some (_, d) => match f d with
    | some z => some (true, z)
    | none => none
  | none => none
theorem se_b1 {r : List V → Hp → VK → Prop} {f : PyData → Option PyData} (hf : Op1 K r f) (h : SE K te em) : SE K (tCB r (tCons te tNil)) (eB1 f em) := fun G g b d a e => by
  unfold eB1 at e
  split at e
  · rename_i e1
    split at e
    · rename_i z hz
      cases e
      exact hf G _ _ _ hz (h.no a e1)
    · cases e
  · cases e
def pLen : PyData → Option PyData
  | .list ds => some (.int (ds.length : Nat))
  | .tuple ds => some (.int (ds.length : Nat))
  | .str s => if s.length ≤ 100000 then some (.int (s.length : Nat)) else none
  | .dict ks => match unkk ks with
    | some D => some (.int (D.length : Nat))
    | none => none
  | _ => none
theorem de_lenD {G : Sl} {D : KD} (h : DE K none te G (.dict (kk D))) : DE K (some false) (tCB (rLen K) (tCons te tNil)) G (.int (D.length : Nat)) := de_cb0 (ds := [.dict (kk D)]) (fun P H vs Q s r q => by
  obtain ⟨v, rfl, r1⟩ := reps1 r
  clear r
  generalize hz : PyData.dict (kk D) = z at r1
  cases r1 <;> first | (cases hz; done) | exact (kk_ex hz).elim | skip
  rename_i a kvs kds h1 r2
  cases hz
  refine .inr ⟨a, kvs, rfl, Rd.same s h1, ?_⟩
  rw [(repk_kk r2).1]
  exact q _ H (Same.refl H) (.int _)) rfl (da_cons h da_nil)
theorem o_len : Op1 K (rLen K) pLen := fun G x z te e h => by
  unfold pLen at e
  split at e
  · cases e; exact de_lenL h
  · cases e; exact de_lenT h
  · split at e
    · cases e; exact de_lenS h (by assumption)
    · cases e
  · split at e
    · rename_i hD; cases e; rw [unkk_of hD] at h; exact de_lenD h
    · cases e
  · cases e
def asInts : List PyData → Option (List Int)
  | [] => some []
  | .int k :: ds => match asInts ds with
    | some ks => some (k :: ks)
    | none => none
  | _ => none
theorem asInts_of : ∀ {ds : List PyData} {ks : List Int}, asInts ds = some ks → ds = ks.map .int
  | [], ks, h => by cases h; rfl
  | d :: ds, ks, h => by
    cases d <;> first | (cases h; done) | skip
    unfold asInts at h
    split at h
    · rename_i e; cases h; rw [List.map_cons, asInts_of e]
    · cases h
theorem asInts_map : ∀ ks : List Int, asInts (ks.map .int) = some ks
  | [] => rfl
  | k :: ks => by rw [List.map_cons, asInts, asInts_map ks]
def pSum : PyData → Option PyData
  | .list ds => match asInts ds with
    | some ks => some (.int ks.sum)
    | none => none
  | .tuple ds => match asInts ds with
    | some ks => some (.int ks.sum)
    | none => none
  | _ => none
def pMin : PyData → Option PyData
  | .list ds => match asInts ds with
    | some ks => if 0 < ks.length then some (.int (minL ks)) else none
    | none => none
  | .tuple ds => match asInts ds with
    | some ks => if 0 < ks.length then some (.int (minL ks)) else none
    | none => none
  | _ => none
def pMax : PyData → Option PyData
  | .list ds => match asInts ds with
    | some ks => if 0 < ks.length then some (.int (maxL ks)) else none
    | none => none
  | .tuple ds => match asInts ds with
    | some ks => if 0 < ks.length then some (.int (maxL ks)) else none
    | none => none
  | _ => none
theorem o_sum : Op1 K (rSumA K) pSum := fun G x z te e h => by
  unfold pSum at e
  split at e <;> (try split at e) <;> first | (cases e; done) | skip
  · rename_i hk; cases e; rw [asInts_of hk] at h; exact de_sumL h
  · rename_i hk; cases e; rw [asInts_of hk] at h; exact de_sumT h
theorem o_min : Op1 K (rMinA K) pMin := fun G x z te e h => by
  unfold pMin at e
  split at e <;> (try split at e) <;> (try split at e) <;> first | (cases e; done) | skip
  · rename_i hk _; cases e; rw [asInts_of hk] at h; exact de_minL h (by assumption)
  · rename_i hk _; cases e; rw [asInts_of hk] at h; exact de_minT h (by assumption)
theorem o_max : Op1 K (rMaxA K) pMax := fun G x z te e h => by
  unfold pMax at e
  split at e <;> (try split at e) <;> (try split at e) <;> first | (cases e; done) | skip
  · rename_i hk _; cases e; rw [asInts_of hk] at h; exact de_maxL h (by assumption)
  · rename_i hk _; cases e; rw [asInts_of hk] at h; exact de_maxT h (by assumption)
def eMax2 (x y : EM) : EM := fun g => match x g with
  | some (_, .int a) => match y g with
    | some (_, .int b) => some (true, .int (max a b))
    | _ => none
  | _ => none
theorem se_max2 (h : SE K ta ea) (h' : SE K tb eb) : SE K (tCB (rMaxA K) (tCons ta (tCons tb tNil))) (eMax2 ea eb) := fun G g b d a e => by
  unfold eMax2 at e
  split at e
  · rename_i e1
    split at e
    · rename_i e2; cases e; exact de_max2 (h.no a e1) (h'.no a e2)
    · cases e
  · cases e
def pInt : PyData → Option PyData
  | .int a => some (.int a)
  | .bool a => some (.int (if a then 1 else 0))
  | _ => none
theorem o_int : Op1 K rInt1 pInt := fun G x z te e h => by
  unfold pInt at e
  split at e
  · cases e; exact de_intI h
  · cases e; exact de_intB h
  · cases e
def isiD (d : PyData) (T : String) : Option Bool := if exK d then none else kitB (tyD d) T
theorem isiD_of {d : PyData} {T : String} {b : Bool} (h : isiD d T = some b) : exK d = false ∧ kitB (tyD d) T = some b := by
  unfold isiD at h
  split at h
  · cases h
  · exact ⟨by simpa using ‹¬ exK d = true›, h⟩
def eIsi (T : String) (x : EM) : EM := fun g => match x g with
  | some (_, d) => match isiD d T with
    | some b => some (true, .bool b)
    | none => none
  | none => none
theorem se_isi {T : String} (h : SE K te em) : SE K (tCB (rIsiA K) (tCons te (tCons (tC (.ty T)) tNil))) (eIsi T em) := fun G g b d a e => by
  unfold eIsi at e
  split at e
  · rename_i e1
    split at e
    · rename_i hz; cases e; exact de_isiA (h.no a e1) (isiD_of hz).2 (isiD_of hz).1
    · cases e
  · cases e
def rListO (x : EM) : RM := fun g => match x g with
  | some (b, .list ds) => if b || imms ds then some (.l ds) else none
  | some (b, .tuple ds) => if b || imms ds then some (.l ds) else none
  | _ => none
theorem dn_list' {G : Sl} {ds : List PyData} {b : Bool} (h : DE K (md b) te G (.list ds)) (k : (b || imms ds) = true) : DN K false (tCB (rListOf K) (tCons te tNil)) G ds := by
  cases b
  · have k : imms ds = true := by simpa using k
    intro c σ H e Q q
    refine h c σ H e _ fun v H1 s r => ?_
    have e1 := e.ext s
    generalize hz : PyData.list ds = z at r
    cases r <;> first | (cases hz; done) | exact (kk_ex hz).elim | skip
    rename_i a xs ds' h1 r
    cases hz
    refine ⟨a, xs, rfl, .inl (rd_lst e1.vsame h1), fun p hp => q p xs _ (non_of s hp) (s.trans (same_new hp)) upd_same ?_⟩
    refine Reps.imm (fun x ys ht hx => ?_) r k
    have hx : H1 x = some ys := hx
    have hne : x ≠ p := ne_of_none hx hp
    rw [hide_at (O := fun b => b = p) hne]
    have e2 := e1.ext (same_new (o := .lst xs) hp)
    exact vis_tups e2.h0 e2.mu x ys ht (by rw [upd_ne hne]; exact hx)
  · exact dn_list h
theorem dn_listT' {G : Sl} {ds : List PyData} {b : Bool} (h : DE K (md b) te G (.tuple ds)) (k : (b || imms ds) = true) : DN K false (tCB (rListOf K) (tCons te tNil)) G ds := by
  cases b
  · exact dn_listT (de_imm h (by simpa [imm] using k))
  · exact dn_listT h
theorem sr_listO (h : SE K te em) : SR K (tCB (rListOf K) (tCons te tNil)) (rListO em) := fun G g q a e => by
  unfold rListO at e
  split at e
  · rename_i b ds e1
    split at e
    · cases e; exact dr_new (dn_list' (h G g _ _ a e1) (by assumption))
    · cases e
  · rename_i b ds e1
    split at e
    · cases e; exact dr_new (dn_listT' (h G g _ _ a e1) (by assumption))
    · cases e
  · cases e
def eTupO (x : EM) : EM := fun g => match x g with
  | some (b, .list ds) => some (b || imms ds, .tuple ds)
  | _ => none
theorem se_tupO (h : SE K te em) : SE K (tCB (rTupOf K) (tCons te tNil)) (eTupO em) := fun G g b d a e => by
  unfold eTupO at e
  split at e
  · rename_i e1; cases e; exact de_orI (de_tupL (h G g _ _ a e1))
  · cases e
def rLRg (x : EM) : RM := fun g => match x g with
  | some (_, .int k) => if decide (0 ≤ k) && decide (k ≤ 100000) then some (.l (rg1 k.toNat)) else none
  | _ => none
theorem sr_lrg (h : SE K te em) : SR K (tLstRg (tRg1 te)) (rLRg em) := fun G g q a e => by
  unfold rLRg at e
  split at e
  · rename_i e1
    split at e
    · rename_i c
      rw [Bool.and_eq_true] at c
      have c1 := of_decide_eq_true c.1
      have c2 := of_decide_eq_true c.2
      cases e; exact dr_new (dn_listRg (h.no a e1) (by omega) (by omega))
    · cases e
  · cases e
/-! ### defs -/
def entM (N : Nat) (ds : List PyData) : Stt := ds.map (fun d => some (Q.v d)) ++ List.replicate (N - ds.length) none
def fin : Option Oc → Option Q
  | some (.rt q) => some q
  | some (.nx _) => some (.v .none)
  | _ => none
/-- shut, so that nothing is unfolded behind it -/
noncomputable def shut (f : MF) : MF := Classical.choose (⟨f, rfl⟩ : ∃ g, g = f)
theorem shut_eq (f : MF) : shut f = f := Classical.choose_spec (⟨f, rfl⟩ : ∃ g, g = f)
noncomputable def runM (N k : Nat) (s : SM) : MF := shut fun vs => if vs.length = k then fin (s (entM N vs)) else none
theorem runM_eq {N k : Nat} {s : SM} {vs : List PyData} (h : vs.length = k) : runM N k s vs = fin (s (entM N vs)) := by unfold runM; rw [shut_eq]; exact if_pos h
theorem abs_ent (N : List Str) (ds : List PyData) : Abs (ent N ds) (entM N.length ds) := by
  unfold Abs ent entM
  rw [List.map_append, List.map_append, List.map_map, List.map_map, List.map_replicate, List.map_replicate]
  rfl
theorem spM_len {f : MF} {k : Nat} (hk : ∀ vs, (f vs).isSome = true → vs.length = k) : ∀ vs H Q E, spM K f vs H Q E → vs.length = k := fun vs H Q E ⟨P, i, _, h, hp, _⟩ => by
  rw [h.length]; exact hk i hp
theorem runM_len {N k : Nat} {s : SM} : ∀ vs, (runM N k s vs).isSome = true → vs.length = k := fun vs h => by
  unfold runM at h
  rw [shut_eq] at h
  by_cases e : vs.length = k
  · exact e
  · rw [if_neg e] at h; cases h
theorem raw_M {N : List Str} {k : Nat} (h : SS K ts sm) : ∀ vs H Q E, spM K (runM N.length k sm) vs H Q E → ts { nx := fun _ H' => Q .non H', rt := Q } (L2.start N vs) H := fun vs H Q E ⟨F, ds, hF, hv, hp, kq⟩ => by
  have hp : (runM N.length k sm ds).isSome = true := hp
  obtain ⟨q, hq⟩ := Option.isSome_iff_exists.mp hp
  have hl := runM_len ds hp
  have hq' := hq
  rw [runM_eq hl] at hq'
  cases e : sm (entM N.length ds) with
  | none => rw [e] at hq'; cases hq'
  | some o =>
    have hd := h _ _ _ (abs_ent N ds) e
    refine hd ⟨H, F, H⟩ _ H _ (ent_sits hF hv) (fun G' σ' H' p e' => ?_) (fun r v H' p s hr => ?_) (fun G' σ' H' p e' => ?_) (fun G' σ' H' p e' => ?_)
    · cases o with
      | nx g => rw [e] at hq'; cases hq'; exact kq _ .non H' ⟨_, hq, rfl⟩ e'.h0 ⟨.sh false .none, rfl, List.nodup_nil, fun _ h => (by simp [B.ows] at h), .non⟩
      | _ => exact p.elim
    · cases o with
      | rt q' => rw [e] at hq'; cases hq'; exact kq r v H' ⟨_, hq, p⟩ s hr
      | _ => exact p.elim
    · cases o with
      | bk g => rw [e] at hq'; cases hq'
      | _ => exact p.elim
    · cases o with
      | ct g => rw [e] at hq'; cases hq'
      | _ => exact p.elim
theorem spOk_M {f : MF} {dv : List V} : SpOk K (spM K f) dv f := fun _ _ _ _ h => h
open Classical in
noncomputable def mOf {ι : Type} (args : ι → List PyData) (pre : ι → Prop) (res : ι → Q) : MF := fun vs => if h : ∃ i, args i = vs ∧ pre i then some (res (Classical.choose h)) else none
theorem mOf_eq {ι : Type} {args : ι → List PyData} {pre : ι → Prop} {res : ι → Q} (inj : ∀ i j, args i = args j → pre i → pre j → res i = res j) {i : ι} (hp : pre i) : mOf args pre res (args i) = some (res i) := by
  have h : ∃ j, args j = args i ∧ pre j := ⟨i, rfl, hp⟩
  unfold mOf
  rw [dif_pos h]
  have := Classical.choose_spec h
  rw [inj _ i this.1 this.2 hp]
theorem spOk_of {ι : Type} {args : ι → List PyData} {pre : ι → Prop} {rr : ι → R → Prop} {res : ι → Q} {dv : List V} (hr : ∀ i r, pre i → rr i r → r.wk = (res i).r) : SpOk K (spD K args pre rr) dv (mOf args pre res) := fun vs H Qv E ⟨P, ds, hP, hv, hp, kq⟩ => by
  have hp : (mOf args pre res ds).isSome = true := hp
  unfold mOf at hp
  split at hp
  · rename_i h
    have hc := Classical.choose_spec h
    refine ⟨P, Classical.choose h, hP, (by rw [hc.1]; exact hv), hc.2, fun r v H' h1 s h2 => kq r.wk v H' ⟨res (Classical.choose h), ?_, hr _ r hc.2 h1⟩ s (retR_wk h2)⟩
    show mOf args pre res ds = _
    unfold mOf; rw [dif_pos h]
  · cases hp
end
end TB

/-! TB mirror, 4: in, dicts, results by + and slices, targets, methods. -/
namespace TB
open PySem PySem.Spec PyProof.Rows L2
section
variable {K : PySem.W.Frag} {te ta tb tx tc : TE} {tt tu : TT} {ts tv : TS} {t : TA} {ea eb ec em : EM} {am : AM} {tm um : TM} {sm vm : SM} {rm : RM} {im : IM} {gm : GM} {wi : TI} {tg : TG} {i j : Nat}
def sNever : SM := fun _ => none
theorem ss_never : SS K ts sNever := fun G g o a e => by cases e
/-! ### in -/
def pIn : PyData → PyData → Option PyData
  | x, .list ds => if SeqAt.shaped x && SeqAt.shaped (.list ds) then some (.bool (ds.any fun z => PyData.eqv z x)) else none
  | x, .dict ks => match unkk ks with
    | some D => match keyOf x with
      | some k => some (.bool (valD D k).isSome)
      | none => none
    | none => none
  | _, _ => none
theorem dget_of {H : Hp} {a : Addr} {kvs : List (Key × V)} {D : KD} {k : Key} (h : Rd H a (.dK kvs)) (r : RepK K H kvs (kk D)) : ∃ o, DGet H a (kV k) o ∧ o.isSome = (valD D k).isSome := ⟨valV kvs k, .inl ⟨kvs, k, h, rfl, rfl⟩, repk_opt r k⟩
theorem de_inD {neg : Bool} {G : Sl} {m : Md} {D : KD} {k : Key} {r : R2} (hr : ∀ x y H Q, rInDict neg x y H Q → r x y H Q) (h1 : DE K none ta G (kD k)) (h2 : DE K none tb G (.dict (kk D))) : DE K m (tOp r ta tb) G (.bool (if neg then !(valD D k).isSome else (valD D k).isSome)) := de_imm (fun c' σ H e Q q => h1 c' σ H e _ fun v H1 s1 r1 => h2 c' σ H1 (e.ext s1) _ fun u H2 s2 r2 => by
  have := rep_key (Rep.mono s2 r1)
  subst this
  generalize hz : PyData.dict (kk D) = z at r2
  cases r2 <;> first | (cases hz; done) | exact (kk_ex hz).elim | skip
  rename_i a kvs kds h3 r4
  cases hz
  obtain ⟨o, g1, g2⟩ := dget_of (k := k) h3 r4
  refine hr _ _ _ _ ⟨a, o, rfl, g1, ?_⟩
  rw [g2]
  exact q _ H2 (s1.trans s2) (.bl _)) rfl
def pNotIn : PyData → PyData → Option PyData
  | x, .list ds => if SeqAt.shaped x && SeqAt.shaped (.list ds) then some (.bool (!ds.any fun z => PyData.eqv z x)) else none
  | x, .dict ks => match unkk ks with
    | some D => match keyOf x with
      | some k => some (.bool (!(valD D k).isSome))
      | none => none
    | none => none
  | _, _ => none
theorem shaped_lay {x : PyData} (h : SeqAt.shaped x = true) : x.canLay0 = true := by
  unfold SeqAt.shaped at h
  rw [Bool.and_eq_true] at h
  exact h.1
theorem o_in : Op0 K (rInA K) pIn := fun G x y z ta tb e h1 h2 => by
  cases y <;> first | (cases e; done) | skip
  rotate_left
  · rename_i ks
    unfold pIn at e
    simp only at e
    split at e
    · rename_i D hD
      split at e
      · rename_i k hk
        cases e
        rw [keyOf_kD hk] at h1
        rw [unkk_of hD] at h2
        have := de_inD (neg := false) (m := some false) (r := rInA K) (fun _ _ _ _ q => .inr (.inl q)) h1 h2
        simpa using this
      · cases e
    · cases e
  rename_i ds
  replace e : (if SeqAt.shaped x && SeqAt.shaped (.list ds) then some (PyData.bool (ds.any fun z => PyData.eqv z x)) else none) = some z := e
  split at e
  · rename_i c
    rw [Bool.and_eq_true] at c
    cases e
    refine de_imm (fun c' σ H e Q q => h1 c' σ H e _ fun v H1 s1 r1 => h2 c' σ H1 (e.ext s1) _ fun u H2 s2 r2 => ?_) rfl
    exact .inl (.inl ⟨x, ds, (Rep.mono s2 r1).dp (shaped_lay c.1), r2.dp (shaped_lay c.2), c.1, c.2, q _ H2 (s1.trans s2) (.bl _)⟩)
  · cases e
theorem o_notIn : Op0 K (rNotInA K) pNotIn := fun G x y z ta tb e h1 h2 => by
  cases y <;> first | (cases e; done) | skip
  rotate_left
  · rename_i ks
    unfold pNotIn at e
    simp only at e
    split at e
    · rename_i D hD
      split at e
      · rename_i k hk
        cases e
        rw [keyOf_kD hk] at h1
        rw [unkk_of hD] at h2
        have := de_inD (neg := true) (m := some false) (r := rNotInA K) (fun _ _ _ _ q => .inr (.inl q)) h1 h2
        simpa using this
      · cases e
    · cases e
  rename_i ds
  replace e : (if SeqAt.shaped x && SeqAt.shaped (.list ds) then some (PyData.bool (!ds.any fun z => PyData.eqv z x)) else none) = some z := e
  split at e
  · rename_i c
    rw [Bool.and_eq_true] at c
    cases e
    refine de_imm (fun c' σ H e Q q => h1 c' σ H e _ fun v H1 s1 r1 => h2 c' σ H1 (e.ext s1) _ fun u H2 s2 r2 => ?_) rfl
    exact .inl (.inl ⟨x, ds, (Rep.mono s2 r1).dp (shaped_lay c.1), r2.dp (shaped_lay c.2), c.1, c.2, q _ H2 (s1.trans s2) (.bl _)⟩)
  · cases e
/-- x in y, y a name -/
def eInV (neg : Bool) (i : Nat) (x : EM) : EM := fun g => match x g with
  | some (_, d) => match g[i]? with
    | some (some (.k D)) => match keyOf d with
      | some k => some (true, .bool (if neg then !(valD D k).isSome else (valD D k).isSome))
      | none => none
    | some (some q) => match (if neg then pNotIn d q.full else pIn d q.full) with
      | some z => some (true, z)
      | none => none
    | _ => none
  | none => none
theorem abs_full {G : Sl} {g : Stt} {q : Q} (a : Abs G g) (h : g[i]? = some (some q)) : DE K none (tVar i) G q.full := by
  obtain ⟨b, h1, h2⟩ := a.at_ h
  rw [← strip_full h2]; exact de_full h1
theorem se_inV (h : SE K ta ea) : SE K (tOp (rInA K) ta (tVar i)) (eInV false i ea) := fun G g b d a e => by
  unfold eInV at e
  split at e
  · rename_i e1
    have h1 := h.no a e1
    split at e
    · rename_i D hg
      obtain ⟨ad, hG⟩ := a.k hg
      split at e
      · rename_i k hk
        cases e
        rw [keyOf_kD hk] at h1
        exact de_inO hG h1
      · cases e
    · rename_i q hq hg
      rw [if_neg Bool.false_ne_true] at e
      split at e
      · rename_i z hz
        cases e
        exact o_in G _ _ _ _ _ hz h1 (abs_full a hg)
      · cases e
    · cases e
  · cases e
theorem se_notInV (h : SE K ta ea) : SE K (tOp (rNotInA K) ta (tVar i)) (eInV true i ea) := fun G g b d a e => by
  unfold eInV at e
  split at e
  · rename_i e1
    have h1 := h.no a e1
    split at e
    · rename_i D hg
      obtain ⟨ad, hG⟩ := a.k hg
      split at e
      · rename_i k hk
        cases e
        rw [keyOf_kD hk] at h1
        exact de_notInO hG h1
      · cases e
    · rename_i q hq hg
      rw [if_pos rfl] at e
      split at e
      · rename_i z hz
        cases e
        exact o_notIn G _ _ _ _ _ hz h1 (abs_full a hg)
      · cases e
    · cases e
  · cases e
/-! ### dicts -/
/-- d.get(k) -/
def eGet (x y : EM) : EM := fun g => match x g with
  | some (b, .dict ks) => match y g with
    | some (_, d') => match unkk ks with
      | some D => match keyOf d' with
        | some k => some (b || imm ((valD D k).getD .none), (valD D k).getD .none)
        | none => none
      | none => none
    | none => none
  | _ => none
theorem se_get (h : SE K ta ea) (h' : SE K tb eb) : SE K (tDGet1 ta tb) (eGet ea eb) := fun G g b d a e => by
  unfold eGet at e
  split at e
  · rename_i b1 ks e1
    split at e
    · rename_i d' e2
      split at e
      · rename_i D hD
        split at e
        · rename_i k hk
          cases e
          have h1 := h G g _ _ a e1
          have h2 := h'.no a e2
          rw [unkk_of hD] at h1
          rw [keyOf_kD hk] at h2
          exact de_orI (de_get1 h1 h2)
        · cases e
      · cases e
    · cases e
  · cases e
def rDi1 (x y : EM) : RM := fun g => match x g with
  | some (_, d) => match y g with
    | some (b, d') => match keyOf d with
      | some k => if b || imm d' then some (.k [(k, d')]) else none
      | none => none
    | none => none
  | none => none
theorem sr_di1 (h : SE K ta ea) (h' : SE K tb eb) : SR K (tDisp [(ta, tb)]) (rDi1 ea eb) := fun G g q a e => by
  unfold rDi1 at e
  split at e
  · rename_i e1
    split at e
    · rename_i e2
      split at e
      · rename_i k hk
        split at e
        · cases e
          have h1 := h.no a e1
          rw [keyOf_kD hk] at h1
          exact dr_disp1 h1 (de_lift (h' G g _ _ a e2) (by assumption))
        · cases e
      · cases e
    · cases e
  · cases e
/-- sorted(d.keys()) -/
def intKeys : KD → Option (List (Int × PyData))
  | [] => some []
  | (.inl k, d) :: D => match intKeys D with
    | some l => some ((k, d) :: l)
    | none => none
  | _ => none
theorem intKeys_of : ∀ {D : KD} {l : List (Int × PyData)}, intKeys D = some l → D = kI l
  | [], l, h => by cases h; rfl
  | (k, d) :: D, l, h => by
    cases k with
    | inl k =>
      unfold intKeys at h
      split at h
      · rename_i l' e; cases h; rw [intKeys_of e]; rfl
      · cases h
    | inr k => cases h
theorem intKeys_kI : ∀ l : List (Int × PyData), intKeys (kI l) = some l
  | [] => rfl
  | (k, d) :: l => by
    show intKeys ((.inl k, d) :: kI l) = _
    unfold intKeys
    rw [intKeys_kI l]
def rSoK (x : EM) : RM := fun g => match x g with
  | some (_, .dict ks) => match unkk ks with
    | some D => match intKeys D with
      | some l => if l.length < 64 then some (.l ((sortI (l.map (·.1))).map .int)) else none
      | none => none
    | none => none
  | _ => none
theorem sr_sok (h : SE K te em) : SR K (tSortedKeys te) (rSoK em) := fun G g q a e => by
  unfold rSoK at e
  split at e
  · rename_i e1
    split at e
    · rename_i D hD
      split at e
      · rename_i l hl
        split at e
        · cases e
          have h1 := h.no a e1
          rw [unkk_of hD, intKeys_of hl] at h1
          exact dr_new (dn_sortedKeys h1 (by assumption))
        · cases e
      · cases e
    · cases e
  · cases e
/-! ### results by +, by slices -/
theorem dn_of {G : Sl} {ds : List PyData} {b : Bool} (h : ∀ c σ H, Sits K c G σ H → ∀ Qc : VK, (∀ a vs H' P, H a = none → Same H H' → H' a = some (.lst vs) → Reps K P vs ds → Same P (hide (fun b => b = a) (vis c (OF G) (md b) H')) → Qc (.ref a) H') → te σ H Qc) (k : (b || imms ds) = true) : DN K false te G ds := fun c σ H e Q q =>
  h c σ H e Q fun a vs H' P ha s hl r sp => q a vs H' ha s hl (by
    cases b with
    | true => exact Reps.mono sp r
    | false =>
      have k : imms ds = true := by simpa using k
      refine Reps.imm (fun x ys ht hx => ?_) (Reps.mono sp r) k
      obtain ⟨x1, x2⟩ := hide_some hx
      have x2 : H' x = some ys := x2
      rw [hide_at (O := fun b => b = a) x1]
      exact vis_tups (e.ext s).h0 (e.ext s).mu x ys ht x2)
def rAdd (x y : EM) : RM := fun g => match x g with
  | some (b, d) => match y g with
    | some (c, d') => match d, d' with
      | .list xs, .list ys => if (b && c || imms (xs ++ ys)) && decide (xs.length + ys.length ≤ 100000) then some (.l (xs ++ ys)) else none
      | d, d' => match pAdd d d' with
        | some z => if b && c || imm z then some (.v z) else none
        | none => none
    | none => none
  | none => none
theorem dn_cat {G : Sl} {xs ys : List PyData} {b : Bool} (h1 : DE K (md b) ta G (.list xs)) (h2 : DE K (md b) tb G (.list ys)) (hl : xs.length + ys.length ≤ 100000) (k : (b || imms (xs ++ ys)) = true) : DN K false (tOp (rPlusQ K) ta tb) G (xs ++ ys) := by
  refine dn_of (b := b) (fun c σ H e Q q => h1 c σ H e _ fun v H1 s1 r1 => h2 c σ H1 (e.ext s1) _ fun u H2 s2 r2 => ?_) k
  have e1 := e.ext s1
  have e2 := e1.ext s2
  have r1 := Rep.mono (e1.vext s2) r1
  generalize hz : PyData.list xs = z at r1
  cases r1 <;> first | (cases hz; done) | exact (kk_ex hz).elim | skip
  rename_i a vs ds' q1 r1
  cases hz
  generalize hz : PyData.list ys = z at r2
  cases r2 <;> first | (cases hz; done) | exact (kk_ex hz).elim | skip
  rename_i a2 vs2 ds' q2 r2
  cases hz
  refine .inl (.inr ⟨a, a2, vs, vs2, rfl, rfl, rd_lst e2.vsame q1, rd_lst e2.vsame q2, (by rw [r1.length, r2.length]; exact Nat.le_trans hl (by decide)), fun p hp => ?_⟩)
  refine q p _ _ (vis c (OF G) (md b) H2) (non_of (s1.trans s2) hp) ((s1.trans s2).trans (same_new hp)) upd_same (r1.append r2) fun x o hx => ?_
  have hne : x ≠ p := ne_of_none (e2.vsame x o hx) hp
  rw [hide_at (O := fun b => b = p) hne]
  exact e2.vext (same_new hp) x o hx
theorem sr_add (h : SE K ta ea) (h' : SE K tb eb) : SR K (tOp (rPlusQ K) ta tb) (rAdd ea eb) := fun G g q a e => by
  unfold rAdd at e
  split at e
  · rename_i e1
    split at e
    · rename_i e2
      split at e
      · split at e
        · rename_i c
          rw [Bool.and_eq_true] at c
          cases e
          exact dr_new (dn_cat (de_and (h G g _ _ a e1)) (de_and2 (h' G g _ _ a e2)) (of_decide_eq_true c.2) c.1)
        · cases e
      · split at e
        · rename_i z hz
          split at e
          · cases e
            exact dr_de (de_lift (o_add hz (de_and (h G g _ _ a e1)) (de_and2 (h' G g _ _ a e2))) (by assumption))
          · cases e
        · cases e
    · cases e
  · cases e
def rSlc (x : EM) (l h : Stt → Option (Option Int)) : RM := fun g => match x g with
  | some (b, d) => match l g with
    | some lo => match h g with
      | some hi => match d with
        | .list ds => if b || imms (cutD ds lo hi) then some (.l (cutD ds lo hi)) else none
        | .tuple ds => if b || imm (.tuple (cutD ds lo hi)) then some (.v (.tuple (cutD ds lo hi))) else none
        | _ => none
      | none => none
    | none => none
  | none => none
theorem dn_sl {G : Sl} {tl th : TO} {lo hi : Option Int} {ds : List PyData} {b : Bool} (ha : DE K (md b) ta G (.list ds)) (hl : DO K tl G lo) (hh : DO K th G hi) (k : (b || imms (cutD ds lo hi)) = true) : DN K false (tSl (rSl K) ta tl th) G (cutD ds lo hi) := by
  refine dn_of (b := b) (fun c σ H e Q q => ha c σ H e _ fun v H1 s1 r1 => hl c σ H1 (e.ext s1) _ fun H2 s2 => hh c σ H2 ((e.ext s1).ext s2) _ fun H3 s3 => ?_) k
  have e1 := e.ext s1
  have e3 := (e1.ext s2).ext s3
  have r3 := Rep.mono ((e1.ext s2).vext s3) (Rep.mono (e1.vext s2) r1)
  generalize hz : PyData.list ds = z at r3
  cases r3 <;> first | (cases hz; done) | exact (kk_ex hz).elim | skip
  rename_i a xs ds' h1 r
  cases hz
  refine .inl ⟨a, xs, rfl, rd_lst e3.vsame h1, fun p hp => ?_⟩
  have s := (s1.trans s2).trans s3
  refine q p _ _ (vis c (OF G) (md b) H3) (non_of s hp) (s.trans (same_new hp)) upd_same (r.cut lo hi) fun x o hx => ?_
  have hne : x ≠ p := ne_of_none (e3.vsame x o hx) hp
  rw [hide_at (O := fun b => b = p) hne]
  exact e3.vext (same_new hp) x o hx
theorem sr_sl {tl th : TO} {lm hm : Stt → Option (Option Int)} (h : SE K ta ea) (hl : SO K tl lm) (hh : SO K th hm) : SR K (tSl (rSl K) ta tl th) (rSlc ea lm hm) := fun G g q a e => by
  unfold rSlc at e
  split at e
  · rename_i e1
    split at e
    · rename_i e2
      split at e
      · rename_i e3
        split at e
        · split at e
          · cases e; exact dr_new (dn_sl (h G g _ _ a e1) (hl G g _ a e2) (hh G g _ a e3) (by assumption))
          · cases e
        · split at e
          · cases e; exact dr_de (de_lift (de_slT (h G g _ _ a e1) (hl G g _ a e2) (hh G g _ a e3)) (by assumption))
          · cases e
        · cases e
      · cases e
    · cases e
  · cases e
/-! sorted, of ints -/
def rSortedA (K : PySem.W.Frag) : List V → Hp → VK → Prop := rSortedI K
theorem call_sortedA {X : Cx} : CallR X (.builtin "sorted") (rSortedA X.K) := cr_sortedI
def rSo (x : EM) : RM := fun g => match x g with
  | some (_, .list ds) => match asInts ds with
    | some ks => some (.l ((sortI ks).map .int))
    | none => none
  | _ => none
theorem sr_so (h : SE K te em) : SR K (tCB (rSortedA K) (tCons te tNil)) (rSo em) := fun G g q a e => by
  unfold rSo at e
  split at e
  · rename_i ds e1
    split at e
    · rename_i ks hk
      · cases e
        have h1 := h.no a e1
        rw [asInts_of hk] at h1
        refine dr_new (n := false) fun c σ H e Q q => h1 c σ H e _ fun v H1 s r => ?_
        have e1 := e.ext s
        generalize hz : PyData.list (ks.map .int) = z at r
        cases r <;> first | (cases hz; done) | exact (kk_ex hz).elim | skip
        rename_i ad xs ds' h3 r
        cases hz
        have := r.ints
        subst this
        refine ⟨ad, ks, rfl, rd_lst e1.vsame h3, fun ys p o1 o2 hp => ?_⟩
        have : ys = sortI ks := sorted_uniq (o1.trans (sortI_perm _).symm) o2 (sortI_rising _)
        subst this
        exact q p _ (upd H1 p (.lst _)) (non_of s hp) (s.trans (same_new hp)) upd_same (Reps.of_ints _)
    · cases e
  · cases e
/-! len(set(xs)), xs ints, no two alike -/
def eLenSet (x : EM) : EM := fun g => match x g with
  | some (_, .list ds) => match asInts ds with
    | some ks => if decide (ks.length < 64) && decide ks.Nodup then some (true, .int (ks.length : Nat)) else none
    | none => none
  | _ => none
theorem se_lenSet (h : SE K te em) : SE K (RZ.tLenSetI K te) (eLenSet em) := fun G g b d a e => by
  unfold eLenSet at e
  split at e
  · rename_i ds e1
    split at e
    · rename_i ks hk
      split at e
      · rename_i c
        rw [Bool.and_eq_true] at c
        cases e
        have h1 := h.no a e1
        rw [asInts_of hk] at h1
        refine de_imm (fun c' σ H e Q q => h1 c' σ H e _ fun v H1 s r => ?_) rfl
        have e1 := e.ext s
        generalize hz : PyData.list (ks.map .int) = z at r
        cases r <;> first | (cases hz; done) | exact (kk_ex hz).elim | skip
        rename_i ad xs ds' h3 r
        cases hz
        have := r.ints
        subst this
        exact ⟨ad, ks, rfl, rd_lst e1.vsame h3, of_decide_eq_true c.2, Nat.le_trans (Nat.le_of_lt (of_decide_eq_true c.1)) (by decide), q _ H1 s (.int _)⟩
      · cases e
    · cases e
  · cases e
/-! xs.count(k) of ints -/
def rCount (K : PySem.W.Frag) : V → List V → Hp → VK → Prop := rCntI K
theorem mt_countD {X : Cx} : MtR X "list.count" (rCount X.K) := mt_lcount
def eCount (x y : EM) : EM := fun g => match x g with
  | some (_, .list ds) => match asInts ds with
    | some ks => match y g with
      | some (_, .int k) => some (true, .int (ks.count k : Nat))
      | _ => none
    | none => none
  | _ => none
theorem se_count (h : SE K ta ea) (h' : SE K tb eb) : SE K (tBM K "list" (rCount K) ta (tCons tb tNil)) (eCount ea eb) := fun G g b d a e => by
  unfold eCount at e
  split at e
  · rename_i ds e1
    split at e
    · rename_i ks hk
      split at e
      · rename_i k e2
        cases e
        have h1 := h.no a e1
        have h2 := h'.no a e2
        rw [asInts_of hk] at h1
        refine de_imm (fun c' σ H e Q q => h1 c' σ H e _ fun v H1 s r => ?_) rfl
        have e1 := e.ext s
        generalize hz : PyData.list (ks.map .int) = z at r
        cases r <;> first | (cases hz; done) | exact (kk_ex hz).elim | skip
        rename_i ad xs ds' h3 r
        cases hz
        have := r.ints
        subst this
        refine ⟨.inl ⟨rfl, _, rd_lst e1.vsame h3⟩, h2 c' σ H1 e1 _ fun u H2 s2 r2 => ?_⟩
        cases r2
        exact ⟨ad, ks, k, rfl, rfl, SqL.same s2 (rd_lst e1.vsame h3), q _ H2 (s.trans s2) (.int _)⟩
      · cases e
    · cases e
  · cases e
/-! ### statements -/
def sClr (i : Nat) : SM := fun g => match g[i]? with
  | some (some (.l _)) => some (.nx (g.set i (some (.l []))))
  | _ => none
theorem ss_clr : SS K (tDrop (tBM0 K "list" rClear (tVar i))) (sClr i) := fun G g o a e => by
  unfold sClr at e
  split at e
  · rename_i ds e1
    cases e
    obtain ⟨ad, hG⟩ := a.l e1
    intro c σ H D e k1 _ _ _
    obtain ⟨w, h1, rfl, vs, h2, h3⟩ := e.at_ i _ hG
    refine ⟨_, h1, Or.inl ⟨rfl, vs, .inl (.inl h2)⟩, ad, vs, rfl, rfl, h2, k1 _ _ _ (a.set (q := .l []) (b := .own false ad []) rfl) (e.write hG rfl (by simp [B.ows]) rfl fun v hv => ?_)⟩
    obtain ⟨rfl, ws, h4, h5⟩ := hv
    exact ⟨rfl, _, upd_same, .nil⟩
  · cases e
def sPar (i j : Nat) (x : AM) : SM := fun g => match x g with
  | some (b, [d, d']) => if (b || imms [d, d']) && (decide (i < g.length) && decide (j < g.length)) then some (.nx ((g.set i (some (.v d))).set j (some (.v d')))) else none
  | _ => none
theorem ss_par (h : SA K t am) : SS K (tPar i j t) (sPar i j am) := fun G g o a e => by
  unfold sPar at e
  split at e
  · rename_i b d d' e1
    split at e
    · rename_i c
      rw [Bool.and_eq_true, Bool.and_eq_true] at c
      cases e
      exact ds_par (da_imms (h G g _ _ a e1) c.1) (by rw [a.len]; exact of_decide_eq_true c.2.1) (by rw [a.len]; exact of_decide_eq_true c.2.2) ((a.set (q := .v d) rfl).set (q := .v d') rfl)
    · cases e
  · cases e
def sAsT (e : EM) (gm : GM) : SM := fun g => match e g with
  | some (b, d) => if b || imm d then match gm d g with
      | some g' => some (.nx g')
      | none => none
    else none
  | none => none
theorem ss_asT {vs : List Nat} (h : SE K te em) (hg : SG K vs tg gm) : SS K (tAsg te tg) (sAsT em gm) := fun G g o a e => by
  unfold sAsT at e
  split at e
  · rename_i b d e1
    split at e
    · split at e
      · rename_i g' e2
        cases e
        refine ds_asgG (de_lift (h G g _ _ a e1) (by assumption)) fun c σ H v Q s r q => hg.2 G g d g' a e2 c σ H v Q s r fun G' σ' p => q G' σ' p.1
      · cases e
    · cases e
  · cases e
/-- j = i, i of one's own: handed over -/
def sMov (i j : Nat) : SM := fun g => match g[i]? with
  | some (some q) => if decide (i ≠ j) && decide (j < g.length) then some (.nx ((g.set i none).set j (some q))) else none
  | _ => none
theorem ss_mov : SS K (tAsg (tVar i) (gName j)) (sMov i j) := fun G g o a e => by
  unfold sMov at e
  split at e
  · rename_i q e1
    split at e
    · rename_i c
      rw [Bool.and_eq_true] at c
      have hij := of_decide_eq_true c.1
      have hj := of_decide_eq_true c.2
      cases e
      obtain ⟨b, h1, h2⟩ := a.at_ e1
      intro cc σ H D e k1 _ _ _
      obtain ⟨v, h3, h4⟩ := e.at_ i b h1
      refine ⟨v, h3, k1 ((G.set i none).set j (some b)) _ H (a.setN.set h2) ?_⟩
      have hi : i < G.length := (List.getElem?_eq_some_iff.mp h1).1
      have sub : ∀ x, OF ((G.set i none).set j (some b)) x → OF G x := fun x ⟨k, b', q1, q2⟩ => by
        rcases set_at q1 with ⟨_, z⟩ | ⟨_, z⟩
        · cases z; exact ⟨i, b, h1, q2⟩
        · rcases set_at z with ⟨_, z⟩ | ⟨_, z⟩
          · cases z
          · exact ⟨k, b', z, q2⟩
      have one : ∀ (k : Nat) (b' : B), ((G.set i none).set j (some b))[k]? = some (some b') → ∃ k', G[k']? = some (some b') ∧ (k = j → k' = i) ∧ (k ≠ j → k' = k) ∧ (k' = i → k = j) := fun k b' q1 => by
        rcases set_at q1 with ⟨z1, z⟩ | ⟨z1, z⟩
        · cases z; exact ⟨i, h1, fun _ => rfl, fun h => (h z1).elim, fun _ => z1⟩
        · rcases set_at z with ⟨_, z⟩ | ⟨z2, z⟩
          · cases z
          · exact ⟨k, z, fun h => (z1 h).elim, fun _ => rfl, fun h => (z2 h).elim⟩
      have see : ∀ {w b'}, RepB K (fun n => vis cc (OF G) (some n) H) H w b' → RepB K (fun n => vis cc (OF ((G.set i none).set j (some b))) (some n) H) H w b' := fun h => h.mono (fun n => vis_ext e.f0 e.h0 (Same.refl _) fun x _ _ p => sub x p) (Same.refl _)
      refine ⟨e.f0, e.h0, e.b0, fun x h => e.fr x (sub x h), fun x h => e.mu x (sub x h), fun k l b1 b2 x q1 q2 q3 q4 => ?_, fun k b1 q1 => ?_, by simp [e.len], fun k b1 q1 => ?_⟩
      · obtain ⟨k1, y1, y2, y3, y4⟩ := one k b1 q1
        obtain ⟨k2, w1, w2, w3, w4⟩ := one l b2 q2
        have := e.dj k1 k2 b1 b2 x y1 w1 q3 q4
        subst this
        by_cases z : k = j
        · rw [z, w4 (y2 z)]
        · by_cases z' : l = j
          · exact (z (y4 (w2 z'))).elim
          · rw [← y3 z, w3 z']
      · obtain ⟨k1, y1, _⟩ := one k b1 q1
        exact e.nd k1 b1 y1
      · rcases set_at q1 with ⟨rfl, z⟩ | ⟨z1, z⟩
        · cases z
          exact ⟨v, by rw [List.getElem?_set_self (by rw [e.len, a.len]; exact hj)], see h4⟩
        · rcases set_at z with ⟨_, z⟩ | ⟨z2, z⟩
          · cases z
          · obtain ⟨w, h5, h6⟩ := e.at_ k b1 z
            exact ⟨w, by rw [List.getElem?_set_ne (fun y => z1 y.symm)]; exact h5, see h6⟩
    · cases e
  · cases e
end
end TB

/-! TB mirror, 5: walks over dicts. -/
namespace TB
open PySem PySem.Spec PyProof.Rows L2
section
variable {K : PySem.W.Frag}
/-- alike, but for a dict's lock -/
def Eqv (o o' : HO) : Prop := o = o' ∨ (∃ kvs ob, o = .dK kvs ∧ o' = .frz ob (.dK kvs)) ∨ (∃ kvs ob, o = .frz ob (.dK kvs) ∧ o' = .dK kvs)
def SameD (P P' : Hp) : Prop := ∀ a o, P a = some o → ∃ o', P' a = some o' ∧ Eqv o o'
theorem SameD.seq {P P' : Hp} {a : Addr} {xs : List V} (e : SameD P P') (h : SqL K P a xs) : SqL K P' a xs := by
  rcases h with (h | ⟨o, h⟩) | h
  · obtain ⟨o', h1, h2⟩ := e _ _ h
    rcases h2 with rfl | ⟨_, _, z, _⟩ | ⟨_, _, z, _⟩
    · exact .inl (.inl h1)
    · cases z
    · cases z
  · obtain ⟨o', h1, h2⟩ := e _ _ h
    rcases h2 with rfl | ⟨_, _, z, _⟩ | ⟨_, _, z, _⟩
    · exact .inl (.inr ⟨_, h1⟩)
    · cases z
    · cases z
  · exact .inr h
theorem SameD.tup {P P' : Hp} {a : Addr} {xs : List V} (e : SameD P P') (h : P a = some (.tup xs)) : P' a = some (.tup xs) := by
  obtain ⟨o', h1, h2⟩ := e _ _ h
  rcases h2 with rfl | ⟨_, _, z, _⟩ | ⟨_, _, z, _⟩
  · exact h1
  · cases z
  · cases z
theorem SameD.rdT {P P' : Hp} {a : Addr} {xs : List V} (e : SameD P P') (h : Rd P a (.tup xs)) : Rd P' a (.tup xs) := by
  rcases h with h | ⟨o, h⟩
  · exact .inl (e.tup h)
  · obtain ⟨o', h1, h2⟩ := e _ _ h
    rcases h2 with rfl | ⟨_, _, z, _⟩ | ⟨_, _, z, _⟩
    · exact .inr ⟨o, h1⟩
    · cases z
    · cases z
theorem SameD.lst {P P' : Hp} {a : Addr} {xs : List V} (e : SameD P P') (h : P a = some (.lst xs)) : P' a = some (.lst xs) := by
  obtain ⟨o', h1, h2⟩ := e _ _ h
  rcases h2 with rfl | ⟨_, _, z, _⟩ | ⟨_, _, z, _⟩
  · exact h1
  · cases z
  · cases z
theorem SameD.rdK {P P' : Hp} {a : Addr} {kvs : List (Key × V)} (e : SameD P P') (h : Rd P a (.dK kvs)) : Rd P' a (.dK kvs) := by
  rcases h with h | ⟨o, h⟩
  · obtain ⟨o', h1, h2⟩ := e _ _ h
    rcases h2 with rfl | ⟨_, ob, z, rfl⟩ | ⟨_, _, z, _⟩
    · exact .inl h1
    · cases z; exact .inr ⟨_, h1⟩
    · cases z
  · obtain ⟨o', h1, h2⟩ := e _ _ h
    rcases h2 with rfl | ⟨_, _, z, _⟩ | ⟨_, _, z, rfl⟩
    · exact .inr ⟨_, h1⟩
    · cases z
    · cases z; exact .inl h1
theorem Same.toD {P P' : Hp} (e : Same P P') : SameD P P' := fun a o h => ⟨o, e a o h, .inl rfl⟩
theorem ExO.sameD {H H' : Hp} {a : Addr} {x : PyData} {vs : List V} (e : SameD H H') (h : ExO K H a x vs) : ExO K H' a x vs := by
  cases x with
  | none =>
    obtain ⟨o', h1, h2⟩ := e _ _ h
    rcases h2 with rfl | ⟨_, ob, z, rfl⟩ | ⟨_, _, z, _⟩
    · exact h1
    · cases z
    · cases z
  | str x => exact h
  | int k => exact h
  | bool b =>
    cases b with
    | false => exact h.elim
    | true =>
      obtain ⟨o, h0, h3⟩ := h
      obtain ⟨o', h1, h2⟩ := e _ _ h0
      rcases h2 with rfl | ⟨_, ob, z, rfl⟩ | ⟨_, _, z, _⟩
      · exact ⟨o, h1, h3⟩
      · cases z
      · cases z
  | list xs =>
    cases xs with
    | nil => exact h.elim
    | cons z ns =>
      cases z with
      | str c =>
        obtain ⟨C, dx, fs, h0, h3⟩ := h
        obtain ⟨o', h1, h2⟩ := e _ _ h0
        rcases h2 with rfl | ⟨_, ob, z, rfl⟩ | ⟨_, _, z, _⟩
        · exact ⟨C, dx, fs, h1, h3⟩
        · cases z
        · cases z
      | _ => exact h.elim
  | tuple xs =>
    unfold ExO at h ⊢
    split at h
    · rename_i z; cases z
    · rename_i z; cases z
    · rename_i z; cases z
    · rename_i z; cases z
    · obtain ⟨cell, code, h1, h2, h3, h4⟩ := h
      have k : ∀ {b : Addr} {φ : Heap → Prop}, H b = some (.ext φ) → H' b = some (.ext φ) := fun {b φ} q => by
        obtain ⟨o', q1, q2⟩ := e _ _ q
        rcases q2 with rfl | ⟨_, ob, z, rfl⟩ | ⟨_, _, z, _⟩
        · exact q1
        · cases z
        · cases z
      exact ⟨cell, code, h1, k h2, k h3, h4⟩
    · rename_i z; cases z
    · exact h.elim
  | _ => exact h.elim
mutual
theorem Rep.monoD {H H' : Hp} (e : SameD H H') : ∀ {v : V} {d : PyData}, Rep K H v d → Rep K H' v d
  | _, _, .non => .non
  | _, _, .bl b => .bl b
  | _, _, .int i => .int i
  | _, _, .str x => .str x
  | _, _, .lst h r => .lst (e.seq h) (Reps.monoD e r)
  | _, _, .tup h r => .tup (e.rdT h) (Reps.monoD e r)
  | _, _, .dic h r => .dic (e.rdK h) (RepK.monoD e r)
  | _, _, .ex h r => .ex (ExO.sameD e h) (Reps.monoD e r)
theorem Reps.monoD {H H' : Hp} (e : SameD H H') : ∀ {vs : List V} {ds : List PyData}, Reps K H vs ds → Reps K H' vs ds
  | _, _, .nil => .nil
  | _, _, .cons h r => .cons (Rep.monoD e h) (Reps.monoD e r)
theorem RepK.monoD {H H' : Hp} (e : SameD H H') : ∀ {kvs : List (Key × V)} {kds : List (PyData × PyData)}, RepK K H kvs kds → RepK K H' kvs kds
  | _, _, .nil => .nil
  | _, _, .cons h r => .cons (Rep.monoD e h) (RepK.monoD e r)
end
/-- all slots as the mirror has them: nothing is known to be new -/
def Old (G : Sl) : Prop := ∀ (i : Nat) (b : B), G[i]? = some (some b) → b.strip.nw = false
theorem Abs.old {G : Sl} {g : Stt} (a : Abs G g) : Old G := fun i b h => by
  obtain ⟨q, _, h2⟩ := a.back h
  rw [h2, q.nw_r]
theorem RepB.monoD {W W' : Bool → Hp} {H H' : Hp} {v : V} {b : B} (e : SameD (W false) (W' false)) (k : ∀ a ∈ b.ows, H' a = H a) (kt : ∀ a xs, H a = some (.tup xs) → H' a = some (.tup xs)) (hn : b.strip.nw = false) (h : RepB K W H v b) : RepB K W' H' v b := by
  cases b with
  | sh n d => cases hn; exact Rep.monoD e h
  | own n a ds => cases hn; obtain ⟨h1, vs, h2, h3⟩ := h; exact ⟨h1, vs, by rw [k a (by simp [B.ows])]; exact h2, Reps.monoD e h3⟩
  | odic n a ks => cases hn; obtain ⟨h1, vs, h2, h3⟩ := h; exact ⟨h1, vs, by rw [k a (by simp [B.ows])]; exact h2, RepK.monoD e h3⟩
  | tupo n xs =>
    cases hn
    obtain ⟨t, vs, h1, h2, h3⟩ := h
    refine ⟨t, vs, h1, kt _ _ h2, ?_⟩
    replace k : ∀ a ∈ itOws xs, H' a = H a := k
    clear h2
    induction h3 with
    | nil => exact .nil
    | @cons v x vs xs r _ ih =>
      refine .cons ?_ (ih fun a ha => k a ?_)
      · cases x with
        | inl d => exact Rep.monoD e r
        | inr p => obtain ⟨a, ds⟩ := p; obtain ⟨h4, ws, h5, h6⟩ := r; exact ⟨h4, ws, by rw [k a (by simp [itOws])]; exact h5, Reps.monoD e h6⟩
      · cases x with
        | inl d => exact ha
        | inr p => obtain ⟨b, ds⟩ := p; exact List.mem_cons_of_mem _ ha
  | lso n t xs =>
    cases hn
    obtain ⟨h1, vs, h2, h3⟩ := h
    refine ⟨h1, vs, by rw [k t (by simp [B.ows])]; exact h2, ?_⟩
    replace k : ∀ a ∈ itOws xs, H' a = H a := fun a ha => k a (by simp [B.ows, ha])
    clear h2
    induction h3 with
    | nil => exact .nil
    | @cons v x vs xs r _ ih =>
      refine .cons ?_ (ih fun a ha => k a ?_)
      · cases x with
        | inl d => exact Rep.monoD e r
        | inr p => obtain ⟨a, ds⟩ := p; obtain ⟨h4, ws, h5, h6⟩ := r; exact ⟨h4, ws, by rw [k a (by simp [itOws])]; exact h5, Reps.monoD e h6⟩
      · cases x with
        | inl d => exact ha
        | inr p => obtain ⟨b, ds⟩ := p; exact List.mem_cons_of_mem _ ha
/-- locked at d -/
def lkH (d : Addr) (o : HO) (P : Hp) : Hp := fun a => if a = d then (match P d with
  | none => none
  | some _ => some o) else P a
section
variable {c : C} {G G' : Sl} {σ : L2.St} {H H' : Hp} {d : Addr} {od : Obj} {kvs : List (Key × V)}
theorem lkH_ne {o : HO} {P : Hp} {a : Addr} (h : a ≠ d) : lkH d o P a = P a := by unfold lkH; rw [if_neg h]
theorem lkH_at {o u : HO} {P : Hp} (h : P d = some u) : lkH d o P d = some o := by unfold lkH; rw [if_pos rfl, h]
theorem lkH_non {o : HO} {P : Hp} (h : P d = none) : lkH d o P d = none := by unfold lkH; rw [if_pos rfl, h]
theorem lkH_same {o : HO} {P P' : Hp} (e : Same P P') : Same (lkH d o P) (lkH d o P') := fun a u h => by
  by_cases z : a = d
  · subst z
    cases q : P a with
    | none => rw [lkH_non q] at h; cases h
    | some w => rw [lkH_at q] at h; rw [lkH_at (e _ _ q)]; exact h
  · rw [lkH_ne z] at h ⊢; exact e _ _ h
theorem lkH_upd {o u : HO} (h : H d = some u) : lkH d o H = upd H d o := by
  funext a
  by_cases z : a = d
  · subst z; rw [lkH_at h, upd_same]
  · rw [lkH_ne z, upd_ne z]
/-- the context of what runs while the dict at d is locked: all that stood still so far stands -/
noncomputable def lkC (c : C) (G : Sl) (H : Hp) (d : Addr) (o : HO) : C := { H0 := lkH d o (hide (OF G) H), F := lkH d o (vis c (OF G) (some false) H), Bs := lkH d o c.Bs }
theorem Sits.lk (e : Sits K c G σ H) (ho : Old G) (hd : H d = some (.dK kvs)) (hf : ¬ OF G d) : Sits K (lkC c G H d (.frz od (.dK kvs))) G σ (upd H d (.frz od (.dK kvs))) := by
  rw [← lkH_upd hd]
  have ne : ∀ a, OF G a → a ≠ d := fun a p z => hf (z ▸ p)
  refine ⟨lkH_same (vis_hide e.f0 e.h0), lkH_same hide_same, lkH_same e.b0, fun a h => ⟨?_, ?_⟩, fun a h => ?_, e.dj, e.nd, e.len, fun i b h => ?_⟩
  · show lkH d _ _ a = none
    rw [lkH_ne (ne a h)]; exact hide_none h
  · show lkH d _ _ a = none
    rw [lkH_ne (ne a h)]; exact (e.fr a h).2
  · rw [lkH_ne (ne a h)]; exact e.mu a h
  · obtain ⟨v, h1, h2⟩ := e.at_ i b h
    refine ⟨v, h1, h2.monoD (fun a o ha => ?_) (fun a ha => lkH_ne (ne a ⟨i, b, h, ha⟩)) (fun a xs ha => ?_) (ho i b h)⟩
    · have hH := e.vsame (m := some false) a o ha
      have hO : ¬ OF G a := (hide_some ha).1
      by_cases z : a = d
      · subst z
        rw [hd] at hH
        cases hH
        refine ⟨.frz od (.dK kvs), ?_, .inr (.inl ⟨_, _, rfl, rfl⟩)⟩
        show hide (OF G) (TB.plus (lkH a _ _) (lkH a _ (hide (OF G) H)) _) a = _
        rw [hide_at hO]
        unfold TB.plus
        rw [lkH_at (P := hide (OF G) H) (u := .dK kvs) (by rw [hide_at hO]; exact hd)]
        exact lkH_at ha
      · refine ⟨o, ?_, .inl rfl⟩
        show hide (OF G) (TB.plus (lkH d _ _) (lkH d _ (hide (OF G) H)) _) a = _
        rw [hide_at hO]
        have hq : lkH d (.frz od (.dK kvs)) (hide (OF G) H) a = some o := by rw [lkH_ne z, hide_at hO, hH]
        cases t : isT o with
        | true => exact plus_T t hq
        | false => rw [plus_G t hq, lkH_ne z]; exact ha
    · by_cases z : a = d
      · rw [z, hd] at ha; cases ha
      · rw [lkH_ne z]; exact ha
/-- what is seen at the end of the lock is seen by the context ahead -/
theorem lk_plus {H2 : Hp} (e : Sits K c G σ H) (hd : H d = some (.dK kvs)) (hf : ¬ OF G d) (h0 : Same (lkC c G H d (.frz od (.dK kvs))).H0 H2) :
    SameD (plus (lkC c G H d (.frz od (.dK kvs))).F (lkC c G H d (.frz od (.dK kvs))).H0 H2) (plus c.F c.H0 (upd H2 d (.dK kvs))) := by
  have old : ∀ a o, c.H0 a = some o → H a = some o ∧ ¬ OF G a := fun a o h => ⟨e.h0 a o h, fun p => by rw [(e.fr a p).1] at h; cases h⟩
  intro a o h
  rcases plus_cases h with ⟨h1, h2⟩ | ⟨t, h1⟩ | ⟨h1, u, h2, t⟩
  · have h1 : lkH d _ (hide (OF G) H) a = none := h1
    have hne : a ≠ d := fun z => by
      subst z
      rw [lkH_at (u := .dK kvs) (by rw [hide_at hf]; exact hd)] at h1
      cases h1
    rw [lkH_ne hne] at h1
    have hn : c.H0 a = none := by
      cases q : c.H0 a with
      | none => rfl
      | some o' => obtain ⟨q1, q2⟩ := old a o' q; rw [hide_at q2, q1] at h1; cases h1
    exact ⟨o, by rw [plus_new hn, upd_ne hne]; exact h2, .inl rfl⟩
  · have h1' : lkH d _ (hide (OF G) H) a = some o := h1
    have hne : a ≠ d := fun z => by
      subst z
      rw [lkH_at (u := .dK kvs) (by rw [hide_at hf]; exact hd)] at h1'
      cases h1'
      cases t
    have h2 := h0 _ _ h1
    rw [lkH_ne hne] at h1'
    refine ⟨o, ?_, .inl rfl⟩
    cases q : c.H0 a with
    | none => rw [plus_new q, upd_ne hne, h2]; exact nf_T t
    | some o' =>
      obtain ⟨q1, q2⟩ := old a o' q
      rw [hide_at q2, q1] at h1'
      cases h1'
      exact plus_T t q
  · have h1 : lkH d _ (vis c (OF G) (some false) H) a = some o := h1
    by_cases z : a = d
    · subst z
      have hW : vis c (OF G) (some false) H a = some (.dK kvs) := by
        cases q : vis c (OF G) (some false) H a with
        | none => rw [lkH_non q] at h1; cases h1
        | some w => have := e.vsame (m := some false) a w q; rw [hd] at this; exact this.symm ▸ rfl
      rw [lkH_at hW] at h1
      cases h1
      refine ⟨.dK kvs, ?_, .inr (.inr ⟨_, _, rfl, rfl⟩)⟩
      obtain ⟨_, h3⟩ := hide_some hW
      rcases plus_cases h3 with ⟨r1, r2⟩ | ⟨r1, r2⟩ | ⟨r1, w, r2, t⟩
      · rw [plus_new r1, upd_same]; rfl
      · cases r1
      · have := (old a _ r2).1
        rw [hd] at this
        cases this
        rw [plus_G t r2]
        exact r1
    · rw [lkH_ne z] at h1
      have hH := e.vsame (m := some false) a o h1
      obtain ⟨hO, h3⟩ := hide_some h1
      have h2' : H2 a = some o := h0 _ _ (show lkH d _ (hide (OF G) H) a = some o by rw [lkH_ne z, hide_at hO]; exact hH)
      refine ⟨o, ?_, .inl rfl⟩
      rcases plus_cases h3 with ⟨r1, r2⟩ | ⟨t, r1⟩ | ⟨r1, w, r2, _⟩
      · rw [plus_new r1, upd_ne z]; exact nf_eq r2 h2'
      · exact plus_T t r1
      · have := (old a _ r2).1
        rw [hH] at this
        cases this
        exact plus_old (by exact r1) (fun b o' hb => by
          by_cases zb : b = a
          · subst zb; rw [r2]; rw [show c.F b = some o from r1] at hb; exact hb
          · exact e.f0 b o' hb)
theorem lk_h0 {H2 : Hp} (e : Sits K c G σ H) (hd : H d = some (.dK kvs)) (h0 : Same (lkC c G H d (.frz od (.dK kvs))).H0 H2) : Same c.H0 (upd H2 d (.dK kvs)) := fun a o h => by
  have q1 := e.h0 a o h
  have q2 : ¬ OF G a := fun p => by rw [(e.fr a p).1] at h; cases h
  by_cases z : a = d
  · subst z; rw [hd] at q1; rw [upd_same]; exact q1
  · rw [upd_ne z]
    exact h0 _ _ (show lkH d _ (hide (OF G) H) a = some o by rw [lkH_ne z, hide_at q2]; exact q1)
theorem Sits.ul {H2 : Hp} {σ' : L2.St} (e : Sits K c G σ H) (hd : H d = some (.dK kvs)) (hf : ¬ OF G d) (e2 : Sits K (lkC c G H d (.frz od (.dK kvs))) G' σ' H2) (ho : Old G') : Sits K c G' σ' (upd H2 d (.dK kvs)) := by
  have h0d : (lkC c G H d (.frz od (.dK kvs))).H0 d = some (.frz od (.dK kvs)) := lkH_at (u := .dK kvs) (by rw [hide_at hf]; exact hd)
  have ne : ∀ a, OF G' a → a ≠ d := fun a p z => by
    have := (e2.fr a p).1
    rw [z, h0d] at this; cases this
  have notold : ∀ a, OF G' a → c.H0 a = none := fun a p => by
    cases q : c.H0 a with
    | none => rfl
    | some o =>
      have q1 := e.h0 a o q
      have q2 : ¬ OF G a := fun p => by rw [(e.fr a p).1] at q; cases q
      have h := (e2.fr a p).1
      have h : lkH d _ (hide (OF G) H) a = none := h
      rw [lkH_ne (ne a p), hide_at q2, q1] at h; cases h
  refine ⟨e.f0, lk_h0 e hd e2.h0, fun a o h => ?_, fun a p => ⟨notold a p, ?_⟩, fun a p => ?_, e2.dj, e2.nd, e2.len, fun i b h => ?_⟩
  · have q1 := e.b0 a o h
    by_cases z : a = d
    · subst z; rw [hd] at q1; rw [upd_same]; exact q1
    · rw [upd_ne z]; exact e2.b0 a o (show lkH d _ c.Bs a = some o by rw [lkH_ne z]; exact h)
  · have h := (e2.fr a p).2
    have h : lkH d _ c.Bs a = none := h
    rw [lkH_ne (ne a p)] at h; exact h
  · rw [upd_ne (ne a p)]; exact e2.mu a p
  · obtain ⟨v, h1, h2⟩ := e2.at_ i b h
    refine ⟨v, h1, h2.monoD (fun a o ha => ?_) (fun a ha => upd_ne (ne a ⟨i, b, h, ha⟩)) (fun a xs ha => ?_) (ho i b h)⟩
    · obtain ⟨hO, h3⟩ := hide_some ha
      obtain ⟨o', q1, q2⟩ := lk_plus e hd hf e2.h0 a o h3
      exact ⟨o', (hide_at (O := OF G') hO).trans q1, q2⟩
    · by_cases z : a = d
      · have := e2.h0 _ _ h0d
        rw [z, this] at ha; cases ha
      · rw [upd_ne z]; exact ha
end
def tLockM (t : TS) : TS := fun D σ H => tLock t D σ H ∨ t D σ H
theorem ps_lockM {X : Cx} {st : Stmt} {t : TS} (h : PS X st t) : PS X st (tLockM t) := ⟨fun pins s σ H D I hw => hw.elim (fun q => (ps_lock h).run pins s σ H D I q) fun q => h.run pins s σ H D I q⟩
section
variable {c : C} {G : Sl} {σ : L2.St} {H : Hp} {d : Addr} {o : Obj} {kvs : List (Key × V)} {D : KD} {P : Post} {te : TE} {g : TG} {ts : TS} {n : Bool} {J : It} {ds : List PyData}
theorem for_raw (e1 : Sits K c G σ H) (S : Src K J (hide (OF G) H) n c (OF G) ds) (I : Nat → Sl → Prop) (h0 : I 0 G)
    (hs : ∀ (k : Nat) (d : PyData) (Gk : Sl), ds[k]? = some d → I k Gk → DG K g n d Gk fun G' => DS K ts G' { nx := I (k + 1), ct := I (k + 1), bk := P.nx, rt := P.rt })
    (hd : ∀ Gn, I ds.length Gn → P.nx Gn) (D : Ends) (k1 : ∀ G' σ' H', P.nx G' → Sits K c G' σ' H' → D.nx σ' H') (k2 : ∀ r v H', P.rt r → Same c.H0 H' → RetR K c.F c.H0 H' v r → D.rt v H') :
    ∃ W : Nat → Nat → L2.St → Hp → Prop, (∃ m, W 0 m σ H) ∧ ∀ i m σ H, W i m σ H →
      (J.stop i H ∧ D.nx σ H) ∨ (J.go i H ∧ ∃ N : L2.St → Hp → Prop, (∀ σ' H', N σ' H' → ∃ m', m' < m ∧ W (i + 1) m' σ' H') ∧ ∀ x H', J.yld i H x H' → g x σ H' fun σ2 H2 => ts { D with nx := N, ct := N, bk := D.nx } σ2 H2) := by
  have eb := e1.base
  refine ⟨fun i m σ2 H2 => m = ds.length - i ∧ i ≤ ds.length ∧ ∃ Gk, I i Gk ∧ Sits K { c with Bs := hide (OF G) H } Gk σ2 H2, ⟨ds.length, by simp, Nat.zero_le _, G, h0, eb⟩, ?_⟩
  rintro i m σ' H' ⟨rfl, hi, Gk, hk, ek⟩
  by_cases hlt : i < ds.length
  · refine .inr ⟨S.goes i H' hlt ek.b0, fun σ2 H2 => ∃ Gk, I (i + 1) Gk ∧ Sits K { c with Bs := hide (OF G) H } Gk σ2 H2, fun σ2 H2 q => ⟨ds.length - (i + 1), by omega, rfl, hlt, q⟩, fun x H2 y => ?_⟩
    have hd' : ds[i]? = some ds[i] := List.getElem?_eq_getElem hlt
    obtain ⟨s2, r2⟩ := S.yields i H' x H2 _ hd' ek.b0 y
    have ek2 := ek.ext s2
    refine hs i _ Gk hd' hk _ σ' H2 x _ ek2 (r2 Gk σ' _ rfl (fun _ _ _ => rfl) rfl ek) fun G' σ2 hp e' => ?_
    exact hp _ σ2 H2 _ e' (fun G2 σ3 H3 q e3 => ⟨G2, q, e3⟩) k2 (fun G2 σ3 H3 q e3 => k1 G2 σ3 H3 q (e3.unbase e1.bsub)) fun G2 σ3 H3 q e3 => ⟨G2, q, e3⟩
  · have : i = ds.length := by omega
    subst this
    exact .inl ⟨S.stops H' ek.b0, k1 Gk σ' H' (hd Gk hk) (ek.unbase e1.bsub)⟩
def keysD (D : KD) : List PyData := D.map fun p => kD p.1
theorem src_keys (e : Sits K c G σ H) (hd : vis c (OF G) (some false) H d = some (.frz o (.dK kvs))) (hk : kvs.length = D.length) (hi : ∀ (i : Nat) (p : Key × V), kvs[i]? = some p → ∃ x, D[i]? = some (p.1, x)) : Src K (Itk d o kvs) (hide (OF G) H) false c (OF G) (keysD D) := by
  have hF : hide (OF G) H d = some (.frz o (.dK kvs)) := vis_hide e.f0 e.h0 _ _ hd
  have hl : (keysD D).length = D.length := List.length_map _
  refine ⟨fun i H2 h s => ⟨s _ _ hF, by omega⟩, fun H2 s => ⟨s _ _ hF, by omega⟩, fun i H2 x H3 z hz s y => ?_⟩
  obtain ⟨rfl, k, v, q1, rfl⟩ := y
  obtain ⟨x, q2⟩ := hi i _ q1
  refine ⟨Same.refl _, fun G2 σ2 c' _ _ _ e2 => ?_⟩
  unfold keysD at hz
  rw [List.getElem?_map, q2] at hz
  cases hz
  cases k
  · exact .int _
  · exact .str _
theorem ds_forKey (hv : ∀ (c : TB.C) (σ : L2.St) (H : Hp), Sits K c G σ H → ∃ v, Rep K (vis c (OF G) (some false) H) v (.dict (kk D)) ∧ ∀ H', SameD H H' → ∀ Q : VK, Q v H' → te σ H' Q) (ho : Old G) (I : Nat → Sl → Prop) (h0 : I 0 G)
    (hs : ∀ (k : Nat) (d : PyData) (Gk : Sl), (keysD D)[k]? = some d → I k Gk → DG K g false d Gk fun G' => DS K ts G' { nx := I (k + 1), ct := I (k + 1), bk := P.nx, rt := P.rt })
    (hd : ∀ Gn, I (keysD D).length Gn → P.nx Gn) (on : ∀ G', P.nx G' → Old G') (or' : ∀ r, P.rt r → r.nw = false) : DS K (tLockM (tFor (iKeys te) g ts)) G P := fun c σ H De e k1 k2 k3 k4 => by
  obtain ⟨v, hr, ht⟩ := hv c σ H e
  generalize hz : PyData.dict (kk D) = z at hr
  cases hr <;> first | (cases hz; done) | exact (kk_ex hz).elim | skip
  rename_i d kvs kds h1 r1
  cases hz
  obtain ⟨hl, hi⟩ := repk_kk r1
  have hi' : ∀ (i : Nat) (p : Key × V), kvs[i]? = some p → ∃ x, D[i]? = some (p.1, x) := fun i p q => let ⟨x, q1, _⟩ := hi i p q; ⟨x, q1⟩
  rcases h1 with h1 | ⟨o, h1⟩
  · have hH := e.vsame (m := some false) _ _ h1
    have hO : ¬ OF G d := (hide_some h1).1
    refine .inl ⟨d, .dK kvs, hH, trivial, fun od => ?_⟩
    have e2 := e.lk (od := od) ho hH hO
    refine ht _ (fun a u q => ?_) _ ?_
    · by_cases z : a = d
      · subst z; rw [hH] at q; cases q; exact ⟨_, upd_same, .inr (.inl ⟨_, _, rfl, rfl⟩)⟩
      · exact ⟨u, by rw [upd_ne z]; exact q, .inl rfl⟩
    · have hW : vis (lkC c G H d (.frz od (.dK kvs))) (OF G) (some false) (upd H d (.frz od (.dK kvs))) d = some (.frz od (.dK kvs)) := by
        show hide (OF G) (TB.plus (lkH d _ _) (lkH d _ (hide (OF G) H)) _) d = _
        rw [hide_at hO]
        unfold TB.plus
        rw [lkH_at (P := hide (OF G) H) (u := .dK kvs) (by rw [hide_at hO]; exact hH)]
        exact lkH_at h1
      have key : ∀ H', Same (lkC c G H d (.frz od (.dK kvs))).H0 H' → H' d = some (.frz od (.dK kvs)) := fun H' s => s _ _ (lkH_at (u := .dK kvs) (by rw [hide_at hO]; exact hH))
      refine ⟨d, od, rfl, .inl ⟨kvs, upd_same, for_raw (P := P) e2 (src_keys e2 hW hl hi') I h0 hs hd _ (fun G' σ' H' p e' => ⟨key H' e'.h0, k1 G' σ' _ p (e.ul hH hO e' (on G' p))⟩) fun r v H' p s hR => ⟨key H' s, k2 r v _ p (lk_h0 e hH s) ?_⟩⟩⟩
      obtain ⟨b, q1, q2, q3, q4⟩ := hR
      have hne : ∀ a ∈ b.ows, a ≠ d := fun a ha z => by
        have := q3 a ha
        rw [z] at this
        have w : (lkC c G H d (.frz od (.dK kvs))).H0 d = some (.frz od (.dK kvs)) := lkH_at (u := .dK kvs) (by rw [hide_at hO]; exact hH)
        rw [w] at this
        cases this
      refine ⟨b, q1, q2, fun a ha => ?_, q4.monoD (fun a u hu => ?_) (fun a ha => upd_ne (hne a ha)) (fun a xs ha => ?_) (by rw [q1]; exact or' r p)⟩
      · cases q : c.H0 a with
        | none => rfl
        | some u =>
          have r1 := e.h0 a u q
          have r2 : ¬ OF G a := fun p => by rw [(e.fr a p).1] at q; cases q
          have r3 : lkH d _ (hide (OF G) H) a = none := q3 a ha
          rw [lkH_ne (hne a ha), hide_at r2, r1] at r3
          cases r3
      · obtain ⟨u1, u2⟩ := hide_some hu
        obtain ⟨o', w1, w2⟩ := lk_plus (od := od) e hH hO s a u u2
        refine ⟨o', ?_, w2⟩
        show hide _ _ a = _
        rw [hide_at u1]
        exact w1
      · by_cases z : a = d
        · rw [z, key H' s] at ha; cases ha
        · rw [upd_ne z]; exact ha
  · refine .inr ?_
    refine ht H (TB.Same.toD (Same.refl H)) _ ?_
    have hH := e.vsame (m := some false) _ _ h1
    exact ⟨d, o, rfl, .inl ⟨kvs, hH, for_raw (P := P) e (src_keys e h1 hl hi') I h0 hs hd _ k1 k2⟩⟩
end
/-! ### the mirror: for k in d -/
section
variable {te ta tb : TE} {ts : TS} {em eb : EM} {sm : SM} {rm : RM} {gm : GM} {tg : TG} {i : Nat}
/-- which dict is walked: a name, or a place of a name -/
def eDk (i : Nat) : Stt → Option KD := fun g => match g[i]? with
  | some (some (.v (.dict ks))) => unkk ks
  | _ => none
def eDkI (i : Nat) (y : EM) : Stt → Option KD := fun g => match g[i]? with
  | some (some (.v (.list ds))) => match y g with
    | some (_, .int k) => match L2.atI ds k with
      | some (.dict ks) => unkk ks
      | _ => none
    | _ => none
  | _ => none
def SK (K : PySem.W.Frag) (te : TE) (dm : Stt → Option KD) : Prop := ∀ G g D, Abs G g → dm g = some D → ∀ (c : TB.C) (σ : L2.St) (H : Hp), Sits K c G σ H → ∃ v, Rep K (vis c (OF G) (some false) H) v (.dict (kk D)) ∧ ∀ H', SameD H H' → ∀ Q : VK, Q v H' → te σ H' Q
theorem sk_var : SK K (tVar i) (eDk i) := fun G g D a h c σ H e => by
  unfold eDk at h
  split at h
  · rename_i ks hg
    obtain ⟨v, h1, h2⟩ := e.at_ i _ (a.v hg)
    rw [unkk_of h] at h2
    exact ⟨v, h2, fun H' s Q q => ⟨v, h1, q⟩⟩
  · cases h
/-- a name's value, whatever the heap -/
def SC (K : PySem.W.Frag) (tb : TE) (eb : EM) : Prop := ∀ G g b k, Abs G g → eb g = some (b, .int k) → ∀ (c : TB.C) (σ : L2.St) (H : Hp), Sits K c G σ H → ∀ H' (Q : VK), Q (.int k) H' → tb σ H' Q
theorem sc_var : SC K (tVar i) (eVar i) := fun G g b k a h c σ H e H' Q q => by
  unfold eVar at h
  split at h
  · rename_i q' hg
    obtain ⟨bb, h1, h2⟩ := a.at_ hg
    obtain ⟨v, h3, h4⟩ := e.at_ i _ h1
    cases q' with
    | v d =>
      cases h
      rw [strip_v h2] at h4
      have h4 : Rep K _ v (.int k) := h4
      cases h4
      exact ⟨_, h3, q⟩
    | _ => cases h
  · cases h
theorem sc_int {k : Int} : SC K (tC (.int k)) (eLit (.int k)) := fun G g b k a h c σ H e H' Q q => by cases h; exact q
theorem sk_ix (hb : SC K tb eb) : SK K (tOp (rSub K) (tVar i) tb) (eDkI i eb) := fun G g D a h c σ H e => by
  unfold eDkI at h
  split at h
  · rename_i ds hg
    split at h
    · rename_i k h2
      split at h
      · rename_i ks h3
        obtain ⟨v, h4, h5⟩ := e.at_ i _ (a.v hg)
        have h5 : Rep K _ v (.list ds) := h5
        generalize hz : PyData.list ds = z at h5
        cases h5 <;> first | (cases hz; done) | exact (kk_ex hz).elim | skip
        rename_i l xs ds' h6 r
        cases hz
        obtain ⟨w, h7, h8⟩ := r.atI h3
        rw [unkk_of h] at h8
        refine ⟨w, h8, fun H' s Q q => ⟨_, h4, hb G g _ k a h2 c σ H e H' _ ?_⟩⟩
        exact .inl (.inl ⟨l, xs, k, w, rfl, rfl, s.seq (SqL.same e.vsame h6), h7, q⟩)
      · cases h
    · cases h
  · cases h
def sForK (dm : Stt → Option KD) (gm : GM) (s : SM) : SM := fun g => match dm g with
  | some D => forRun gm s (keysD D) g
  | none => none
theorem ss_forK {vs : List Nat} {dm : Stt → Option KD} (hk : SK K te dm) (hg : SG K vs tg gm) (h : SS K ts sm) : SS K (tLockM (tFor (iKeys te) tg ts)) (sForK dm gm sm) := fun G g o a e => by
  unfold sForK at e
  split at e
  · rename_i D e1
    refine ds_forKey (P := PO o) (hk G g D a e1) a.old (fun k G' => ∃ g', Abs G' g' ∧ forRun gm sm ((keysD D).drop k) g' = some o) ⟨g, a, e⟩ (fun k d Gk hd ⟨g', a', e'⟩ => ?_) (fun Gn ⟨g', a', e'⟩ => ?_) (fun G' p => ?_) (fun r p => ?_)
    · have hk : k < (keysD D).length := (List.getElem?_eq_some_iff.mp hd).1
      rw [List.drop_eq_getElem_cons hk, show (keysD D)[k] = d from (List.getElem?_eq_some_iff.mp hd).2] at e'
      unfold forRun at e'
      split at e'
      · rename_i g1 e2
        intro c σ H v Q s r q
        refine hg.2 Gk g' d g1 a' e2 c σ H v Q s r fun G2 σ2 p s2 => q G2 σ2 ?_ s2
        have p := p.1
        split at e'
        · rename_i g2 e3
          exact (h G2 g1 _ p e3).imp (fun G3 p3 => ⟨g2, p3, e'⟩) (fun _ p => p.elim) (fun _ p => p.elim) (fun _ p => p.elim)
        · rename_i g2 e3
          exact (h G2 g1 _ p e3).imp (fun _ p => p.elim) (fun _ p => p.elim) (fun _ p => p.elim) (fun G3 p3 => ⟨g2, p3, e'⟩)
        · rename_i g2 e3
          cases e'
          exact (h G2 g1 _ p e3).imp (fun _ p => p.elim) (fun _ p => p.elim) (fun G3 p3 => p3) (fun _ p => p.elim)
        · rename_i q e3
          cases e'
          exact (h G2 g1 _ p e3).imp (fun _ p => p.elim) (fun _ p => p) (fun G3 p3 => p3.elim) (fun _ p => p.elim)
        · cases e'
      · cases e'
    · rw [List.drop_eq_nil_of_le (Nat.le_refl _)] at e'
      cases e'
      exact a'
    · cases o with
      | nx g' => exact Abs.old p
      | _ => exact p.elim
    · cases o with
      | rt q => rw [show r = q.r from p, q.nw_r]
      | _ => exact p.elim
  · cases e
/-- for k in f(..), a new dict -/
theorem di_keysC {G : Sl} {n : Bool} {D : KD} (h : DR K te G (.odic n (kk D))) : DI K n (iKeys (tLockNew te)) G (keysD D) := fun c σ H e R k => h c σ H e _ fun v H1 s ⟨b, hb, hn, hf, hr⟩ => by
  cases b <;> first | (cases hb; done) | skip
  rename_i n a ks
  cases hb
  obtain ⟨rfl, kvs, h2, h3⟩ := hr
  have ha : H a = none := hf a (by simp [B.ows])
  obtain ⟨hl, hi⟩ := repk_kk h3
  have na : ¬ OF G a := e.nof ha
  refine ⟨a, kvs, rfl, h2, fun o => ?_⟩
  have sH : Same H (upd H1 a (.frz o (.dK kvs))) := fun b u hb => by rw [upd_ne (ne_of_none hb ha)]; exact s b u hb
  have hF : hide (OF G) (upd H1 a (.frz o (.dK kvs))) a = some (.frz o (.dK kvs)) := by rw [hide_at na, upd_same]
  have hlen : (keysD D).length = D.length := List.length_map _
  refine ⟨a, o, rfl, .inl ⟨kvs, upd_same, k _ _ sH ⟨fun i H2 hx s2 => ⟨s2 _ _ hF, by omega⟩, fun H2 s2 => ⟨s2 _ _ hF, by omega⟩, fun i H2 x H3 d hd s2 y => ?_⟩⟩⟩
  obtain ⟨rfl, ky, v, q1, rfl⟩ := y
  obtain ⟨d', q2, _⟩ := hi i _ q1
  refine ⟨Same.refl _, fun G2 σ2 c' _ _ _ _ => ?_⟩
  unfold keysD at hd
  rw [List.getElem?_map, q2] at hd
  cases hd
  cases ky
  · exact .int _
  · exact .str _
def iKyC (r : RM) : IM := fun g => match r g with
  | some (.k D) => some (keysD D)
  | _ => none
theorem si_keysC (h : SR K te rm) : SI K (iKeys (tLockNew te)) (iKyC rm) := fun G g ds a e => by
  unfold iKyC at e
  split at e
  · rename_i D e1
    cases e
    exact di_keysC (h G g _ a e1)
  · cases e
end
end
end TB

/-! TB mirror, 6: enumerate, list(reversed), sorted pairs, min with a default. -/
namespace TB
open PySem PySem.Spec PyProof.Rows L2
/-! ### enumerate of a tuple -/
/-- the tuple at a, of n items: each in a new pair -/
def IteT (K : PySem.W.Frag) (a : Addr) (n : Nat) : It where
  go i H := i < n ∧ ∃ xs : List V, SqT K H a xs ∧ xs.length = n
  yld i H v H' := ∃ T x, v = .ref T ∧ H T = none ∧ H' = upd H T (.tup [.int (i : Nat), x]) ∧ ∀ xs, SqT K H a xs → xs[i]? = some x
  stop i H := n ≤ i ∧ ∃ xs : List V, SqT K H a xs ∧ xs.length = n
theorem two_cls {h : Heap} {a : Addr} {o o2 : Obj} {S T : String} (e : h.get? a = some o) (c : o.cls = .type S) (e2 : h.get? a = some o2) (c2 : o2.cls = .type T) (n : S ≠ T) : False := by
  rw [e] at e2
  have := Option.some.inj e2
  subst this
  rw [c] at c2
  exact n (Value.type.inj c2)
theorem turn_enumT {P : Program} {w : World} {K : PySem.W.Frag} {ls : List Expr} {k0 : Nat} {ps : Pos} (a e it : Addr) (n : Nat) :
    Turn P w K (.Tuple ls k0 ps) (IteT K a n) [e, it] e (fun i h => ((∃ old, IsEnum h e it (i : Int) old) ∧ h.IsTupleIter it a i) ∧ e ≠ it ∧ i ≤ n) := by
  have two : ∀ {b}, b ∈ [e, it] → b = e ∨ b = it := fun hb => by simpa using hb
  refine ⟨by simp, fun i h ⟨⟨⟨old, he⟩, o, ho, oc, od⟩, _⟩ b hb => ?_, fun i h h2 ⟨⟨⟨old, he⟩, hi⟩, r⟩ kp => ⟨⟨⟨old, kp e (by simp) _ he⟩, hi.at fun o q => kp it (by simp) o q⟩, r⟩, ?_, ?_, fun A i s Q E ⟨⟨⟨_, he⟩, _⟩, _⟩ q => wpAny_pyIter_enum he q⟩
  · rcases two hb with rfl | rfl
    · exact ⟨_, he, fun v q => nomatch q⟩
    · exact ⟨o, ho, fun v q => by rw [od] at q; cases q⟩
  · rintro X rfl rfl rfl calm i pins s σ H E I hf ⟨⟨⟨old, he⟩, hit⟩, hne, _⟩ ⟨hin, xs, hq, hn⟩
    obtain ⟨its, rv, p, hz⟩ := I.tuple hq
    have pt : s.heap.IsTuple a its.toArray := p
    have lits := rv.length
    have hix : i < xs.length := by omega
    obtain ⟨u, hu, ru⟩ := rv.get (List.getElem?_eq_getElem hix)
    have sz : its.toArray.size = n := by simp; omega
    obtain ⟨o1, e1, c1, _⟩ := id pt
    obtain ⟨o2, e2, c2, _⟩ := id hit
    have ait : a ≠ it := fun z => two_cls e1 c1 (z ▸ e2) c2 (by decide)
    have ea : e ≠ a := fun z => two_cls (T := "enumerate") e1 c1 (z ▸ he) rfl (by decide)
    have le : e < s.heap.objs.size := Heap.lt_size he
    have li : it < s.heap.objs.size := Heap.lt_size e2
    have D := Draws.tuple (prog := X.prog) (w := X.w) (A := X.A.in1) (I.ok.hd calm) it a ait its.toArray
    refine wpAny_pyNext_enum_itemD D he ⟨hit, pt⟩ (by omega) hne (by simp [hne, ea]) fun y h1 tk hy ho hst hT hsz hk => ?_
    have yu : y = u := Option.some.inj ((show its.toArray[i]? = some y from hy).symm.trans (by simpa using hu))
    subst yu
    refine ⟨_, rfl, wpAny_letOwnedTupleGo_enum (s := { s with heap := h1, toks := tk + 1 }) ho fun h2 he2 sb => ?_⟩
    have hT2 := (sb.2 _ (Nat.ne_of_gt le)).trans hT
    have ok : ObjOk X.prog X.w (upd H s.heap.objs.size (.tup [.int (i : Nat), xs[i]])) h2 s.heap.objs.size (.tup [.int (i : Nat), xs[i]]) := ⟨(by show 2 ≤ sizeLine; decide), [.int i tk, y], .cons ⟨tk, rfl⟩ (.cons ru .nil), _, hT2, rfl, _, rfl⟩
    have J : Inv X pins σ (upd H s.heap.objs.size (.tup [.int (i : Nat), xs[i]])) { s with heap := h2, toks := tk + 1 } := I.turnedNew (ch := [e, it]) (fun b ob nb q => by
      have n1 : b ≠ e := fun z => nb (by rw [z]; simp)
      have n2 : b ≠ it := fun z => nb (by rw [z]; simp)
      rw [sb.2 b n1]; exact hk b ob n1 n2 q) hf (Nat.le_refl _) ok
    refine ⟨.ref s.heap.objs.size, _, J, rfl, ⟨_, xs[i], rfl, I.hok.fresh (Nat.le_refl _), rfl, fun ys hy => by rw [I.tuple_inj hy hq, List.getElem?_eq_getElem hix]⟩, ⟨⟨⟨y, ?_⟩, hst.1.at fun o q => (sb.2 it hne.symm).trans q⟩, hne, hin⟩, fun b hb => ?_⟩
    · rw [show ((i + 1 : Nat) : Int) = (i : Int) + 1 by omega]; exact he2
    · have lb : b < s.heap.objs.size := by rcases two hb with rfl | rfl <;> assumption
      rw [upd_ne (Nat.ne_of_lt lb)]; exact (hf b hb).1
  · rintro X rfl rfl rfl calm i pins s σ H E I hf ⟨⟨⟨old, he⟩, hit⟩, hne, hin⟩ ⟨hni, xs, hq, hn⟩
    obtain ⟨its, rv, p, hz⟩ := I.tuple hq
    have pt : s.heap.IsTuple a its.toArray := p
    have lits := rv.length
    obtain ⟨o1, e1, c1, _⟩ := id pt
    obtain ⟨o2, e2, c2, _⟩ := id hit
    have D := Draws.tuple (prog := X.prog) (w := X.w) (A := X.A.in1) (I.ok.hd calm) it a (fun z => two_cls e1 c1 (z ▸ e2) c2 (by decide)) its.toArray
    have sz : its.toArray.size = i := by simp; omega
    rw [sz] at D
    obtain ⟨f0, f1, f2, f3, f4, f5⟩ := hf it (by simp)
    exact wpAny_pyNext_enum_endD D he ⟨hit, pt⟩ fun h1 eb => ⟨rfl, I.turned (t' := s.toks) (fun b o hb q => eb b o hb q) f0 f1 f3 f4 f5⟩
theorem meets_enumT (t : Addr) (items : Array Value) : Meets (Builtin.«enumerate.__new__» ⟨[.type "enumerate", .ref t], []⟩) (fun _ R s => s.heap.IsTuple t items ∧
      R (.ok (.ret (.ref (s.heap.push { cls := .type "tuple_iterator", data := .fields #[.ref t, .int 0 0] }).objs.size))) { s with heap := (s.heap.push { cls := .type "tuple_iterator", data := .fields #[.ref t, .int 0 0] }).push { cls := .type "enumerate", data := .fields #[.none, .bool false, .ref s.heap.objs.size, rawInt 0, .none, .none] } }) :=
  .of_wp fun prog w A R s ⟨h1, h⟩ => by
    obtain ⟨hp, g, d, tk, os⟩ := s
    have hsub := sub_enumerate
    have q1 : ∀ {A' : Around} {E : Value → Shared → Prop} {Q : Value → Shared → Prop}, Q (.ref hp.objs.size) ⟨hp.push { cls := .type "tuple_iterator", data := .fields #[.ref t, .int 0 0] }, g, d, tk, os⟩ → wpAny (model prog w) A' (pyIter (.ref t)) Q E ⟨hp, g, d, tk, os⟩ := fun q => wpAny_pyIter_tuple (s := ⟨hp, g, d, tk, os⟩) h1 q
    wp_walk using q1
    refine wpAny_stack_any fun st => wpAny_pure ?_
    split
    · rename_i c _ _ _ _ _
      cases (c == Value.type "enumerate") <;> (wp_walk using q1; exact ⟨_, rfl, h⟩)
    · wp_walk using q1
      exact ⟨_, rfl, h⟩
theorem call_enumT {prog : Program} {w : World} {A : Around} {E : Value → Shared → Prop} {s : Shared} {t : Addr} {items : Array Value} {Q : Value → Shared → Prop} (hL : s.heap.IsTuple t items)
    (h : ∀ h1, IsEnum h1 (s.heap.objs.size + 1) s.heap.objs.size 0 .none → h1.IsTupleIter s.heap.objs.size t 0 → (∀ b o, s.heap.get? b = some o → h1.get? b = some o) → Q (.ref (s.heap.objs.size + 1)) { s with heap := h1 }) :
    wpAny (model prog w) A (call (.type "enumerate") [.ref t]) Q E s := by
  refine callType_new F.called_enumerate (by decide) (F.typeCall_enumerate_1 _) (F.newCall_enumerate_1 _) (fun obj => F.args_object_init_2 obj _) F.entry_enumerate_new (meets_enumT t items) ⟨hL, ?_⟩
  have z : (s.heap.push { cls := .type "tuple_iterator", data := .fields #[.ref t, .int 0 0] }).objs.size = s.heap.objs.size + 1 := Heap.size_push ..
  have g := Heap.get?_push_size (s.heap.push { cls := .type "tuple_iterator", data := .fields #[.ref t, .int 0 0] }) (o := { cls := .type "enumerate", data := .fields #[.none, .bool false, .ref s.heap.objs.size, rawInt 0, .none, .none] }) rfl
  show _ ∧ _
  rw [z] at g ⊢
  exact ⟨⟨_, g, rfl⟩, h _ g ⟨_, Heap.get?_push_of_some _ (Heap.get?_push_size _ rfl), rfl, rfl⟩ fun b o x => Heap.get?_push_of_some _ (Heap.get?_push_of_some _ x)⟩
def iEnumA (K : PySem.W.Frag) (ta : TA) : TI := fun σ H R => ta σ H fun vs H1 => ∃ a xs, vs = [.ref a] ∧ ((SqL K H1 a xs ∧ R (Ite K a) H1) ∨ (SqT K H1 a xs ∧ R (IteT K a xs.length) H1))
theorem pi_enumA {X : Cx} {e : Expr} {ta : TA} {p pos tp : Pos} {ls : List Expr} {k0 : Nat} (hg : Gl X "enumerate") (hm : X.mg "enumerate" = none) (ha : PA X [e] ta) (hs : starEach [e] X.env = [(false, eval e X.env)] := by rfl) : PI X (.Tuple ls k0 tp) (.Call (.Name "enumerate" p) [e] [] pos) (iEnumA X.K ta) := ⟨fun pins s σ H R I h => by
  refine Call_ (ld_blt I hg hm boot_enumerate (PyProof.Rows.callWith_type1 (thn (ha.run pos pins s σ H _ I h) fun us s1 ⟨vs, H1, I1, r1, a, xs, ex, q⟩ => ?_) hs rfl))
  subst ex
  cases r1 with | cons r rr => ?_
  cases rr
  cases r
  have fp : ∀ b ∈ [s1.heap.objs.size + 1, s1.heap.objs.size], s1.heap.objs.size ≤ b := fun b hb => by simp at hb; omega
  rcases q with ⟨hq, q⟩ | ⟨hq, q⟩
  · obtain ⟨its, rv, pl, _⟩ := I1.list hq
    refine call_enumerate_list pl.isList fun h1 he hit _ hk => wpAny_pyIter_enum he ?_
    exact ⟨_, _, _, _, H1, rfl, I1.kept (t' := s1.toks) hk, turn_enum a _ _, ⟨⟨.none, he⟩, hit, Nat.succ_ne_self _⟩, fun b hb => I1.fpOk (fp b hb) (I1.hok.fresh (fp b hb)), q⟩
  · obtain ⟨its, rv, pl, _⟩ := I1.tuple hq
    refine call_enumT (show s1.heap.IsTuple a its.toArray from pl) fun h1 he hit hk => wpAny_pyIter_enum he ?_
    exact ⟨_, _, _, _, H1, rfl, I1.kept (t' := s1.toks) hk, turn_enumT a _ _ xs.length, ⟨⟨⟨.none, he⟩, hit⟩, Nat.succ_ne_self _, Nat.zero_le _⟩, fun b hb => I1.fpOk (fp b hb) (I1.hok.fresh (fp b hb)), q⟩⟩
section
variable {K : PySem.W.Frag} {ta te tb : TE} {G : Sl} {ds : List PyData} {em ea eb : EM}
def enumD (ds : List PyData) : List PyData := ds.zipIdx.map fun p => .tuple [.int (p.2 : Nat), p.1]
theorem enumD_at {i : Nat} {d : PyData} (h : (enumD ds)[i]? = some d) : ∃ x, ds[i]? = some x ∧ d = .tuple [.int (i : Nat), x] := by
  unfold enumD at h
  rw [List.getElem?_map, List.getElem?_zipIdx] at h
  cases e : ds[i]? with
  | none => rw [e] at h; cases h
  | some x => rw [e] at h; cases h; exact ⟨x, rfl, by simp⟩
theorem enumD_len : (enumD ds).length = ds.length := by unfold enumD; simp
theorem di_enumT (h : DE K (some false) ta G (.tuple ds)) : DI K false (iEnumA K (tCons ta tNil)) G (enumD ds) := fun c σ H e R k => h c σ H e _ fun v H1 s r => by
  generalize hz : PyData.tuple ds = z at r
  cases r <;> first | (cases hz; done) | skip
  rename_i a xs ds' h1 r
  cases hz
  have e1 := e.ext s
  have hl := r.length
  have hF : Rd (hide (OF G) H1) a (.tup xs) := Rd.same (vis_hide e1.f0 e1.h0) h1
  refine ⟨a, xs, rfl, .inr ⟨rd_tup e1.vsame h1, k _ H1 s ⟨fun i H2 hi s2 => ?_, fun H2 s2 => ?_, fun i H2 x H3 d hd s2 y => ?_⟩⟩⟩
  · rw [enumD_len] at hi; exact ⟨by omega, xs, .inl (Rd.same s2 hF), rfl⟩
  · rw [enumD_len]; exact ⟨by omega, xs, .inl (Rd.same s2 hF), rfl⟩
  · obtain ⟨x0, q1, rfl⟩ := enumD_at hd
    obtain ⟨w, q2, q3⟩ := r.get q1
    obtain ⟨T, y0, rfl, hT, rfl, y1⟩ := y
    have := y1 xs (.inl (Rd.same s2 hF))
    rw [q2] at this
    cases this
    refine ⟨same_new hT, fun G2 σ2 c' z1 z2 z3 e3 => ?_⟩
    have see := src_see (n := false) e.f0 e1.h0 rfl s2 e3 z1 z2 z3
    exact pair_see (O := OF G) (F := H2) (Hs := H2) e3 hT (.cons (.int _) (.cons (Rep.mono see q3) .nil))
theorem di_enumL (h : DE K (some false) ta G (.list ds)) : DI K false (iEnumA K (tCons ta tNil)) G (enumD ds) := fun c σ H e R k => h c σ H e _ fun v H1 s r => by
  generalize hz : PyData.list ds = z at r
  cases r <;> first | (cases hz; done) | skip
  rename_i a xs ds' h1 r
  cases hz
  have e1 := e.ext s
  have hl := r.length
  have hF : ∀ {H2}, Same (hide (OF G) H1) H2 → SqL K H2 a xs := fun s2 => SqL.same ((vis_hide e1.f0 e1.h0).trans s2) h1
  refine ⟨a, xs, rfl, .inl ⟨rd_lst e1.vsame h1, k _ H1 s ⟨fun i H2 hi s2 => ?_, fun H2 s2 => ?_, fun i H2 x H3 d hd s2 y => ?_⟩⟩⟩
  · rw [enumD_len] at hi; exact ⟨xs, xs[i], hF s2, List.getElem?_eq_getElem (by omega)⟩
  · rw [enumD_len]; exact ⟨xs, hF s2, by omega⟩
  · obtain ⟨x0, q1, rfl⟩ := enumD_at hd
    obtain ⟨w, q2, q3⟩ := r.get q1
    obtain ⟨T, y0, rfl, hT, rfl, y1⟩ := y
    have := y1 xs (hF s2)
    rw [q2] at this
    cases this
    refine ⟨same_new hT, fun G2 σ2 c' z1 z2 z3 e3 => ?_⟩
    have see := src_see (n := false) e.f0 e1.h0 rfl s2 e3 z1 z2 z3
    exact pair_see (O := OF G) (F := H2) (Hs := H2) e3 hT (.cons (.int _) (.cons (Rep.mono see q3) .nil))
def iEnu (x : EM) : IM := fun g => match x g with
  | some (b, .list ds) => if b then some (enumD ds) else none
  | some (b, .tuple ds) => if b || imm (.tuple ds) then some (enumD ds) else none
  | _ => none
theorem si_enum (h : SE K ta em) : SI K (iEnumA K (tCons ta tNil)) (iEnu em) := fun G g ds a e => by
  unfold iEnu at e
  split at e
  · rename_i b ds' e1
    split at e
    · rename_i c
      cases e
      subst c
      exact di_enumL (h G g _ _ a e1)
    · cases e
  · rename_i b ds' e1
    split at e
    · cases e; exact di_enumT (de_lift (h G g _ _ a e1) (by assumption))
    · cases e
  · cases e
/-! ### list(reversed(xs)) -/
def tLstRev (K : PySem.W.Frag) (te : TE) : TE := fun σ H Q => te σ H fun v H1 => ∃ (a : Addr) (xs : List V), v = .ref a ∧ SqL K H1 a xs ∧ ∀ q, H1 q = none → Q (.ref q) (upd H1 q (.lst xs.reverse))
end
section
open RT
variable {prog : Program} {w : World} {A : Around} {E : Value → Shared → Prop} {s : Shared}
/-- what stands in s but at S and at it stands in h -/
abbrev KeptBut (s : Shared) (S it : Addr) (h : Heap) : Prop := ∀ b o, b ≠ S → b ≠ it → s.heap.get? b = some o → h.get? b = some o
theorem ext_rev {it l S : Addr} {items : Array Value} {res : Value} {c0 : Nat} {R : Result → Shared → Prop} (hh : A.handled = none) (hit : s.heap.IsRevIter it l ((items.size : Int) - 1)) (hl : s.heap.IsList l items) (hne : l ≠ it) (hn : items.size ≤ sizeLine) (n1 : S ≠ it) (n2 : S ≠ l)
    (hS : s.heap.get? S = some { cls := .type "list", data := .seq #[] c0 }) (hR : ∀ h1 tk acc c1, KeptBut s S it h1 → h1.get? S = some { cls := .type "list", dict := none, data := .seq acc c1, slots := #[] } → ItemsOf (fun i v => items[items.size - 1 - i]? = some v) acc items.size → R (.ok (.ret res)) { s with heap := h1, toks := tk }) :
    wpAny (model prog w) A.in1 (Builtin.List.listExtendWith (.ref S) (.ref it) res)
      (fun fin s1 => match fin with | .done f => R (.ok f) s1 | .again c1 => c1.quiet = true ∧ codeAny (model prog w) A c1 R s1) (fun e s1 => R (.error e) s1) s := by
  have Wk := (Walks.listRev (prog := prog) (w := w) (A := A.in1) hh it l hne items).toS
  have nf : S ∉ [it, l] := by simp [n1, n2]
  have tyI : s.TypeIs (.ref it) "list_reverseiterator" := hit.typeIs
  have same : Builtin.List.listSameRef (.ref S) (.ref it) = false := by simp [Builtin.List.listSameRef, n1]
  unfold Builtin.List.listExtendWith
  refine wpAny_bind (wpAny_typeOf tyI ?_)
  rw [if_neg (by rw [same]; decide)]
  refine wpAny_bind (wpAny_pyIter_revIter hit (wpAny_bind (wpAny_holding ?_)))
  unfold Builtin.List.listLengthHint
  refine wpAny_bind (wpAny_specialOf tyI nolen_lri ?_)
  show wpAny _ A.in1 (specialOf (Value.ref it) (Str.ofString "__length_hint__") >>= _) _ _ s
  refine wpAny_bind (wpAny_specialOf tyI hint_lri ?_)
  generalize hz : ("list_reverseiterator.__length_hint__" : String) = z
  wp_delta
  rw [show splitId z = some ("list_reverseiterator", "__length_hint__") from by subst hz; decide +kernel]
  subst hz
  refine wpAny_bind (wpAny_isInstance (b := true) tyI (by rw [isSubtype_type]; kernel_rfl) (wpAny_pure ?_))
  rw [if_neg (by decide)]
  have z0 : (items.size : Int) - 1 - ((0 : Nat) : Int) = (items.size : Int) - 1 := by omega
  refine wpAny_pure ⟨plainId_quiet F.plain_extend_loop _, codeAny_extend_loopS Wk hn S nf _ items.size 0 _ _ _ rfl (Nat.zero_le _) ⟨Nat.zero_le _, by rw [z0]; exact hit, hl⟩ hS (ItemsOf.nil _) fun s1 acc c1 mv at1 got => ?_⟩
  rw [Moved.eq_with mv]
  refine hR s1.heap s1.toks acc c1 (fun b o b1 b2 e => mv.heap b o (fun m => ?_) e) at1 got
  simp only [List.mem_cons, List.not_mem_nil, or_false] at m
  rcases m with m | m
  · exact b1 m
  · exact b2 m
theorem call_list_rev {it l : Addr} {items : Array Value} {Q : Value → Shared → Prop} (hh : A.handled = none) (hit : s.heap.IsRevIter it l ((items.size : Int) - 1)) (hl : s.heap.IsList l items) (hne : l ≠ it) (hn : items.size ≤ sizeLine)
    (hQ : ∀ h1 tk acc c1, (∀ b o, b ≠ it → s.heap.get? b = some o → h1.get? b = some o) → h1.get? s.heap.objs.size = some { cls := .type "list", dict := none, data := .seq acc c1, slots := #[] } → ItemsOf (fun i v => items[items.size - 1 - i]? = some v) acc items.size → Q (.ref s.heap.objs.size) { s with heap := h1, toks := tk }) :
    wpAny (model prog w) A (call (.type "list") [.ref it]) Q E s := by
  obtain ⟨oi, ei, _⟩ := id hit
  obtain ⟨ol, el, _⟩ := id hl
  have n1 : s.heap.objs.size ≠ it := Nat.ne_of_gt (Heap.lt_size ei)
  have n2 : s.heap.objs.size ≠ l := Nat.ne_of_gt (Heap.lt_size el)
  refine callType_codes (Q₁ := fun x s1 => x = .ref s.heap.objs.size ∧ s1 = { s with heap := s.heap.push { cls := .type "list", data := .seq #[] } }) PySem.F.called_list (PySem.F.typeCall_list_1 _) PySem.F.entry_list_init (code_list_new _ ⟨rfl, rfl⟩) fun x s1 ⟨e1, e2⟩ => ?_
  subst e1 e2
  have p0 : ∀ b o, s.heap.get? b = some o → (s.heap.push { cls := .type "list", data := .seq #[] }).get? b = some o := fun b o e => Heap.get?_push_of_some _ e
  have at0 : (s.heap.push { cls := .type "list", data := .seq #[] }).get? s.heap.objs.size = some { cls := .type "list", data := .seq #[] } := Heap.get?_push_size _ rfl
  refine ⟨⟨_, at0, rfl⟩, PySem.F.args_list_init_2 _ _, ?_⟩
  refine (show wpAny (model prog w) A.in1.in1 (do let old ← Builtin.List.listItems (.ref s.heap.objs.size); Builtin.List.listUpdate (.ref s.heap.objs.size) (fun _ => #[]); letGo old.toList.reverse; Builtin.List.listExtendWith (.ref s.heap.objs.size) (.ref it) .none) _ _ _ from wpAny_bind ?_)
  unfold Builtin.List.listItems
  refine wpAny_bind (wpAny_seqItems at0 rfl (wpAny_pure ?_))
  refine (show wpAny (model prog w) A.in1.in1 (updateSeq s.heap.objs.size (fun _ => #[]) >>= fun _ => letGo (#[] : Array Value).toList.reverse >>= fun _ => Builtin.List.listExtendWith (.ref s.heap.objs.size) (.ref it) .none) _ _ _ from wpAny_bind (wpAny_updateSeq at0 rfl (wpAny_bind (wpAny_letGo ?_))))
  have at2 := Heap.get?_update_self (Obj.mapSeq (fun _ => (#[] : Array Value))) at0 rfl
  have oth : ∀ b o, b ≠ s.heap.objs.size → s.heap.get? b = some o → ((s.heap.push { cls := .type "list", data := .seq #[] }).update s.heap.objs.size (Obj.mapSeq (fun _ => (#[] : Array Value)))).get? b = some o := fun b o nb e => (Heap.get?_update_other _ _ nb.symm).trans (p0 b o e)
  refine ext_rev (A := A.in1) hh (hit.at fun o e => oth it o n1.symm e) (hl.at fun o e => oth l o n2.symm e) hne hn n1 n2 at2 fun h1 tk acc c1 kp a1 got => ?_
  exact ⟨rfl, hQ h1 tk acc c1 (fun b o nb e => kp b o (Nat.ne_of_lt (Heap.lt_size e)) nb (oth b o (Nat.ne_of_lt (Heap.lt_size e)) e)) a1 got⟩
end
section
open RT
variable {X : Cx}
theorem pe_lstRev {e : Expr} {te : TE} {p p2 pos pos2 : Pos} (hc : X.calm = true) (hg : Gl X "list") (hm : X.mg "list" = none) (hg2 : Gl X "reversed") (hm2 : X.mg "reversed" = none) (he : PE X e te) (hs : starEach [e] X.env = (false, eval e X.env) :: starEach [] X.env := by rfl)
    (hs2 : starEach [.Call (.Name "reversed" p2) [e] [] pos2] X.env = (false, eval (.Call (.Name "reversed" p2) [e] [] pos2) X.env) :: starEach [] X.env := by rfl) : PE X (.Call (.Name "list" p) [.Call (.Name "reversed" p2) [e] [] pos2] [] pos) (tLstRev X.K te) := ⟨fun pins s σ H Q I h => by
  refine Call_ (ld_blt I hg hm boot_list (PyProof.Rows.callWith_type1 (args_cons (Call_ (ld_blt I hg2 hm2 PyProof.Rows.boot_reversed (PyProof.Rows.callWith_type1 (args_cons (thn (he.run pins s σ H _ I h) fun u s1 ⟨v, H1, I1, r1, a, xs, ev, hq, q⟩ => args_nil ?_) hs) hs rfl))) hs2) hs2 rfl))
  subst ev
  obtain rfl : u = Value.ref a := r1
  obtain ⟨its, rv, pl, hz⟩ := I1.list hq
  refine call_reversed_list pl.isList (args_nil ?_)
  have J : Inv X pins σ H1 { s1 with heap := s1.heap.push (revObj a ((its.toArray.size : Int) - 1)) } := I1.kept (t' := s1.toks) fun b o e => Heap.get?_push_of_some _ e
  obtain ⟨f0, f1, f2, f3, f4, f5⟩ := I1.fpOk (H' := H1) (b := s1.heap.objs.size) (Nat.le_refl _) (I1.hok.fresh (Nat.le_refl _))
  obtain ⟨ol, el, _⟩ := id pl.isList
  have len : its.toArray.size ≤ sizeLine := by rw [List.size_toArray, ← rv.length]; exact hz
  refine call_list_rev (s := { s1 with heap := s1.heap.push (revObj a ((its.toArray.size : Int) - 1)) }) (I1.ok.hd hc) ⟨_, Heap.get?_push_size _ rfl, rfl, rfl⟩ (pl.isList.push _) (Nat.ne_of_lt (Heap.lt_size el)) len fun h1 tk acc c1 kp a1 got => ?_
  have r0 : (s1.heap.push (revObj a ((its.toArray.size : Int) - 1))).objs.size = s1.heap.objs.size + 1 := Heap.size_push ..
  have ok : ObjOk X.prog X.w (upd H1 (s1.heap.push (revObj a ((its.toArray.size : Int) - 1))).objs.size (.lst xs.reverse)) h1 (s1.heap.push (revObj a ((its.toArray.size : Int) - 1))).objs.size (.lst xs.reverse) := ⟨by rw [List.length_reverse]; exact hz, acc.toList, c1, vals_rev rv got, by rw [Array.toArray_toList]; exact a1⟩
  exact ⟨.ref _, _, J.turnedNew (ch := [s1.heap.objs.size]) (fun b o nb e => kp b o (fun z => nb (by rw [z]; simp)) e) (fun b hb => by
    rw [List.mem_singleton] at hb
    subst hb
    exact ⟨f0, f1, f2, f3, f4, f5⟩) (Nat.le_refl _) ok, rfl, q _ (J.hok.fresh (Nat.le_refl _))⟩⟩
end
section
variable {K : PySem.W.Frag} {ta te tb : TE} {G : Sl} {ds : List PyData} {em ea eb : EM}
end
end TB

/-! TB mirror 7: list(reversed(xs)), sorted pairs, min with default, defs with a default. -/
namespace TB
open PySem PySem.Spec PyProof.Rows L2
section
variable {K : PySem.W.Frag} {te ta tb tx tc : TE} {t : TA} {ea eb ec em : EM} {am : AM} {i j : Nat}
/-! ### list(reversed(xs)) -/
theorem Reps.rev {H : Hp} : ∀ {vs : List V} {ds : List PyData}, Reps K H vs ds → Reps K H vs.reverse ds.reverse
  | _, _, .nil => .nil
  | _, _, .cons h r => by
    rw [List.reverse_cons, List.reverse_cons]
    exact (Reps.rev r).append (.cons h .nil)
theorem imms_iff {xs : List PyData} : imms xs = true ↔ ∀ x ∈ xs, imm x = true := by
  induction xs with
  | nil => exact ⟨fun _ _ h => (nomatch h), fun _ => rfl⟩
  | cons x xs ih =>
    show (imm x && imms xs) = true ↔ _
    rw [Bool.and_eq_true, ih]
    simp
def rLRev (x : EM) : RM := fun g => match x g with
  | some (b, .list ds) => if b || imms ds then some (.l ds.reverse) else none
  | _ => none
theorem sr_lrev (h : SE K te em) : SR K (tLstRev K te) (rLRev em) := fun G g q a e => by
  unfold rLRev at e
  split at e
  · rename_i b ds e1
    split at e
    · rename_i k
      cases e
      have h1 := h G g _ _ a e1
      refine dr_new (n := false) (dn_of (b := b) (fun c σ H e Q q => h1 c σ H e _ fun v H1 s1 r1 => ?_) ?_)
      · have e1 := e.ext s1
        generalize hz : PyData.list ds = z at r1
        cases r1 <;> first | (cases hz; done) | exact (kk_ex hz).elim | skip
        rename_i ad xs ds' h3 r
        cases hz
        refine ⟨ad, xs, rfl, rd_lst (e1.vsame (m := md b)) h3, fun p hp => ?_⟩
        refine q p _ _ (vis c (OF G) (md b) H1) (non_of s1 hp) (s1.trans (same_new hp)) upd_same r.rev fun x o hx => ?_
        have hne : x ≠ p := ne_of_none (e1.vsame x o hx) hp
        rw [hide_at (O := fun b => b = p) hne]
        exact e1.vext (same_new hp) x o hx
      · cases b
        · have k : imms ds = true := by simpa using k
          rw [imms_iff] at k
          show (false || imms ds.reverse) = true
          rw [Bool.false_or, imms_iff]
          exact fun x hx => k x (by simpa using hx)
        · rfl
    · cases e
  · cases e
/-! ### sorted, of pairs of ints -/
def asPairs : List PyData → Option (List (Int × Int))
  | [] => some []
  | .tuple [.int a, .int b] :: r => (asPairs r).map ((a, b) :: ·)
  | _ => none
def pairI (p : Int × Int) : PyData := .tuple [.int p.1, .int p.2]
theorem asPairs_of : ∀ {ds : List PyData} {ps : List (Int × Int)}, asPairs ds = some ps → ds = ps.map pairI
  | [], ps, h => by cases h; rfl
  | d :: ds, ps, h => by
    unfold asPairs at h
    split at h
    · rename_i e; cases e
    · rename_i a b r e
      cases e
      cases z : asPairs ds with
      | none => rw [z] at h; cases h
      | some qs => rw [z] at h; cases h; rw [asPairs_of z]; rfl
    · cases h
theorem asPairs_map : ∀ ps : List (Int × Int), asPairs (ps.map pairI) = some ps
  | [] => rfl
  | (a, b) :: r => by
    show (asPairs (r.map pairI)).map ((a, b) :: ·) = _
    rw [asPairs_map r]; rfl
def leP (p q : Int × Int) : Bool := !SrtO.lexB q p
def sortP (ps : List (Int × Int)) : List (Int × Int) := ps.mergeSort leP
theorem leP_iff {p q : Int × Int} : leP p q = true ↔ p.1 < q.1 ∨ p.1 = q.1 ∧ p.2 ≤ q.2 := by
  unfold leP
  have := @SrtO.lexB_iff q p
  cases h : SrtO.lexB q p with
  | true => rw [h] at this; have := this.mp rfl; simp; omega
  | false => rw [h] at this; simp at this; simp; omega
theorem sortP_perm (ps : List (Int × Int)) : (sortP ps).Perm ps := List.mergeSort_perm _ _
theorem sortP_rising (ps : List (Int × Int)) : (sortP ps).Pairwise fun p q => leP p q = true :=
  List.pairwise_mergeSort (fun a b c h1 h2 => by rw [leP_iff] at *; omega) (fun a b => by rw [Bool.or_eq_true, leP_iff, leP_iff]; omega) ps
theorem sortP_uniq {xs ys : List (Int × Int)} (h : xs.Perm ys) (h1 : xs.Pairwise fun p q => leP p q = true) (h2 : ys.Pairwise fun p q => leP p q = true) : xs = ys :=
  List.Perm.eq_of_pairwise (fun a b _ _ k1 k2 => by rw [leP_iff] at k1 k2; exact Prod.ext (by omega) (by omega)) h1 h2 h
open Classical in
noncomputable def keyV (H : Hp) (x : V) : Int × Int := if h : ∃ p : Int × Int, ∃ t, x = .ref t ∧ Rd H t (.tup [.int p.1, .int p.2]) then Classical.choose h else (0, 0)
theorem rdT_uniq {H : Hp} {t : Addr} {xs ys : List V} (h : Rd H t (.tup xs)) (k : Rd H t (.tup ys)) : xs = ys := by
  rcases h with h | ⟨o, h⟩ <;> rcases k with k | ⟨o', k⟩ <;> rw [h] at k <;> cases k <;> rfl
theorem keyV_eq {H : Hp} {t : Addr} {p : Int × Int} (h : Rd H t (.tup [.int p.1, .int p.2])) : keyV H (.ref t) = p := by
  have hh : ∃ p : Int × Int, ∃ u, V.ref t = .ref u ∧ Rd H u (.tup [.int p.1, .int p.2]) := ⟨p, t, rfl, h⟩
  unfold keyV
  rw [dif_pos hh]
  obtain ⟨u, e, k⟩ := Classical.choose_spec hh
  cases e
  have k := rdT_uniq h k
  injection k with k1 k
  injection k with k2 _
  injection k1 with k1
  injection k2 with k2
  exact (Prod.ext k1 k2).symm
theorem reps_pairs {P H : Hp} (e : Same P H) : ∀ {xs : List V} {ps : List (Int × Int)}, Reps K P xs (ps.map pairI) → xs.map (keyV H) = ps ∧ ∀ x ∈ xs, ∃ t, x = .ref t ∧ Rd H t (.tup [.int (keyV H x).1, .int (keyV H x).2]) ∧ Rep K P x (pairI (keyV H x))
  | _, [], .nil => ⟨rfl, fun _ h => (nomatch h)⟩
  | _, p :: ps, .cons h r => by
    obtain ⟨k1, k2⟩ := reps_pairs e r
    have h' := h
    generalize hz : pairI p = z at h
    cases h <;> first | (cases hz; done) | exact (kk_ex hz).elim | skip
    rename_i t vs ds' h1 h2
    cases hz
    cases h2 with
    | cons a h2 =>
      cases a
      cases h2 with
      | cons b h2 =>
        cases b
        cases h2
        have kk : keyV H (.ref t) = p := keyV_eq (Rd.same e h1)
        refine ⟨by rw [List.map_cons, kk, k1], fun x hx => ?_⟩
        rcases List.mem_cons.mp hx with hx | hx
        · subst hx; rw [kk]; exact ⟨t, rfl, Rd.same e h1, h'⟩
        · exact k2 x hx
theorem reps_of_keys {P H : Hp} : ∀ {ys : List V}, (∀ y ∈ ys, Rep K P y (pairI (keyV H y))) → Reps K P ys ((ys.map (keyV H)).map pairI)
  | [], _ => .nil
  | y :: ys, h => .cons (h y (by simp)) (reps_of_keys fun z hz => h z (by simp [hz]))
/-- sorted of pairs, whatever holds them -/
def rSortedPR (K : PySem.W.Frag) : List V → Hp → VK → Prop := fun vs H Q => ∃ (a : Addr) (xs : List V) (k : V → Int × Int), vs = [V.ref a] ∧ SqL K H a xs ∧ (∀ x ∈ xs, ∃ t, x = V.ref t ∧ Rd H t (.tup [.int (k x).1, .int (k x).2])) ∧
  ∀ ys p, SrtO.Srtd (ltP k) ys → SrtO.Stb (ltP k) ys xs → H p = none → Q (.ref p) (upd H p (.lst ys))
theorem cr_sortedPR {X : Cx} : CallR X (.builtin "sorted") (rSortedPR X.K) := fun pins s σ H vs us Q I r ⟨a, xs, k, hvs, seq, pairs, go⟩ => by
  subst hvs
  obtain ⟨w, rfl, rw_⟩ := vals1 r
  cases (show w = Value.ref a from rw_)
  obtain ⟨its, vi, isl, small⟩ := I.list seq
  have back := refs_back vi fun x m => let ⟨t, e, _⟩ := pairs x m; ⟨t, e⟩
  refine SrtO.sorted_pairsO (k := fun u => k (backV u)) isl.isList (Nat.le_trans (Nat.le_of_eq vi.length.symm) small) (fun v hv => ?_) fun h' d out sorted stable kept fresh made => ?_
  · obtain ⟨t, rfl⟩ := back.2 v hv
    obtain ⟨t', et, rt⟩ := pairs (V.ref t) (by rw [back.1]; exact List.mem_map.mpr ⟨_, hv, rfl⟩)
    cases et
    obtain ⟨_, its2, vi2, o, get, cls, n, dat⟩ := rt.ok I.hok
    obtain ⟨u1, u2, rfl, ⟨t1, rfl⟩, ⟨t2, rfl⟩⟩ := vals2 vi2
    exact ⟨t, o, t1, t2, n, rfl, get, cls, dat⟩
  · obtain ⟨n, made⟩ := made
    have stb : SrtO.Stb (ltP k) (out.map backV) xs := back.1 ▸ SrtO.Stb.map (ltP_swo k) backV stable
    have refs : ∀ u ∈ out, ∃ a, u = Value.ref a := fun u hu => back.2 u (stable.perm.mem_iff.mp hu)
    exact ⟨.ref d, upd H d (.lst (out.map backV)), I.laid (t' := s.toks) kept fresh ⟨by rw [stb.len]; exact small, out, n, vals_back refs, made⟩, rfl, go _ d (SrtO.srtd_map sorted) stb (I.hok.fresh fresh)⟩
def rSortedB (K : PySem.W.Frag) : List V → Hp → VK → Prop := fun vs H Q => rSortedA K vs H Q ∨ rSortedPR K vs H Q
theorem call_sortedB {X : Cx} : CallR X (.builtin "sorted") (rSortedB X.K) := CallR.or call_sortedA cr_sortedPR
def rSoP (x : EM) : RM := fun g => match x g with
  | some (_, .list ds) => match asPairs ds with
    | some ps => some (.l ((sortP ps).map pairI))
    | none => none
  | _ => none
theorem sr_soP (h : SE K te em) : SR K (tCB (rSortedB K) (tCons te tNil)) (rSoP em) := fun G g q a e => by
  unfold rSoP at e
  split at e
  · rename_i ds e1
    split at e
    · rename_i ps hk
      cases e
      have h1 := h.no a e1
      rw [asPairs_of hk] at h1
      refine dr_new (n := false) (dn_of (b := false) (fun c σ H e Q q => h1 c σ H e _ fun v H1 s r => ?_) ?_)
      · have e1 := e.ext s
        generalize hz : PyData.list (ps.map pairI) = z at r
        cases r <;> first | (cases hz; done) | exact (kk_ex hz).elim | skip
        rename_i ad xs ds' h3 r
        cases hz
        obtain ⟨k1, k2⟩ := reps_pairs e1.vsame r
        refine .inr ⟨ad, xs, keyV H1, rfl, rd_lst e1.vsame h3, fun x hx => ?_, fun ys p o1 o2 hp => ?_⟩
        · obtain ⟨t, z1, z2, _⟩ := k2 x hx; exact ⟨t, z1, z2⟩
        · have kk : ys.map (keyV H1) = sortP ps := by
            refine sortP_uniq ?_ ?_ (sortP_rising _)
            · have := o2.perm.map (keyV H1)
              rw [k1] at this
              exact this.trans (sortP_perm _).symm
            · refine List.Pairwise.map _ (R := fun x y => ltP (keyV H1) y x = false) (fun x y z => ?_) o1
              show leP _ _ = true
              unfold leP
              rw [show SrtO.lexB (keyV H1 y) (keyV H1 x) = false from z]; rfl
          have rr : Reps K (vis c (OF G) none H1) ys ((sortP ps).map pairI) := by
            rw [← kk]
            exact reps_of_keys fun y hy => (k2 y (o2.perm.mem_iff.mp hy)).choose_spec.2.2
          refine q p _ _ (hide (fun b => b = p) (vis c (OF G) (md false) (upd H1 p (.lst ys)))) (non_of s hp) (s.trans (same_new hp)) upd_same ?_ (Same.refl _)
          refine Reps.imm (fun x ys' ht hx => ?_) rr ?_
          · have hx : H1 x = some ys' := e1.vsame x _ hx
            have hne : x ≠ p := ne_of_none hx hp
            rw [hide_at (O := fun b => b = p) hne]
            have e2 := e1.ext (same_new (o := .lst ys) hp)
            exact vis_tups e2.h0 e2.mu x ys' ht (by rw [upd_ne hne]; exact hx)
          · rw [imms_iff]; intro x hx; obtain ⟨p, _, rfl⟩ := List.mem_map.mp hx; rfl
      · show (false || imms ((sortP ps).map pairI)) = true
        rw [Bool.false_or, imms_iff]; intro x hx; obtain ⟨p, _, rfl⟩ := List.mem_map.mp hx; rfl
    · cases e
  · cases e
/-! ### min(xs, default=d) -/
def rMinD (K : PySem.W.Frag) : List V → List V → Hp → VK → Prop := fun vs zs H Q => ∃ (a : Addr) (ns : List Int) (d : Int), vs = [.ref a] ∧ zs = [.int d] ∧ SqL K H a (ns.map .int) ∧ Q (.int (if ns = [] then d else minL ns)) H
theorem minOf_spec (n : Int) (ns : List Int) : PySem.W.minOf n ns = minL (n :: ns) := by
  show ns.foldl _ n = ns.foldl min n
  congr 1
  funext a y
  show (if PySem.W.DatumOrd.lt y a = true then y else a) = min a y
  have : PySem.W.DatumOrd.lt y a = decide (y < a) := rfl
  rw [this]
  by_cases h : y < a
  · rw [if_pos (decide_eq_true h)]; omega
  · rw [if_neg (by simpa using h)]; omega
theorem intsAre_of : ∀ {ns : List Int} {us : List Value}, L2.Vals (ns.map .int) us → IntsAre us ns
  | [], _, .nil => .nil
  | n :: ns, _, .cons h r => by
    obtain ⟨t, rfl⟩ := h
    exact .cons _ _ (intsAre_of r)
theorem call_minD {X : Cx} (hc : X.calm = true) (hu : X.A.units + 1 + PySem.W.Datum.depth Int < cLine) : L2.CallRK X (.builtin "min") ["default"] (rMinD X.K) := fun pins s σ H xs zs us ws Q I r1 r2 h => by
  obtain ⟨a, ns, d, rfl, rfl, hq, q⟩ := h
  cases r1 with
  | cons r1 r1' =>
    cases r1'
    cases r2 with
    | cons r2 r2' =>
      cases r2'
      obtain rfl := show _ = Value.ref a from r1
      obtain ⟨its, rv, pl, hz⟩ := I.list hq
      refine PySem.W.min_list_datum_default (I.ok.hd hc) pl.isList (PySem.W.HoldAll.of_ints (ns := ns) (by rw [List.toList_toArray]; exact intsAre_of rv)) hu (fun e h' tk kp => ?_) fun y ys i v h' tk e hi hv kp => ?_
      · exact ⟨.int d, H, I.kept kp, r2, by rw [if_pos e] at q; exact q⟩
      · subst e
        rw [if_neg (by simp)] at q
        obtain ⟨t, rfl⟩ := PySem.W.int_of_holds hv
        exact ⟨.int (PySem.W.minOf y ys), H, I.kept kp, ⟨t, rfl⟩, by rw [minOf_spec]; exact q⟩
theorem unMin {A : Around} {k : Nat} (hr : Room k A) : A.units + 1 + PySem.W.Datum.depth Int < cLine := by
  have := un65 hr
  have : PySem.W.Datum.depth Int ≤ 1 := by decide
  omega
def tMinD (K : PySem.W.Frag) (ta tb : TE) : TE := L2.tCKw (rMinD K) (tCons ta tNil) (tCons tb tNil)
theorem pe_minD {X : Cx} {k : Nat} {e e2 : Expr} {p pos pos2 : Pos} (hc : X.calm = true) (hr : Room k X.A) (hg : Gl X "min") (hm : X.mg "min" = none) (ha : PE X e ta) (hb : PE X e2 tb) (hs : starEach [e] X.env = (false, eval e X.env) :: starEach [] X.env := by rfl) (he : backTo pos (starEach [e] X.env) = (false, eval e X.env) :: backTo pos (starEach [] X.env) := by rfl) (hpl : ((backTo pos (starEach [e] X.env)).any (·.1)) = false := by rfl)
    (h1 : ((backToKw pos (keywordEach [⟨some "default", e2, pos2⟩] X.env)).all fun x => x.fst.isSome) = true := by rfl) (h2 : ((backToKw pos (keywordEach [⟨some "default", e2, pos2⟩] X.env)).any fun x => x.fst.isNone) = false := by rfl) (h3 : List.filterMap (fun x => x.fst) (backToKw pos (keywordEach [⟨some "default", e2, pos2⟩] X.env)) = (["default"] : List Str) := by rfl) : PE X (.Call (.Name "min" p) [e] [⟨some "default", e2, pos2⟩] pos) (tMinD X.K ta tb) :=
  L2.pe_callBK (ks := ["default"]) (call_minD hc (unMin hr)) hg hm (by decide +kernel) (pa_cons ha pa_nil hs) (L2.pk_cons hb L2.pk_nil) (by decide) (by decide) he hpl h1 h2 h3
def eMinD (x y : EM) : EM := fun g => match x g with
  | some (_, .list ds) => match asInts ds with
    | some ns => match y g with
      | some (_, .int d) => some (true, .int (if ns = [] then d else minL ns))
      | _ => none
    | none => none
  | _ => none
theorem se_minD (h : SE K ta ea) (h' : SE K tb eb) : SE K (tMinD K ta tb) (eMinD ea eb) := fun G g b d a e => by
  unfold eMinD at e
  split at e
  · rename_i ds e1
    split at e
    · rename_i ns hk
      split at e
      · rename_i z e2
        cases e
        have h1 := h.no a e1
        rw [asInts_of hk] at h1
        have h2 := h'.no a e2
        show DE K (some false) _ _ _
        refine de_imm (fun c σ H e Q q => h1 c σ H e _ fun v H1 s r => h2 c σ H1 (e.ext s) _ fun u H2 s2 r2 => ?_) rfl
        have e1 := (e.ext s).ext s2
        cases r2
        have r := Rep.mono ((e.ext s).vext s2) r
        generalize hz : PyData.list (ns.map .int) = z at r
        cases r <;> first | (cases hz; done) | exact (kk_ex hz).elim | skip
        rename_i ad xs ds' h3 r
        cases hz
        have := r.ints
        subst this
        exact ⟨ad, ns, _, rfl, rfl, rd_lst e1.vsame h3, q _ H2 (s.trans s2) (.int _)⟩
      · cases e
    · cases e
  · cases e
/-! ### defs with one default, None -/
def HereD (K : PySem.W.Frag) (mg : Str → Option Value) (x : Str) (st : Stmt) (ps : List Str) : Prop := ∃ (f : Addr) (fd : FuncData), FunD K x x (defArgs st) (defBody st) (defScope st) [.non] [] f fd ∧ mg x = some (.ref f) ∧ Binds K fd ps [] ∧ ∃ ds, L2.Vals [.non] ds ∧ Binds K fd ps ds
def DefOkD (P : Program) (w : World) (K : PySem.W.Frag) (mg : Str → Option Value) (base : Heap) (k : Nat) (x : Str) (ps : List Str) (sp : Sp) : Prop :=
  ∃ (f : Addr) (fd : FuncData), FnOk P w K mg base CX0 k f fd ps sp ∧ mg x = some (.ref f) ∧ PySem.W.keepIn K (.ref f) = true ∧ Binds K fd ps [] ∧ ∃ ds, L2.Vals [.non] ds ∧ Binds K fd ps ds
theorem DefOkD.to {P : Program} {w : World} {mg : Str → Option Value} {base : Heap} {k : Nat} {x : Str} {ps : List Str} {sp : Sp} (D : DefOkD P w K mg base k x ps sp) : DefOk P w K mg base k x ps sp := by
  obtain ⟨f, fd, F, hm, kp, b, _⟩ := D
  exact ⟨f, fd, F, hm, kp, b⟩
theorem mkDefD {P : Program} {w : World} {mg : Str → Option Value} {base : Heap} {x : Str} {st : Stmt} {N ps : List Str} {k : Nat} {ts : TS} {sp : Sp} (h : HereD K mg x st ps) (S : FnScope N ps (defScope st)) (hlen : ∀ vs H Q E, sp vs H Q E → vs.length = ps.length)
    (hder : ∀ (f : Addr) (cdv : Value) (A : Around) (outer : List Env) (s : Shared) (H : Hp) (E : XK), Room k (A.deeper (envOfC x (defScope st) s.heap.objs.size f cdv)) → PSs (cxOf CX0 P w K mg base N x (defScope st) f cdv A outer s H E).nox (defBody st) ts)
    (hraw : ∀ vs H Q E, sp vs H Q E → ts { nx := fun _ H' => Q .non H', rt := Q } (L2.start N vs) H) : DefOkD P w K mg base (k + 1) x ps sp := by
  obtain ⟨f, fd, F, hm, b, b1⟩ := h
  exact ⟨f, fd, F.ok S hlen (fun cdv A outer s H vs Q E hr hsp => ⟨ts, (hder f cdv A outer s H E hr).nox, hraw vs H Q E hsp⟩), hm, F.kp, b, b1⟩
theorem pe_callD1 {X : Cx} {k : Nat} {x : Str} {ps : List Str} {sp : Sp} {p pos : Pos} {e : Expr} {es : List Expr} (D : DefOkD X.prog X.w X.K X.mg X.base k x ps sp) (hr : Room k X.A) (hg : Gl X x) (ha : PA X (e :: es) t) (hdb : (x == ("__debug__" : Str)) = false := by decide)
    (he : starEach (e :: es) X.env = (false, eval e X.env) :: starEach es X.env := by rfl) (hpl : (backTo pos (starEach es X.env)).any (·.1) = false := by rfl) : PE X (.Call (.Name x p) (e :: es) [] pos) (tCall sp [.non] E0 t) := by
  obtain ⟨f, fd, F, hm, kp, _, ds, v, b⟩ := D
  exact pe_call F hr hg hm kp b v pass0 ha hdb he hpl
def aMore (x : AM) : AM := fun g => match x g with
  | some (b, ds) => some (b, ds ++ [.none])
  | none => none
def rCallN (f : MF) (am : AM) : RM := rCall f (aMore am)
def eCallN (f : MF) (am : AM) : EM := eCall f (aMore am)
def tMore (t : TA) : TA := fun σ H Q => t σ H fun vs H1 => Q (vs ++ [.non]) H1
theorem sa_more (h : SA K t am) : SA K (tMore t) (aMore am) := fun G g b ds a e => by
  unfold aMore at e
  split at e
  · rename_i b ds e1
    cases e
    intro c σ H e Q q
    exact h G g _ _ a e1 c σ H e _ fun vs H1 s r => q _ H1 s (r.append (.cons .non .nil))
  · cases e
theorem tCall_more {sp : Sp} : tCall sp [.non] E0 t = tCall sp [] E0 (tMore t) := by
  funext σ H Q
  show t σ H (fun vs H1 => sp (vs ++ [.non]) H1 Q E0) = t σ H fun vs H1 => sp (vs ++ [.non] ++ []) H1 Q E0
  simp
theorem sr_callN {sp : Sp} {f : MF} (hs : SpOk K sp [] f) (h : SA K t am) : SR K (tCall sp [.non] E0 t) (rCallN f am) := by
  rw [tCall_more]
  exact sr_call hs (sa_more h)
theorem se_callN {sp : Sp} {f : MF} (hs : SpOk K sp [] f) (h : SA K t am) : SE K (tCall sp [.non] E0 t) (eCallN f am) := by
  rw [tCall_more]
  exact se_call hs (sa_more h)
/-! ### the empty dict, one's own -/
def rDi0 : RM := fun _ => some (.k [])
theorem sr_di0 : SR K tDNewK rDi0 := fun G g q a e => by
  cases e
  exact fun c σ H e Q q p hp => q _ _ (same_new hp) ⟨.odic false p (kk []), rfl, by simp [B.ows], fun b hb => (by simp [B.ows] at hb; rw [hb]; exact hp), rfl, [], upd_same, .nil⟩
end
end TB

/-! TB mirror 8: list(range(a, b)). -/
namespace TB
open PySem PySem.Spec PyProof.Rows L2
section
variable {K : PySem.W.Frag} {te ta tb : TE} {ea eb : EM}
def rgZ (lo hi : Int) : List Int := (List.range (hi - lo).toNat).map fun i : Nat => lo + i
def rLRg2 (x y : EM) : RM := fun g => match x g with
  | some (_, .int lo) => match y g with
    | some (_, .int hi) => if (decide (-100000 ≤ lo) && decide (lo ≤ 100000)) && (decide (-100000 ≤ hi) && decide (hi ≤ 100000)) then some (.l ((rgZ lo hi).map .int)) else none
    | _ => none
  | _ => none
theorem sr_lrg2 (h : SE K ta ea) (h' : SE K tb eb) : SR K (tLstRg (tRg2 ta tb)) (rLRg2 ea eb) := fun G g q a e => by
  unfold rLRg2 at e
  split at e
  · rename_i lo e1
    split at e
    · rename_i hi e2
      split at e
      · rename_i c
        simp only [Bool.and_eq_true, decide_eq_true_eq] at c
        cases e
        have h1 := h.no a e1
        have h2 := h'.no a e2
        refine dr_new (n := false) fun cc σ H e Q q => h1 cc σ H e _ fun v H1 s r => h2 cc σ H1 (e.ext s) _ fun u H2 s2 r2 => ?_
        cases r
        cases r2
        refine ⟨lo, hi, rfl, rfl, ?_, fun p hp => q p _ (upd H2 p (.lst _)) (non_of (s.trans s2) hp) ((s.trans s2).trans (same_new hp)) upd_same ?_⟩
        · unfold RgOk; omega
        · have : rgV lo hi = (rgZ lo hi).map V.int := by unfold rgV rgZ; rw [List.map_map]; rfl
          rw [this]
          exact Reps.of_ints _
      · cases e
    · cases e
  · cases e
/-! ### shifts, and -/
def rShl : R2 := rI CPow fun i j => .int (i * 2 ^ j.toNat)
def rShr : R2 := rI (fun _ j => 0 ≤ j) fun i j => .int (i / 2 ^ j.toNat)
def rAndI : R2 := rI0 fun i j => .int (Builtin.bitAnd i j)
theorem op_shlI {X : Cx} : OpR X (binaryOp .LShift) rShl := op_shl
theorem op_shrI {X : Cx} : OpR X (binaryOp .RShift) rShr := op_shr
theorem op_andI {X : Cx} : OpR X (binaryOp .BitAnd) rAndI := op_and
def pShl := pIc cPow fun a b => .int (a * 2 ^ b.toNat)
def pShr := pIc (fun _ b => decide (0 ≤ b)) fun a b => .int (a / 2 ^ b.toNat)
def pAndI := pI fun a b => .int (Builtin.bitAnd a b)
theorem o_shl : Op0 K rShl pShl := op_pIc fun _ a b _ _ c h1 h2 => by
  unfold cPow at c
  simp only [Bool.and_eq_true, decide_eq_true_eq] at c
  exact de_op0 (opd_I (C := CPow) (g := fun i j => .int (i * 2 ^ j.toNat)) ⟨c.1.1, c.1.2, c.2⟩ (.int _)) rfl h1 h2
theorem o_shr : Op0 K rShr pShr := op_pIc fun _ a b _ _ c h1 h2 => de_op0 (opd_I (g := fun i j => .int (i / 2 ^ j.toNat)) (of_decide_eq_true c) (.int _)) rfl h1 h2
theorem o_andI : Op0 K rAndI pAndI := op_pI fun _ a b _ _ h1 h2 => de_op0 (opd_I0 (g := fun i j => .int (Builtin.bitAnd i j)) (.int _)) rfl h1 h2
end
end TB

/-! TB mirror, 9: order of lists of ints. -/
namespace TB
open PySem PySem.Spec PyProof.Rows L2
section
open PySem.SeqAt
def eAt (ns ms : List Int) (j : Nat) : Bool := ns.getD j 0 == ms.getD j 0
def lAt (ns ms : List Int) (j : Nat) : Bool := decide (ns.getD j 0 < ms.getD j 0)
theorem first_lex : ∀ ns ms : List Int, firstLt (eAt ns ms) (lAt ns ms) (decide (ns.length < ms.length)) (List.range (min ns.length ms.length)) = HT.lexLt ns ms
  | [], [] => rfl
  | [], y :: ys => by simp [firstLt, HT.lexLt]
  | x :: xs, [] => by simp [firstLt, HT.lexLt]
  | x :: xs, y :: ys => by
    have ih := first_lex xs ys
    rw [List.length_cons, List.length_cons, Nat.add_min_add_right, List.range_succ_eq_map, HT.lexLt_cons]
    have e : decide (xs.length + 1 < ys.length + 1) = decide (xs.length < ys.length) := by
      by_cases h : xs.length < ys.length
      · rw [decide_eq_true h, decide_eq_true (by omega)]
      · rw [decide_eq_false h, decide_eq_false (by omega)]
    rw [e]
    by_cases h : x = y
    · rw [if_pos h, firstLt_yes (show eAt (x :: xs) (y :: ys) 0 = true by simp [eAt, h]), PySem.W.firstLt_map]
      exact ih
    · rw [if_neg h, firstLt_no (show eAt (x :: xs) (y :: ys) 0 = false by simp [eAt, h])]
      rfl
end
/-- a < b of lists of ints -/
def rLtL (K : PySem.W.Frag) : R2 := fun x y H Q => ∃ a b ns ms, x = .ref a ∧ y = .ref b ∧ SqL K H a (ns.map V.int) ∧ SqL K H b (ms.map V.int) ∧ Q (.bl (HT.lexLt ns ms)) H
theorem ints_at {its : List Value} {ns : List Int} (r : Vals (ns.map V.int) its) {j : Nat} (h : j < its.toArray.size) : ∃ t, its.toArray[j] = .int (ns.getD j 0) t := by
  have hl := r.length
  rw [List.length_map] at hl
  have hj : j < its.length := by simpa using h
  have hn : j < ns.length := by omega
  obtain ⟨u, hu, ru⟩ := r.get (show (ns.map V.int)[j]? = some (.int (ns.getD j 0)) by rw [List.getElem?_map, List.getElem?_eq_getElem hn, List.getD_eq_getElem?_getD, List.getElem?_eq_getElem hn]; rfl)
  obtain ⟨t, rfl⟩ := ru
  refine ⟨t, ?_⟩
  rw [List.getElem?_eq_getElem hj] at hu
  simpa using Option.some.inj hu
theorem op_ltL {X : Cx} (hu : X.A.units < cLine) : OpR X (compareOp .Lt) (rLtL X.K) := by
  intro pins s σ H x y v u Q I rx ry h
  obtain ⟨a, b, ns, ms, rfl, rfl, ha, hb, q⟩ := h
  cases rx
  cases ry
  obtain ⟨i1, r1, p1, _⟩ := I.list ha
  obtain ⟨i2, r2, p2, _⟩ := I.list hb
  have l1 := r1.length
  have l2 := r2.length
  rw [List.length_map] at l1 l2
  have z := PySem.SeqAt.RcLt.lists p1.isList p2.isList hu (e := eAt ns ms) (r := lAt ns ms) (fun j h1 h2 => by
    obtain ⟨t, e1⟩ := ints_at r1 h1
    obtain ⟨u, e2⟩ := ints_at r2 h2
    rw [e1, e2]
    exact PySem.SeqAt.EqAt.int_int _ _ _ _) (fun j h1 h2 _ => by
    obtain ⟨t, e1⟩ := ints_at r1 h1
    obtain ⟨u, e2⟩ := ints_at r2 h2
    rw [e1, e2]
    exact fun prog w E Q h => HT.rcLt_int _ _ _ _ _ _ prog w E Q h)
  rw [List.size_toArray, List.size_toArray, ← l1, ← l2, first_lex] at z
  exact z _ _ _ _ ⟨.bl (HT.lexLt ns ms), H, I, rfl, q⟩
section
variable {K : PySem.W.Frag} {ta tb : TE} {G : Sl}
def pLtL : PyData → PyData → Option PyData
  | .list xs, .list ys => match asInts xs with
    | some ns => match asInts ys with
      | some ms => some (.bool (HT.lexLt ns ms))
      | none => none
    | none => none
  | _, _ => none
theorem o_ltL : Op0 K (rLtL K) pLtL := fun G x y z ta tb e h1 h2 => by
  unfold pLtL at e
  split at e
  · split at e
    · rename_i ns hn
      split at e
      · rename_i ms hm
        cases e
        rw [asInts_of hn] at h1
        rw [asInts_of hm] at h2
        refine de_op0 (x := .list (ns.map .int)) (y := .list (ms.map .int)) (fun P H v u Q s r1 r2 q => ?_) rfl h1 h2
        cases r1 with
        | @lst a xs _ g1 r1 =>
          cases r2 with
          | @lst b ys _ g2 r2 =>
            have z1 := r1.ints
            have z2 := r2.ints
            subst z1 z2
            exact ⟨a, b, ns, ms, rfl, rfl, rd_lst s g1, rd_lst s g2, q _ H (Same.refl H) (.bl _)⟩
      · cases e
    · cases e
  · cases e
theorem pLtL_ints (ns ms : List Int) : pLtL (.list (ns.map .int)) (.list (ms.map .int)) = some (.bool (HT.lexLt ns ms)) := by
  unfold pLtL
  simp only [asInts_map]
end
end TB

/-! TB mirror, A: lists of the heap in containers, handed back as one's own. -/
namespace TB
open PySem PySem.Spec PyProof.Rows L2
section
variable {K : PySem.W.Frag} {m : Md} {te ta : TE} {ts : TS} {G : Sl} {ds : List PyData} {em : EM} {rm : RM} {sm : SM}
def mk (ds : List PyData) : PyData := exD .none ds
theorem vis_new {c : C} {σ : L2.St} {H H' : Hp} {a : Addr} {o : HO} (e : Sits K c G σ H) (h : H a = none) (s : Same H H') (ho : nf (H' a) = some o) : vis c (OF G) (some false) H' a = some o := by
  show hide (OF G) _ a = _
  rw [hide_at (e.nof h), plus_new (non_of e.h0 h)]
  exact ho
theorem de_mk (h : DR K te G (.own false ds)) : DE K (some false) te G (mk ds) := fun c σ H e Q q => h c σ H e Q fun v H' s ⟨b, h1, _, h3, h4⟩ => by
  cases b <;> first | (cases h1; done) | skip
  rename_i n a es
  cases h1
  obtain ⟨rfl, vs, h5, h6⟩ := h4
  refine q _ H' s (.ex (x := .none) (vs := vs) ?_ (Reps.mono hide_same h6))
  exact vis_new e (h3 _ (by simp [B.ows])) s (by rw [h5]; rfl)
def eMk (r : RM) : EM := fun g => match r g with
  | some (.l ds) => some (true, mk ds)
  | _ => none
theorem se_mk (h : SR K te rm) : SE K te (eMk rm) := fun G g b d a e => by
  unfold eMk at e
  split at e
  · rename_i ds e1
    cases e
    exact de_mk (h G g _ a e1)
  · cases e
def unm : PyData → PyData
  | .dict [(.none, .tuple (.none :: ds))] => .list ds
  | d => d
theorem unm_mk (ds : List PyData) : unm (mk ds) = .list ds := rfl
theorem rep_mk {H : Hp} {v : V} (h : Rep K H v (mk ds)) : ∃ a vs, v = .ref a ∧ H a = some (.lst vs) ∧ Reps K H vs ds := by
  generalize hz : mk ds = z at h
  cases h <;> first | (cases hz; done) | skip
  · rename_i a kvs kds h1 h2
    cases hz
    generalize hk : [(PyData.none, PyData.tuple (PyData.none :: ds))] = kd at h2
    cases h2 with
    | nil => cases hk
    | @cons k v d r s _ _ =>
      have := (Prod.mk.inj (List.cons.inj hk).1).1
      cases k <;> cases this
  · rename_i a x vs es h1 h2
    cases hz
    exact ⟨a, vs, rfl, h1, h2⟩
theorem rep_unm {H : Hp} {v : V} {d : PyData} (h : Rep K H v d) : Rep K H v (unm d) := by
  unfold unm
  split
  · obtain ⟨a, vs, rfl, h1, h2⟩ := rep_mk h
    exact .lst (.inl (.inl h1)) h2
  · exact h
theorem de_unm {d : PyData} (h : DE K m te G d) : DE K m te G (unm d) := fun c σ H e Q q => h c σ H e Q fun v H' s r => q v H' s (rep_unm r)
def eUm (x : EM) : EM := fun g => match x g with
  | some (b, d) => some (b, unm d)
  | none => none
theorem se_um (h : SE K te em) : SE K te (eUm em) := fun G g b d a e => by
  unfold eUm at e
  split at e
  · rename_i e1
    cases e
    exact de_unm (h G g _ _ a e1)
  · cases e
/-! ### handed back as one's own -/
def relQ : Q → Option Q
  | .v (.dict [(.none, .tuple (.none :: ds))]) => if imms ds then some (.l ds) else none
  | q => some q
def relM (f : MF) : MF := fun vs => if imms vs then (match f vs with
  | some q => relQ q
  | none => none) else none
theorem relQ_cases {q0 q : Q} (h : relQ q0 = some q) : (∃ es, q0 = .v (mk es) ∧ imms es = true ∧ q = .l es) ∨ q = q0 := by
  unfold relQ at h
  split at h
  · split at h
    · cases h; exact .inl ⟨_, rfl, by assumption, rfl⟩
    · cases h
  · cases h; exact .inr rfl
theorem rel_of {f : MF} {vs : List PyData} (hv : imms vs = true) (h : f vs = some (.v (mk ds))) (hd : imms ds = true) : relM f vs = some (.l ds) := by
  unfold relM
  rw [if_pos hv, h]
  show (if imms ds then _ else _) = _
  rw [if_pos hd]
theorem rel_id {f : MF} {vs : List PyData} {q : Q} (hv : imms vs = true) (h : f vs = some q) (hq : relQ q = some q) : relM f vs = some q := by
  unfold relM
  rw [if_pos hv, h]
  exact hq
theorem retR_mono {P P' H H' : Hp} {v : V} {r : R} (e : Same P P') (h : RetR K P H H' v r) : RetR K P' H H' v r := by
  obtain ⟨b, h1, h2, h3, h4⟩ := h
  refine ⟨b, h1, h2, h3, h4.mono (fun n => hide_le (plus_mono ?_) fun _ _ _ p => p) (Same.refl _)⟩
  unfold gq
  cases n
  · exact e
  · exact Same.refl _
noncomputable def tupsIn (F : Hp) : Hp := fun a => match F a with
  | some o => if isT o = true then some o else none
  | none => none
theorem tupsIn_some {F : Hp} {a : Addr} {o : HO} (h : tupsIn F a = some o) : F a = some o ∧ isT o = true := by
  unfold tupsIn at h
  cases e : F a with
  | none => rw [e] at h; cases h
  | some u =>
    rw [e] at h
    cases t : isT u with
    | true => simp only [t, if_true] at h; cases h; exact ⟨rfl, t⟩
    | false => simp only [t] at h; cases h
theorem tupsIn_same {F : Hp} : Same (tupsIn F) F := fun a o h => (tupsIn_some h).1
theorem tupsIn_of {F : Hp} : tupsOf F (tupsIn F) := fun a o t h => by
  unfold tupsIn
  rw [h]
  exact if_pos t
theorem raw_Rel {N : List Str} {k : Nat} (h : SS K ts sm) : ∀ vs H Q E, spM K (relM (runM N.length k sm)) vs H Q E → ts { nx := fun _ H' => Q .non H', rt := Q } (L2.start N vs) H := fun vs H Q E ⟨F, ds, hF, hv, hp, kq⟩ => by
  have hp : (relM (runM N.length k sm) ds).isSome = true := hp
  obtain ⟨q, hq⟩ := Option.isSome_iff_exists.mp hp
  have hq0 := hq
  unfold relM at hq
  split at hq
  · rename_i hi
    cases e : runM N.length k sm ds with
    | none => rw [e] at hq; cases hq
    | some q0 =>
      rw [e] at hq
      have hq : relQ q0 = some q := hq
      refine raw_M h vs H Q E ⟨tupsIn F, ds, tupsIn_same.trans hF, Reps.imm tupsIn_of hv hi, (show (runM N.length k sm ds).isSome = true by rw [e]; rfl), fun r v H' ⟨q1, h1, h2⟩ s hr => ?_⟩
      rw [e] at h1
      cases h1
      subst h2
      rcases relQ_cases hq with ⟨es, rfl, hes, rfl⟩ | rfl
      · refine kq _ v H' ⟨_, hq0, rfl⟩ s ?_
        obtain ⟨b, b1, b2, b3, b4⟩ := hr
        have : b = .sh false (mk es) := strip_v b1
        subst this
        have b4 : Rep K _ v (mk es) := b4
        obtain ⟨a, ws, rfl, c1, c2⟩ := rep_mk b4
        obtain ⟨_, c1⟩ := hide_some c1
        have new : H a = none ∧ H' a = some (.lst ws) := by
          rcases plus_cases c1 with ⟨d1, d2⟩ | ⟨t, _⟩ | ⟨d1, _⟩
          · exact ⟨d1, nf_some d2⟩
          · cases t
          · have d1 : tupsIn F a = some (.lst ws) := d1
            cases (tupsIn_some d1).2
        refine ⟨.own false a es, rfl, by simp [B.ows], fun x hx => ?_, rfl, ws, new.2, ?_⟩
        · obtain rfl : x = a := by simpa [B.ows] using hx
          exact new.1
        · refine Reps.imm (fun x xs ht hx => ?_) c2 hes
          obtain ⟨_, hx⟩ := hide_some hx
          show hide _ _ x = _
          rw [hide_at]
          · exact plus_mono (show Same (gq (tupsIn F) false) (gq F false) from tupsIn_same) _ _ hx
          · intro z
            obtain rfl : x = a := by simpa [B.ows] using z
            rw [plus_new new.1, new.2] at hx
            have hx := nf_some hx
            cases hx
            cases ht
      · exact kq _ v H' ⟨_, hq0, rfl⟩ s (retR_mono tupsIn_same hr)
  · cases hq
theorem relM_len {N k : Nat} {s : SM} : ∀ vs, (relM (runM N k s) vs).isSome = true → vs.length = k := fun vs h => by
  unfold relM at h
  split at h
  · refine runM_len (N := N) (s := s) vs ?_
    cases e : runM N k s vs with
    | none => rw [e] at h; cases h
    | some q => rfl
  · cases h
end
theorem ul_of {k : Nat} {A : Around} (hr : Room k A) : A.units < cLine := by have := hr.un; omega
end TB

/-! TB mirror, B: zip of a tuple and two lists. -/
namespace TB
open PySem PySem.Spec PyProof.Rows L2
def It3 (K : PySem.W.Frag) (a b c : Addr) (n1 n2 n3 : Nat) : It where
  go i H := i < min (min n1 n2) n3 ∧ ∃ xs ys zs : List V, (SqT K H a xs ∧ xs.length = n1) ∧ (SqL K H b ys ∧ ys.length = n2) ∧ SqL K H c zs ∧ zs.length = n3
  yld i H v H' := ∃ T x y z, v = .ref T ∧ H T = none ∧ H' = upd H T (.tup [x, y, z]) ∧ (∀ xs, SqT K H a xs → xs[i]? = some x) ∧ (∀ ys, SqL K H b ys → ys[i]? = some y) ∧ ∀ zs, SqL K H c zs → zs[i]? = some z
  stop i H := min (min n1 n2) n3 ≤ i ∧ ∃ xs ys zs : List V, (SqT K H a xs ∧ xs.length = n1) ∧ (SqL K H b ys ∧ ys.length = n2) ∧ SqL K H c zs ∧ zs.length = n3
theorem vals_at {xs : List V} {its : List Value} {i : Nat} {u : Value} (r : Vals xs its) (h : its.toArray[i]? = some u) : ∃ x, xs[i]? = some x ∧ RelV x u := by
  have h : its[i]? = some u := by simpa using h
  have hl := r.length
  have hi := (List.getElem?_eq_some_iff.mp h).1
  obtain ⟨u', h1, h2⟩ := r.get (List.getElem?_eq_getElem (show i < xs.length by omega))
  rw [h] at h1
  cases h1
  exact ⟨_, List.getElem?_eq_getElem (by omega), h2⟩
theorem turn_zip3 {P : Program} {w : World} {K : PySem.W.Frag} {ls : List Expr} {k0 : Nat} {ps : Pos} {z TI TO i1 i2 i3 a b c : Addr} (n1 n2 n3 : Nat) (S : ZipSep3 z TI TO i1 i2 i3 [i1, a] [i2, b] [i3, c]) (a1 : a ≠ i1) (b1 : b ≠ i2) (c1 : c ≠ i3) :
    Turn P w K (.Tuple ls k0 ps) (It3 K a b c n1 n2 n3) [z, TI, TO, i1, i2, i3] z (fun i h => (IsZip h z TI TO .none ∧ IsTupOf3 h TI (.ref i1) (.ref i2) (.ref i3) ∧ (∃ x y u, IsTupOf3 h TO x y u) ∧ h.IsTupleIter i1 a i ∧ h.IsListIter i2 b i ∧ h.IsListIter i3 c i) ∧ i ≤ min (min n1 n2) n3) := by
  have six : ∀ {q}, q ∈ [z, TI, TO, i1, i2, i3] → q = z ∨ q = TI ∨ q = TO ∨ q = i1 ∨ q = i2 ∨ q = i3 := fun hb => by simpa using hb
  refine ⟨by simp, fun i h ⟨⟨hz, hTI, ⟨x, y, u, hTO⟩, ⟨o1, e1, _, d1⟩, ⟨o2, e2, _, d2⟩, ⟨o3, e3, _, d3⟩⟩, _⟩ q hq => ?_, fun i h h2 ⟨⟨hz, hTI, ⟨x, y, u, hTO⟩, h1, h2', h3⟩, r⟩ kp => ?_, ?_, ?_, fun A i s Q E st q => wpAny_pyIter_zip st.1.1 q⟩
  · rcases six hq with rfl | rfl | rfl | rfl | rfl | rfl
    · exact ⟨_, hz, fun v q => nomatch q⟩
    · exact ⟨_, hTI, fun v q => nomatch q⟩
    · exact ⟨_, hTO, fun v q => nomatch q⟩
    · exact ⟨o1, e1, fun v q => by rw [d1] at q; cases q⟩
    · exact ⟨o2, e2, fun v q => by rw [d2] at q; cases q⟩
    · exact ⟨o3, e3, fun v q => by rw [d3] at q; cases q⟩
  · exact ⟨⟨kp z (by simp) _ hz, kp TI (by simp) _ hTI, ⟨x, y, u, kp TO (by simp) _ hTO⟩, h1.at fun o q => kp i1 (by simp) o q, h2'.at fun o q => kp i2 (by simp) o q, h3.at fun o q => kp i3 (by simp) o q⟩, r⟩
  · rintro X rfl rfl rfl calm i pins s σ H E I hf ⟨⟨hz, hTI, hTO, h1, h2, h3⟩, hin⟩ ⟨hlt, xs, ys, zs, ⟨qx, lx⟩, ⟨qy, ly⟩, qz, lz⟩
    obtain ⟨t1, r1, p1, _⟩ := I.tuple qx
    obtain ⟨t2, r2, p2, _⟩ := I.list qy
    obtain ⟨t3, r3, p3, _⟩ := I.list qz
    have D1 := Draws.tuple (prog := X.prog) (w := X.w) (A := X.A.in1) (I.ok.hd calm) i1 a a1 t1.toArray
    have D2 := Draws.list (prog := X.prog) (w := X.w) (A := X.A.in1) (I.ok.hd calm) i2 b b1 t2.toArray
    have D3 := Draws.list (prog := X.prog) (w := X.w) (A := X.A.in1) (I.ok.hd calm) i3 c c1 t3.toArray
    have s1 : t1.toArray.size = n1 := by have := r1.length; simp; omega
    have s2 : t2.toArray.size = n2 := by have := r2.length; simp; omega
    have s3 : t3.toArray.size = n3 := by have := r3.length; simp; omega
    rw [s1] at D1
    rw [s2] at D2
    rw [s3] at D3
    have Wk := WalksT.zipD3 (A := X.A) S D1 D2 D3
    have pt1 : s.heap.IsTuple a t1.toArray := p1
    have lz' : z < s.heap.objs.size := Heap.lt_size hz
    refine Wk.item i s _ E hlt ⟨hz, hTI, hTO, ⟨h1, pt1⟩, ⟨h2, p2.isList⟩, ⟨h3, p3.isList⟩⟩ fun T vals h' tk ⟨u1, u2, u3, e1, e2, e3, ev⟩ hle hT hm hk => ?_
    refine ⟨_, rfl, Wk.go _ _ _ i T { s with heap := h', toks := tk } _ _ hm fun h'' hst hk2 => ?_⟩
    subst ev
    obtain ⟨v1, f1, g1⟩ := vals_at r1 e1
    obtain ⟨v2, f2, g2⟩ := vals_at r2 e2
    obtain ⟨v3, f3, g3⟩ := vals_at r3 e3
    have nT := Wk.apart i T h' hm
    obtain ⟨oT, eT, cT, nT2, dT⟩ := hT
    have eT2 := hk2 T oT nT eT
    have ok : ObjOk X.prog X.w (upd H T (.tup [v1, v2, v3])) h'' T (.tup [v1, v2, v3]) := ⟨(by show 3 ≤ sizeLine; decide), [u1, u2, u3], .cons g1 (.cons g2 (.cons g3 .nil)), oT, eT2, cT, nT2, dT⟩
    have J : Inv X pins σ (upd H T (.tup [v1, v2, v3])) { s with heap := h'', toks := tk } := I.turnedNew (ch := [z, TI, TO, i1, i2, i3]) (fun q ob nb e => by
      have nw : q ∉ [z, TO, i1, i2, i3] := fun m => nb (by
        have : q = z ∨ q = TO ∨ q = i1 ∨ q = i2 ∨ q = i3 := by simpa using m
        rcases this with rfl | rfl | rfl | rfl | rfl <;> simp)
      exact hk2 q ob nw (hk q ob nw e)) hf hle ok
    have HT : H T = none := I.hok.fresh hle
    refine ⟨.ref T, _, J, rfl, ⟨T, v1, v2, v3, rfl, HT, rfl, fun l hl => by rw [I.tuple_inj hl qx]; exact f1, fun l hl => by rw [I.list_inj hl qy]; exact f2, fun l hl => by rw [I.list_inj hl qz]; exact f3⟩, ⟨⟨hst.1, hst.2.1, hst.2.2.1, hst.2.2.2.1.1, hst.2.2.2.2.1.1, hst.2.2.2.2.2.1⟩, hlt⟩, fun q hq => ?_⟩
    have lq : q < s.heap.objs.size := by
      rcases six hq with rfl | rfl | rfl | rfl | rfl | rfl
      · exact lz'
      · exact Heap.lt_size hTI
      · obtain ⟨_, _, _, e⟩ := hTO; exact Heap.lt_size e
      · obtain ⟨_, e, _⟩ := h1; exact Heap.lt_size e
      · obtain ⟨_, e, _⟩ := h2; exact Heap.lt_size e
      · obtain ⟨_, e, _⟩ := h3; exact Heap.lt_size e
    rw [upd_ne (Nat.ne_of_lt (Nat.lt_of_lt_of_le lq hle))]
    exact (hf q hq).1
  · rintro X rfl rfl rfl calm i pins s σ H E I hf ⟨⟨hz, hTI, hTO, h1, h2, h3⟩, hin⟩ ⟨hge, xs, ys, zs, ⟨qx, lx⟩, ⟨qy, ly⟩, qz, lz⟩
    obtain ⟨t1, r1, p1, _⟩ := I.tuple qx
    obtain ⟨t2, r2, p2, _⟩ := I.list qy
    obtain ⟨t3, r3, p3, _⟩ := I.list qz
    have D1 := Draws.tuple (prog := X.prog) (w := X.w) (A := X.A.in1) (I.ok.hd calm) i1 a a1 t1.toArray
    have D2 := Draws.list (prog := X.prog) (w := X.w) (A := X.A.in1) (I.ok.hd calm) i2 b b1 t2.toArray
    have D3 := Draws.list (prog := X.prog) (w := X.w) (A := X.A.in1) (I.ok.hd calm) i3 c c1 t3.toArray
    have s1 : t1.toArray.size = n1 := by have := r1.length; simp; omega
    have s2 : t2.toArray.size = n2 := by have := r2.length; simp; omega
    have s3 : t3.toArray.size = n3 := by have := r3.length; simp; omega
    rw [s1] at D1
    rw [s2] at D2
    rw [s3] at D3
    have Wk := WalksT.zipD3 (A := X.A) S D1 D2 D3
    have pt1 : s.heap.IsTuple a t1.toArray := p1
    have hi : i = min (min n1 n2) n3 := by omega
    subst hi
    refine Wk.done s _ E ⟨hz, hTI, hTO, ⟨h1, pt1⟩, ⟨h2, p2.isList⟩, ⟨h3, p3.isList⟩⟩ fun h' tk hk => ⟨rfl, I.turnedL (t' := tk) (ch := [z, TI, TO, i1, i2, i3]) (fun q ob nb e => by
      have nw : q ∉ [z, TO, i1, i2, i3] := fun m => nb (by
        have : q = z ∨ q = TO ∨ q = i1 ∨ q = i2 ∨ q = i3 := by simpa using m
        rcases this with rfl | rfl | rfl | rfl | rfl <;> simp)
      exact hk q ob nw e) hf⟩
def iZip3 (K : PySem.W.Frag) (ta : TA) : TI := fun σ H R => ta σ H fun vs H1 => ∃ a b c xs ys zs, vs = [.ref a, .ref b, .ref c] ∧ SqT K H1 a xs ∧ SqL K H1 b ys ∧ SqL K H1 c zs ∧ R (It3 K a b c xs.length ys.length zs.length) H1
theorem pi_zip3 {X : Cx} {e e2 e3 : Expr} {ta : TA} {p pos tpos : Pos} {elts : List Expr} {kk : Nat} (hg : Gl X "zip") (hm : X.mg "zip" = none) (ha : PA X [e, e2, e3] ta)
    (hs : starEach [e, e2, e3] X.env = (false, eval e X.env) :: starEach [e2, e3] X.env := by rfl) (hpl : (backTo pos (starEach [e2, e3] X.env)).any (·.1) = false := by rfl) :
    PI X (.Tuple elts kk tpos) (.Call (.Name "zip" p) [e, e2, e3] [] pos) (iZip3 X.K ta) := by
  refine ⟨fun pins s σ H R I h => ?_⟩
  refine Call_ (ld_blt I hg hm PyProof.Rows.boot_zip (PyProof.Rows.callWith_type1 (thn (ha.run pos pins s σ H _ I h) fun us s1 ⟨vs, H1, I1, r, q⟩ => ?_) hs hpl))
  obtain ⟨a, b, c, xs, ys, zs, ex, qx, qy, qz, q⟩ := q
  subst ex
  cases r with | cons ra rr => ?_
  cases rr with | cons rb rr => ?_
  cases rr with | cons rc rr => ?_
  cases rr
  cases ra
  cases rb
  cases rc
  obtain ⟨t1, v1, p1, _⟩ := I1.tuple qx
  obtain ⟨t2, v2, p2, _⟩ := I1.list qy
  obtain ⟨t3, v3, p3, _⟩ := I1.list qz
  have pt1 : s1.heap.IsTuple a t1.toArray := p1
  have la : a < s1.heap.objs.size := by obtain ⟨_, e, _⟩ := id pt1; exact Heap.lt_size e
  have lb : b < s1.heap.objs.size := by obtain ⟨_, e, _⟩ := id p2.isList; exact Heap.lt_size e
  have lc : c < s1.heap.objs.size := by obtain ⟨_, e, _⟩ := id p3.isList; exact Heap.lt_size e
  refine zip_begins3 (begins_tuple a t1.toArray) (begins_list b t2.toArray) (begins_list c t3.toArray) pt1 p2.isList p3.isList fun h' hz hTI hTO g1 g2 g3 hsz hk => wpAny_pyIter_zip hz ?_
  have fresh : ∀ q, q ∈ [s1.heap.objs.size + 5, s1.heap.objs.size + 3, s1.heap.objs.size + 4, s1.heap.objs.size, s1.heap.objs.size + 1, s1.heap.objs.size + 2] → FpOk X pins H1 q := fun q hq => by
    have hle : s1.heap.objs.size ≤ q := by
      have : q = s1.heap.objs.size + 5 ∨ q = s1.heap.objs.size + 3 ∨ q = s1.heap.objs.size + 4 ∨ q = s1.heap.objs.size ∨ q = s1.heap.objs.size + 1 ∨ q = s1.heap.objs.size + 2 := by simpa using hq
      rcases this with rfl | rfl | rfl | rfl | rfl | rfl <;> first | exact Nat.le_refl _ | exact Nat.le_add_right _ _
    exact I1.fpOk hle (I1.hok.fresh hle)
  have S := zip_sep3 (N := s1.heap.objs.size) (fp1 := [a]) (fp2 := [b]) (fp3 := [c]) (fun q hq => by
    have : q = a := by simpa using hq
    subst this; exact la) (fun q hq => by
    have : q = b := by simpa using hq
    subst this; exact lb) (fun q hq => by
    have : q = c := by simpa using hq
    subst this; exact lc)
  refine ⟨s1.heap.objs.size + 5, _, _, _, H1, rfl, I1.kept (t' := s1.toks) hk, turn_zip3 xs.length ys.length zs.length S (Nat.ne_of_lt la) (Nat.ne_of_lt (Nat.lt_succ_of_lt lb)) (Nat.ne_of_lt (Nat.lt_of_lt_of_le lc (Nat.le_add_right _ 2))), ⟨⟨hz, hTI, ⟨_, _, _, hTO⟩, ⟨_, g1, rfl, rfl⟩, ⟨_, g2, rfl, rfl⟩, ⟨_, g3, rfl, rfl⟩⟩, Nat.zero_le _⟩, fresh, q⟩
section
variable {K : PySem.W.Frag} {ta tb tc : TE} {G : Sl} {ds es fs : List PyData} {ea eb ec : EM}
def trip (a b c : PyData) : PyData := .tuple [a, b, c]
def zip3D : List PyData → List PyData → List PyData → List PyData
  | a :: as, b :: bs, c :: cs => trip a b c :: zip3D as bs cs
  | _, _, _ => []
theorem zip3D_at : ∀ {as bs cs : List PyData} {i : Nat} {d : PyData}, (zip3D as bs cs)[i]? = some d → ∃ x y z, as[i]? = some x ∧ bs[i]? = some y ∧ cs[i]? = some z ∧ d = trip x y z
  | [], _, _, i, d, h => by simp [zip3D] at h
  | _ :: _, [], _, i, d, h => by simp [zip3D] at h
  | _ :: _, _ :: _, [], i, d, h => by simp [zip3D] at h
  | a :: as, b :: bs, c :: cs, 0, d, h => by
    cases h
    exact ⟨a, b, c, rfl, rfl, rfl, rfl⟩
  | a :: as, b :: bs, c :: cs, i + 1, d, h => by
    exact zip3D_at (as := as) (bs := bs) (cs := cs) (i := i) (by rw [zip3D, List.getElem?_cons_succ] at h; exact h)
theorem zip3D_len : ∀ {as bs cs : List PyData}, (zip3D as bs cs).length = min (min as.length bs.length) cs.length
  | [], _, _ => by simp [zip3D]
  | _ :: _, [], _ => by simp [zip3D]
  | _ :: _, _ :: _, [] => by simp [zip3D]
  | a :: as, b :: bs, c :: cs => by
    rw [zip3D, List.length_cons, zip3D_len, List.length_cons, List.length_cons, List.length_cons, Nat.add_min_add_right, Nat.add_min_add_right]
theorem di_zip3 (ha : DE K (some false) ta G (.tuple ds)) (hb : DE K (some false) tb G (.list es)) (hc : DE K (some false) tc G (.list fs)) : DI K false (iZip3 K (tCons ta (tCons tb (tCons tc tNil)))) G (zip3D ds es fs) := fun c σ H e R k =>
  da_cons ha (da_cons hb (da_cons hc da_nil)) c σ H e _ fun vs H1 s r => by
    cases r with | cons ra r => ?_
    cases r with | cons rb r => ?_
    cases r with | cons rc r => ?_
    cases r
    generalize h1 : PyData.tuple ds = z1 at ra
    generalize h2 : PyData.list es = z2 at rb
    generalize h3 : PyData.list fs = z3 at rc
    cases ra <;> first | (cases h1; done) | skip
    cases rb <;> first | (cases h2; done) | skip
    cases rc <;> first | (cases h3; done) | skip
    cases h1
    cases h2
    cases h3
    rename_i a xs q1 b ys q2 c' zs q3 w1 w2 w3
    have e1 := e.ext s
    have l1 := w1.length
    have l2 := w2.length
    have l3 := w3.length
    have hF : Rd (hide (OF G) H1) a (.tup xs) := Rd.same (vis_hide e1.f0 e1.h0) q1
    have f2 : ∀ {H2}, Same (hide (OF G) H1) H2 → SqL K H2 b ys := fun s2 => SqL.same ((vis_hide e1.f0 e1.h0).trans s2) q2
    have f3 : ∀ {H2}, Same (hide (OF G) H1) H2 → SqL K H2 c' zs := fun s2 => SqL.same ((vis_hide e1.f0 e1.h0).trans s2) q3
    refine ⟨a, b, c', xs, ys, zs, rfl, rd_tup e1.vsame q1, rd_lst e1.vsame q2, rd_lst e1.vsame q3, k _ H1 s ⟨fun i H2 hi s2 => ?_, fun H2 s2 => ?_, fun i H2 x H3 d hd s2 y => ?_⟩⟩
    · rw [zip3D_len] at hi
      exact ⟨by omega, xs, ys, zs, ⟨.inl (Rd.same s2 hF), rfl⟩, ⟨f2 s2, rfl⟩, f3 s2, rfl⟩
    · rw [zip3D_len]
      exact ⟨by omega, xs, ys, zs, ⟨.inl (Rd.same s2 hF), rfl⟩, ⟨f2 s2, rfl⟩, f3 s2, rfl⟩
    · obtain ⟨d1, d2, d3, g1, g2, g3, rfl⟩ := zip3D_at hd
      obtain ⟨u1, g4, r1⟩ := w1.get g1
      obtain ⟨u2, g5, r2⟩ := w2.get g2
      obtain ⟨u3, g6, r3⟩ := w3.get g3
      obtain ⟨T, y1, y2, y3, rfl, hT, rfl, k1, k2, k3⟩ := y
      have z1 := k1 xs (.inl (Rd.same s2 hF))
      have z2 := k2 ys (f2 s2)
      have z3 := k3 zs (f3 s2)
      rw [g4] at z1
      rw [g5] at z2
      rw [g6] at z3
      cases z1
      cases z2
      cases z3
      refine ⟨same_new hT, fun G2 σ2 c2 z1 z2 z3 e3 => ?_⟩
      have see := src_see (n := false) e.f0 e1.h0 rfl s2 e3 z1 z2 z3
      exact pair_see (O := OF G) (F := H2) (Hs := H2) e3 hT (.cons (Rep.mono see r1) (.cons (Rep.mono see r2) (.cons (Rep.mono see r3) .nil)))
def iZipT (x y u : EM) : IM := fun g => match x g with
  | some (a, .tuple ds) => match y g with
    | some (b, .list es) => match u g with
      | some (c, .list fs) => if (a || imm (.tuple ds)) && (b && c) then some (zip3D ds es fs) else none
      | _ => none
    | _ => none
  | _ => none
theorem si_zip3 (h1 : SE K ta ea) (h2 : SE K tb eb) (h3 : SE K tc ec) : SI K (iZip3 K (tCons ta (tCons tb (tCons tc tNil)))) (iZipT ea eb ec) := fun G g ds a e => by
  unfold iZipT at e
  split at e
  · rename_i e1
    split at e
    · rename_i e2
      split at e
      · rename_i e3
        split at e
        · rename_i q
          rw [Bool.and_eq_true, Bool.and_eq_true] at q
          obtain ⟨q1, q2, q3⟩ := q
          subst q2 q3
          cases e
          exact di_zip3 (de_lift (h1 G g _ _ a e1) q1) (h2 G g _ _ a e2) (h3 G g _ _ a e3)
        · cases e
      · cases e
    · cases e
  · cases e
theorem de_min2 {m : Md} {x y : Int} (h : DE K none ta G (.int x)) (h' : DE K none tb G (.int y)) : DE K m (tCB (rMinA K) (tCons ta (tCons tb tNil))) G (.int (min x y)) := de_cb0 (ds := [.int x, .int y]) (fun P H vs Q s r q => by
  obtain ⟨v, u, rfl, r1, r2⟩ := reps2 r
  cases r1; cases r2
  refine .inr (.inr ⟨x, y, rfl, q _ H (Same.refl H) ?_⟩)
  have : (if y < x then y else x) = min x y := by omega
  rw [this]; exact .int _) rfl (da_cons h (da_cons h' da_nil))
def eMin2 (x y : EM) : EM := fun g => match x g with
  | some (_, .int a) => match y g with
    | some (_, .int b) => some (true, .int (min a b))
    | _ => none
  | _ => none
theorem se_min2 (h : SE K ta ea) (h' : SE K tb eb) : SE K (tCB (rMinA K) (tCons ta (tCons tb tNil))) (eMin2 ea eb) := fun G g b d a e => by
  unfold eMin2 at e
  split at e
  · rename_i e1
    split at e
    · rename_i e2; cases e; exact de_min2 (h.no a e1) (h'.no a e2)
    · cases e
  · cases e
end
end TB

/-! TB mirror, C: what is refused; try. -/
namespace TB
open PySem PySem.Spec PyProof.Rows L2
/-- the class that stands by a name -/
def clsA (K : PySem.W.Frag) (nm : Str) : Addr := match PySem.W.nsIn K mainGlobals nm with
  | some (some (.ref a)) => a
  | _ => 0
theorem clsA_of {K : PySem.W.Frag} {nm : Str} {a : Addr} (h : PySem.W.nsIn K mainGlobals nm = some (some (.ref a))) : clsA K nm = a := by unfold clsA; rw [h]
abbrev XM := Stt → Option Str
abbrev XF := List PyData → Option Str
section
variable (K : PySem.W.Frag) (E : XK)
def DXa (ta : TA) (G : Sl) (C : Addr) : Prop := ∀ (c : TB.C) (σ : L2.St) (H : Hp), Sits K c G σ H → ∀ Q : List V → Hp → Prop, (∀ H', Same c.H0 H' → E (.ref C) none H') → ta σ H Q
def DXt (tt : TT) (G : Sl) (C : Addr) : Prop := ∀ (c : TB.C) (σ : L2.St) (H : Hp), Sits K c G σ H → ∀ Q : Bool → Hp → Prop, (∀ H', Same c.H0 H' → E (.ref C) none H') → tt σ H Q
def XmE (te : TE) (xm : XM) : Prop := ∀ G g nm, Abs G g → xm g = some nm → DXe K te G E (clsA K nm)
def XmA (ta : TA) (xm : XM) : Prop := ∀ G g nm, Abs G g → xm g = some nm → DXa K E ta G (clsA K nm)
def XmT (tt : TT) (xm : XM) : Prop := ∀ G g nm, Abs G g → xm g = some nm → DXt K E tt G (clsA K nm)
def XmS (ts : TS) (xm : XM) : Prop := ∀ G g nm, Abs G g → xm g = some nm → DX K ts G E (clsA K nm)
end
def xNo : XM := fun _ => none
def xThen (a : XM) (ok : Stt → Bool) (b : XM) : XM := fun g => match a g with
  | some nm => some nm
  | none => if ok g then b g else none
section
variable {K : PySem.W.Frag} {E : XK} {te ta tb : TE} {tt : TT} {ts tv : TS} {t : TA} {tg : TG} {wi : TI} {em ea eb : EM} {am : AM} {tm : TM} {sm vm : SM} {im : IM} {gm : GM} {xa xb xm : XM} {f : MF} {x : XF}
theorem xme_no : XmE K E te xNo := fun _ _ _ _ h => by cases h
theorem xma_no : XmA K E t xNo := fun _ _ _ _ h => by cases h
theorem xmt_no : XmT K E tt xNo := fun _ _ _ _ h => by cases h
theorem xms_no : XmS K E ts xNo := fun _ _ _ _ h => by cases h
/-! ### promises -/
def badM (K : PySem.W.Frag) (x : XF) : Sp := fun vs H _ E => ∃ (P : Hp) (ds : List PyData) (nm : Str), Same P H ∧ Reps K P vs ds ∧ x ds = some nm ∧ ∀ H', Same H H' → E (.ref (clsA K nm)) none H'
def spXM (K : PySem.W.Frag) (f : MF) (x : XF) : Sp := fun vs H Q E => spM K f vs H Q E ∨ badM K x vs H Q E
theorem spOk_XM {dv : List V} : SpOk K (spXM K f x) dv f := fun _ _ _ _ h => .inl h
theorem spXM_len {k : Nat} (hf : ∀ vs, (f vs).isSome = true → vs.length = k) (hx : ∀ vs nm, x vs = some nm → vs.length = k) : ∀ vs H Q E, spXM K f x vs H Q E → vs.length = k := fun vs H Q E h => by
  rcases h with h | ⟨P, ds, nm, _, h, hn, _⟩
  · exact spM_len hf vs H Q E h
  · rw [h.length]; exact hx ds nm hn
noncomputable def shutX (f : XF) : XF := Classical.choose (⟨f, rfl⟩ : ∃ g, g = f)
theorem shutX_eq (f : XF) : shutX f = f := Classical.choose_spec (⟨f, rfl⟩ : ∃ g, g = f)
noncomputable def runX (N k : Nat) (s : XM) : XF := shutX fun vs => if vs.length = k then s (entM N vs) else none
theorem runX_eq {N k : Nat} {s : XM} {vs : List PyData} (h : vs.length = k) : runX N k s vs = s (entM N vs) := by unfold runX; rw [shutX_eq]; exact if_pos h
theorem runX_len {N k : Nat} {s : XM} : ∀ vs nm, runX N k s vs = some nm → vs.length = k := fun vs nm h => by
  unfold runX at h
  rw [shutX_eq] at h
  by_cases e : vs.length = k
  · exact e
  · rw [if_neg e] at h; cases h
theorem raw_XM {N : List Str} {k : Nat} {ts : XK → TS} (h : ∀ E, SS K (ts E) sm) (hx : ∀ E, XmS K E (ts E) xm) : ∀ vs H Q E, spXM K (runM N.length k sm) (runX N.length k xm) vs H Q E → ts E { nx := fun _ H' => Q .non H', rt := Q } (L2.start N vs) H := fun vs H Q E hsp => by
  rcases hsp with hsp | ⟨P, ds, nm, hP, hv, hn, hq⟩
  · exact raw_M (h E) vs H Q E hsp
  · have hl := runX_len ds nm hn
    rw [runX_eq hl] at hn
    exact hx E _ _ nm (abs_ent N ds) hn ⟨H, P, H⟩ _ H _ (ent_sits hP hv) hq
/-! the same, its list handed over -/
theorem raw_XRel {N : List Str} {k : Nat} {ts : XK → TS} (h : ∀ E, SS K (ts E) sm) (hx : ∀ E, XmS K E (ts E) xm) : ∀ vs H Q E, spXM K (relM (runM N.length k sm)) (runX N.length k xm) vs H Q E → ts E { nx := fun _ H' => Q .non H', rt := Q } (L2.start N vs) H := fun vs H Q E hsp => by
  rcases hsp with hsp | ⟨P, ds, nm, hP, hv, hn, hq⟩
  · exact raw_Rel (h E) vs H Q E hsp
  · have hl := runX_len ds nm hn
    rw [runX_eq hl] at hn
    exact hx E _ _ nm (abs_ent N ds) hn ⟨H, P, H⟩ _ H _ (ent_sits hP hv) hq
/-! ### expressions -/
def xCall (xa : XM) (am : AM) (x : XF) : XM := fun g => match xa g with
  | some nm => some nm
  | none => match am g with
    | some (_, ds) => x ds
    | none => none
theorem xme_call (hx : XmA K E t xa) (h : SA K t am) : XmE K E (tCall (spXM K f x) [] E t) (xCall xa am x) := fun G g nm a e => by
  unfold xCall at e
  split at e
  · rename_i e1
    cases e
    exact fun c σ H s Q q => hx G g _ a e1 c σ H s _ q
  · split at e
    · rename_i b ds e1
      intro c σ H s Q q
      refine da_md (h G g _ _ a e1) c σ H s _ fun vs H1 s1 r1 => ?_
      have s2 := s.ext s1
      exact .inr ⟨vis c (OF G) none H1, ds, nm, s2.vsame, by rw [List.append_nil]; exact r1, e, fun H' s3 => q H' (s2.h0.trans s3)⟩
    · cases e
theorem xme_callN {sp : Sp} {dv : List V} {E' : XK} (hx : XmA K E t xa) : XmE K E (tCall sp dv E' t) xa := fun G g nm a e c σ H s Q q => hx G g nm a e c σ H s _ q
theorem xme_b {r : List V → Hp → VK → Prop} (hx : XmA K E t xa) : XmE K E (tCB r t) xa := fun G g nm a e c σ H s Q q => hx G g nm a e c σ H s _ q
theorem xme_tup (hx : XmA K E t xa) : XmE K E (tTup t) xa := fun G g nm a e c σ H s Q q => hx G g nm a e c σ H s _ q
theorem xme_lst (hx : XmA K E t xa) : XmE K E (tLst t) xa := fun G g nm a e c σ H s Q q => hx G g nm a e c σ H s _ q
theorem xma_cons (h1 : XmE K E te xa) (h2 : XmA K E t xb) (h : SE K te em) : XmA K E (tCons te t) (xThen xa (fun g => (em g).isSome) xb) := fun G g nm a e => by
  unfold xThen at e
  split at e
  · rename_i e1
    cases e
    exact fun c σ H s Q q => h1 G g _ a e1 c σ H s _ q
  · split at e
    · rename_i e1
      obtain ⟨⟨b, d⟩, e2⟩ := Option.isSome_iff_exists.mp e1
      exact fun c σ H s Q q => h.no a e2 c σ H s _ fun v H1 s1 _ => h2 G g nm a e c σ H1 (s.ext s1) _ q
    · cases e
theorem xme_op {r : R2} (h1 : XmE K E ta xa) (h2 : XmE K E tb xb) (h : SE K ta ea) : XmE K E (tOp r ta tb) (xThen xa (fun g => (ea g).isSome) xb) := fun G g nm a e => by
  unfold xThen at e
  split at e
  · rename_i e1
    cases e
    exact fun c σ H s Q q => h1 G g _ a e1 c σ H s _ q
  · split at e
    · rename_i e1
      obtain ⟨⟨b, d⟩, e2⟩ := Option.isSome_iff_exists.mp e1
      exact fun c σ H s Q q => h.no a e2 c σ H s _ fun v H1 s1 _ => h2 G g nm a e c σ H1 (s.ext s1) _ q
    · cases e
theorem xmt_test (h : XmE K E te xa) : XmT K E (tTest te) xa := fun G g nm a e c σ H s Q q => h G g nm a e c σ H s _ q
theorem xmt_B (h : XmE K E te xa) : XmT K E (tB te) xa := fun G g nm a e c σ H s Q q => h G g nm a e c σ H s _ q
theorem xmt_not (h : XmT K E tt xa) : XmT K E (tNot tt) xa := fun G g nm a e c σ H s Q q => h G g nm a e c σ H s _ q
/-! ### statements -/
theorem xms_drop (h : XmE K E te xa) : XmS K E (tDrop te) xa := fun G g nm a e c σ H D s q => h G g nm a e c σ H s _ q
theorem xms_ret (h : XmE K E te xa) : XmS K E (tRet te) xa := fun G g nm a e c σ H D s q => h G g nm a e c σ H s _ q
theorem xms_asg (h : XmE K E te xa) : XmS K E (tAsg te tg) xa := fun G g nm a e c σ H D s q => h G g nm a e c σ H s _ q
def xRaise (nm : Str) : XM := fun _ => some nm
theorem xms_raise {nm : Str} : XmS K E (tRaise (clsA K nm) E) (xRaise nm) := fun G g n a e => by cases e; exact dx_raise
def xSeq (xa : XM) (sm : SM) (xb : XM) : XM := fun g => match xa g with
  | some nm => some nm
  | none => match sm g with
    | some (.nx g') => xb g'
    | _ => none
theorem xms_seq (h1 : XmS K E ts xa) (h : SS K ts sm) (h2 : XmS K E tv xb) : XmS K E (tSeq ts tv) (xSeq xa sm xb) := fun G g nm a e => by
  unfold xSeq at e
  split at e
  · rename_i e1; cases e; exact dx_seq1 (h1 G g _ a e1)
  · split at e
    · rename_i g' e1
      exact dx_seq2 ((h G g _ a e1).imp (fun G' p => h2 G' g' nm p e) (fun _ p => p.elim) (fun _ p => p.elim) (fun _ p => p.elim))
    · cases e
def xIf (tm : TM) (xa xb : XM) : XM := fun g => match tm g with
  | some true => xa g
  | some false => xb g
  | none => none
theorem xms_if (ht : ST K tt tm) (h1 : XmS K E ts xa) (h2 : XmS K E tv xb) : XmS K E (tIfS tt ts tv) (xIf tm xa xb) := fun G g nm a e => by
  unfold xIf at e
  split at e
  · rename_i e1; exact dx_if (ht G g _ a e1) (fun _ => h1 G g nm a e) (fun z => by cases z)
  · rename_i e1; exact dx_if (ht G g _ a e1) (fun z => by cases z) (fun _ => h2 G g nm a e)
  · cases e
/-- the test itself may refuse -/
theorem xms_ifT (h : XmT K E tt xa) : XmS K E (tIfS tt ts tv) xa := fun G g nm a e c σ H D s q => h G g nm a e c σ H s _ q
theorem dx_for {n : Bool} {ds : List PyData} {G : Sl} {C : Addr} (hI : DI K n wi G ds) (I : Nat → Sl → Prop) (h0 : I 0 G)
    (hs : ∀ (k : Nat) (d : PyData) (Gk : Sl), ds[k]? = some d → I k Gk → DG K tg n d Gk fun G' => DS K ts G' { nx := I (k + 1), ct := I (k + 1) } ∨ DX K ts G' E C)
    (hd : ∀ Gn, I ds.length Gn → False) : DX K (tFor wi tg ts) G E C := fun c σ H D e q => hI c σ H e _ fun J H1 s S => by
  have e1 := e.ext s
  have eb := e1.base
  refine ⟨fun i m σ H => m = ds.length - i ∧ i ≤ ds.length ∧ ∃ Gk, I i Gk ∧ Sits K { c with Bs := hide (OF G) H1 } Gk σ H, ⟨ds.length, by simp, Nat.zero_le _, G, h0, eb⟩, ?_⟩
  rintro i m σ' H' ⟨rfl, hi, Gk, hk, ek⟩
  by_cases hlt : i < ds.length
  · refine .inr ⟨S.goes i H' hlt ek.b0, fun σ2 H2 => ∃ Gk, I (i + 1) Gk ∧ Sits K { c with Bs := hide (OF G) H1 } Gk σ2 H2, fun σ2 H2 q => ⟨ds.length - (i + 1), by omega, rfl, hlt, q⟩, fun x H2 y => ?_⟩
    have hd' : ds[i]? = some ds[i] := List.getElem?_eq_getElem hlt
    obtain ⟨s2, r2⟩ := S.yields i H' x H2 _ hd' ek.b0 y
    have ek2 := ek.ext s2
    refine hs i _ Gk hd' hk _ σ' H2 x _ ek2 (r2 Gk σ' _ rfl (fun _ _ _ => rfl) rfl ek) fun G' σ2 hp e' => ?_
    rcases hp with hp | hp
    · exact hp _ σ2 H2 _ e' (fun G2 σ3 H3 q e3 => ⟨G2, q, e3⟩) (fun _ _ _ p => p.elim) (fun _ _ _ p => p.elim) fun G2 σ3 H3 q e3 => ⟨G2, q, e3⟩
    · exact hp _ σ2 H2 _ e' q
  · have : i = ds.length := by omega
    subst this
    exact (hd Gk hk).elim
def forX (gm : GM) (sm : SM) (xb : XM) : List PyData → Stt → Option Str
  | [], _ => none
  | d :: ds, g => match gm d g with
    | some g1 => match xb g1 with
      | some nm => some nm
      | none => match sm g1 with
        | some (.nx g2) => forX gm sm xb ds g2
        | some (.ct g2) => forX gm sm xb ds g2
        | _ => none
    | none => none
def xFor (im : IM) (gm : GM) (sm : SM) (xb : XM) : XM := fun g => match im g with
  | some ds => forX gm sm xb ds g
  | none => none
theorem xms_for (hi : SI K wi im) {vs : List Nat} (hg : SG K vs tg gm) (h : SS K ts sm) (hx : XmS K E ts xb) : XmS K E (tFor wi tg ts) (xFor im gm sm xb) := fun G g nm a e => by
  unfold xFor at e
  split at e
  · rename_i ds e1
    refine dx_for (hi G g _ a e1) (fun k G' => ∃ g', Abs G' g' ∧ forX gm sm xb (ds.drop k) g' = some nm) ⟨g, a, e⟩ (fun k d Gk hd ⟨g', a', e'⟩ => ?_) (fun Gn ⟨g', a', e'⟩ => ?_)
    · have hk : k < ds.length := (List.getElem?_eq_some_iff.mp hd).1
      rw [List.drop_eq_getElem_cons hk, show ds[k] = d from (List.getElem?_eq_some_iff.mp hd).2] at e'
      unfold forX at e'
      split at e'
      · rename_i g1 e2
        intro c σ H v Q s r q
        refine hg.2 Gk g' d g1 a' e2 c σ H v Q s r fun G2 σ2 p s2 => q G2 σ2 ?_ s2
        have p := p.1
        split at e'
        · rename_i e3
          cases e'
          exact .inr (hx G2 g1 _ p e3)
        · split at e'
          · rename_i g2 e3
            exact .inl ((h G2 g1 _ p e3).imp (fun G3 p3 => ⟨g2, p3, e'⟩) (fun _ p => p.elim) (fun _ p => p.elim) (fun _ p => p.elim))
          · rename_i g2 e3
            exact .inl ((h G2 g1 _ p e3).imp (fun _ p => p.elim) (fun _ p => p.elim) (fun _ p => p.elim) (fun G3 p3 => ⟨g2, p3, e'⟩))
          · cases e'
      · cases e'
    · rw [List.drop_eq_nil_of_le (Nat.le_refl _)] at e'
      cases e'
  · cases e
end
/-! ### try -/
abbrev Tab := List (Str × Str × Bool)
def isub (tab : Tab) (nm T : Str) : Option Bool := (tab.find? fun p => decide (p.1 = nm) && decide (p.2.1 = T)).map (·.2.2)
def ExmT (K : PySem.W.Frag) (tab : Tab) : Prop := ∀ p ∈ tab, PySem.W.exmOne K (.ref (clsA K p.1)) (.ref (clsA K p.2.1)) = some p.2.2
theorem isub_mem {tab : Tab} {nm T : Str} {b : Bool} (h : isub tab nm T = some b) : (nm, T, b) ∈ tab := by
  unfold isub at h
  cases e : tab.find? (fun p => decide (p.1 = nm) && decide (p.2.1 = T)) with
  | none => rw [e] at h; cases h
  | some p =>
    rw [e] at h
    cases h
    have h1 := List.mem_of_find?_eq_some e
    have h2 := List.find?_some e
    simp only [Bool.and_eq_true, decide_eq_true_eq] at h2
    obtain ⟨x, y, z⟩ := p
    obtain ⟨rfl, rfl⟩ := h2
    exact h1
section
variable {K : PySem.W.Frag} {E : XK} {ts : TS} {t : TA} {am : AM} {sm : SM} {xa xm : XM} {f : MF} {x : XF} {tab : Tab}
/-- the call in a try's body -/
def tBody (sp : Sp) (t : TA) : WX → TS := fun W => tDrop (tCallS sp (WE W) t)
def XmW (K : PySem.W.Frag) (tb : WX → TS) (xm : XM) : Prop := ∀ G g nm, Abs G g → xm g = some nm → ∀ (c : TB.C) (σ : L2.St) (H : Hp) (D : Ends) (W : WX), Sits K c G σ H → (∀ H', Same H H' → W (.ref (clsA K nm)) none σ H') → tb W D σ H
theorem xmw_call (h : SA K t am) : XmW K (tBody (spXM K f x) t) (xCall xNo am x) := fun G g nm a e c σ H D W s q => by
  unfold xCall at e
  split at e
  · rename_i e1; cases e1
  · split at e
    · rename_i b ds e1
      refine da_md (h G g _ _ a e1) c σ H s _ fun vs H1 s1 r1 => ?_
      have s2 := s.ext s1
      exact .inr ⟨vis c (OF G) none H1, ds, nm, s2.vsame, r1, e, fun H' s3 => q H' (s1.trans s3)⟩
    · cases e
theorem ss_body (h : SA K t am) {W : WX} : SS K (tBody (spXM K f x) t W) (sExp (eCall f am)) := fun G g o a e => by
  have h0 : SS K (tDrop (tCall (spXM K f x) [] E0 t)) (sExp (eCall f am)) := ss_exp (se_call spOk_XM h)
  have := h0 G g o a e
  intro c σ H D s k1 k2 k3 k4
  have z : SE K (fun σ H Q => t σ H fun vs H1 => (spXM K f x) vs H1 Q (WE W σ)) (eCall f am) := fun G g b d a e => by
    have h1 : ∀ σ0, SE K (tCall (spXM K f x) [] (WE W σ0) t) (eCall f am) := fun σ0 => se_call spOk_XM h
    intro c σ H s Q q
    have := h1 σ G g b d a e c σ H s Q q
    have e2 : tCall (spXM K f x) [] (WE W σ) t σ H Q = t σ H fun vs H1 => (spXM K f x) vs H1 Q (WE W σ) := by
      show (t σ H fun vs H1 => (spXM K f x) (vs ++ []) H1 Q (WE W σ)) = _
      congr 1
      funext vs H1
      rw [List.append_nil]
    rw [e2] at this
    exact this
  have z2 : SS K (tDrop (fun σ H Q => t σ H fun vs H1 => (spXM K f x) vs H1 Q (WE W σ))) (sExp (eCall f am)) := ss_exp z
  exact z2 G g o a e c σ H D s k1 k2 k3 k4
abbrev Hs := List (Value × (Addr → Value → Option Addr → TS))
def tTryM (K : PySem.W.Frag) (Wout : WX) (l : Hs) (tb : WX → TS) : TS := fun D σ H => tb (wMany K Wout D l) D σ H
def hRun (tab : Tab) (nm : Str) : List (Str × SM) → SM
  | [] => fun _ => none
  | (T, s) :: r => fun g => match isub tab nm T with
    | some true => s g
    | some false => hRun tab nm r g
    | none => none
def sTry (tab : Tab) (sm : SM) (xm : XM) (hs : List (Str × SM)) : SM := fun g => match xm g with
  | some nm => hRun tab nm hs g
  | none => match sm g with
    | some (.nx g') => some (.nx g')
    | _ => none
inductive HsOk (K : PySem.W.Frag) : Hs → List (Str × SM) → Prop
  | nil : HsOk K [] []
  | cons {T : Str} {t : TS} {s : SM} {l : Hs} {hs : List (Str × SM)} (h : SS K t s) (r : HsOk K l hs) : HsOk K ((.ref (clsA K T), fun _ _ _ => t) :: l) ((T, s) :: hs)
theorem ss_tryM {Wout : WX} {l : Hs} {tb : WX → TS} {hs : List (Str × SM)} (X : ExmT K tab) (hb : ∀ W, SS K (tb W) sm) (hx : XmW K tb xm) (hh : HsOk K l hs) : SS K (tTryM K Wout l tb) (sTry tab sm xm hs) := fun G g o a e => by
  unfold sTry at e
  split at e
  · rename_i nm e1
    intro c σ H D s k1 k2 k3 k4
    refine hx G g nm a e1 c σ H D _ s fun H' s' => ?_
    have s2 := s.ext s'
    clear hx e1
    induction hh with
    | nil => cases e
    | @cons T t s0 l hs h r ih =>
      unfold hRun at e
      split at e
      · rename_i e2
        exact ⟨true, X _ (isub_mem e2), (fun _ _ _ => h G g o a e c σ H' D s2 k1 k2 k3 k4), fun z => by cases z⟩
      · rename_i e2
        exact ⟨false, X _ (isub_mem e2), (fun z => by cases z), fun _ => ih e⟩
      · cases e
  · split at e
    · rename_i g' e1
      cases e
      exact fun c σ H D s k1 k2 k3 k4 => hb _ G g _ a e1 c σ H D s k1 k2 k3 k4
    · cases e
/-! except T as error -/
def exc (a : Addr) : PyData := exD (.int ((a : Nat) : Int)) []
def dropOc (i : Nat) : Oc → Oc
  | .nx g => .nx (g.set i none)
  | .rt q => .rt q
  | .bk g => .bk (g.set i none)
  | .ct g => .ct (g.set i none)
open Classical in
noncomputable def sSuite (i : Nat) (s : Addr → SM) : SM := fun g => if h : i < g.length ∧ ∃ o, ∀ a, (s a (g.set i (some (.v (exc a))))).map (dropOc i) = some o then some (Classical.choose h.2) else none
noncomputable def sTryA (tab : Tab) (sm : SM) (xm : XM) (i : Nat) (T : Str) (s : Str → Addr → SM) : SM := fun g => match xm g with
  | some nm => match isub tab nm T with
    | some true => sSuite i (s nm) g
    | _ => none
  | none => match sm g with
    | some (.nx g') => some (.nx g')
    | _ => none
theorem sSuite_of {i : Nat} {s : Addr → SM} {g : Stt} {o : Oc} (hi : i < g.length) (h : ∀ a, (s a (g.set i (some (.v (exc a))))).map (dropOc i) = some o) : sSuite i s g = some o := by
  unfold sSuite
  have hh : i < g.length ∧ ∃ o, ∀ a, (s a (g.set i (some (.v (exc a))))).map (dropOc i) = some o := ⟨hi, o, h⟩
  rw [dif_pos hh]
  have := Classical.choose_spec hh.2 0
  rw [h 0] at this
  exact congrArg some (Option.some.inj this).symm
/-- the suite, where the class of what is caught is known -/
def tKnown (K : PySem.W.Frag) (t : Addr → Addr → TS) : Addr → Value → Option Addr → TS := fun a cls d D σ H => ∃ C, cls = .ref C ∧ d = none ∧ ExcC K C ∧ t C a D σ H
theorem pss_known {X : Cx} {ss : List Stmt} {t : Addr → Addr → TS} {a : Addr} {cls : Value} {d : Option Addr} (h : ∀ C, cls = .ref C → d = none → ExcC X.K C → PSs X ss (t C a)) : PSs X ss (tKnown X.K t a cls d) := ⟨fun pins s σ H D I x => by
  obtain ⟨C, h1, h2, h3, x⟩ := x
  exact (h C h1 h2 h3).run pins s σ H D I x⟩
def tTryA (K : PySem.W.Frag) (Wout : WX) (cv : Value) (i : Nat) (tb : WX → TS) (ts : Addr → Value → Option Addr → TS) : TS := fun D σ H => tb (wAs K cv i ts Wout D) D σ H
theorem Sits.dropS {c : TB.C} {G : Sl} {σ : L2.St} {H : Hp} {i : Nat} (e : Sits K c G σ H) : Sits K c (G.set i none) (σ.set i none) H := by
  have d := e.drop (i := i)
  refine ⟨d.f0, d.h0, d.b0, d.fr, d.mu, d.dj, d.nd, by rw [List.length_set]; exact d.len, fun j b h => ?_⟩
  obtain ⟨v, h1, h2⟩ := d.at_ j b h
  refine ⟨v, ?_, h2⟩
  rcases set_at h with ⟨_, q⟩ | ⟨q, _⟩
  · cases q
  · rw [List.getElem?_set_ne (Ne.symm q)]; exact h1
theorem ss_tryA {Wout : WX} {tb : WX → TS} {i : Nat} {T : Str} {t : Addr → Addr → TS} {s : Str → Addr → SM} (X : ExmT K tab) (hX : ∀ nm, (∃ T b, (nm, T, b) ∈ tab) → ExcC K (clsA K nm)) (hb : ∀ W, SS K (tb W) sm) (hx : XmW K tb xm) (hs : ∀ nm a, SS K (t (clsA K nm) a) (s nm a)) :
    SS K (tTryA K Wout (.ref (clsA K T)) i tb (tKnown K t)) (sTryA tab sm xm i T s) := fun G g o a e => by
  unfold sTryA at e
  split at e
  · · rename_i nm e1
      split at e
      · rename_i e2
        unfold sSuite at e
        split at e
        · rename_i hh
          cases e
          have hch := Classical.choose_spec hh.2
          generalize Classical.choose hh.2 = o at *
          intro c σ H D s0 k1 k2 k3 k4
          refine hx G g nm a e1 c σ H D _ s0 fun H' s' => ?_
          have s2 := s0.ext s'
          refine ⟨true, X _ (isub_mem e2), fun _ ad hn => ⟨clsA K nm, rfl, rfl, hX nm ⟨T, true, isub_mem e2⟩, ?_⟩, fun z => by cases z⟩
          have h1 := hch ad
          cases e3 : s nm ad (g.set i (some (.v (exc ad)))) with
          | none => rw [e3] at h1; cases h1
          | some o' =>
            rw [e3] at h1
            have h1 : dropOc i o' = o := Option.some.inj h1
            have hi : i < G.length := by rw [a.len]; exact hh.1
            have s3 : Sits K c (G.set i (some (.sh false (exc ad)))) (σ.set i (some (.ref ad))) H' := s2.putS (n := false) hi (.ex (x := .int ((ad : Nat) : Int)) (vs := []) ⟨rfl, rfl⟩ .nil)
            refine hs nm ad _ _ o' (a.set (q := .v (exc ad)) rfl) e3 c _ H' _ s3 (fun G' σ' H2 p e4 => ?_) (fun r v H2 p s4 r4 => k2 r v H2 ?_ s4 r4) (fun G' σ' H2 p e4 => ?_) (fun G' σ' H2 p e4 => ?_)
            · cases o' <;> first | exact p.elim | skip
              subst h1
              exact k1 _ _ H2 (Abs.setN p) e4.dropS
            · cases o' <;> first | exact p.elim | skip
              subst h1
              exact p
            · cases o' <;> first | exact p.elim | skip
              subst h1
              exact k3 _ _ H2 (Abs.setN p) e4.dropS
            · cases o' <;> first | exact p.elim | skip
              subst h1
              exact k4 _ _ H2 (Abs.setN p) e4.dropS
        · cases e
      · cases e
  · split at e
    · rename_i g' e1
      cases e
      exact fun c σ H D s k1 k2 k3 k4 => hb _ G g _ a e1 c σ H D s k1 k2 k3 k4
    · cases e
/-! isinstance(error, T) -/
def KitT (K : PySem.W.Frag) (tab : Tab) : Prop := ∀ p ∈ tab, PySem.W.kitOne K (.ref (clsA K p.1)) (.ref (clsA K p.2.1)) = some p.2.2
def isAny (tab : Tab) (nm : Str) : List Str → Option Bool
  | [] => some false
  | T :: r => match isub tab nm T with
    | some true => some true
    | some false => isAny tab nm r
    | none => none
def isExc (i : Nat) (a : Addr) (g : Stt) : Bool := match g[i]? with
  | some (some (.v (.dict [(.none, .tuple [.int k])]))) => decide (k = ((a : Nat) : Int))
  | _ => false
def eIsE (tab : Tab) (nm : Str) (a : Addr) (i : Nat) (T : Str) : EM := fun g => if isExc i a g then (match isub tab nm T with
  | some b => some (true, .bool b)
  | none => none) else none
def eIsV (tab : Tab) (nm : Str) (a : Addr) (i : Nat) : EM := fun g => if isExc i a g && (tab.any fun p => decide (p.1 = nm)) then some (true, .bool true) else none
def KitV (K : PySem.W.Frag) (tab : Tab) : Prop := ∀ p ∈ tab, PySem.W.kitOne K (.ref (clsA K p.1)) (.type "ValueError") = some true
def eIsT (tab : Tab) (nm : Str) (a : Addr) (i : Nat) (Ts : List Str) : EM := fun g => if isExc i a g then (match isAny tab nm Ts with
  | some b => some (true, .bool b)
  | none => none) else none
theorem isExc_at {i : Nat} {ad : Addr} {g : Stt} {G : Sl} {c : TB.C} {σ : L2.St} {H : Hp} (a : Abs G g) (h : isExc i ad g = true) (s : Sits K c G σ H) : σ[i]? = some (some (.ref ad)) := by
  unfold isExc at h
  split at h
  · rename_i k e
    have h := of_decide_eq_true h
    subst h
    obtain ⟨v, h1, h2⟩ := s.at_ i _ (a.v e)
    have h2 : Rep K _ v (.dict [(.none, .tuple [.int ((ad : Nat) : Int)])]) := h2
    generalize hz : PyData.dict [(PyData.none, PyData.tuple [PyData.int ((ad : Nat) : Int)])] = z at h2
    cases h2 <;> first | (cases hz; done) | skip
    · rename_i kvs kds h3 h4
      cases hz
      generalize hk : [(PyData.none, PyData.tuple [PyData.int ((ad : Nat) : Int)])] = kd at h4
      cases h4 with
      | nil => cases hk
      | @cons k v d r s _ _ =>
        have := (Prod.mk.inj (List.cons.inj hk).1).1
        cases k <;> cases this
    · rename_i ex _
      cases hz
      have h3 := ex.2
      have : _ = ad := Int.ofNat_inj.mp h3
      rw [h1, this]
  · cases h
theorem se_isE {nm T : Str} {ad : Addr} {i : Nat} (Kt : KitT K tab) : SE K (tCB (rIsE K (clsA K nm) ad) (tCons (tVar i) (tCons (tC (.ref (clsA K T))) tNil))) (eIsE tab nm ad i T) := fun G g b d a e => by
  unfold eIsE at e
  split at e
  · rename_i h
    split at e
    · rename_i bb e1
      cases e
      intro c σ H s Q q
      refine ⟨.ref ad, isExc_at a h s, ?_⟩
      exact ⟨.ref (clsA K T), .ref (clsA K T), bb, rfl, fun u r => r, Kt _ (isub_mem e1), q _ H (Same.refl H) (.bl bb)⟩
    · cases e
  · cases e
theorem se_isV {nm : Str} {ad : Addr} {i : Nat} (Kv : KitV K tab) : SE K (tCB (rIsE K (clsA K nm) ad) (tCons (tVar i) (tCons (tC (.ty "ValueError")) tNil))) (eIsV tab nm ad i) := fun G g b d a e => by
  unfold eIsV at e
  split at e
  · rename_i h
    rw [Bool.and_eq_true] at h
    obtain ⟨h, hv⟩ := h
    obtain ⟨p, hp, hn⟩ := List.any_eq_true.mp hv
    have Kv := Kv p hp
    rw [of_decide_eq_true hn] at Kv
    cases e
    intro c σ H s Q q
    refine ⟨.ref ad, isExc_at a h s, ?_⟩
    exact ⟨.ty "ValueError", .type "ValueError", true, rfl, fun u r => r, Kv, q _ H (Same.refl H) (.bl true)⟩
  · cases e
/-! .. of a tuple of classes -/
def rIsET (K : PySem.W.Frag) (D a : Addr) : List V → Hp → VK → Prop := fun xs H Q => ∃ (tp : Addr) (cs : List V) (us : List Value) (b : Bool), xs = [.ref a, .ref tp] ∧ H tp = some (.tup cs) ∧ Paired ClsV cs us ∧ PySem.W.kitAny K (.ref D) us = some b ∧ Q (.bl b) H
theorem call_isET {X : Cx} {a D : Addr} {oe : Obj} {pn : List (Addr × Obj)} (C : ExcC X.K D) (hz : Zc (.ref D) none oe) (hf : ∃ vs, oe.data = .fields vs) : CallR (X.suite a ((a, oe) :: pn)) (.builtin "isinstance") (rIsET X.K D a) := by
  intro pins s σ H xs us Q I r h
  obtain ⟨tp, cs, ws, b, rfl, hT, k, e, q⟩ := h
  cases r with | cons rx rr => ?_
  cases rr with | cons rt rr => ?_
  cases rr
  cases rx
  cases rt
  obtain ⟨hget, _⟩ := I.pin (a, oe) (List.mem_append.mpr (.inl List.mem_cons_self))
  obtain ⟨vs, hv⟩ := hf
  have J : PySem.W.InstAt s.heap a oe D none := by
    obtain ⟨oc, od, oda, osl⟩ := oe
    obtain ⟨h1, h2⟩ := hz
    dsimp only at h1 h2 hv
    subst h1 h2 hv
    exact ⟨hget, rfl, rfl, trivial⟩
  obtain ⟨_, its, rv, o, h1, h2, n, h3⟩ := (show ObjOk _ _ H s.heap tp (.tup cs) from I.hok tp _ hT)
  have e3 := ClsV.all k rv
  subst e3
  obtain ⟨oc, od, dt, sl⟩ := o
  simp only at h2 h3
  subst h2 h3
  exact PySem.W.kia_tup (PySem.W.handS_kitx_exc C.hg C.hk C.hs C.hd C.ha C.hn C.ht C.hm) I.kIn J h1 e (fun z => nomatch z) fun tk => ⟨.bl b, H, I.kept (t' := tk) fun _ _ z => z, rfl, q⟩
def tClss (K : PySem.W.Frag) : List Str → TA
  | [] => tNil
  | T :: r => tCons (tC (.ref (clsA K T))) (tClss K r)
theorem kit_any {nm : Str} (Kt : KitT K tab) : ∀ {Ts : List Str} {b : Bool}, isAny tab nm Ts = some b → PySem.W.kitAny K (.ref (clsA K nm)) (Ts.map fun T => Value.ref (clsA K T)) = some b
  | [], b, h => by cases h; exact kitAny_nil
  | T :: r, b, h => by
    unfold isAny at h
    split at h
    · rename_i e
      cases h
      exact kitAny_cons (Kt _ (isub_mem e)) (fun z => by cases z) (fun _ => rfl)
    · rename_i e
      exact kitAny_cons (Kt _ (isub_mem e)) (fun _ => kit_any Kt h) (fun z => by cases z)
    · cases h
theorem clss_run {σ : L2.St} : ∀ (Ts : List Str) {H : Hp} {Q : List V → Hp → Prop}, Q (Ts.map fun T => .ref (clsA K T)) H → tClss K Ts σ H Q
  | [], H, Q, q => q
  | T :: r, H, Q, q => clss_run r (Q := fun xs H2 => Q (.ref (clsA K T) :: xs) H2) q
theorem clss_paired : ∀ Ts : List Str, Paired ClsV (Ts.map fun T => V.ref (clsA K T)) (Ts.map fun T => Value.ref (clsA K T))
  | [] => .nil
  | T :: r => .cons (.own _) (clss_paired r)
theorem se_isT {nm : Str} {ad : Addr} {i : Nat} {Ts : List Str} (Kt : KitT K tab) (hl : Ts.length ≤ 1000) : SE K (tCB (rIsET K (clsA K nm) ad) (tCons (tVar i) (tCons (tTup (tClss K Ts)) tNil))) (eIsT tab nm ad i Ts) := fun G g b d a e => by
  unfold eIsT at e
  split at e
  · rename_i h
    split at e
    · rename_i bb e1
      cases e
      intro c σ H s Q q
      refine ⟨.ref ad, isExc_at a h s, ?_⟩
      refine clss_run Ts (K := K) ⟨by rw [List.length_map]; exact Nat.le_trans hl (by decide), fun p hp => ?_⟩
      exact ⟨p, _, _, bb, rfl, upd_same, clss_paired Ts, kit_any Kt e1, q _ _ (same_new hp) (.bl bb)⟩
    · cases e
  · cases e
end
/-- what the classes of errors must say -/
structure Kls (K : PySem.W.Frag) (tab : Tab) : Prop where
  exm : ExmT K tab
  kit : KitT K tab
  val : KitV K tab
  exc : ∀ nm, (∃ T b, (nm, T, b) ∈ tab) → ExcC K (clsA K nm)
theorem ss_no {K : PySem.W.Frag} {ts : TS} : SS K ts sNever := fun G g o a e => by cases e
theorem pe_globC {X : Cx} {x : Str} {C : Addr} {pos : Pos} (hg : Gl X x) (hm : X.mg x = some (.ref C)) (hd : (x == ("__debug__" : Str)) = false := by decide) : PE X (.Name x pos) (tC (.ref C)) := pe_glob hg hm rfl hd
end TB

/-! TB mirror, D: list.insert. -/
namespace TB
open PySem PySem.Spec PyProof.Rows L2
def rInsert : V → List V → Hp → VK → Prop := fun x vs H Q => ∃ (l : Addr) (xs : List V) (i : Int) (y : V), x = .ref l ∧ vs = [.int i, y] ∧ H l = some (.lst xs) ∧ xs.length < sizeLine ∧ 0 ≤ i ∧ i < 2 ^ 63 ∧ Q .non (upd H l (.lst (xs.take i.toNat ++ [y] ++ xs.drop i.toNat)))
section
variable {K : PySem.W.Frag} {G : Sl} {i : Nat} {n : Bool} {ds : List PyData} {d : PyData} {te tk : TE} {P : Post} {ek em : EM}
theorem ds_insert {a : Addr} {k : Int} (hg : G[i]? = some (some (.own n a ds))) (hk : DE K none tk G (.int k)) (h : DE K (some n) te G d) (hl : ds.length < 100000) (k0 : 0 ≤ k) (k1 : k < 100000) (kk : P.nx (G.set i (some (.own n a (ds.take k.toNat ++ [d] ++ ds.drop k.toNat))))) : DS K (tDrop (tBM K "list" rInsert (tVar i) (tCons tk (tCons te tNil)))) G P := fun c σ H D e q1 _ _ _ => by
  obtain ⟨w, h1, rfl, vs, h2, h3⟩ := e.at_ i _ hg
  refine ⟨_, h1, Or.inl ⟨rfl, vs, .inl (.inl h2)⟩, hk c σ H e _ fun q H0 s0 r0 => ?_⟩
  cases r0
  have e0 := e.ext s0
  refine h c σ H0 e0 _ fun u H1 s r => ?_
  have e1 := e0.ext s
  refine ⟨a, vs, k, u, rfl, rfl, s _ _ (s0 _ _ h2), by rw [h3.length]; exact Nat.lt_of_lt_of_le hl (by decide), k0, by omega, q1 _ _ _ kk (e1.write hg rfl (by simp [B.ows]) rfl fun v hv => ?_)⟩
  obtain ⟨rfl, ws, h4, h5⟩ := hv
  rw [s _ _ (s0 _ _ h2)] at h4
  cases h4
  exact ⟨rfl, _, upd_same, ((h5.take _).append (.cons r .nil)).append (h5.drop _)⟩
def sIns (i : Nat) (ek em : EM) : SM := fun g => match ek g with
  | some (_, .int k) => match em g with
    | some (b, d) => match g[i]? with
      | some (some (.l ds)) => if (b || imm d) && (decide (ds.length < 100000) && (decide (0 ≤ k) && decide (k < 100000))) then some (.nx (g.set i (some (.l (ds.take k.toNat ++ [d] ++ ds.drop k.toNat))))) else none
      | _ => none
    | none => none
  | _ => none
theorem ss_ins (hk : SE K tk ek) (h : SE K te em) : SS K (tDrop (tBM K "list" rInsert (tVar i) (tCons tk (tCons te tNil)))) (sIns i ek em) := fun G g o a e => by
  unfold sIns at e
  split at e
  · rename_i b0 k e0
    split at e
    · rename_i b d e1
      split at e
      · rename_i ds e2
        split at e
        · rename_i c
          rw [Bool.and_eq_true, Bool.and_eq_true, Bool.and_eq_true] at c
          cases e
          obtain ⟨ad, hG⟩ := a.l e2
          exact ds_insert hG (hk.no a e0) (de_lift (h G g _ _ a e1) c.1) (of_decide_eq_true c.2.1) (of_decide_eq_true c.2.2.1) (of_decide_eq_true c.2.2.2) (a.set (q := .l _) rfl)
        · cases e
      · cases e
    · cases e
  · cases e
end
/-! a list, taken apart -/
section
variable {K : PySem.W.Frag} {G : Sl} {n : Bool} {ds : List PyData}
theorem dg_lst {N : Sl → Prop} {g : TGs} {k : Nat} (hl : ds.length = k) (h : DGs K g n ds G N) : DG K (gLst K k g) n (.list ds) G N := fun c σ H v Q e r q => by
  cases r with
  | @lst a xs _ h1 r => exact ⟨a, xs, rfl, rd_lst e.vsame h1, by rw [r.length]; exact hl, h c σ H xs Q e r q⟩
theorem gw_lst {vs : List Nat} {k : Nat} {g : TGs} (h : GWs g vs) : GW (gLst K k g) vs := fun v σ H Q Q' kk ⟨a, xs, h1, h2, h3, q⟩ => ⟨a, xs, h1, h2, h3, h xs σ H Q Q' kk q⟩
def gLp (r : GMs) : GM := fun d g => match d with
  | .list ds => r ds g
  | _ => none
theorem sg_lst {vs : List Nat} {k : Nat} {tg : TGs} {gm : GMs} (h : SGs K vs k tg gm) : SG K vs (gLst K k tg) (gLp gm) := ⟨gw_lst h.1, fun G g d g' a e => by
  unfold gLp at e
  split at e
  · obtain ⟨h1, h2⟩ := h.2 _ _ _ _ a e
    exact dg_lst h1 h2
  · cases e⟩
end
end TB

/-! TB mirror, E: tuple(reversed(x)), x a tuple of what cannot change. (The walk's own rule for it is still lacking.) -/
namespace TB
open PySem PySem.Spec PyProof.Rows L2
def tTupRv (K : PySem.W.Frag) (te : TE) : TE := fun σ H Q => te σ H fun v H1 => ∃ (a : Addr) (xs : List V), v = .ref a ∧ SqT K H1 a xs ∧ ∀ q, H1 q = none → Q (.ref q) (upd H1 q (.tup xs.reverse))
def eTupRv (x : EM) : EM := fun g => match x g with
  | some (_, .tuple ds) => if imms ds then some (true, .tuple ds.reverse) else none
  | _ => none
section
variable {K : PySem.W.Frag} {te : TE} {em : EM}
theorem se_tupRv (h : SE K te em) : SE K (tTupRv K te) (eTupRv em) := fun G g b d a e => by
  unfold eTupRv at e
  split at e
  · rename_i b0 ds e1
    split at e
    · rename_i k
      cases e
      have k2 : imm (.tuple ds.reverse) = true := by
        show imms ds.reverse = true
        rw [imms_iff] at k ⊢
        exact fun x hx => k x (List.mem_reverse.mp hx)
      refine de_imm (d := .tuple ds.reverse) (fun c σ H e Q q => h.no a e1 c σ H e _ fun v H1 s1 r1 => ?_) k2
      have e2 := e.ext s1
      generalize hz : PyData.tuple ds = z at r1
      cases r1 <;> first | (cases hz; done) | skip
      rename_i ad xs ds' h3 r
      cases hz
      refine ⟨ad, xs, rfl, rd_tup e2.vsame h3, fun p hp => ?_⟩
      have sm : Same H1 (upd H1 p (.tup xs.reverse)) := same_new hp
      exact q _ _ (s1.trans sm) (.tup (.inl (show upd H1 p (.tup xs.reverse) p = _ from upd_same)) (Reps.mono (fun a o z => sm a o (e2.vsame a o z)) r.rev))
    · cases e
  · cases e
end
end TB

/-! TB, reversed tuple: the walk's own rule for tuple(reversed(t)), t a tuple. -/
namespace TB
open PySem PySem.Spec PyProof.Rows L2 RT
theorem rv_nolen : typeLookup (.type "reversed") "__len__" = pure none := by
  rw [typeLookup_type, builtinLookup_eq_fast]; kernel_rfl
theorem rv_hint : typeLookup (.type "reversed") "__length_hint__" = pure (some (.builtin "reversed.__length_hint__")) := by
  rw [typeLookup_type, builtinLookup_eq_fast]; kernel_rfl
theorem rv_slot : Slot "reversed" "__length_hint__" "reversed.__length_hint__" :=
  Slot.of (owner := "reversed") (n := "__length_hint__") (by rw [typeLookup_type, builtinLookup_eq_fast]; kernel_rfl) (by decide +kernel) (by decide +kernel) (by decide +kernel) (by first | exact .inl (by decide +kernel) | exact .inr (by decide +kernel)) (by rw [isSubtype_type]; kernel_rfl)
theorem rv_entry : entryFor table "reversed.__length_hint__" = some Builtin.«reversed.__length_hint__» := entryFor_of_tree (by kernel_rfl)
theorem rv_args (a : Value) : argsOk "reversed.__length_hint__" ⟨[a], []⟩ := by
  unfold argsOk
  rw [signature?_of (id := "reversed.__length_hint__") (n := "__length_hint__".toList.reverse) (o := ['d', 'e', 's', 'r', 'e', 'v', 'e', 'r']) (by kernel_rfl) owner_rt]
  kernel_rfl
theorem rv_ty : typeOf (.builtin "reversed.__length_hint__") = pure (.type "method_descriptor") := by show builtinType _ = _; rw [builtinType_eq_fast]; kernel_rfl
theorem tup_at {h h' : Heap} {a : Addr} {items : Array Value} (x : IsTup h a items) (e : ∀ o, h.get? a = some o → h'.get? a = some o) : IsTup h' a items := let ⟨o, z, r⟩ := x; ⟨o, e o z, r⟩
section
variable {prog : Program} {w : World} {A : Around} {E : Value → Shared → Prop} {s : Shared}
theorem rv_call {it t : Addr} {items : Array Value} {Q : Value → Shared → Prop} (hit : IsRt s.heap it t ((items.size : Int) - 1)) (ht : IsTup s.heap t items) (hf : (items.size : Int) < 2 ^ 63)
    (hQ : ∀ tk u, Q (.int items.size u) { s with toks := tk }) : wpAny (model prog w) A (call (.builtin "reversed.__length_hint__") [.ref it]) Q E s := by
  obtain ⟨o, ho, hc, hd⟩ := id hit
  refine wpAny_call_entry rv_slot hit.typeIs rv_entry ?_ (rv_args _)
  unfold Builtin.«reversed.__length_hint__»
  refine wpAny_bind (wpAny_of_eq (a := Value.ref it) rfl ?_)
  refine wpAny_bind (wpAny_field ho hd (x := .ref t) rfl ?_)
  try dsimp only
  rw [if_neg (fun h => by cases h)]
  refine wpAny_bind (len_tuple ht hf ?_)
  refine wpAny_bind (wpAny_of_eq (a := some ((items.size : Nat) : Int)) rfl ?_)
  try dsimp only
  refine wpAny_bind (wpAny_field (s := { s with toks := s.toks + 1 + 1 }) ho hd (x := rawInt ((items.size : Int) - 1)) rfl ?_)
  show wpAny _ _ (if ((items.size : Nat) : Int) < (items.size : Int) - 1 + 1 then _ else _) _ _ _
  rw [if_neg (by omega)]
  have e : (items.size : Int) - 1 + 1 = items.size := by omega
  rw [e]
  refine wpAny_bind (wpAny_mkInt (wpAny_pure ⟨_, rfl, hQ _ _⟩))
theorem rv_room {it t : Addr} {items : Array Value} {Q : Bool → Shared → Prop} (hit : IsRt s.heap it t ((items.size : Int) - 1)) (ht : IsTup s.heap t items) (hn : items.size ≤ sizeLine)
    (hQ : ∀ tk b, Q b { s with toks := tk }) : wpAny (model prog w) A (Builtin.List.listLengthHint (.ref it)) Q E s := by
  have hf : (items.size : Int) < 2 ^ 63 := by have := sizeLine_eq; omega
  unfold Builtin.List.listLengthHint
  refine wpAny_bind (wpAny_specialOf hit.typeIs rv_nolen ?_)
  show wpAny _ A (specialOf (Value.ref it) (Str.ofString "__length_hint__") >>= _) _ _ s
  refine wpAny_bind (wpAny_specialOf hit.typeIs rv_hint ?_)
  generalize hz : ("reversed.__length_hint__" : String) = z
  wp_delta
  rw [show splitId z = some ("reversed", "__length_hint__") from by subst hz; decide +kernel]
  subst hz
  refine wpAny_bind (wpAny_isInstance (b := true) hit.typeIs (by rw [isSubtype_type]; kernel_rfl) ?_)
  rw [if_neg (by decide)]
  dsimp only
  rw [if_neg (by decide +kernel)]
  refine wpAny_bind (wpAny_rule ?_)
  unfold bindSpecial
  refine wpAny_bind (wpAny_bind (wpAny_of_eq (a := Value.type "method_descriptor") rv_ty ?_))
  rw [if_pos (by decide +kernel)]
  refine wpAny_pure ?_
  dsimp only
  refine wpAny_bind (wpAny_attempt (rv_call hit ht hf fun tk u => ?_))
  have n0 : (0 : Int) ≤ items.size := by omega
  have n1 : (items.size : Int) ≤ 16777216 := by have := sizeLine_eq; omega
  clear hf hn ht hit
  generalize (items.size : Int) = n at n0 n1 ⊢
  show wpAny _ _ (asInt? (Value.int n u) >>= _) _ _ _
  refine wpAny_bind (wpAny_of_eq (a := some n) rfl ?_)
  have f1 : ¬ (!Builtin.List.listFitsIndex n) = true := by
    unfold Builtin.List.listFitsIndex
    simp only [Bool.not_eq_true', Bool.not_eq_false]
    rw [Bool.and_eq_true]
    exact ⟨decide_eq_true (by omega), decide_eq_true (by omega)⟩
  have f2 : ¬ Builtin.List.listTooLong n.toNat = true := by
    unfold Builtin.List.listTooLong
    rw [sizeLine_eq]
    simp only [decide_eq_true_eq]
    omega
  have f3 : ¬ n < 0 := by omega
  simp only [if_neg f1, if_neg f2, if_neg f3]
  exact wpAny_pure (hQ _ _)
theorem rv_walks (hh : A.handled = none) (it t : Addr) (hne : t ≠ it) (items : Array Value) (hn : items.size ≤ sizeLine) :
    Walks prog w A it [it, t] [it] items.size (fun i v => items[items.size - 1 - i]? = some v) (fun i h => (i ≤ items.size ∧ IsRt h it t ((items.size : Int) - 1 - (i : Nat))) ∧ IsTup h t items) where
  sub := fun b hb => List.mem_cons.mpr (.inl (List.mem_singleton.mp hb))
  frame := fun i h h' ⟨⟨a, b⟩, c⟩ kp => ⟨⟨a, b.at fun o z => kp it (by simp) o z⟩, tup_at c fun o z => kp t (by simp) o z⟩
  item := fun i s Q E lt ⟨⟨a, b⟩, c⟩ q => by
    have hp : items.size - 1 - i < items.size := by omega
    rw [show (items.size : Int) - 1 - (i : Nat) = ((items.size - 1 - i : Nat) : Int) by omega] at b
    refine next_rt_item b c (Array.getElem?_eq_getElem hp) hn fun h1 b1 sm => q _ h1 (s.toks + 1) (Array.getElem?_eq_getElem hp) ⟨⟨lt, ?_⟩, tup_at c fun o z => (sm.2 t hne).trans z⟩ fun x o nx z => sm.extBut x o (fun y => nx (by rw [y]; simp)) z
    rw [show (items.size : Int) - 1 - ((i + 1 : Nat) : Int) = ((items.size - 1 - i : Nat) : Int) - 1 by omega]
    exact b1
  done := fun s Q E ⟨⟨a, b⟩, c⟩ q => by
    rw [show (items.size : Int) - 1 - (items.size : Nat) = -1 by omega] at b
    exact next_rt_end hh b fun h1 ex => q h1 s.toks fun x o nx z => ex x o (fun y => nx (by rw [y]; simp)) z
  self := fun i s Q E ⟨⟨a, b⟩, c⟩ q => iter_rt b q
theorem rv_ext {it t S : Addr} {items : Array Value} {res : Value} {c0 : Nat} {R : Result → Shared → Prop} (hh : A.handled = none) (hit : IsRt s.heap it t ((items.size : Int) - 1)) (ht : IsTup s.heap t items) (hne : t ≠ it) (hn : items.size ≤ sizeLine) (n1 : S ≠ it) (n2 : S ≠ t)
    (hS : s.heap.get? S = some { cls := .type "list", data := .seq #[] c0 }) (hR : ∀ h1 tk acc c1, KeptBut s S it h1 → h1.get? S = some { cls := .type "list", dict := none, data := .seq acc c1, slots := #[] } → ItemsOf (fun i v => items[items.size - 1 - i]? = some v) acc items.size → R (.ok (.ret res)) { s with heap := h1, toks := tk }) :
    wpAny (model prog w) A.in1 (Builtin.List.listExtendWith (.ref S) (.ref it) res)
      (fun fin s1 => match fin with | .done f => R (.ok f) s1 | .again c1 => c1.quiet = true ∧ codeAny (model prog w) A c1 R s1) (fun e s1 => R (.error e) s1) s := by
  have Wk := (rv_walks (prog := prog) (w := w) (A := A.in1) hh it t hne items hn).toS
  have nf : S ∉ [it, t] := by simp [n1, n2]
  have same : Builtin.List.listSameRef (.ref S) (.ref it) = false := by simp [Builtin.List.listSameRef, n1]
  have z0 : (items.size : Int) - 1 - ((0 : Nat) : Int) = (items.size : Int) - 1 := by omega
  have go : ∀ (hp : Heap) (tk c : Nat), (∀ b o, b ≠ S → s.heap.get? b = some o → hp.get? b = some o) → hp.get? S = some { cls := .type "list", data := .seq #[] c } →
      wpAny (model prog w) A.in1 (again (.builtin "list.extend.loop" ⟨[.ref S, .ref it, res], []⟩)) (fun fin s1 => match fin with | .done f => R (.ok f) s1 | .again c1 => c1.quiet = true ∧ codeAny (model prog w) A c1 R s1) (fun e s1 => R (.error e) s1) { s with heap := hp, toks := tk } := fun hp tk c kp at1 => by
    refine wpAny_pure ⟨plainId_quiet F.plain_extend_loop _, codeAny_extend_loopS Wk hn S nf _ items.size 0 _ _ _ rfl (Nat.zero_le _) ⟨⟨Nat.zero_le _, by rw [z0]; exact hit.at fun o z => kp it o n1.symm z⟩, tup_at ht fun o z => kp t o n2.symm z⟩ at1 (ItemsOf.nil _) fun s1 acc c1 mv at2 got => ?_⟩
    rw [Moved.eq_with mv]
    refine hR s1.heap s1.toks acc c1 (fun b o b1 b2 z => mv.heap b o (fun m => ?_) (kp b o b1 z)) at2 got
    simp only [List.mem_cons, List.not_mem_nil, or_false] at m
    rcases m with m | m
    · exact b1 m
    · exact b2 m
  unfold Builtin.List.listExtendWith
  refine wpAny_bind (wpAny_typeOf hit.typeIs ?_)
  rw [if_neg (by rw [same]; decide)]
  refine wpAny_bind (iter_rt hit (wpAny_bind (wpAny_holding (rv_room hit ht hn fun tk b => ?_))))
  cases b
  · rw [if_neg (by decide +kernel)]
    exact go s.heap tk c0 (fun _ _ _ z => z) hS
  · rw [if_pos (by decide +kernel)]
    refine wpAny_bind (wpAny_rule ?_)
    unfold Builtin.List.listTouch
    refine wpAny_bind (wpAny_bind ?_)
    refine (show wpAny (model prog w) A.in1 (updateSeq S (fun x => x.push Value.none)) _ _ _ from wpAny_updateSeq (s := { s with toks := tk }) hS rfl ?_)
    have a1 := Heap.get?_update_self (Obj.mapSeq (fun x : Array Value => x.push Value.none)) hS rfl
    refine (show wpAny (model prog w) A.in1 (updateSeq S (fun x => x.pop)) _ _ _ from wpAny_updateSeq (s := { s with heap := s.heap.update S (Obj.mapSeq (fun x : Array Value => x.push Value.none)), toks := tk }) a1 rfl ?_)
    have a2 := Heap.get?_update_self (Obj.mapSeq (fun x : Array Value => x.pop)) a1 rfl
    exact go _ tk _ (fun b o nb z => (Heap.get?_update_other _ _ nb.symm).trans ((Heap.get?_update_other _ _ nb.symm).trans z)) a2
theorem rv_collect {it t : Addr} {items : Array Value} {Q : List Value → Shared → Prop} (hh : A.handled = none) (hit : IsRt s.heap it t ((items.size : Int) - 1)) (ht : IsTup s.heap t items) (hne : t ≠ it) (hn : items.size ≤ sizeLine)
    (hQ : ∀ (h1 : Heap) (tk : Nat) (acc : Array Value), (∀ b o, b ≠ it → s.heap.get? b = some o → h1.get? b = some o) → ItemsOf (fun i v => items[items.size - 1 - i]? = some v) acc items.size → Q acc.toList { s with heap := h1, toks := tk }) : wpAny (model prog w) A (collect (.ref it)) Q E s := by
  obtain ⟨oi, ei, _⟩ := id hit
  obtain ⟨ot, et, _⟩ := id ht
  have n1 : s.heap.objs.size ≠ it := Nat.ne_of_gt (Heap.lt_size ei)
  have n2 : s.heap.objs.size ≠ t := Nat.ne_of_gt (Heap.lt_size et)
  have p0 : ∀ b o, s.heap.get? b = some o → (s.heap.push { cls := .type "list", data := .seq #[] }).get? b = some o := fun b o e => Heap.get?_push_of_some _ e
  have at0 : (s.heap.push { cls := .type "list", data := .seq #[] }).get? s.heap.objs.size = some { cls := .type "list", data := .seq #[] } := Heap.get?_push_size _ rfl
  unfold collect
  refine wpAny_bind (wpAny_runValue (codeAny_builtin F.entry_proto_collect ?_))
  rw [Around.under_plainId F.plain_proto_collect _]
  refine (show wpAny _ A.in1 (newList [] >>= fun l => again (.builtin "list.__iadd__" ⟨[l, .ref it], []⟩)) _ _ s from wpAny_bind (wpAny_newObj_type (wpAny_pure ⟨plainId_quiet F.plain_list_iadd _, codeAny_builtin F.entry_list_iadd ?_⟩)))
  rw [Around.under_plainId F.plain_list_iadd _]
  refine (show wpAny _ A.in1 (Builtin.List.listExtendWith (.ref s.heap.objs.size) (.ref it) (.ref s.heap.objs.size)) _ _ _ from rv_ext (R := fun r s' => match r with
    | .ok (.ret v) => wpAny (model prog w) A (match v with
      | .ref a => do
        let o ← load a
        match o.data with
          | .seq xs _ => pure xs.toList
          | _ => unsupported "internal:collect"
      | _ => unsupported "internal:collect") Q E s'
    | .ok _ => False
    | .error e => E e s') (s := { s with heap := s.heap.push { cls := .type "list", data := .seq #[] } }) hh (hit.at fun o e => p0 it o e) (tup_at ht fun o e => p0 t o e) hne hn n1 n2 at0 fun h1 tk acc c1 kp a1 got => ?_)
  refine (show wpAny _ A (load s.heap.objs.size >>= _) _ _ _ from wpAny_bind (wpAny_load a1 (wpAny_pure ?_)))
  exact hQ h1 tk acc (fun b o nb e => kp b o (Nat.ne_of_lt (Heap.lt_size e)) nb (p0 b o e)) got
theorem rv_new {it t : Addr} {items : Array Value} {Q₁ : Value → Shared → Prop} (hh : A.handled = none) (hit : IsRt s.heap it t ((items.size : Int) - 1)) (ht : IsTup s.heap t items) (hne : t ≠ it) (hn : items.size ≤ sizeLine)
    (hQ : ∀ (h1 : Heap) (tk : Nat) (acc : Array Value), (∀ b o, b ≠ it → s.heap.get? b = some o → h1.get? b = some o) → ItemsOf (fun i v => items[items.size - 1 - i]? = some v) acc items.size → Q₁ (.ref h1.objs.size) { s with heap := h1.push { cls := .type "tuple", data := .seq acc }, toks := tk }) :
    codeAny (model prog w) A (.call (.builtin "tuple.__new__") ⟨[.type "tuple", .ref it], []⟩) (wants Q₁ E) s := by
  refine codeAny_of_tree (show wpAny _ A.in1 (do checkBuiltinCall "tuple.__new__" ⟨[.type "tuple", .ref it], []⟩; again (.builtin "tuple.__new__" ⟨[.type "tuple", .ref it], []⟩)) _ _ s from wpAny_bind (wpAny_of_eq (F.newCall_tuple_1 _) (wpAny_pure ⟨plainId_quiet F.plain_tuple_new _, codeAny_builtin F.entry_tuple_new ?_⟩)))
  rw [Around.under_plainId F.plain_tuple_new _]
  have u1 := sub_tuple_self
  have u2 := init_tuple_lookup
  have u3 := madeHere_tuple
  have ty : s.TypeIs (.ref it) "reversed" := hit.typeIs
  have h2 : A.in1.handled = none := hh
  wp_walk using wpAny_typeOf ty, rv_collect (A := A.in1) h2 hit ht hne hn
  intro h1 tk acc kp got
  refine (show wpAny _ _ (Builtin.Tuple.tupleExact acc.toList.toArray >>= fun v => ret v) _ _ _ from ?_)
  unfold Builtin.Tuple.tupleExact
  have sz : acc.toList.toArray.size ≤ sizeLine := by rw [Array.toArray_toList, got.1]; exact hn
  refine wpAny_bind (wpAny_newObj_type (wpAny_pure ?_) sz)
  rw [Array.toArray_toList]
  exact hQ h1 tk acc kp got
theorem rv_tuple {it t : Addr} {items : Array Value} {Q : Value → Shared → Prop} (hh : A.handled = none) (hit : IsRt s.heap it t ((items.size : Int) - 1)) (ht : IsTup s.heap t items) (hne : t ≠ it) (hn : items.size ≤ sizeLine)
    (hQ : ∀ (h1 : Heap) (tk : Nat) (acc : Array Value), (∀ b o, b ≠ it → s.heap.get? b = some o → h1.get? b = some o) → ItemsOf (fun i v => items[items.size - 1 - i]? = some v) acc items.size → Q (.ref h1.objs.size) { s with heap := h1.push { cls := .type "tuple", data := .seq acc }, toks := tk }) :
    wpAny (model prog w) A (call (.type "tuple") [.ref it]) Q E s :=
  callType_codes (Q₁ := fun x s1 => s1.TypeIs x "tuple" ∧ Q x s1) F.called_tuple (F.typeCall_tuple_1 _) F.entry_object_init (rv_new (A := A.in1) hh hit ht hne hn fun h1 tk acc kp got => ⟨⟨_, Heap.get?_push_size _ rfl, rfl⟩, hQ h1 tk acc kp got⟩) fun x s1 ⟨g1, g2⟩ =>
    ⟨g1, F.args_object_init_2 x _, object_init_meets F.called_tuple.init.lookup F.called_tuple.made (by decide) prog w A.in1 _ s1 ⟨g1, rfl, g2⟩⟩
end
section
variable {X : Cx}
theorem pe_tupRv {e : Expr} {te : TE} {p p2 pos pos2 : Pos} (hg : Gl X "tuple") (hc : X.calm = true) (hm : X.mg "tuple" = none) (hg2 : Gl X "reversed") (hm2 : X.mg "reversed" = none) (he : PE X e te) (hs : starEach [e] X.env = (false, eval e X.env) :: starEach [] X.env := by rfl)
    (hs2 : starEach [.Call (.Name "reversed" p2) [e] [] pos2] X.env = (false, eval (.Call (.Name "reversed" p2) [e] [] pos2) X.env) :: starEach [] X.env := by rfl) : PE X (.Call (.Name "tuple" p) [.Call (.Name "reversed" p2) [e] [] pos2] [] pos) (tTupRv X.K te) := ⟨fun pins s σ H Q I h => by
  refine Call_ (ld_blt I hg hm boot_tuple (PyProof.Rows.callWith_type1 (args_cons (Call_ (ld_blt I hg2 hm2 PyProof.Rows.boot_reversed (PyProof.Rows.callWith_type1 (args_cons (thn (he.run pins s σ H _ I h) fun u s1 ⟨v, H1, I1, r1, a, xs, ev, hq, q⟩ => args_nil ?_) hs) hs rfl))) hs2) hs2 rfl))
  subst ev
  obtain rfl : u = Value.ref a := r1
  obtain ⟨its, rv, pl, hz⟩ := I1.tuple hq
  have sz : its.toArray.size ≤ sizeLine := by rw [List.size_toArray, ← rv.length]; exact hz
  have f63 : (its.toArray.size : Int) < 2 ^ 63 := by have := sizeLine_eq; omega
  refine call_reversed_tup pl (fun A E Q k => len_tuple pl f63 k) (args_nil ?_)
  have J : Inv X pins σ H1 { s1 with heap := s1.heap.push (rtObj a ((its.toArray.size : Int) - 1)), toks := s1.toks + 1 + 1 } := I1.kept (t' := s1.toks + 1 + 1) fun b o e => Heap.get?_push_of_some _ e
  obtain ⟨f0, f1, f2, f3, f4, f5⟩ := I1.fpOk (H' := H1) (b := s1.heap.objs.size) (Nat.le_refl _) (I1.hok.fresh (Nat.le_refl _))
  obtain ⟨ol, el, _⟩ := id pl
  refine rv_tuple (s := { s1 with heap := s1.heap.push (rtObj a ((its.toArray.size : Int) - 1)), toks := s1.toks + 1 + 1 }) (I1.ok.hd hc) ⟨_, Heap.get?_push_size _ rfl, rfl, rfl⟩ (pl.push _) (Nat.ne_of_lt (Heap.lt_size el)) sz fun h1 tk acc kp got => ?_
  have I3 : Inv X pins σ H1 { s1 with heap := h1, toks := tk } := J.turned (t' := tk) (fun b o hb e => kp b o hb e) f0 f1 f3 f4 f5
  exact ⟨.ref h1.objs.size, upd H1 h1.objs.size (.tup xs.reverse), I3.laid (t' := tk) (fun c o e => Heap.get?_push_of_some _ e) (Nat.le_refl _) (show ObjOk X.prog X.w _ _ _ (.tup xs.reverse) from ⟨by rw [List.length_reverse]; exact hz, acc.toList, vals_rev rv got, by rw [Array.toArray_toList]; exact IsTup.new _ _⟩), rfl, q _ (I3.hok.fresh (Nat.le_refl _))⟩⟩
end
end TB

/-! TB classes: instances with one attribute, set once by __init__; their methods; isinstance. -/
namespace TB
open PySem PySem.Spec PyProof.Rows L2
/-- an instance of the class c with these attributes -/
def insD (c : Str) (ns : List Str) (ds : List PyData) : PyData := exD (.list (.str c :: ns.map .str)) ds
/-- what is asked of a class of the text -/
structure ClsF (K : PySem.W.Frag) (c f : Str) : Prop where
  cl : Cls K (clsA K c)
  na : NoAttr K (clsA K c) f
  ns : PySem.W.nsIn K mainGlobals c = some (some (.ref (clsA K c)))
section
variable {K : PySem.W.Frag} {te ta tb : TE} {t : TA} {ea eb em : EM} {am : AM} {ra rb : RM} {G : Sl} {g : Stt}
/-! ### one of several ways -/
def tAlt (ta tb : TE) : TE := fun σ H Q => ta σ H Q ∨ tb σ H Q
theorem pe_alt {X : Cx} {e : Expr} (h : PE X e ta) (h' : PE X e tb) : PE X e (tAlt ta tb) := ⟨fun pins s σ H Q I q => q.elim (h.run pins s σ H Q I) (h'.run pins s σ H Q I)⟩
def eAlt (x y : EM) : EM := fun g => match x g with
  | some r => some r
  | none => y g
def rAlt (x y : RM) : RM := fun g => match x g with
  | some r => some r
  | none => y g
theorem se_alt (h : SE K ta ea) (h' : SE K tb eb) : SE K (tAlt ta tb) (eAlt ea eb) := fun G g b d a e => by
  unfold eAlt at e
  split at e
  · rename_i e1
    cases e
    exact fun c σ H s Q q => .inl (h G g _ _ a e1 c σ H s Q q)
  · exact fun c σ H s Q q => .inr (h' G g _ _ a e c σ H s Q q)
theorem sr_alt (h : SR K ta ra) (h' : SR K tb rb) : SR K (tAlt ta tb) (rAlt ra rb) := fun G g q a e => by
  unfold rAlt at e
  split at e
  · rename_i e1
    cases e
    exact fun c σ H s Q q => .inl (h G g _ a e1 c σ H s Q q)
  · exact fun c σ H s Q q => .inr (h' G g _ a e c σ H s Q q)
/-! ### an instance's data -/
def notN (m : Str) : PyData → Bool
  | .str n => !decide (n = m)
  | _ => false
/-- it is an instance of c; no attribute of it is called m -/
def insIs (c m : Str) : PyData → Bool
  | .dict [(.none, .tuple (.list (.str c' :: ns) :: _))] => decide (c' = c) && ns.all (notN m)
  | _ => false
def fldOf (f : Str) : List PyData → List PyData → Option PyData
  | .str n :: ns, d :: ds => if n = f then some d else fldOf f ns ds
  | _, _ => none
/-- the attribute f of an instance of one of these classes -/
def pFld (cs : List Str) (f : Str) : PyData → Option PyData
  | .dict [(.none, .tuple (.list (.str c :: ns) :: ds))] => if c ∈ cs then fldOf f ns ds else none
  | _ => none
theorem rep_ins {H : Hp} {v : V} {c : Str} {ns ds : List PyData} (h : Rep K H v (.dict [(.none, .tuple (.list (.str c :: ns) :: ds))])) :
    ∃ a dx fs, v = .ref a ∧ H a = some (.ins (clsA K c) dx fs) ∧ ns = fs.map (fun f => PyData.str f.1) ∧ Reps K H (fs.map (·.2)) ds := by
  generalize hz : PyData.dict [(.none, .tuple (.list (.str c :: ns) :: ds))] = z at h
  cases h <;> first | (cases hz; done) | skip
  · rename_i hk
    have hk2 := PyData.dict.inj hz
    cases hk with
    | nil => cases hk2
    | @cons k v d r s _ _ =>
      have := (Prod.mk.inj (List.cons.inj hk2).1).1
      cases k <;> cases this
  · rename_i ex rs
    cases hz
    obtain ⟨C, dx, fs, h1, h2, h3, h4⟩ := ex
    subst h2
    rw [← clsA_of h4] at h1
    exact ⟨_, dx, fs, rfl, h1, h3, rs⟩
theorem lookup_none {m : Str} : ∀ {fs : List (Str × V)}, (fs.map fun f => PyData.str f.1).all (notN m) = true → fs.lookup m = none
  | [], _ => rfl
  | (n, v) :: fs, h => by
    rw [List.map_cons, List.all_cons, Bool.and_eq_true] at h
    have h1 : ¬ n = m := by
      intro z
      have := h.1
      subst z
      simp [notN] at this
    have hb : (m == n) = false := by
      cases q : m == n with
      | false => rfl
      | true => exact (h1 (eq_of_beq q).symm).elim
    simp only [List.lookup, hb]
    exact lookup_none h.2
theorem fld_at {H : Hp} {f : Str} {d : PyData} : ∀ {fs : List (Str × V)} {ds : List PyData}, Reps K H (fs.map (·.2)) ds → fldOf f (fs.map fun f => PyData.str f.1) ds = some d → ∃ v, fs.lookup f = some v ∧ Rep K H v d
  | [], _, _, h => by simp [fldOf] at h
  | (n, v) :: fs, [], h, _ => by cases h
  | (n, v) :: fs, x :: ds, h, e => by
    cases h with
    | cons r rs =>
      rw [List.map_cons] at e
      simp only [fldOf] at e
      by_cases hn : n = f
      · subst hn
        rw [if_pos rfl] at e
        cases e
        exact ⟨v, by simp [List.lookup], r⟩
      · rw [if_neg hn] at e
        obtain ⟨w, h1, h2⟩ := fld_at rs e
        have hb : (f == n) = false := by
          cases q : f == n with
          | false => rfl
          | true => exact (hn (eq_of_beq q).symm).elim
        exact ⟨w, by simp only [List.lookup, hb]; exact h1, h2⟩
/-! ### x.f -/
def eFld (cs : List Str) (f : Str) (x : EM) : EM := fun g => match x g with
  | some (b, d) => match pFld cs f d with
    | some z => some (b || imm z, z)
    | none => none
  | none => none
theorem se_fld {cs : List Str} {f : Str} (hC : ∀ c ∈ cs, ClsF K c f) (h : SE K te em) : SE K (tFld K te f) (eFld cs f em) := fun G g b d a e => by
  unfold eFld at e
  split at e
  · rename_i b1 d1 e1
    split at e
    · rename_i z hz
      cases e
      refine de_orI ?_
      unfold pFld at hz
      split at hz
      · split at hz
        · rename_i hc
          intro cc σ H s Q q
          refine h G g _ _ a e1 cc σ H s _ fun v H1 s1 r => ?_
          obtain ⟨ad, dx, fs, rfl, h1, h2, h3⟩ := rep_ins r
          subst h2
          obtain ⟨w, h4, h5⟩ := fld_at h3 hz
          exact ⟨ad, _, dx, fs, w, rfl, (s.ext s1).vsame _ _ h1, (hC _ hc).cl, (hC _ hc).na, h4, q w H1 s1 h5⟩
        · cases hz
      · cases hz
    · cases e
  · cases e
/-! ### x.m(..) -/
/-- the receiver, an instance of c, ahead of the arguments -/
def tMth (K : PySem.W.Frag) (c m : Str) (te : TE) (t : TA) : TA := fun σ H Q => te σ H fun x H1 => ∃ a dx fs, x = .ref a ∧ H1 a = some (.ins (clsA K c) dx fs) ∧ fs.lookup m = none ∧ t σ H1 fun vs H2 => Q (x :: vs) H2
def aMth (c m : Str) (x : EM) (r : AM) : AM := fun g => match x g with
  | some (_, d) => if insIs c m d then aCons x r g else none
  | none => none
theorem sa_mth {c m : Str} (h : SE K te em) (h' : SA K t am) : SA K (tMth K c m te t) (aMth c m em am) := fun G g b ds a e => by
  unfold aMth at e
  split at e
  · rename_i b1 d1 e1
    split at e
    · rename_i hi
      unfold aCons at e
      rw [e1] at e
      simp only at e
      split at e
      · rename_i c2 ds2 e2
        cases e
        have k1 : DE K (md (b1 && c2)) te G d1 := de_and (h G g _ _ a e1)
        have k2 : DA K (md (b1 && c2)) t G ds2 := da_and2 (h' G g _ _ a e2)
        intro cc σ H s Q q
        refine k1 cc σ H s _ fun v H1 s1 r => ?_
        unfold insIs at hi
        split at hi
        · rw [Bool.and_eq_true] at hi
          have hc := of_decide_eq_true hi.1
          subst hc
          obtain ⟨ad, dx, fs, rfl, h1, h2, h3⟩ := rep_ins r
          subst h2
          refine ⟨ad, dx, fs, rfl, (s.ext s1).vsame _ _ h1, lookup_none hi.2, k2 cc σ H1 (s.ext s1) _ fun vs H2 s2 r2 => q _ H2 (s1.trans s2) (.cons (Rep.mono ((s.ext s1).vext s2) r) r2)⟩
        · cases hi
      · cases e
    · cases e
  · cases e
/-- a method of the class c and its promise -/
def MetOk (P : Program) (w : World) (K : PySem.W.Frag) (mg : Str → Option Value) (base : Heap) (k : Nat) (c m : Str) (ps : List Str) (sp : Sp) : Prop :=
  ∃ (f : Addr) (fd : FuncData), FnOk P w K mg base CX0 k f fd ps sp ∧ Meth K (clsA K c) m f ∧ Cls K (clsA K c) ∧ Binds K fd ps []
theorem pe_metD {X : Cx} {k : Nat} {c m : Str} {ps : List Str} {sp : Sp} {o e : Expr} {es : List Expr} {apos pos : Pos} {pl : Sem Bool} (D : MetOk X.prog X.w X.K X.mg X.base k c m ps sp) (hr : Room k X.A) (he : PE X o te) (ha : PA X (e :: es) t)
    (hst : starEach (e :: es) X.env = (false, eval e X.env) :: starEach es X.env := by rfl) (hpl : (backTo pos (starEach es X.env)).any (·.1) = false := by rfl)
    (ht : eval (.Call (.Attribute o m apos) (e :: es) [] pos) X.env = (do
      let ov ← eval o X.env
      standAt apos.atName
      let (f, first) ← holding [ov] (getMethod ov m pl)
      callWith pos f first (backTo pos (starEach (e :: es) X.env)) (backToKw pos (keywordEach [] X.env))) := by rfl) : PE X (.Call (.Attribute o m apos) (e :: es) [] pos) (tCall sp [] E0 (tMth X.K c m te t)) := by
  obtain ⟨f, fd, F, M, C, b⟩ := D
  exact pe_meth he C M F hr b .nil pass0 ha hst hpl ht
theorem pe_metD0 {X : Cx} {k : Nat} {c m : Str} {ps : List Str} {sp : Sp} {o : Expr} {apos pos : Pos} {pl : Sem Bool} (D : MetOk X.prog X.w X.K X.mg X.base k c m ps sp) (hr : Room k X.A) (he : PE X o te)
    (ht : eval (.Call (.Attribute o m apos) [] [] pos) X.env = (do
      let ov ← eval o X.env
      standAt apos.atName
      let (f, first) ← holding [ov] (getMethod ov m pl)
      callWith pos f first (backTo pos (starEach [] X.env)) (backToKw pos (keywordEach [] X.env))) := by rfl) : PE X (.Call (.Attribute o m apos) [] [] pos) (tCall sp [] E0 (tMth X.K c m te tNil)) := by
  obtain ⟨f, fd, F, M, C, b⟩ := D
  exact pe_meth0 he C M F hr b .nil pass0 ht
/-- a def of the text by its place in a class -/
theorem mkFnQ {P : Program} {w : World} {mg : Str → Option Value} {base : Heap} {x qual : Str} {st : Stmt} {N ps : List Str} {k : Nat} {ts : TS} {sp : Sp} {f : Addr} {fd : FuncData} (F : Fun K x qual st f fd) (S : FnScope N ps (defScope st)) (hlen : ∀ vs H Q E, sp vs H Q E → vs.length = ps.length)
    (hder : ∀ (f : Addr) (cdv : Value) (A : Around) (outer : List Env) (s : Shared) (H : Hp) (E : XK), Room k (A.deeper (envOfC qual (defScope st) s.heap.objs.size f cdv)) → PSs (cxOf CX0 P w K mg base N qual (defScope st) f cdv A outer s H E).nox (defBody st) ts)
    (hraw : ∀ vs H Q E, sp vs H Q E → ts { nx := fun _ H' => Q .non H', rt := Q } (L2.start N vs) H) : FnOk P w K mg base CX0 (k + 1) f fd ps sp :=
  F.ok S hlen (fun cdv A outer s H vs Q E hr hsp => ⟨ts, hder f cdv A outer s H E hr, hraw vs H Q E hsp⟩)
/-! ### C(e): __init__(self, x): self.f = x -/
def spInit (K : PySem.W.Frag) (f : Str) : Sp := fun vs H Q _ => ∃ (a C dx : Addr) (v : V), vs = [.ref a, v] ∧ H a = some (.ins C dx []) ∧ Cls K C ∧ NoAttr K C f ∧ Q .non (upd H a (.ins C dx [(f, v)]))
theorem ok_init1 {P : Program} {w : World} {mg : Str → Option Value} {base : Heap} {qual f x1 x2 : Str} {st : Stmt} {fa : Addr} {fd : FuncData} (F : Fun K "__init__" qual st fa fd) (S : FnScope [x1, x2] [x1, x2] (defScope st))
    (hder : ∀ (f' : Addr) (cdv : Value) (A : Around) (outer : List Env) (s : Shared) (H : Hp) (E : XK), Room 0 (A.deeper (envOfC qual (defScope st) s.heap.objs.size f' cdv)) → PSs (cxOf CX0 P w K mg base [x1, x2] qual (defScope st) f' cdv A outer s H E).nox (defBody st) (sFld K (tVar 0) (tVar 1) f)) : FnOk P w K mg base CX0 1 fa fd [x1, x2] (spInit K f) := by
  refine F.ok S (fun vs H Q E h => ?_) (fun cdv A outer s H vs Q E hr h => ?_)
  · obtain ⟨a, C, dx, v, rfl, _⟩ := h
    rfl
  · obtain ⟨a, C, dx, v, rfl, h1, h2, h3, h4⟩ := h
    refine ⟨_, hder _ _ _ _ _ _ _ hr, ?_⟩
    exact ⟨v, rfl, .ref a, rfl, a, C, dx, [], rfl, h1, h2, h3, (by show 0 < 1000; decide), h4⟩
/-- a class that is made so -/
def MakOk (P : Program) (w : World) (K : PySem.W.Frag) (mg : Str → Option Value) (base : Heap) (c f : Str) (ps : List Str) : Prop :=
  ∃ (fa : Addr) (fd : FuncData), FnOk P w K mg base CX0 1 fa fd ps (spInit K f) ∧ Mk K (clsA K c) fa ∧ mg c = some (.ref (clsA K c)) ∧ Binds K fd ps []
theorem pe_mak {X : Cx} {c f : Str} {ps : List Str} {e : Expr} {es : List Expr} {p pos : Pos} (D : MakOk X.prog X.w X.K X.mg X.base c f ps) (hr : Room 2 X.A) (hg : Gl X c) (ha : PA X (e :: es) t) (hdb : (c == ("__debug__" : Str)) = false := by decide)
    (he : starEach (e :: es) X.env = (false, eval e X.env) :: starEach es X.env := by rfl) (hpl : (backTo pos (starEach es X.env)).any (·.1) = false := by rfl) : PE X (.Call (.Name c p) (e :: es) [] pos) (tMake (clsA X.K c) (spInit X.K f) [] E0 t) := by
  obtain ⟨fa, fd, F, M, hm, b⟩ := D
  exact pe_make M F hr hg hm b .nil pass0 ha hdb he hpl
def eMake (c f : Str) (x : EM) : EM := fun g => match x g with
  | some (b, d) => some (b || imm d, insD c [f] [d])
  | none => none
theorem de_make {b : Bool} {d : PyData} {c f : Str} (F : ClsF K c f) (h : DE K (md b) te G d) : DE K (md b) (tMake (clsA K c) (spInit K f) [] E0 (tCons te tNil)) G (insD c [f] [d]) := fun cc σ H s Q q => by
  refine h cc σ H s _ fun v H1 s1 r => ?_
  have e1 := s.ext s1
  intro x dx nx ndx nex
  refine ⟨x, clsA K c, dx, v, rfl, upd_same, F.cl, F.na, rfl, ?_⟩
  have n1 : upd H1 dx (.own x) x = none := by rw [upd_ne (fun z => nex z.symm)]; exact nx
  have s2 : Same H1 (upd (upd (upd H1 dx (.own x)) x (.ins (clsA K c) dx [])) x (.ins (clsA K c) dx [(f, v)])) := by
    rw [upd_upd]
    exact (same_new ndx).trans (same_new n1)
  refine q _ _ (s1.trans s2) ?_
  have hv : vis cc (OF G) (md b) (upd (upd (upd H1 dx (.own x)) x (.ins (clsA K c) dx [])) x (.ins (clsA K c) dx [(f, v)])) x = some (.ins (clsA K c) dx [(f, v)]) := by
    refine e1.plus s2 _ _ ?_
    rw [plus_new nx, upd_same]
    rfl
  exact .ex (vs := [v]) ⟨clsA K c, dx, [(f, v)], hv, rfl, rfl, F.ns⟩ (.cons (Rep.mono (e1.vext s2) r) .nil)
theorem se_make {c f : Str} (F : ClsF K c f) (h : SE K te em) : SE K (tMake (clsA K c) (spInit K f) [] E0 (tCons te tNil)) (eMake c f em) := fun G g b d a e => by
  unfold eMake at e
  split at e
  · rename_i b1 d1 e1
    cases e
    refine de_make F ?_
    exact de_orI (h G g _ _ a e1)
  · cases e
/-! ### isinstance(x, C), x an instance -/
structure InsT (K : PySem.W.Frag) (c : Str) : Prop where
  cl : Cls K (clsA K c)
  ha : PySem.W.findIn K (.ref (clsA K c)) "__class__" = some (some (.builtin "object.__class__"))
  hn : PySem.W.specialIn K (.builtin "object.__class__") "__get__" = some (some (.builtin "getset_descriptor.__get__"))
  ht : PySem.W.takesIn K (.builtin "object.__class__") = some true
  hm : PySem.W.mroIn K (clsA K c) (.type "object") = some true
structure InsI (K : PySem.W.Frag) (tab : Tab) : Prop where
  it : ∀ p ∈ tab, InsT K p.1
  kit : KitT K tab
structure KCls (K : PySem.W.Frag) (cs : List Str) (f : Str) (tab : Tab) : Prop where
  cl : ∀ c ∈ cs, ClsF K c f
  ii : InsI K tab
def eIsC (tab : Tab) (T : Str) (x : EM) : EM := fun g => match x g with
  | some (_, .dict [(.none, .tuple (.list (.str c :: _) :: _))]) => match isub tab c T with
    | some b => some (true, .bool b)
    | none => none
  | _ => none
theorem se_isC {tab : Tab} {T : Str} (I : InsI K tab) (h : SE K te em) : SE K (tCB (rIsi K) (tCons te (tCons (tC (.ref (clsA K T))) tNil))) (eIsC tab T em) := fun G g b d a e => by
  unfold eIsC at e
  split at e
  · rename_i e1
    split at e
    · rename_i b2 hb
      cases e
      have hp := isub_mem hb
      refine de_imm (fun cc σ H s Q q => h.no a e1 cc σ H s _ fun v H1 s1 r => ?_) rfl
      obtain ⟨ad, dx, fs, rfl, h1, _, _⟩ := rep_ins r
      have h1 := (s.ext s1).vsame _ _ h1
      have F := I.it _ hp
      exact ⟨.ref ad, .ref (clsA K T), .ref (clsA K _), .ref (clsA K T), b2, rfl, .own _, .base (.ins h1 F.cl F.ha F.hn F.ht F.hm), I.kit _ hp, q _ H1 s1 (.bl _)⟩
    · cases e
  · cases e
end
end TB

/-! TB in: texts among the texts of a tuple. -/
namespace TB
open PySem PySem.Spec PyProof.Rows L2
section
variable {K : PySem.W.Frag}
def asStrs : List PyData → Option (List Str)
  | [] => some []
  | .str k :: ds => match asStrs ds with
    | some ks => some (k :: ks)
    | none => none
  | _ => none
theorem asStrs_of : ∀ {ds : List PyData} {ks : List Str}, asStrs ds = some ks → ds = ks.map .str
  | [], ks, h => by cases h; rfl
  | d :: ds, ks, h => by
    cases d <;> first | (cases h; done) | skip
    unfold asStrs at h
    split at h
    · rename_i e; cases h; rw [List.map_cons, asStrs_of e]
    · cases h
def pInT : PyData → PyData → Option PyData
  | .str a, .tuple ds => match asStrs ds with
    | some ls => some (.bool (decide (a ∈ ls)))
    | none => none
  | _, _ => none
def pNotInT : PyData → PyData → Option PyData
  | .str a, .tuple ds => match asStrs ds with
    | some ls => some (.bool (!decide (a ∈ ls)))
    | none => none
  | _, _ => none
theorem all_flatS : ∀ ls : List Str, (ls.map V.str).all flatV = true
  | [] => rfl
  | l :: ls => by rw [List.map_cons, List.all_cons, all_flatS ls]; rfl
theorem inV_strs {a : Str} : ∀ ls : List Str, inV (.str a) (ls.map V.str) = decide (a ∈ ls)
  | [] => rfl
  | l :: ls => by
    have ih := inV_strs (a := a) ls
    unfold inV at ih ⊢
    rw [List.map_cons, List.any_cons, ih]
    show ((l == a) || decide (a ∈ ls)) = decide (a ∈ l :: ls)
    rw [Bool.eq_iff_iff]
    simp only [Bool.or_eq_true, decide_eq_true_eq, List.mem_cons, beq_iff_eq]
    constructor
    · rintro (h | h)
      · exact .inl h.symm
      · exact .inr h
    · rintro (h | h)
      · exact .inl h.symm
      · exact .inr h
theorem o_inT : Op0 K (rInA K) pInT := fun G x y z ta tb e h1 h2 => by
  unfold pInT at e
  split at e
  · split at e
    · rename_i ls hl
      cases e
      rw [asStrs_of hl] at h2
      refine de_imm (fun c' σ H e Q q => h1 c' σ H e _ fun v H1 s1 r1 => h2 c' σ H1 (e.ext s1) _ fun u H2 s2 r2 => ?_) rfl
      cases r1
      cases r2 with
      | tup h r =>
        have := Reps.strs r
        subst this
        refine .inl (.inr ⟨_, _, rfl, .inr (rd_tup (Same.refl _) h), rfl, all_flatS ls, ?_⟩)
        rw [inV_strs]
        exact q _ H2 (s1.trans s2) (.bl _)
    · cases e
  · cases e
theorem o_notInT : Op0 K (rNotInA K) pNotInT := fun G x y z ta tb e h1 h2 => by
  unfold pNotInT at e
  split at e
  · split at e
    · rename_i ls hl
      cases e
      rw [asStrs_of hl] at h2
      refine de_imm (fun c' σ H e Q q => h1 c' σ H e _ fun v H1 s1 r1 => h2 c' σ H1 (e.ext s1) _ fun u H2 s2 r2 => ?_) rfl
      cases r1
      cases r2 with
      | tup h r =>
        have := Reps.strs r
        subst this
        refine .inl (.inr ⟨_, _, rfl, .inr (rd_tup (Same.refl _) h), rfl, all_flatS ls, ?_⟩)
        rw [inV_strs]
        exact q _ H2 (s1.trans s2) (.bl _)
    · cases e
  · cases e
end
end TB

/-! TB tuples with a list of one's own: handed back, taken apart, their list cleared. -/
namespace TB
open PySem PySem.Spec PyProof.Rows L2
section
variable {K : PySem.W.Frag} {te tb : TE} {em : EM} {rb rm : RM} {i j k : Nat} {c : C} {G : Sl} {σ : L2.St} {H : Hp}
/-! ### return (x, y), y a list of one's own -/
def sRetT (e : EM) (r : RM) : SM := fun g => match e g with
  | some (_, d) => match r g with
    | some (.l ds) => if imm d then some (.rt (.t [.inl d, .inr ds])) else none
    | _ => none
  | none => none
def sRetTV (e : EM) (i : Nat) : SM := fun g => match e g with
  | some (_, d) => match g[i]? with
    | some (some (.l ds)) => if imm d then some (.rt (.t [.inl d, .inr ds])) else none
    | _ => none
  | none => none
theorem ret_two {P : Post} {D : Ends} {x : V} {d : PyData} {ds : List PyData} {vs : List V} {a p : Addr} {H1 H2 : Hp} (e : Sits K c G σ H2) (s1 : Same H1 H2) (r1 : Rep K H1 x d) (hd : imm d = true) (ha : c.H0 a = none) (hv : H2 a = some (.lst vs)) (hr : Reps K (hide (fun b => b = a) (plus (gz c false) c.H0 H2)) vs ds) (hp : H2 p = none)
    (k2 : ∀ r v H', P.rt r → Same c.H0 H' → RetR K c.F c.H0 H' v r → D.rt v H') (k : P.rt (.tupo false [.inl d, .inr ds])) : D.rt (.ref p) (upd H2 p (.tup [x, .ref a])) := by
  have s := same_new (o := .tup [x, .ref a]) hp
  have nap : a ≠ p := ne_of_none hv hp
  refine k2 _ _ _ k (e.h0.trans s) ⟨.tupo false [.inl d, .inr (a, ds)], rfl, by simp [B.ows, itOws], fun b hb => ?_, p, [x, .ref a], rfl, upd_same, .cons ?_ (.cons ⟨rfl, vs, by rw [upd_ne nap]; exact hv, ?_⟩ .nil)⟩
  · simp [B.ows, itOws] at hb; rw [hb]; exact ha
  · show Rep K _ x d
    refine Rep.imm (fun y xs ht h => ?_) (Rep.mono (s1.trans s) r1) hd
    have hy : ¬ (y ∈ (B.tupo false [.inl d, .inr (a, ds)]).ows) := fun z => by
      simp [B.ows, itOws] at z
      subst z
      rw [upd_ne nap, hv] at h
      cases h
      cases ht
    show hide _ _ y = _
    rw [hide_at hy]
    exact tups_plus (e.h0.trans s) y xs ht h
  · refine Reps.mono (hide_le (plus_ext s) fun b o _ q => ?_) hr
    simpa [B.ows, itOws] using q
theorem ss_retT (h : SE K te em) (h' : SR K tb rb) : SS K (tRet (tTup (tCons te (tCons tb tNil)))) (sRetT em rb) := fun G g o a e => by
  unfold sRetT at e
  split at e
  · rename_i b0 d e1
    split at e
    · rename_i ds e2
      split at e
      · rename_i hd
        cases e
        intro c σ H D s k1 k2 k3 k4
        refine h.no a e1 c σ H s _ fun x H1 s1 r1 => ?_
        refine h' G g _ a e2 c σ H1 (s.ext s1) _ fun y H2 s2 ⟨b, hb, hn, hf, hr⟩ => ?_
        have e2 := (s.ext s1).ext s2
        obtain ⟨ad, rfl⟩ := strip_l hb
        obtain ⟨rfl, vs, hv, hr⟩ := hr
        refine ⟨by show 2 ≤ _; decide, fun p hp => ?_⟩
        refine ret_two e2 s2 r1 hd (non_of (s.ext s1).h0 (hf ad (by simp [B.ows]))) hv ?_ hp k2 rfl
        refine Reps.mono (hide_le hide_same fun b o _ q => ?_) hr
        simpa [B.ows] using q
      · cases e
    · cases e
  · cases e
theorem ss_retTV (h : SE K te em) : SS K (tRet (tTup (tCons te (tCons (tVar i) tNil)))) (sRetTV em i) := fun G g o a e => by
  unfold sRetTV at e
  split at e
  · rename_i b0 d e1
    split at e
    · rename_i ds e2
      split at e
      · rename_i hd
        cases e
        intro c σ H D s k1 k2 k3 k4
        refine h.no a e1 c σ H s _ fun x H1 s1 r1 => ?_
        have e1' := s.ext s1
        obtain ⟨ad, hG⟩ := a.l e2
        obtain ⟨w, h1, rfl, vs, hv, hr⟩ := e1'.at_ i _ hG
        refine ⟨_, h1, by show 2 ≤ _; decide, fun p hp => ?_⟩
        have own : OF G ad := ⟨i, _, hG, by simp [B.ows]⟩
        refine ret_two e1' (Same.refl _) r1 hd (e1'.fr ad own).1 hv ?_ hp k2 rfl
        exact Reps.mono (hide_le (Same.refl _) fun b o _ q => q ▸ own) hr
      · cases e
    · cases e
  · cases e
/-! ### x, y = f(..) -/
def sUnp2 (i j : Nat) (r : RM) : SM := fun g => match r g with
  | some (.t [.inl d, .inr ds]) => if (imm d && decide (i ≠ j)) && (decide (i < g.length) && decide (j < g.length)) then some (.nx ((g.set j (some (.l ds))).set i (some (.v d)))) else none
  | some (.v (.tuple [d, d'])) => if decide (i ≠ j) && (decide (i < g.length) && decide (j < g.length)) then some (.nx ((g.set j (some (.v d'))).set i (some (.v d)))) else none
  | _ => none
theorem ss_unp2 (h : SR K te rm) : SS K (tAsg te (gTup K 2 (gCons (gName i) (gCons (gName j) gNil)))) (sUnp2 i j rm) := fun G g o a e => by
  unfold sUnp2 at e
  split at e
  · rename_i d ds e1
    split at e
    · rename_i hc
      simp only [Bool.and_eq_true, decide_eq_true_eq] at hc
      obtain ⟨⟨hd, hij⟩, hi, hj⟩ := hc
      cases e
      intro c σ H D s k1 k2 k3 k4
      refine h G g _ a e1 c σ H s _ fun v H1 s1 ⟨b, hb, hn, hf, hr⟩ => ?_
      obtain ⟨ys, rfl, hy⟩ := strip_t hb
      obtain ⟨t, vs, rfl, ht, hp⟩ := hr
      have e1' := s.ext s1
      match ys, hy with
      | [.inl d', .inr (ad, ds')], hy =>
        have q1 := (List.cons.inj hy).1
        have q2 := (List.cons.inj (List.cons.inj hy).2).1
        cases q1
        cases q2
        cases hp with
        | cons r1 hp =>
        cases hp with
        | cons r2 hp =>
        cases hp
        obtain ⟨rfl, ws, hv, hr⟩ := r2
        refine ⟨t, _, rfl, .inl (.inl ht), rfl, _, _, rfl, ?_⟩
        refine ⟨_, _, rfl, rfl, ?_⟩
        have e2 : Sits K c (G.set j (some (.own false ad ds))) (σ.set j (some (.ref ad))) H1 := by
          refine s.put (b := .own false ad ds) s1 (by rw [a.len]; exact hj) ⟨rfl, ws, hv, Reps.mono (fun y o hy => ?_) hr⟩ (by simp [B.ows]) fun b hb => ?_
          · obtain ⟨h1, h2⟩ := hide_some hy
            obtain ⟨h3, h4⟩ := hide_some h2
            show hide _ _ y = _
            rw [hide_at fun p => ?_]
            · exact h4
            · obtain ⟨k, b', q1, q2⟩ := p
              rcases set_at q1 with ⟨_, q⟩ | ⟨_, q⟩
              · cases q; exact h1 (by simp [B.ows, itOws] at q2 ⊢; exact q2)
              · exact h3 ⟨k, b', q, q2⟩
          · simp [B.ows] at hb
            subst hb
            exact ⟨hf _ (by simp [B.ows, itOws]), _, hv, rfl⟩
        have r1' : Rep K H1 _ d := Rep.mono (hide_same.trans e1'.vsame) r1
        have e3 := e2.putS (i := i) (n := false) (by rw [List.length_set, a.len]; exact hi) (Rep.imm (vis_tups e2.h0 e2.mu) r1' hd)
        rw [List.set_comm _ _ hij]
        exact k1 _ _ _ ((a.set (i := j) (q := .l ds) (b := .own false ad ds) rfl).set (i := i) (q := .v d) (b := .sh false d) rfl) e3
    · cases e
  · rename_i d d' e1
    split at e
    · rename_i hc
      simp only [Bool.and_eq_true, decide_eq_true_eq] at hc
      obtain ⟨hij, hi, hj⟩ := hc
      cases e
      intro c σ H D s k1 k2 k3 k4
      refine h G g _ a e1 c σ H s _ fun v H1 s1 ⟨b, hb, hn, hf, hr⟩ => ?_
      have := strip_v hb
      subst this
      have e1' := s.ext s1
      have hr : Rep K _ v (.tuple [d, d']) := hr
      cases hr with
      | tup ht hr =>
      cases hr with
      | cons r1 hr =>
      cases hr with
      | cons r2 hr =>
      cases hr
      have sub : Same (hide (fun a => a ∈ (B.sh false (.tuple [d, d'])).ows) (vis c (OF G) (some false) H1)) (vis c (OF G) (some false) H1) := hide_same
      refine ⟨_, _, rfl, .inl (Rd.same (sub.trans e1'.vsame) ht), rfl, _, _, rfl, ?_⟩
      refine ⟨_, _, rfl, rfl, ?_⟩
      have e2 := e1'.putS (i := j) (n := false) (by rw [a.len]; exact hj) (Rep.mono sub r2)
      have e3 := e2.putS (i := i) (n := false) (by rw [List.length_set, a.len]; exact hi) (Rep.mono e1'.putV (Rep.mono sub r1))
      rw [List.set_comm _ _ hij]
      exact k1 _ _ _ ((a.set (i := j) (q := .v d') (b := .sh false d') rfl).set (i := i) (q := .v d) (b := .sh false d) rfl) e3
    · cases e
  · cases e
/-! ### x[k].clear() -/
def sClrT (i k : Nat) : SM := fun g => match g[i]? with
  | some (some (.t xs)) => match xs[k]? with
    | some (.inr _) => some (.nx (g.set i (some (.t (xs.set k (.inr []))))))
    | _ => none
  | _ => none
theorem itOws_set {a : Addr} {ds : List PyData} : ∀ {ys : List (Sum PyData (Addr × List PyData))} {k : Nat}, ys[k]? = some (.inr (a, ds)) → itOws (ys.set k (.inr (a, []))) = itOws ys
  | [], k, h => by simp at h
  | y :: ys, 0, h => by simp at h; subst h; rfl
  | y :: ys, k + 1, h => by
    have := itOws_set (ys := ys) (k := k) (by simpa using h)
    cases y with
    | inl d => exact this
    | inr p => obtain ⟨b, es⟩ := p; show b :: _ = b :: _; rw [this]
theorem itOws_mem {a : Addr} {ds : List PyData} : ∀ {ys : List (Sum PyData (Addr × List PyData))} {k : Nat}, ys[k]? = some (.inr (a, ds)) → a ∈ itOws ys
  | [], k, h => by simp at h
  | y :: ys, 0, h => by simp at h; subst h; simp [itOws]
  | y :: ys, k + 1, h => by
    have := itOws_mem (ys := ys) (k := k) (by simpa using h)
    cases y with
    | inl d => exact this
    | inr p => obtain ⟨b, es⟩ := p; exact List.mem_cons_of_mem _ this
theorem its_get {G1 H1 : Hp} : ∀ {vs : List V} {ys : List (Sum PyData (Addr × List PyData))} {k : Nat} {a : Addr} {ds : List PyData}, Paired (RepIt K G1 H1) vs ys → ys[k]? = some (.inr (a, ds)) → vs[k]? = some (.ref a) ∧ ∃ ws, H1 a = some (.lst ws)
  | [], [], k, _, _, .nil, h => by simp at h
  | v :: vs, y :: ys, 0, _, _, .cons r t, h => by
    simp at h
    subst h
    obtain ⟨rfl, ws, h1, _⟩ := r
    exact ⟨rfl, ws, h1⟩
  | v :: vs, y :: ys, k + 1, _, _, .cons r t, h => by
    obtain ⟨h1, h2⟩ := its_get (k := k) t (by simpa using h)
    exact ⟨by simpa using h1, h2⟩
theorem its_same {G1 H1 : Hp} {a : Addr} {o : HO} : ∀ {vs : List V} {ys : List (Sum PyData (Addr × List PyData))}, Paired (RepIt K G1 H1) vs ys → a ∉ itOws ys → Paired (RepIt K G1 (upd H1 a o)) vs ys
  | [], [], .nil, _ => .nil
  | v :: vs, y :: ys, .cons r t, h => by
    refine .cons (RepIt.mono (Same.refl _) (fun b hb xs q => ?_) r) (its_same t fun z => h ?_)
    · rw [upd_ne fun z => h ?_]
      · exact q
      · subst z
        cases y with
        | inl d => simp [itOws] at hb
        | inr p => obtain ⟨b', es⟩ := p; simp [itOws] at hb; subst hb; simp [itOws]
    · cases y with
      | inl d => exact z
      | inr p => obtain ⟨b', es⟩ := p; exact List.mem_cons_of_mem _ z
theorem its_clr {G1 H1 : Hp} {a : Addr} {ds : List PyData} : ∀ {vs : List V} {ys : List (Sum PyData (Addr × List PyData))} {k : Nat}, Paired (RepIt K G1 H1) vs ys → ys[k]? = some (.inr (a, ds)) → (itOws ys).Nodup → Paired (RepIt K G1 (upd H1 a (.lst []))) vs (ys.set k (.inr (a, [])))
  | [], [], k, .nil, h, _ => by simp at h
  | v :: vs, y :: ys, 0, .cons r t, h, nd => by
    simp at h
    subst h
    obtain ⟨rfl, ws, h1, _⟩ := r
    have nd : (a :: itOws ys).Nodup := nd
    exact .cons ⟨rfl, [], upd_same, .nil⟩ (its_same t (List.nodup_cons.mp nd).1)
  | v :: vs, y :: ys, k + 1, .cons r t, h, nd => by
    have h : ys[k]? = some (.inr (a, ds)) := by simpa using h
    cases y with
    | inl d => exact .cons r (its_clr t h nd)
    | inr p =>
      obtain ⟨b, es⟩ := p
      have nd : (b :: itOws ys).Nodup := nd
      obtain ⟨n1, n2⟩ := List.nodup_cons.mp nd
      obtain ⟨rfl, ws, h1, h2⟩ := r
      refine .cons ⟨rfl, ws, ?_, h2⟩ (its_clr t h n2)
      rw [upd_ne fun z => n1 (by rw [z]; exact itOws_mem h)]
      exact h1
theorem ss_clrT : SS K (tDrop (tBM0 K "list" rClear (tOp (rSub K) (tVar i) (tC (.int (k : Nat)))))) (sClrT i k) := fun G g o a e => by
  unfold sClrT at e
  split at e
  · rename_i xs e1
    split at e
    · rename_i ds e2
      cases e
      obtain ⟨b, hG, hb⟩ := a.at_ e1
      obtain ⟨ys, rfl, rfl⟩ := strip_t hb
      rw [List.getElem?_map] at e2
      cases q : ys[k]? with
      | none => rw [q] at e2; cases e2
      | some y =>
      rw [q] at e2
      cases y with
      | inl d => cases e2
      | inr p =>
      obtain ⟨ad, es⟩ := p
      cases e2
      intro c σ H D e k1 _ _ _
      obtain ⟨w, h1, t, vs, rfl, ht, hp⟩ := e.at_ i _ hG
      obtain ⟨g1, ws, g2⟩ := its_get hp q
      have nd := e.nd i _ hG
      refine ⟨_, h1, .inl (.inr (.inl ⟨t, vs, ((k : Nat) : Int), .ref ad, rfl, rfl, .inl (.inl ht), L2.atI_nat g1, ?_⟩))⟩
      refine ⟨Or.inl ⟨rfl, ws, .inl (.inl g2)⟩, ad, ws, rfl, rfl, g2, ?_⟩
      refine k1 _ _ _ (a.set (q := .t ((ys.map itR).set k (.inr []))) (b := .tupo false (ys.set k (.inr (ad, [])))) (by
        show R.tupo false ((ys.set k (.inr (ad, []))).map itR) = R.tupo false ((ys.map itR).set k (.inr []))
        rw [List.map_set]
        rfl)) (e.write hG (show itOws _ = itOws _ from itOws_set q) (itOws_mem q) rfl fun v hv => ?_)
      obtain ⟨t', vs', rfl, ht', hp'⟩ := hv
      refine ⟨t', vs', rfl, ?_, its_clr hp' q nd⟩
      rw [upd_ne fun z => ?_]
      · exact ht'
      · rw [z, g2] at ht'; cases ht'
    · cases e
  · cases e
end
end TB

/-! TB local: defs as values, a local name called; list.index. -/
namespace TB
open PySem PySem.Spec PyProof.Rows L2
section
variable {K : PySem.W.Frag} {te ta tb : TE} {t : TA} {ea eb em : EM} {am : AM} {i : Nat} {G : Sl} {g : Stt}
/-- the def nm as a value -/
def defD (nm : Str) : PyData := exD (.str nm) []
structure DefsN (K : PySem.W.Frag) (tab : List Str) : Prop where
  ns : ∀ nm ∈ tab, PySem.W.nsIn K mainGlobals nm = some (some (.ref (clsA K nm)))
def eDef (nm : Str) : EM := fun _ => some (true, defD nm)
theorem rep_def {H : Hp} {nm : Str} (h : PySem.W.nsIn K mainGlobals nm = some (some (.ref (clsA K nm)))) : Rep K H (.ref (clsA K nm)) (defD nm) := .ex (x := .str nm) (vs := []) ⟨rfl, h⟩ .nil
theorem se_def {nm : Str} {tab : List Str} (D : DefsN K tab) (h : nm ∈ tab) : SE K (tC (.ref (clsA K nm))) (eDef nm) := fun G g b d a e => by
  cases e
  exact fun c σ H s Q q => q _ H (Same.refl H) (rep_def (D.ns nm h))
def defNm : PyData → Option Str
  | .dict [(.none, .tuple [.str nm])] => some nm
  | _ => none
def eCallL (i : Nat) (nm : Str) (f : MF) (am : AM) : EM := fun g => match g[i]? with
  | some (some (.v d)) => match defNm d with
    | some n => if n = nm then eCall f am g else none
    | none => none
  | _ => none
theorem defNm_of {d : PyData} {nm : Str} (h : defNm d = some nm) : d = defD nm := by
  unfold defNm at h
  split at h
  · cases h; rfl
  · cases h
theorem rep_defd {H : Hp} {v : V} {nm : Str} (h : Rep K H v (defD nm)) : v = .ref (clsA K nm) := by
  unfold defD exD at h
  generalize hz : PyData.dict [(.none, .tuple [.str nm])] = z at h
  cases h <;> first | (cases hz; done) | skip
  · rename_i hk
    have hk2 := PyData.dict.inj hz
    cases hk with
    | nil => cases hk2
    | @cons k v d r s _ _ =>
      have := (Prod.mk.inj (List.cons.inj hk2).1).1
      cases k <;> cases this
  · rename_i ex rs
    cases hz
    rw [clsA_of ex.2]
theorem se_callL {nm : Str} {sp : Sp} {f : MF} (hs : SpOk K sp [] f) (h : SA K t am) : SE K (tCallL i (clsA K nm) sp [] E0 t) (eCallL i nm f am) := fun G g b d a e => by
  unfold eCallL at e
  split at e
  · rename_i d0 hg
    split at e
    · rename_i n hn
      split at e
      · rename_i he
        subst he
        have hd := defNm_of hn
        subst hd
        intro c σ H s Q q
        obtain ⟨v, h1, h2⟩ := s.at_ i _ (a.v hg)
        have := rep_defd (show Rep K _ v (defD n) from h2)
        subst this
        exact ⟨h1, se_call hs h G g b d a e c σ H s Q q⟩
      · cases e
    · cases e
  · cases e
theorem pe_callLD {X : Cx} {k : Nat} {x nm : Str} {ps : List Str} {sp : Sp} {p pos : Pos} {e : Expr} {es : List Expr} (D : DefOk X.prog X.w X.K X.mg X.base k nm ps sp) (hG : X.mg nm = some (.ref (clsA X.K nm))) (hr : Room k X.A) (hN : X.N[i]? = some x) (ha : PA X (e :: es) t) (hv : Vis X.env.scope x := by first | exact .inl rfl | exact .inr (.inl rfl) | exact .inr (.inr rfl) | exact .inr rfl)
    (hdb : (x == ("__debug__" : Str)) = false := by decide) (hcd : (x == ("__classdict__" : Str)) = false := by decide)
    (he : starEach (e :: es) X.env = (false, eval e X.env) :: starEach es X.env := by rfl) (hpl : (backTo pos (starEach es X.env)).any (·.1) = false := by rfl) : PE X (.Call (.Name x p) (e :: es) [] pos) (tCallL i (clsA X.K nm) sp [] E0 t) := by
  obtain ⟨f, fd, F, hm, kp, b⟩ := D
  rw [hG] at hm
  cases hm
  exact pe_callL F hr hN hv kp b .nil pass0 ha hdb hcd he hpl
/-! ### xs.index(k) of ints -/
def eIndex (x y : EM) : EM := fun g => match x g with
  | some (_, .list ds) => match asInts ds with
    | some ks => match y g with
      | some (_, .int k) => match ks.findIdx? (fun z => decide (z = k)) with
        | some j => some (true, .int (j : Nat))
        | none => none
      | _ => none
    | none => none
  | _ => none
theorem flat_ints : ∀ ks : List Int, (ks.map V.int).all flatV = true
  | [] => rfl
  | k :: ks => by rw [List.map_cons, List.all_cons, flat_ints ks]; rfl
theorem se_index (h : SE K ta ea) (h' : SE K tb eb) : SE K (tBM K "list" (rIndex K) ta (tCons tb tNil)) (eIndex ea eb) := fun G g b d a e => by
  unfold eIndex at e
  split at e
  · rename_i ds e1
    split at e
    · rename_i ks hk
      split at e
      · rename_i k e2
        split at e
        · rename_i j hj
          cases e
          have h1 := h.no a e1
          have h2 := h'.no a e2
          rw [asInts_of hk] at h1
          refine de_imm (fun c' σ H s0 Q q => h1 c' σ H s0 _ fun v H1 s r => ?_) rfl
          have s1 := s0.ext s
          generalize hz : PyData.list (ks.map .int) = z at r
          cases r <;> first | (cases hz; done) | exact (kk_ex hz).elim | skip
          rename_i ad xs ds' h3 r
          cases hz
          have := r.ints
          subst this
          refine ⟨.inl ⟨rfl, _, rd_lst s1.vsame h3⟩, h2 c' σ H1 s1 _ fun u H2 s2 r2 => ?_⟩
          cases r2
          obtain ⟨hjl, hjp, hjn⟩ := List.findIdx?_eq_some_iff_getElem.mp hj
          refine ⟨ad, _, .int k, j, .int ks[j], rfl, rfl, SqL.same s2 (rd_lst s1.vsame h3), rfl, flat_ints ks, by rw [List.getElem?_map, List.getElem?_eq_getElem hjl]; rfl, ?_, fun m z' hm hz' => ?_, q _ H2 (s.trans s2) (.int _)⟩
          · have := of_decide_eq_true hjp
            show (ks[j] == k) = true
            rw [this]; exact beq_self_eq_true k
          · rw [List.getElem?_map] at hz'
            have hml : m < ks.length := by omega
            rw [List.getElem?_eq_getElem hml] at hz'
            cases hz'
            have := hjn m hm
            simp only [decide_eq_true_eq] at this
            show (ks[m] == k) = false
            exact beq_false_of_ne this
        · cases e
      · cases e
    · cases e
  · cases e
end
end TB

/-! TB lists of one's own with lists of one's own in them: a list moved in, a store into one of them. -/
namespace TB
open PySem PySem.Spec PyProof.Rows L2
section
variable {K : PySem.W.Frag} {te tx ty : TE} {em ex ey : EM} {i j : Nat} {c : C} {G : Sl} {σ : L2.St} {H : Hp}
theorem itOws_snoc {b : Addr} {ds : List PyData} : ∀ ys : List (Sum PyData (Addr × List PyData)), itOws (ys ++ [.inr (b, ds)]) = itOws ys ++ [b]
  | [] => rfl
  | .inl d :: ys => itOws_snoc ys
  | .inr (a, es) :: ys => by show a :: itOws (ys ++ _) = _; rw [itOws_snoc ys]; rfl
theorem pair_snoc {α β : Type} {R : α → β → Prop} {x : α} {y : β} : ∀ {xs : List α} {ys : List β}, Paired R xs ys → R x y → Paired R (xs ++ [x]) (ys ++ [y])
  | [], [], .nil, h => .cons h .nil
  | _ :: _, _ :: _, .cons r t, h => .cons r (pair_snoc t h)
theorem pair_len {α β : Type} {R : α → β → Prop} : ∀ {xs : List α} {ys : List β}, Paired R xs ys → xs.length = ys.length
  | [], [], .nil => rfl
  | _ :: _, _ :: _, .cons r t => by rw [List.length_cons, List.length_cons, pair_len t]
theorem its_mono {K1 K2 H1 H2 : Hp} (e : Same K1 K2) {t : Addr} {o : HO} (h : t ∉ itOws ys) (q : H2 = upd H1 t o) (p : Paired (RepIt K K1 H1) vs ys) : Paired (RepIt K K2 H2) vs ys := by
  subst q
  exact Paired.mapP (its_same p h) fun v x r => RepIt.mono e (fun _ _ _ z => z) r
theorem Sits.push {t b : Addr} {ys : List (Sum PyData (Addr × List PyData))} {ds : List PyData} {bi : B} {vs : List V} (e : Sits K c G σ H) (hij : i ≠ j) (hi : G[i]? = some (some bi)) (hw : bi.ows = t :: itOws ys) (hj : G[j]? = some (some (.own false b ds))) (ht : H t = some (.lst vs)) (hp : Paired (RepIt K (vis c (OF G) (some false) H) H) vs ys) (hs : σ[i]? = some (some (.ref t))) :
    Sits K c ((G.set j none).set i (some (.lso false t (ys ++ [.inr (b, ds)])))) σ (upd H t (.lst (vs ++ [.ref b]))) := by
  have li : i < G.length := (List.getElem?_eq_some_iff.mp hi).1
  have oi : OF G t := ⟨i, _, hi, by rw [hw]; simp⟩
  have ob : OF G b := ⟨j, _, hj, by simp [B.ows]⟩
  have ndi := e.nd i _ hi
  rw [hw] at ndi
  have tni : t ∉ itOws ys := (List.nodup_cons.mp ndi).1
  have bni : b ∉ t :: itOws ys := fun z => hij (e.dj i j _ _ b hi hj (hw ▸ z) (by simp [B.ows]))
  have btn : b ≠ t := fun z => bni (by rw [z]; simp)
  have ws : B.ows (.lso false t (ys ++ [.inr (b, ds)])) = t :: (itOws ys ++ [b]) := by rw [← itOws_snoc (ds := ds)]; rfl
  obtain ⟨w, hw1, hw2⟩ := e.at_ j _ hj
  obtain ⟨rfl, us, hb1, hb2⟩ := hw2
  -- where a slot of the new comes from
  have from' : ∀ {k b1}, ((G.set j none).set i (some (B.lso false t (ys ++ [.inr (b, ds)]))))[k]? = some (some b1) → (k = i ∧ b1 = .lso false t (ys ++ [.inr (b, ds)])) ∨ (k ≠ i ∧ k ≠ j ∧ G[k]? = some (some b1)) := fun {k b1} h => by
    rcases set_at h with ⟨h1, q⟩ | ⟨h1, q⟩
    · cases q; exact .inl ⟨h1, rfl⟩
    · rcases set_at q with ⟨_, q⟩ | ⟨h2, q⟩
      · cases q
      · exact .inr ⟨h1, h2, q⟩
  have own : ∀ x, OF ((G.set j none).set i (some (B.lso false t (ys ++ [.inr (b, ds)])))) x ↔ OF G x := fun x => by
    constructor
    · rintro ⟨k, b1, h1, h2⟩
      rcases from' h1 with ⟨rfl, rfl⟩ | ⟨_, _, q⟩
      · rw [ws] at h2
        rcases List.mem_cons.mp h2 with z | z
        · rw [z]; exact oi
        · rcases List.mem_append.mp z with z | z
          · exact ⟨k, _, hi, by rw [hw]; exact List.mem_cons_of_mem _ z⟩
          · rw [List.mem_singleton.mp z]; exact ob
      · exact ⟨k, b1, q, h2⟩
    · rintro ⟨k, b1, h1, h2⟩
      by_cases z : k = i
      · subst z
        rw [hi] at h1
        cases h1
        refine ⟨k, _, by rw [List.getElem?_set_self (by simpa using li)], ?_⟩
        rw [ws]
        rw [hw] at h2
        rcases List.mem_cons.mp h2 with q | q
        · rw [q]; exact List.mem_cons_self
        · exact List.mem_cons_of_mem _ (List.mem_append_left _ q)
      · by_cases z' : k = j
        · subst z'
          rw [hj] at h1
          cases h1
          refine ⟨i, _, by rw [List.getElem?_set_self (by simpa using li)], ?_⟩
          rw [ws]
          simp [B.ows] at h2
          rw [h2]
          simp
        · exact ⟨k, b1, by rw [List.getElem?_set_ne (Ne.symm z), List.getElem?_set_ne (Ne.symm z')]; exact h1, h2⟩
  have eq : OF ((G.set j none).set i (some (B.lso false t (ys ++ [.inr (b, ds)])))) = OF G := funext fun x => propext (own x)
  have hv : ∀ n, vis c (OF G) (some n) (upd H t (.lst (vs ++ [.ref b]))) = vis c (OF G) (some n) H := fun n => by
    funext x
    show hide (OF G) _ x = hide (OF G) _ x
    by_cases p : OF G x
    · rw [hide_none p, hide_none p]
    · rw [hide_at p, hide_at p]
      have : upd H t (.lst (vs ++ [.ref b])) x = H x := upd_ne fun z => p (z ▸ oi)
      unfold TB.plus
      rw [this]
  have hv' : (fun n => vis c (OF G) (some n) (upd H t (.lst (vs ++ [.ref b])))) = fun n => vis c (OF G) (some n) H := funext hv
  have st : ∀ {P : Hp}, P t = none → Same P H → Same P (upd H t (.lst (vs ++ [.ref b]))) := fun {P} k s x u h => by
    rw [upd_ne (ne_of_none h k)]; exact s _ _ h
  refine ⟨e.f0, st (e.fr t oi).1 e.h0, st (e.fr t oi).2 e.b0, fun x h => e.fr x (eq ▸ h), fun x h => ?_, fun k l b1 b2 x h1 h2 h3 h4 => ?_, fun k b1 h => ?_, by simp [e.len], fun k b1 h => ?_⟩
  · by_cases z : x = t
    · subst z; exact ⟨_, upd_same, rfl⟩
    · obtain ⟨u, h1, h2⟩ := e.mu x (eq ▸ h)
      exact ⟨u, by rw [upd_ne z]; exact h1, h2⟩
  · have src : ∀ {k b1}, ((G.set j none).set i (some (B.lso false t (ys ++ [.inr (b, ds)]))))[k]? = some (some b1) → x ∈ b1.ows → (∃ b2, G[k]? = some (some b2) ∧ x ∈ b2.ows ∧ x ≠ b) ∨ (k = i ∧ x = b) := fun {k b1} h1 h2 => by
      rcases from' h1 with ⟨rfl, rfl⟩ | ⟨n1, n2, q⟩
      · rw [ws] at h2
        rcases List.mem_cons.mp h2 with z | z
        · exact .inl ⟨bi, hi, by rw [hw, z]; simp, by rw [z]; exact btn.symm⟩
        · rcases List.mem_append.mp z with z | z
          · exact .inl ⟨bi, hi, by rw [hw]; exact List.mem_cons_of_mem _ z, fun q => bni (by rw [← q]; exact List.mem_cons_of_mem _ z)⟩
          · exact .inr ⟨rfl, List.mem_singleton.mp z⟩
      · exact .inl ⟨b1, q, h2, fun z => n2 (e.dj k j _ _ b q hj (z ▸ h2) (by simp [B.ows]))⟩
    rcases src h1 h3 with ⟨c1, q1, r1, n1⟩ | ⟨r1, n1⟩
    · rcases src h2 h4 with ⟨c2, q2, r2, n2⟩ | ⟨r2, n2⟩
      · exact e.dj k l c1 c2 x q1 q2 r1 r2
      · exact (n1 n2).elim
    · rcases src h2 h4 with ⟨c2, q2, r2, n2⟩ | ⟨r2, n2⟩
      · exact (n2 n1).elim
      · rw [r1, r2]
  · rcases from' h with ⟨_, rfl⟩ | ⟨_, _, q⟩
    · rw [ws, ← List.cons_append]
      refine List.nodup_append.mpr ⟨ndi, by simp, fun x hx y hy z => ?_⟩
      rw [List.mem_singleton.mp hy] at z
      exact bni (z ▸ hx)
    · exact e.nd k b1 q
  · rw [eq, hv']
    rcases from' h with ⟨rfl, rfl⟩ | ⟨n1, n2, q⟩
    · refine ⟨.ref t, hs, rfl, _, upd_same, pair_snoc (its_same hp tni) ⟨rfl, us, ?_, hb2⟩⟩
      rw [upd_ne btn]
      exact hb1
    · obtain ⟨w, h1, h2⟩ := e.at_ k b1 q
      refine ⟨w, h1, ?_⟩
      have keep : ∀ x ∈ b1.ows, x ≠ t := fun x hx z => n1 (e.dj k i b1 bi x q hi hx (by rw [hw, z]; simp))
      cases b1 with
      | sh n d => exact h2
      | own n x ds =>
        obtain ⟨r1, vs, r2, r3⟩ := h2
        exact ⟨r1, vs, by rw [upd_ne (keep x (by simp [B.ows]))]; exact r2, r3⟩
      | odic n x ks =>
        obtain ⟨r1, vs, r2, r3⟩ := h2
        exact ⟨r1, vs, by rw [upd_ne (keep x (by simp [B.ows]))]; exact r2, r3⟩
      | tupo n xs =>
        obtain ⟨p, ps, r1, r2, r3⟩ := h2
        refine ⟨p, ps, r1, ?_, its_same r3 fun z => keep t z rfl⟩
        rw [upd_ne fun z => ?_]
        · exact r2
        · rw [z, ht] at r2; cases r2
      | lso n p xs =>
        obtain ⟨r1, ps, r2, r3⟩ := h2
        exact ⟨r1, ps, by rw [upd_ne (keep p (by simp [B.ows]))]; exact r2, its_same r3 fun z => keep t (by simp [B.ows, z]) rfl⟩
/-! ### x.append(y), y a list of one's own -/
def sAppO (i j : Nat) : SM := fun g => if i = j then none else match g[j]? with
  | some (some (.l ds)) => match g[i]? with
    | some (some (.l [])) => some (.nx ((g.set j none).set i (some (.ll [.inr ds]))))
    | some (some (.ll xs)) => if xs.length < 100000 then some (.nx ((g.set j none).set i (some (.ll (xs ++ [.inr ds]))))) else none
    | _ => none
  | _ => none
theorem ss_appO : SS K (tDrop (tBM K "list" rAppend (tVar i) (tCons (tVar j) tNil))) (sAppO i j) := fun G g o a e => by
  unfold sAppO at e
  split at e
  · cases e
  · rename_i hij
    split at e
    · rename_i ds e2
      obtain ⟨b, hj⟩ := a.l e2
      split at e
      · rename_i e1
        cases e
        obtain ⟨t, hi⟩ := a.l e1
        intro c σ H D s k1 _ _ _
        obtain ⟨w, h1, rfl, vs, h2, h3⟩ := s.at_ i _ hi
        cases h3
        obtain ⟨w2, h4, rfl, us, h5, h6⟩ := s.at_ j _ hj
        refine ⟨_, h1, Or.inl ⟨rfl, [], .inl (.inl h2)⟩, _, h4, t, [], .ref b, rfl, rfl, h2, by show 0 < _; decide, ?_⟩
        exact k1 _ _ _ ((a.setN (i := j)).set (i := i) (q := .ll [.inr ds]) (b := .lso false t [.inr (b, ds)]) rfl) (s.push (ys := []) hij hi rfl hj h2 .nil h1)
      · rename_i xs e1
        split at e
        · rename_i hl
          cases e
          obtain ⟨bi, hi, hb⟩ := a.at_ e1
          obtain ⟨t, ys, rfl, rfl⟩ := strip_ll hb
          intro c σ H D s k1 _ _ _
          obtain ⟨w, h1, rfl, vs, h2, h3⟩ := s.at_ i _ hi
          obtain ⟨w2, h4, rfl, us, h5, h6⟩ := s.at_ j _ hj
          refine ⟨_, h1, Or.inl ⟨rfl, vs, .inl (.inl h2)⟩, _, h4, t, vs, .ref b, rfl, rfl, h2, ?_, ?_⟩
          · rw [pair_len h3]
            rw [List.length_map] at hl
            exact Nat.lt_of_lt_of_le hl (by decide)
          · have A : Abs ((G.set j none).set i (some (.lso false t (ys ++ [.inr (b, ds)])))) ((g.set j none).set i (some (.ll (ys.map itR ++ [.inr ds])))) := (a.setN (i := j)).set (i := i) (by
              show R.lso false ((ys ++ [Sum.inr (b, ds)]).map itR) = R.lso false (ys.map itR ++ [Sum.inr ds])
              rw [List.map_append]
              rfl)
            exact k1 _ _ _ A (s.push hij hi rfl hj h2 h3 h1)
        · cases e
      · cases e
    · cases e
/-! ### x[k][l] = y -/
def sSetLL (i : Nat) (e x y : EM) : SM := fun g => match e g with
  | some (_, d) => match x g with
    | some (_, .int k) => match y g with
      | some (_, .int l) => match g[i]? with
        | some (some (.ll xs)) => match ixN xs.length k with
          | some p => match xs[p]? with
            | some (.inr ds) => match ixN ds.length l with
              | some q => if imm d then some (.nx (g.set i (some (.ll (xs.set p (.inr (ds.set q d))))))) else none
              | none => none
            | _ => none
          | none => none
        | _ => none
      | _ => none
    | _ => none
  | none => none
theorem itOws_put {a : Addr} {ds es : List PyData} : ∀ {ys : List (Sum PyData (Addr × List PyData))} {k : Nat}, ys[k]? = some (.inr (a, ds)) → itOws (ys.set k (.inr (a, es))) = itOws ys
  | [], k, h => by simp at h
  | y :: ys, 0, h => by simp at h; subst h; rfl
  | y :: ys, k + 1, h => by
    have := itOws_put (es := es) (ys := ys) (k := k) (by simpa using h)
    cases y with
    | inl d => exact this
    | inr p => obtain ⟨b, es'⟩ := p; show b :: _ = b :: _; rw [this]
theorem its_put {G1 H1 : Hp} {a : Addr} {ds es : List PyData} {ws : List V} (hr : Reps K G1 ws es) : ∀ {vs : List V} {ys : List (Sum PyData (Addr × List PyData))} {k : Nat}, Paired (RepIt K G1 H1) vs ys → ys[k]? = some (.inr (a, ds)) → (itOws ys).Nodup → Paired (RepIt K G1 (upd H1 a (.lst ws))) vs (ys.set k (.inr (a, es)))
  | [], [], k, .nil, h, _ => by simp at h
  | v :: vs, y :: ys, 0, .cons r t, h, nd => by
    simp at h
    subst h
    obtain ⟨rfl, _, h1, _⟩ := r
    have nd : (a :: itOws ys).Nodup := nd
    exact .cons ⟨rfl, ws, upd_same, hr⟩ (its_same t (List.nodup_cons.mp nd).1)
  | v :: vs, y :: ys, k + 1, .cons r t, h, nd => by
    have h : ys[k]? = some (.inr (a, ds)) := by simpa using h
    cases y with
    | inl d => exact .cons r (its_put hr t h nd)
    | inr p =>
      obtain ⟨b, es'⟩ := p
      have nd : (b :: itOws ys).Nodup := nd
      obtain ⟨n1, n2⟩ := List.nodup_cons.mp nd
      obtain ⟨rfl, us, h1, h2⟩ := r
      refine .cons ⟨rfl, us, ?_, h2⟩ (its_put hr t h n2)
      rw [upd_ne fun z => n1 (by rw [z]; exact itOws_mem h)]
      exact h1
theorem its_get2 {G1 H1 : Hp} : ∀ {vs : List V} {ys : List (Sum PyData (Addr × List PyData))} {k : Nat} {a : Addr} {ds : List PyData}, Paired (RepIt K G1 H1) vs ys → ys[k]? = some (.inr (a, ds)) → vs[k]? = some (.ref a) ∧ ∃ ws, H1 a = some (.lst ws) ∧ Reps K G1 ws ds
  | [], [], k, _, _, .nil, h => by simp at h
  | v :: vs, y :: ys, 0, _, _, .cons r t, h => by
    simp at h
    subst h
    obtain ⟨rfl, ws, h1, h2⟩ := r
    exact ⟨rfl, ws, h1, h2⟩
  | v :: vs, y :: ys, k + 1, _, _, .cons r t, h => by
    obtain ⟨h1, h2⟩ := its_get2 (k := k) t (by simpa using h)
    exact ⟨by simpa using h1, h2⟩
theorem ss_setLL (h : SE K te em) (h' : SE K tx ex) (h2 : SE K ty ey) : SS K (tAsg te (gSub (tOp (rSub K) (tVar i) tx) ty rSetA)) (sSetLL i em ex ey) := fun G g o a e => by
  unfold sSetLL at e
  split at e
  · rename_i bb d e1
    split at e
    · rename_i b2 k e2
      split at e
      · rename_i b3 l e3
        split at e
        · rename_i xs e4
          split at e
          · rename_i p hp
            split at e
            · rename_i ds e5
              split at e
              · rename_i q hq
                split at e
                · rename_i hd
                  cases e
                  obtain ⟨bi, hi, hb⟩ := a.at_ e4
                  obtain ⟨t, ys, rfl, rfl⟩ := strip_ll hb
                  rw [List.length_map] at hp
                  rw [List.getElem?_map] at e5
                  cases z : ys[p]? with
                  | none => rw [z] at e5; cases e5
                  | some y =>
                  rw [z] at e5
                  cases y with
                  | inl d => cases e5
                  | inr y =>
                  obtain ⟨ad, es⟩ := y
                  cases e5
                  intro c σ H D s k1 _ _ _
                  refine h.no a e1 c σ H s _ fun u H1 s1 r1 => ?_
                  have f1 := s.ext s1
                  obtain ⟨w, h1, rfl, vs, h3, h4⟩ := f1.at_ i _ hi
                  refine ⟨_, h1, h'.no a e2 c σ H1 f1 _ fun v2 H2 s2 r2 => ?_⟩
                  cases r2
                  have f2 := f1.ext s2
                  obtain ⟨w', h1', rw', vs', h3', h4'⟩ := f2.at_ i _ hi
                  rw [h1] at h1'
                  cases h1'
                  obtain ⟨g1, ws, g2, g3⟩ := its_get2 h4' z
                  refine .inl (.inl ⟨t, vs', k, .ref ad, rfl, rfl, .inl (.inl h3'), ?_, ?_⟩)
                  · unfold L2.atI
                    rw [pair_len h4', hp]
                    exact g1
                  refine h2.no a e3 c σ H2 f2 _ fun v3 H3 s3 r3 => ?_
                  cases r3
                  have f3 := f2.ext s3
                  have nd := f3.nd i _ hi
                  have nd' : (t :: itOws ys).Nodup := nd
                  refine .inl ⟨ad, ws, l, q, rfl, rfl, s3 _ _ g2, by rw [g3.length]; exact hq, ?_⟩
                  have ru : Rep K (vis c (OF G) (some false) H3) u d := Rep.imm (vis_tups f3.h0 f3.mu) (Rep.mono (s2.trans s3) r1) hd
                  refine k1 _ _ _ (a.set (i := i) (q := .ll ((ys.map itR).set p (.inr (ds.set q d)))) (b := .lso false t (ys.set p (.inr (ad, ds.set q d)))) (by
                    show R.lso false ((ys.set p (.inr (ad, ds.set q d))).map itR) = R.lso false ((ys.map itR).set p (.inr (ds.set q d)))
                    rw [List.map_set]
                    rfl)) (f3.write hi (by show t :: itOws _ = t :: itOws _; rw [itOws_put z]) (List.mem_cons_of_mem _ (itOws_mem z)) rfl fun v hv => ?_)
                  obtain ⟨rfl, us, h5, h6⟩ := hv
                  have tn : t ≠ ad := fun y => (List.nodup_cons.mp nd').1 (by rw [y]; exact itOws_mem z)
                  obtain ⟨_, ws', g4, g5⟩ := its_get2 h6 z
                  rw [s3 _ _ g2] at g4
                  cases g4
                  exact ⟨rfl, us, by rw [upd_ne tn]; exact h5, its_put (Reps.set q ru g5) h6 z (List.nodup_cons.mp nd').2⟩
                · cases e
              · cases e
            · cases e
          · cases e
        · cases e
      · cases e
    · cases e
  · cases e
end
end TB

/-! TB texts: str(n), int(text), signs, walks over signs, split, partition, join, f-strings. -/
namespace TB
open PySem PySem.Spec PyProof.Rows L2
section
variable {K : PySem.W.Frag} {te ta tb to : TE} {em ea eb eo : EM} {G : Sl} {m : Md}
/-! ### str(n), int(text) -/
def rStrI : List V → Hp → VK → Prop := fun xs H Q => ∃ i : Int, xs = [.int i] ∧ i.natAbs.log2 < 1920 ∧ Q (.str (toString i)) H
theorem call_strI {X : Cx} : CallR X (.type "str") rStrI := call_str_int
def numS (i : Int) : Str := (toString i : String)
def pStr : PyData → Option PyData
  | .int i => if i.natAbs.log2 < 1920 then some (.str (numS i)) else none
  | _ => none
theorem o_str : Op1 K rStrI pStr := fun G x z te e h => by
  unfold pStr at e
  split at e
  · split at e
    · rename_i i hi
      cases e
      refine de_cb0 (ds := [.int i]) (fun P H vs Q s r q => ?_) rfl (da_cons h da_nil)
      obtain ⟨v, rfl, r1⟩ := reps1 r
      cases r1
      exact ⟨i, rfl, hi, q _ H (Same.refl H) (.str _)⟩
    · cases e
  · cases e
def rIntT : List V → Hp → VK → Prop := fun xs H Q => ∃ a n, xs = [.str a] ∧ PySem.intText? a = some n ∧ a.length ≤ 640 ∧ Q (.int n) H
theorem call_intT {X : Cx} : CallR X (.type "int") rIntT := call_int_str
def pIntT : PyData → Option PyData
  | .str a => match PySem.intText? a with
    | some n => if a.length ≤ 640 then some (.int n) else none
    | none => none
  | _ => none
theorem o_intT : Op1 K rIntT pIntT := fun G x z te e h => by
  unfold pIntT at e
  split at e
  · rename_i a
    split at e
    · rename_i n hn
      split at e
      · rename_i hl
        cases e
        refine de_cb0 (ds := [.str a]) (fun P H vs Q s r q => ?_) rfl (da_cons h da_nil)
        obtain ⟨v, rfl, r1⟩ := reps1 r
        cases r1
        exact ⟨a, n, rfl, hn, hl, q _ H (Same.refl H) (.int _)⟩
      · cases e
    · cases e
  · cases e
/-! ### a sign of a text, by its place; whether it is one of a text's -/
def pIxS : PyData → PyData → Option PyData
  | .str a, .int i => match L2.atI a.cps.toList i with
    | some c => if a.length ≤ 100000 then some (.str ⟨#[c]⟩) else none
    | none => none
  | _, _ => none
theorem o_ixS : Op0 K (rSub K) pIxS := fun G x y z ta tb e h1 h2 => by
  unfold pIxS at e
  split at e
  · rename_i a i
    split at e
    · rename_i c hc
      split at e
      · rename_i hl
        cases e
        refine de_op0 (fun P H v u Q s r1 r2 q => ?_) rfl h1 h2
        cases r1
        cases r2
        exact .inl (.inr (.inr ⟨a, i, c, rfl, rfl, Nat.le_trans hl (by decide), hc, q _ H (Same.refl H) (.str _)⟩))
      · cases e
    · cases e
  · cases e
def pInS : PyData → PyData → Option PyData
  | .str a, .str z => match a.cps.toList with
    | [c] => some (.bool (decide (c ∈ z.cps.toList)))
    | _ => none
  | _, _ => none
def pNotInS : PyData → PyData → Option PyData
  | .str a, .str z => match a.cps.toList with
    | [c] => some (.bool (!decide (c ∈ z.cps.toList)))
    | _ => none
  | _, _ => none
theorem one_sign {a : Str} {c : Nat} (h : a.cps.toList = [c]) : a = ⟨#[c]⟩ := by
  obtain ⟨x⟩ := a
  have : x = #[c] := by rw [← Array.toArray_toList (xs := x)]; exact congrArg List.toArray h
  rw [this]
theorem o_inS : Op0 K (rInA K) pInS := fun G x y z ta tb e h1 h2 => by
  unfold pInS at e
  split at e
  · rename_i a z
    split at e
    · rename_i c hc
      cases e
      rw [one_sign hc] at h1
      refine de_op0 (fun P H v u Q s r1 r2 q => ?_) rfl h1 h2
      cases r1
      cases r2
      refine .inr (.inr ⟨_, _, rfl, rfl, ?_⟩)
      rw [PySem.StrLaws.found_one]
      exact q _ H (Same.refl H) (.bl _)
    · cases e
  · cases e
theorem o_notInS : Op0 K (rNotInA K) pNotInS := fun G x y z ta tb e h1 h2 => by
  unfold pNotInS at e
  split at e
  · rename_i a z
    split at e
    · rename_i c hc
      cases e
      rw [one_sign hc] at h1
      refine de_op0 (fun P H v u Q s r1 r2 q => ?_) rfl h1 h2
      cases r1
      cases r2
      refine .inr (.inr ⟨_, _, rfl, rfl, ?_⟩)
      rw [PySem.StrLaws.found_one]
      exact q _ H (Same.refl H) (.bl _)
    · cases e
  · cases e
/-! ### for sign in text -/
def sgD (z : Str) : List PyData := z.cps.toList.map fun c => PyData.str ⟨#[c]⟩
def iSgn (e : EM) : IM := fun g => match e g with
  | some (_, .str z) => some (sgD z)
  | _ => none
theorem src_str {F : Hp} {n : Bool} {c : C} {O : Addr → Prop} {z : Str} : Src K (Its z) F n c O (sgD z) where
  goes := fun i H hi _ => by
    unfold sgD at hi
    rw [List.length_map, Array.length_toList] at hi
    exact hi
  stops := fun H _ => by
    show z.cps.size ≤ (sgD z).length
    unfold sgD
    rw [List.length_map, Array.length_toList]
    exact Nat.le_refl _
  yields := fun i H x H' d hd _ hy => by
    obtain ⟨rfl, k, hk, rfl⟩ := hy
    refine ⟨Same.refl _, fun G σ c' _ _ _ e => ?_⟩
    unfold sgD at hd
    rw [List.getElem?_map, Array.getElem?_toList, hk] at hd
    cases hd
    exact .str _
theorem si_sgn (h : SE K te em) : SI K (iStr te) (iSgn em) := fun G g ds a e => by
  unfold iSgn at e
  split at e
  · rename_i z e1
    cases e
    exact fun c σ H s R q => h.no a e1 c σ H s _ fun v H1 s1 r => by
      cases r
      exact ⟨z, rfl, q _ H1 s1 src_str⟩
  · cases e
/-! ### split, partition, join -/
def rSpl : V → List V → Hp → VK → Prop := fun x xs H Q => ∃ a b, x = .str a ∧ xs = [.str b] ∧ (b.length == 0) = false ∧ a.length + 2 ≤ sizeLine ∧ rNewStrs (Txt.split a b) H Q
def rPar : V → List V → Hp → VK → Prop := fun x xs H Q => ∃ a b, x = .str a ∧ xs = [.str b] ∧ (b.length == 0) = false ∧ a.length ≤ sizeLine ∧
      ∀ p, H p = none → Q (.ref p) (upd H p (.tup [.str (Txt.partition a b).1, .str (Txt.partition a b).2.1, .str (Txt.partition a b).2.2]))
def rJoi (K : PySem.W.Frag) : V → List V → Hp → VK → Prop := fun x xs H Q => ∃ a p, ∃ ys : List Str, x = .str a ∧ xs = [.ref p] ∧ (SqL K H p (ys.map V.str) ∨ SqT K H p (ys.map V.str)) ∧
      (ys.map (·.length)).sum + ys.length * a.length ≤ 16777216 ∧ Q (.str (Txt.join a ys)) H
def rSplit (x y : EM) : RM := fun g => match x g with
  | some (_, .str a) => match y g with
    | some (_, .str b) => if !(b.length == 0) && decide (a.length ≤ 100000) then some (.l ((Txt.split a b).map .str)) else none
    | _ => none
  | _ => none
theorem imms_strs : ∀ l : List Str, imms (l.map .str) = true
  | [] => rfl
  | s :: l => by rw [List.map_cons, imms, imms_strs l]; rfl
theorem reps_strs {H : Hp} : ∀ l : List Str, Reps K H (l.map V.str) (l.map .str)
  | [] => .nil
  | s :: l => .cons (.str s) (reps_strs l)
theorem sr_split (h : SE K ta ea) (h' : SE K tb eb) : SR K (tM1 rSpl ta tb) (rSplit ea eb) := fun G g q a e => by
  unfold rSplit at e
  split at e
  · rename_i b1 x e1
    split at e
    · rename_i b2 y e2
      split at e
      · rename_i c
        rw [Bool.and_eq_true] at c
        obtain ⟨c1, c2⟩ := c
        cases e
        refine dr_new (fun c σ H s Q q => h.no a e1 c σ H s _ fun v H1 s1 r1 => ?_)
        cases r1
        refine ⟨⟨x, rfl⟩, h'.no a e2 c σ H1 (s.ext s1) _ fun u H2 s2 r2 => ?_⟩
        cases r2
        refine ⟨x, y, rfl, rfl, by simpa using c1, Nat.le_trans (Nat.add_le_add_right (of_decide_eq_true c2) 2) (by decide), fun p hp => ?_⟩
        exact q p _ _ (non_of (s1.trans s2) hp) ((s1.trans s2).trans (same_new hp)) upd_same (reps_strs _)
      · cases e
    · cases e
  · cases e
def ePart (x y : EM) : EM := fun g => match x g with
  | some (_, .str a) => match y g with
    | some (_, .str b) => if !(b.length == 0) && decide (a.length ≤ 100000) then some (true, .tuple [.str (Txt.partition a b).1, .str (Txt.partition a b).2.1, .str (Txt.partition a b).2.2]) else none
    | _ => none
  | _ => none
theorem se_part (h : SE K ta ea) (h' : SE K tb eb) : SE K (tM1 rPar ta tb) (ePart ea eb) := fun G g bb d a e => by
  unfold ePart at e
  split at e
  · rename_i b1 x e1
    split at e
    · rename_i b2 y e2
      split at e
      · rename_i c
        rw [Bool.and_eq_true] at c
        obtain ⟨c1, c2⟩ := c
        cases e
        refine de_imm (fun c σ H s Q q => h.no a e1 c σ H s _ fun v H1 s1 r1 => ?_) rfl
        cases r1
        refine ⟨⟨x, rfl⟩, h'.no a e2 c σ H1 (s.ext s1) _ fun u H2 s2 r2 => ?_⟩
        cases r2
        refine ⟨x, y, rfl, rfl, by simpa using c1, Nat.le_trans (of_decide_eq_true c2) (by decide), fun p hp => ?_⟩
        exact q _ _ ((s1.trans s2).trans (same_new hp)) (.tup (.inl upd_same) (.cons (.str _) (.cons (.str _) (.cons (.str _) .nil))))
      · cases e
    · cases e
  · cases e
def eJoin (x y : EM) : EM := fun g => match x g with
  | some (_, .str a) => match y g with
    | some (_, .list ds) => match asStrs ds with
      | some ys => if (ys.map (·.length)).sum + ys.length * a.length ≤ 16777216 then some (true, .str (Txt.join a ys)) else none
      | none => none
    | _ => none
  | _ => none
theorem se_join (h : SE K ta ea) (h' : SE K tb eb) : SE K (tM1 (rJoi K) ta tb) (eJoin ea eb) := fun G g bb d a e => by
  unfold eJoin at e
  split at e
  · rename_i b1 x e1
    split at e
    · rename_i b2 ds e2
      split at e
      · rename_i ys hy
        split at e
        · rename_i hl
          cases e
          refine de_imm (fun c σ H s Q q => h.no a e1 c σ H s _ fun v H1 s1 r1 => ?_) rfl
          cases r1
          refine ⟨⟨x, rfl⟩, ?_⟩
          have h2 := h'.no a e2
          rw [asStrs_of hy] at h2
          refine h2 c σ H1 (s.ext s1) _ fun u H2 s2 r2 => ?_
          generalize hz : PyData.list (ys.map .str) = z at r2
          cases r2 <;> first | (cases hz; done) | exact (kk_ex hz).elim | skip
          rename_i p xs ds' h3 r
          cases hz
          have := r.strs
          subst this
          exact ⟨x, p, ys, rfl, rfl, .inl h3, hl, q _ H2 (s1.trans s2) (.str _)⟩
        · cases e
      · cases e
    · cases e
  · cases e
/-! ### f-strings -/
def eFmt (x : EM) : EM := fun g => match x g with
  | some (_, .str y) => if y.length ≤ 100000 then some (true, .str y) else none
  | some (_, .int i) => if i.natAbs.log2 < 1920 then some (true, .str (numS i)) else none
  | _ => none
theorem se_fmt (h : SE K te em) : SE K (tFmt te) (eFmt em) := fun G g b d a e => by
  unfold eFmt at e
  split at e
  · rename_i b1 y e1
    split at e
    · rename_i hl
      cases e
      refine de_imm (fun c σ H s Q q => h.no a e1 c σ H s _ fun v H1 s1 r1 => ?_) rfl
      cases r1
      exact .inl ⟨y, rfl, Nat.le_trans hl (by decide), q _ H1 s1 (.str _)⟩
    · cases e
  · rename_i b1 i e1
    split at e
    · rename_i hl
      cases e
      refine de_imm (fun c σ H s Q q => h.no a e1 c σ H s _ fun v H1 s1 r1 => ?_) rfl
      cases r1
      exact .inr ⟨i, rfl, hl, q _ H1 s1 (.str _)⟩
    · cases e
  · cases e
abbrev FM := Stt → Option Str → Option Str
def fNil : List EM := []
def runJ : List EM → Str → Stt → Option Str
  | [], acc, _ => some acc
  | e :: es, acc, g => match e g with
    | some (_, .str y) => if (acc ++ y).length ≤ 100000 then runJ es (acc ++ y) g else none
    | _ => none
def eJs (es : List EM) : EM := fun g => match runJ es Str.empty g with
  | some s => some (true, .str s)
  | none => none
inductive SJ (K : PySem.W.Frag) : List TE → List EM → Prop
  | nil : SJ K [] []
  | cons {te : TE} {em : EM} {ts : List TE} {es : List EM} : SE K te em → SJ K ts es → SJ K (te :: ts) (em :: es)
theorem runJ_ok {ts : List TE} {es : List EM} (h : SJ K ts es) : ∀ {g : Stt} {acc s : Str}, Abs G g → runJ es acc g = some s → ∀ (c : C) (σ : L2.St) (H : Hp), Sits K c G σ H → ∀ Q : Str → Hp → Prop, (∀ H', Same H H' → Q s H') → tJs ts acc σ H Q := by
  induction h with
  | nil => intro g acc s a e c σ H hs Q q; cases e; exact q H (Same.refl H)
  | cons h _ ih =>
    intro g acc s a e c σ H hs Q q
    unfold runJ at e
    split at e
    · rename_i b y e1
      split at e
      · rename_i hl
        refine h.no a e1 c σ H hs _ fun v H1 s1 r1 => ?_
        cases r1
        exact ⟨y, rfl, Nat.le_trans hl (by decide), ih a e c σ H1 (hs.ext s1) Q fun H' s' => q H' (s1.trans s')⟩
      · cases e
    · cases e
def tJoined (ts : List TE) : TE := fun σ H Q => tJs ts Str.empty σ H fun out H1 => Q (.str out) H1
theorem se_js {ts : List TE} {es : List EM} (h : SJ K ts es) : SE K (tJoined ts) (eJs es) := fun G g b d a e => by
  unfold eJs at e
  split at e
  · rename_i s e1
    cases e
    exact de_imm (fun c σ H hs Q q => runJ_ok h a e1 c σ H hs _ fun H' s' => q _ H' s' (.str _)) rfl
  · cases e
end
end TB

/-! TB texts further: slices, a text or a list some times over. -/
namespace TB
open PySem PySem.Spec PyProof.Rows L2
section
variable {K : PySem.W.Frag} {te ta tb to : TE} {em ea eb eo : EM} {G : Sl} {m : Md}
/-! ### text[lo:hi] -/
def eSlS (x : EM) (l h : Stt → Option (Option Int)) : EM := fun g => match x g with
  | some (_, .str z) => match l g with
    | some lo => match h g with
      | some hi => if z.length ≤ 100000 then some (true, .str (cutS z lo hi)) else none
      | none => none
    | none => none
  | _ => none
theorem se_slS {tl th : TO} {lm hm : Stt → Option (Option Int)} (h : SE K ta ea) (hl : SO K tl lm) (hh : SO K th hm) : SE K (tSl (rSl K) ta tl th) (eSlS ea lm hm) := fun G g b d a e => by
  unfold eSlS at e
  split at e
  · rename_i b1 z e1
    split at e
    · rename_i lo e2
      split at e
      · rename_i hi e3
        split at e
        · rename_i hz
          cases e
          refine de_imm (fun c σ H s Q q => h.no a e1 c σ H s _ fun v H1 s1 r1 => ?_) rfl
          cases r1
          refine hl G g _ a e2 c σ H1 (s.ext s1) _ fun H2 s2 => hh G g _ a e3 c σ H2 ((s.ext s1).ext s2) _ fun H3 s3 => ?_
          exact .inr (.inr ⟨z, rfl, Nat.le_trans hz (by decide), q _ H3 ((s1.trans s2).trans s3) (.str _)⟩)
        · cases e
      · cases e
    · cases e
  · cases e
/-! ### text * n -/
def repS (a : Str) (n : Nat) : Str := ⟨(List.replicate n a.cps).foldl (· ++ ·) #[]⟩
def rMulS : R2 := fun x y H Q => ∃ a n, x = .str a ∧ y = .int n ∧ 0 < a.length ∧ 2 ≤ n ∧ n ≤ 1000 ∧ a.length ≤ 1000 ∧ (repS a n.toNat).length ≤ sizeLine ∧ Q (.str (repS a n.toNat)) H
theorem op_mulS {X : Cx} : OpR X (binaryOp .Mult) rMulS := by
  intro pins s σ H x y v u Q I rx ry h
  obtain ⟨a, n, rfl, rfl, h0, h1, h2, h3, h4, q⟩ := h
  obtain ⟨t, rfl⟩ := rx
  obtain ⟨t', rfl⟩ := ry
  have n1 : ¬ n < 1 := by omega
  have c2 : (n == 1 || a.length == 0) = false := by
    rw [Bool.or_eq_false_iff]
    exact ⟨by simp; omega, by simp; omega⟩
  refine PySem.P.mul_str (by simp; omega) (fun _ _ => ?_) (fun _ _ => ?_) ?_
  · have : (1000 : Int) ≤ (2 ^ 63 - 1) / n := Int.le_ediv_of_mul_le (by omega) (by omega)
    omega
  · have : a.length * n.toNat ≤ 1000 * 1000 := Nat.mul_le_mul h3 (by omega)
    show decide (_ > sizeLine) = false
    rw [sizeLine_eq]
    exact decide_eq_false (by omega)
  · rw [if_neg n1, if_neg (by rw [c2]; exact Bool.false_ne_true)]
    exact ⟨h4, .str _, H, I.tok _, ⟨_, rfl⟩, q⟩
def pMulS : PyData → PyData → Option PyData
  | .str a, .int n => if (0 < a.length ∧ 2 ≤ n ∧ n ≤ 1000) ∧ a.length ≤ 1000 ∧ (repS a n.toNat).length ≤ 1000000 then some (.str (repS a n.toNat)) else none
  | _, _ => none
theorem o_mulS : Op0 K rMulS pMulS := fun G x y z ta tb e h1 h2 => by
  unfold pMulS at e
  split at e
  · rename_i a n
    split at e
    · rename_i hc
      obtain ⟨⟨c0, c1, c2⟩, c3, c4⟩ := hc
      cases e
      refine de_op0 (fun P H v u Q s r1 r2 q => ?_) rfl h1 h2
      cases r1
      cases r2
      exact ⟨a, n, rfl, rfl, c0, c1, c2, c3, by rw [sizeLine_eq]; omega, q _ H (Same.refl H) (.str _)⟩
    · cases e
  · cases e
end
/-! ### list * n, whatever list it is -/
section
variable {X : Cx}
theorem rmulQ (k : Int) (t : Tok) (b : Addr) (its : Array Value) (c : Nat) (du : Option Addr) (ss : Array (Option Value)) :
    Meets (Builtin.«int.__rmul__» ⟨[.int k t, .ref b], []⟩) (fun _ R s => s.heap.get? b = some { cls := .type "list", dict := du, data := .seq its c, slots := ss } ∧ R (.ok (.ret Value.notImplemented)) s) :=
  .of_wp fun prog w A R s0 hh => by
    obtain ⟨hp, gn, dd, tk, os⟩ := s0
    obtain ⟨hl, hh⟩ := hh
    wp_walk using PySem.AutoSeq1.wpAny_loadPart' hl
    exact ⟨_, rfl, hh⟩
theorem mulQ (b : Addr) (its : Array Value) (c : Nat) (du : Option Addr) (ss : Array (Option Value)) (k : Int) (t : Tok) (f1 : ¬(!Builtin.List.listFitsIndex k) = true) (f2 : ¬its.size * k.toNat > (2 ^ 63 - 1) / 8) (f3 : ¬Builtin.List.listTooLong (its.size * k.toNat) = true)
    (fz : (List.foldl (fun u v => u ++ v) #[] (List.replicate (if its.isEmpty = true then 0 else k.toNat) its)).size ≤ sizeLine) :
    Meets (Builtin.«list.__mul__» ⟨[.ref b, .int k t], []⟩) (fun _ R s => s.heap.get? b = some { cls := .type "list", dict := du, data := .seq its c, slots := ss } ∧
      R (.ok (.ret (Value.ref s.heap.objs.size))) { s with heap := s.heap.push { cls := Value.type "list", data := Data.seq (List.foldl (fun u v => u ++ v) #[] (List.replicate (if its.isEmpty = true then 0 else k.toNat) its)) }, toks := s.toks }) :=
  .of_wp fun prog w A R s0 hh => by
    obtain ⟨hp, gn, dd, tk, os⟩ := s0
    obtain ⟨hl, hh⟩ := hh
    wp_walk using PySem.AutoSeq1.wpAny_loadPart' hl
    refine wpAny_ite_false (decide_eq_false (Nat.not_lt.mpr fz)) ?_
    wp_walk using PySem.AutoSeq1.wpAny_loadPart' hl
    exact ⟨_, rfl, hh⟩
def rRepQ (K : PySem.W.Frag) : R2 := fun x y H Q => ∃ l k xs, x = .ref l ∧ y = .int k ∧ SqL K H l xs ∧ 0 ≤ k ∧ k ≤ 1000 ∧ xs.length ≤ 1000 ∧ ∀ p, H p = none → Q (.ref p) (upd H p (.lst (List.replicate k.toNat xs).flatten))
theorem rep_fold (its : List Value) (k : Nat) : List.foldl (fun u v => u ++ v) #[] (List.replicate (if its.toArray.isEmpty = true then 0 else k) its.toArray) = (List.replicate k its).flatten.toArray := by
  cases its with
  | nil => simp
  | cons a r =>
    rw [if_neg (by simp)]
    exact L2.size_rep (a :: r) k
theorem op_repQ : OpR X (binaryOp .Mult) (rRepQ X.K) := by
  intro pins s σ H x y v u Q I rx ry h
  obtain ⟨l, k, xs, rfl, rfl, hH, h1, h2, hz, q⟩ := h
  cases rx
  obtain ⟨t, rfl⟩ := ry
  obtain ⟨its, r, pl, _⟩ := I.list hH
  have hl := r.length
  obtain ⟨⟨cls, dd, data, sl⟩, ho, hc, n, hd⟩ := pl.isList
  simp only at hc hd
  subst hc hd
  have nn : its.length * k.toNat ≤ 1000 * 1000 := Nat.mul_le_mul (by omega) (by omega)
  have fl : (List.replicate k.toNat its).flatten.length ≤ sizeLine := by
    rw [PyProof.Rows.lm_len_rep_flat, sizeLine_eq, Nat.mul_comm]
    omega
  have g1 : ¬(!Builtin.List.listFitsIndex k) = true := by
    rw [fitsIndex_both (by omega) (by omega)]
    exact Bool.false_ne_true
  have g3 : ¬Builtin.List.listTooLong (its.toArray.size * k.toNat) = true := by
    rw [notLongL (by rw [List.size_toArray, sizeLine_eq]; omega)]
    exact Bool.false_ne_true
  refine wpAny_binaryOp_repeat_ref (T := "list") (U := "int") (by decide) ⟨_, ho, rfl⟩ (fun s' => typeIs_int s' k t) noFill_list_mul F.fills_int_mul F.slot_int_rmul repeat_list F.slot_int_index.lookup
    (call_meets F.slot_int_rmul (typeIs_int s k t) F.entry_int_rmul (F.args_int_rmul_2 _ _) (rmulQ k t l its.toArray n dd sl)
      ⟨ho, rfl, ⟨_, ho, rfl⟩, call_meets F.slot_list_mul ⟨_, ho, rfl⟩ F.entry_list_mul (F.args_list_mul_2 _ _) (mulQ l its.toArray n dd sl k t g1 (by rw [List.size_toArray]; omega) g3 (by rw [rep_fold, List.size_toArray]; exact fl)) ⟨ho, ?_⟩⟩)
  rw [rep_fold]
  exact ⟨.ref _, _, I.lnew (t' := s.toks) (r.rep k.toNat) (by
    have : k.toNat * xs.length ≤ 1000 * 1000 := Nat.mul_le_mul (by omega) (by omega)
    rw [PyProof.Rows.lm_len_rep_flat, sizeLine_eq]
    omega), rfl, q _ I.fresh⟩
end
section
variable {K : PySem.W.Frag} {te ta tb to : TE} {em ea eb eo : EM} {G : Sl} {m : Md}
def eRepL (x y : EM) : EM := fun g => match x g with
  | some (_, .list ds) => match y g with
    | some (_, .int k) => if (0 ≤ k ∧ k ≤ 1000) ∧ ds.length ≤ 1000 then some (false, .list (List.replicate k.toNat ds).flatten) else none
    | _ => none
  | _ => none
theorem se_repL (h : SE K ta ea) (h' : SE K tb eb) : SE K (tOp (rRepQ K) ta tb) (eRepL ea eb) := fun G g b d a e => by
  unfold eRepL at e
  split at e
  · rename_i b1 ds e1
    split at e
    · rename_i c2 k e2
      split at e
      · rename_i hc
        obtain ⟨⟨k0, k1⟩, hl⟩ := hc
        cases e
        have h2 : DE K none tb G (.int k) := h'.no a e2
        exact de_op (fun P H v u Q s r1 r2 q => by
          cases r2
          generalize hz : PyData.list ds = z at r1
          cases r1 <;> first | (cases hz; done) | skip
          rename_i ad xs ds' h3 r1
          cases hz
          exact ⟨ad, k, xs, rfl, rfl, rd_lst s h3, k0, k1, by rw [Reps.length r1]; exact hl, fun p hp => q _ _ (same_new hp) (rep_newL hp (Reps.flat r1 _) s)⟩) (h.no a e1) h2
      · cases e
    · cases e
  · cases e
end
end TB

/-! TB hot: a def that is handed the exception which a suite holds. -/
namespace TB
open PySem PySem.Spec PyProof.Rows L2
/-! ### isinstance, wherever the exception's object is pinned -/
section
variable {X : Cx} {a D : Addr} {oe : Obj}
theorem inst_pin {pins : List (Addr × Obj)} {σ : L2.St} {H : Hp} {s : Shared} (hz : Zc (.ref D) none oe) (hf : ∃ z, oe.data = .fields z) (hp : (a, oe) ∈ X.pn) (I : Inv X pins σ H s) : PySem.W.InstAt s.heap a oe D none := by
  have g := (I.pin (a, oe) (List.mem_append_left _ hp)).1
  obtain ⟨z, hv⟩ := hf
  obtain ⟨c1, c2, c3, c4⟩ := oe
  obtain ⟨e1, e2⟩ := hz
  dsimp only at e1 e2 hv
  subst e1 e2 hv
  exact ⟨g, rfl, rfl, trivial⟩
theorem call_isEP (C : ExcC X.K D) (hz : Zc (.ref D) none oe) (hf : ∃ z, oe.data = .fields z) (hp : (a, oe) ∈ X.pn) : CallR X (.builtin "isinstance") (rIsE X.K D a) := by
  intro pins s σ H xs us Q I r h
  obtain ⟨c, cv, b, rfl, hcv, e, q⟩ := h
  cases r with | cons rx rr => ?_
  cases rr with | cons rt rr => ?_
  cases rr
  cases rx
  have ec := hcv _ rt
  subst ec
  have kt := PySem.W.handS_kitx_exc (x := a) (ox := oe) C.hg C.hk C.hs C.hd C.ha C.hn C.ht C.hm
  exact PySem.W.kia_one kt I.kIn (inst_pin hz hf hp I) e (fun z => nomatch z) fun tk => ⟨.bl b, H, I.kept (t' := tk) (fun _ _ y => y), rfl, q⟩
theorem call_isETP (C : ExcC X.K D) (hz : Zc (.ref D) none oe) (hf : ∃ z, oe.data = .fields z) (hp : (a, oe) ∈ X.pn) : CallR X (.builtin "isinstance") (rIsET X.K D a) := by
  intro pins s σ H xs us Q I r h
  obtain ⟨tp, cs, ws, b, rfl, hT, k, e, q⟩ := h
  cases r with | cons rx rr => ?_
  cases rr with | cons rt rr => ?_
  cases rr
  cases rx
  cases rt
  obtain ⟨_, its, rv, o, h1, h2, n, h3⟩ := (show ObjOk _ _ H s.heap tp (.tup cs) from I.hok tp _ hT)
  have e3 := ClsV.all k rv
  subst e3
  obtain ⟨oc, od, dt, sl⟩ := o
  simp only at h2 h3
  subst h2 h3
  have kt := PySem.W.handS_kitx_exc (x := a) (ox := oe) C.hg C.hk C.hs C.hd C.ha C.hn C.ht C.hm
  exact PySem.W.kia_tup kt I.kIn (inst_pin hz hf hp I) h1 e (fun z => nomatch z) fun tk => ⟨.bl b, H, I.kept (t' := tk) (fun _ _ y => y), rfl, q⟩
end
/-! ### what such a def promises -/
abbrev SpE := Addr → Addr → Sp
structure FnE (Pg : Program) (w : World) (K : PySem.W.Frag) (mg : Str → Option Value) (base : Heap) (k : Nat) (f : Addr) (fd : FuncData) (ps : List Str) (sp : SpE) : Prop where
  len : ∀ C a vs H Q E, sp C a vs H Q E → vs.length = ps.length
  run : ∀ (A : Around) (outer : List Env) (s : Shared) (H : Hp) (args : Args) (us : List Value) (vs : List V) (Q : VK) (E : XK) (C a : Addr) (oe : Obj),
    L2H.RoomH k A → L2H.PinOk outer H s (a, oe) → ExcC K C → Zc (.ref C) none oe → (∃ z, oe.data = .fields z) → Env0 Pg w K mg base A outer s H → BindsTo s fd args (ps.zip us) → Vals vs us → sp C a vs H Q E →
      codeAny (model Pg w) A (.call (.ref f) args) (CR CX0 outer Pg w H s Q E) s
section
variable {Pg : Program} {w : World} {K : PySem.W.Frag} {mg : Str → Option Value} {base : Heap}
theorem fnE_of {x qual : Str} {st : Stmt} {f : Addr} {fd : FuncData} {N ps : List Str} {k : Nat} {sp : SpE} (F : Fun K x qual st f fd) (S : FnScope N ps (defScope st)) (hlen : ∀ C a vs H Q E, sp C a vs H Q E → vs.length = ps.length)
    (hbody : ∀ (cdv : Value) (A : Around) (outer : List Env) (s : Shared) (H : Hp) (vs : List V) (Q : VK) (E : XK) (C a : Addr) (oe : Obj), ExcC K C → Zc (.ref C) none oe → (∃ z, oe.data = .fields z) → sp C a vs H Q E →
      ∃ t, PSs (L2H.cxH CX0 Pg w K mg base N qual (defScope st) f cdv A outer s H E (a, oe)) (defBody st) t ∧ t { nx := fun _ H' => Q .non H', rt := Q } (L2.start N vs) H) : FnE Pg w K mg base (k + 1) f fd ps sp := by
  obtain ⟨oc, od, kV, doc, pm, an, cdv, ct, osl, rfl, lk, hcd⟩ := F.ex
  refine ⟨hlen, ?_⟩
  intro A outer s H args us vs Q E C a oe room hpin xc hz hf en0 hb rv hsp
  have hN := hlen _ _ _ _ _ _ hsp
  have kin : K.In s.heap := en0.mod.kin.keeps (fun b o e => (en0.bs b o e).1)
  have nolim : s.heap.NoLimit := en0.mod.nolimit.keeps (fun b o e => (en0.bs b o e).1)
  refine codeAny_call_function room.depth (kin _ _ lk) rfl S.co S.gen rfl (PySem.W.codeRec_of kin hcd) (hb _ _ _ _ ?_)
  refine wpAny_newFunctionEnv_cells S.kind ?_ fun env hen s1 x1 => ?_
  · rintro ⟨n, v⟩ hy
    rcases S.par n (List.of_mem_zip hy).1 with q | q
    · exact .inl q
    · exact .inr ⟨q, PySem.W.cellsFrom_some _ _ _ (.inl q)⟩
  subst hen
  refine ⟨nolim.keeps x1.toInCall.keep, codeAny_func ?_⟩
  obtain ⟨t, ht, hq⟩ := hbody cdv A outer s H vs Q E C a oe xc hz hf hsp
  have inv := L2H.inv_startH (CX := CX0) (f := f) (E := E) S hpin en0 hN rv x1
  refine wpAny_mono (ht.run [] s1 _ H _ inv hq) (fun fl s' hs => ?_) (fun e s' hs => hs)
  cases fl with
  | ret u =>
    obtain ⟨v, σ', H', J, r2, q⟩ := hs
    exact ⟨v, H', J.os, J.bare, J.base, J.hok, r2, q⟩
  | next =>
    obtain ⟨σ', H', J, q⟩ := hs
    exact ⟨V.non, H', J.os, J.bare, J.base, J.hok, rfl, q⟩
  | brk => exact (show False from by obtain ⟨_, _, _, q⟩ := hs; exact q).elim
  | cont => exact (show False from by obtain ⟨_, _, _, q⟩ := hs; exact q).elim
def DefE (Pg : Program) (w : World) (K : PySem.W.Frag) (mg : Str → Option Value) (base : Heap) (k : Nat) (x : Str) (ps : List Str) (sp : SpE) : Prop :=
  ∃ (f : Addr) (fd : FuncData), FnE Pg w K mg base k f fd ps sp ∧ mg x = some (.ref f) ∧ PySem.W.keepIn K (.ref f) = true ∧ Binds K fd ps []
theorem mkDefE {x : Str} {st : Stmt} {N ps : List Str} {k : Nat} {ts : Addr → Addr → TS} {sp : SpE} (h : Here K mg x st ps) (S : FnScope N ps (defScope st)) (hlen : ∀ C a vs H Q E, sp C a vs H Q E → vs.length = ps.length)
    (hder : ∀ (f : Addr) (cdv : Value) (A : Around) (outer : List Env) (s : Shared) (H : Hp) (E : XK) (C a : Addr) (oe : Obj), ExcC K C → Zc (.ref C) none oe → (∃ z, oe.data = .fields z) → PSs (L2H.cxH CX0 Pg w K mg base N x (defScope st) f cdv A outer s H E (a, oe)) (defBody st) (ts C a))
    (hraw : ∀ C a vs H Q E, sp C a vs H Q E → ts C a { nx := fun _ H' => Q .non H', rt := Q } (L2.start N vs) H) : DefE Pg w K mg base (k + 1) x ps sp := by
  obtain ⟨f, fd, F, hm, b⟩ := h
  exact ⟨f, fd, fnE_of F S hlen (fun cdv A outer s H vs Q E C a oe xc hz hf hsp => ⟨ts C a, hder f cdv A outer s H E C a oe xc hz hf, hraw C a vs H Q E hsp⟩), hm, F.kp, b⟩
end
theorem pe_callE {X : Cx} {a C : Addr} {oe : Obj} {k : Nat} {x : Str} {ps : List Str} {sp : SpE} {p pos : Pos} {e : Expr} {es : List Expr} {t : TA} (D : DefE X.prog X.w X.K X.mg X.base k x ps sp) (hr : L2H.RoomH k X.A) (hp : (a, oe) ∈ X.pn) (xc : ExcC X.K C) (hz : Zc (.ref C) none oe) (hf : ∃ z, oe.data = .fields z) (hg : Gl X x)
    (ha : PA X (e :: es) t) (hdb : (x == ("__debug__" : Str)) = false := by decide) (he : starEach (e :: es) X.env = (false, eval e X.env) :: starEach es X.env := by rfl) (hpl : (backTo pos (starEach es X.env)).any (·.1) = false := by rfl) : PE X (.Call (.Name x p) (e :: es) [] pos) (tCall (sp C a) [] E0 t) := by
  obtain ⟨f, fd, F, hm, kp, hb⟩ := D
  refine ⟨fun pins s σ H Q I h => wpAny_Call_Name_kw (ld_glob I hg hm ?_ hdb)⟩
  refine PySem.W.callWith_K (h₀ := X.base) I.ok.mod.kin kp (thn (ha.run pos pins s σ H _ I h) ?_) he hpl
  rintro us s1 ⟨vs, H1, I1, r, q⟩
  refine ⟨I1.kIn, ?_⟩
  rw [List.append_nil] at q
  have hl : us.length = ps.length := by rw [← r.length]; exact F.len _ _ _ _ _ _ q
  have b := hb s1 us I1.kIn (by rw [List.append_nil]; exact hl)
  rw [List.append_nil] at b
  obtain ⟨p1, p2, p3, p4, p5⟩ := I1.pin (a, oe) (List.mem_append_left _ hp)
  have hpin : L2H.PinOk X.stack H1 s1 (a, oe) := ⟨p1, p2, fun hm => ?_, p5⟩
  · refine wpAny_call (codeAny_mono (F.run X.A X.stack s1 H1 ⟨us, []⟩ us vs Q E0 C a oe hr hpin xc hz hf I1.env0 b r q) ?_)
    rintro (e1 | fl) s' hq
    · exact (show False from hq).elim
    · cases fl with
      | ret u => exact I1.after hq
      | next => exact (show False from hq).elim
      | brk => exact (show False from hq).elim
      | cont => exact (show False from hq).elim
  · rcases List.mem_cons.mp (I1.stkSub _ hm) with y | y
    · exact p3 y
    · exact p4 y
theorem roomE {k j : Nat} {A : Around} {X : Cx} (r : Room j A) (h : k ≤ j) (e1 : X.A.depth = A.depth := by rfl) (e2 : X.A.units = A.units := by rfl) : L2H.RoomH k X.A := ⟨by have := r.dp; omega, by have := r.un; omega⟩
/-! ### mirrors -/
def spE (K : PySem.W.Frag) (f : Str → Addr → MF) : SpE := fun C a vs H Q E => ∃ nm, C = clsA K nm ∧ spM K (f nm a) vs H Q E
theorem spOk_E {K : PySem.W.Frag} {f : Str → Addr → MF} {dv : List V} {nm : Str} {a : Addr} : SpOk K (spE K f (clsA K nm) a) dv (f nm a) := fun _ _ _ _ h => ⟨nm, rfl, h⟩
theorem spE_len {K : PySem.W.Frag} {f : Str → Addr → MF} {k : Nat} (h : ∀ nm a vs, (f nm a vs).isSome = true → vs.length = k) : ∀ C a vs H Q E, spE K f C a vs H Q E → vs.length = k := fun C a vs H Q E ⟨nm, _, hq⟩ => spM_len (h nm a) vs H Q E hq
theorem raw_E {K : PySem.W.Frag} {N : List Str} {k : Nat} {ts : Addr → Addr → TS} {sm : Str → Addr → SM} (h : ∀ nm a, SS K (ts (clsA K nm) a) (sm nm a)) : ∀ C a vs H Q E, spE K (fun nm a => runM N.length k (sm nm a)) C a vs H Q E → ts C a { nx := fun _ H' => Q .non H', rt := Q } (L2.start N vs) H := fun C a vs H Q E ⟨nm, e, hq⟩ => by
  subst e
  exact raw_M (h nm a) vs H Q E hq
/-! ### tuple * n -/
section
variable {K : PySem.W.Frag} {te ta tb to : TE} {em ea eb eo : EM} {G : Sl} {m : Md}
def eRepT (x y : EM) : EM := fun g => match x g with
  | some (b, .tuple ds) => match y g with
    | some (_, .int k) => if (2 ≤ k ∧ k ≤ 1000) ∧ 0 < ds.length ∧ ds.length ≤ 1000 then some (b || imm (.tuple (List.replicate k.toNat ds).flatten), .tuple (List.replicate k.toNat ds).flatten) else none
    | _ => none
  | _ => none
theorem se_repT (h : SE K ta ea) (h' : SE K tb eb) : SE K (tOp (rRepT K) ta tb) (eRepT ea eb) := fun G g b d a e => by
  unfold eRepT at e
  split at e
  · rename_i b1 ds e1
    split at e
    · rename_i c2 k e2
      split at e
      · rename_i hc
        obtain ⟨⟨k0, k1⟩, hl0, hl⟩ := hc
        cases e
        have h2 : DE K none tb G (.int k) := h'.no a e2
        refine de_orI (de_op (fun P H v u Q s r1 r2 q => ?_) (h G g _ _ a e1) (de_imm h2 rfl))
        cases r2
        generalize hz : PyData.tuple ds = z at r1
        cases r1 <;> first | (cases hz; done) | skip
        rename_i ad xs ds' h3 r1
        cases hz
        have hln := Reps.length r1
        refine ⟨ad, k, xs, rfl, rfl, rd_tup s h3, fun z => ?_, k0, k1, by omega, fun p hp => q _ _ (same_new hp) (rep_newT hp (Reps.flat r1 _) s)⟩
        · rw [z] at hln
          simp at hln
          omega
      · cases e
    · cases e
  · cases e
end
end TB

/-! TB: tuples made by tuple(xs) that are known to have no dict; their index. -/
namespace TB
open PySem PySem.Spec PyProof.Rows L2
section
variable {K : PySem.W.Frag} {H : Hp} {v : V} {d : PyData} {te ta tb : TE} {em ea eb : EM} {G : Sl} {m : Md}
/-- a tuple of ints without a dict -/
def mkT (ds : List PyData) : PyData := exD (.bool true) ds
theorem rep_mkT {ds : List PyData} (h : Rep K H v (mkT ds)) : ∃ a vs o, v = .ref a ∧ H a = some (.frz o (.tup vs)) ∧ o.cls = .type "tuple" ∧ o.dict = none ∧ Reps K H vs ds := by
  unfold mkT exD at h
  generalize hz : PyData.dict [(PyData.none, PyData.tuple (PyData.bool true :: ds))] = z at h
  cases h <;> first | (cases hz; done) | skip
  · rename_i hk
    have hk2 := PyData.dict.inj hz
    rw [← hk2] at hk
    generalize he : [(PyData.none, PyData.tuple (PyData.bool true :: ds))] = kd at hk
    cases hk with
    | nil => cases he
    | @cons k w e r s _ _ =>
      have := (Prod.mk.inj (List.cons.inj he).1).1
      cases k <;> cases this
  · rename_i ex rs
    cases hz
    obtain ⟨o, h1, h2, h3⟩ := ex
    exact ⟨_, _, o, rfl, h1, h2, h3, rs⟩
theorem of_mkT {a : Addr} {vs : List V} {ds : List PyData} {o : Obj} (h : H a = some (.frz o (.tup vs))) (h2 : o.cls = .type "tuple") (h3 : o.dict = none) (r : Reps K H vs ds) : Rep K H (.ref a) (mkT ds) := .ex ⟨o, h, h2, h3⟩ r
/-! ### told as a plain tuple -/
def um : Nat → PyData → PyData
  | 0, d => d
  | n + 1, d => match d with
    | .tuple ds => .tuple (ds.map (um n))
    | .list ds => .list (ds.map (um n))
    | .dict [(.none, .tuple (.bool true :: ds))] => .tuple (ds.map (um n))
    | d => d
theorem reps_map {f : PyData → PyData} (hf : ∀ {v d}, Rep K H v d → Rep K H v (f d)) : ∀ {vs : List V} {ds : List PyData}, Reps K H vs ds → Reps K H vs (ds.map f)
  | _, _, .nil => .nil
  | _, _, .cons r t => .cons (hf r) (reps_map hf t)
theorem Rep.um : ∀ (n : Nat) {v : V} {d : PyData}, Rep K H v d → Rep K H v (TB.um n d)
  | 0, _, _, r => r
  | n + 1, v, d, r => by
    have h := r
    unfold TB.um
    split
    · rename_i ds
      generalize hz : PyData.tuple ds = z at r
      cases r <;> first | (cases hz; done) | skip
      rename_i h1 r1
      cases hz
      exact .tup h1 (reps_map (Rep.um n) r1)
    · rename_i ds
      generalize hz : PyData.list ds = z at r
      cases r <;> first | (cases hz; done) | skip
      rename_i h1 r1
      cases hz
      exact .lst h1 (reps_map (Rep.um n) r1)
    · obtain ⟨a, vs, o, rfl, h1, _, _, r1⟩ := rep_mkT (show Rep K H v (mkT _) from r)
      exact .tup (.inr ⟨o, h1⟩) (reps_map (Rep.um n) r1)
    · exact h
def eUnt (x : EM) : EM := fun g => match x g with
  | some (b, d) => some (b, um 4 d)
  | none => none
theorem se_unt (h : SE K te em) : SE K te (eUnt em) := fun G g b d a e => by
  unfold eUnt at e
  split at e
  · rename_i b1 d1 e1
    cases e
    exact fun c σ H s Q q => h G g _ _ a e1 c σ H s Q fun v H' s1 r => q v H' s1 (Rep.um 4 r)
  · cases e
/-! ### tuple(xs), known -/
def rTupM (K : PySem.W.Frag) : List V → Hp → VK → Prop := fun xs H Q => ∃ p ys, xs = [.ref p] ∧ SqL K H p ys ∧ ∀ l o, H l = none → o.cls = .type "tuple" → o.dict = none → Q (.ref l) (upd H l (.frz o (.tup ys)))
theorem call_tupM {X : Cx} : CallR X (.type "tuple") (rTupM X.K) := fun pins s σ H xs us Q I r ⟨p, ys, e, seq, go⟩ => by
  subst e
  obtain ⟨w, rfl, rx⟩ := vals1 r
  cases rx
  obtain ⟨its, vi, isl, small⟩ := I.list seq
  have len := vi.length
  refine call_tuple_list isl.isList (fun h1 kept => ?_) (by simp only [List.size_toArray] <;> omega)
  have J : Inv X pins σ H { s with heap := h1 } := I.kept (t' := s.toks) kept
  let o : Obj := { cls := .type "tuple", data := .seq its.toArray }
  have at_ : (h1.push o).get? h1.objs.size = some o := Heap.get?_push_size _ rfl
  have made : ObjOk X.prog X.w (upd H h1.objs.size (.frz o (.tup ys))) (h1.push o) h1.objs.size (.frz o (.tup ys)) := ⟨at_, small, its, vi, o, at_, rfl, 0, rfl⟩
  exact ⟨.ref h1.objs.size, _, J.laid (t' := s.toks) (fun b u z => Heap.get?_push_of_some _ z) (Nat.le_refl _) made, rfl, go _ o (J.hok.fresh (Nat.le_refl _)) rfl rfl⟩
theorem de_tupM {ds : List PyData} (h : DE K m te G (.list ds)) : DE K m (tCB (rTupM K) (tCons te tNil)) G (mkT ds) := de_cb (ds := [.list ds]) (fun P H vs Q s r q => by
  obtain ⟨v, rfl, r'⟩ := reps1 r
  clear r
  generalize hz : PyData.list ds = z at r'
  cases r' <;> first | (cases hz; done) | exact (kk_ex hz).elim | skip
  rename_i a xs ds' h1 r
  cases hz
  refine ⟨a, xs, rfl, rd_lst s h1, fun l o hl h2 h3 => q _ _ (same_new hl) (of_mkT (by rw [plus_new hl, upd_same]; rfl) h2 h3 (Reps.mono (fun a o q => plus_old q s) r))⟩) (da_cons h da_nil)
def eTupM (x : EM) : EM := fun g => match x g with
  | some (_, .list ds) => if intsD ds then some (true, mkT ds) else none
  | _ => none
theorem se_tupM (h : SE K te em) : SE K (tCB (rTupM K) (tCons te tNil)) (eTupM em) := fun G g b d a e => by
  unfold eTupM at e
  split at e
  · rename_i b1 ds e1
    split at e
    · rename_i hd
      cases e
      have : imm (mkT ds) = true := hd
      exact de_imm (de_tupM (h.no a e1)) this
    · cases e
  · cases e
/-! ### xs.index(k) -/
def tIdxT (K : PySem.W.Frag) (to : TE) (t : TA) : TE := fun σ H Q => to σ H fun x H1 => ∃ (p : Addr) (o : Obj) (ns : List Int), x = .ref p ∧ H1 p = some (.frz o (.tup (ns.map V.int))) ∧ o.cls = .type "tuple" ∧ o.dict = none ∧
  t σ H1 fun xs H2 => ∃ k, xs = [.int k] ∧ k ∈ ns ∧ H2 p = some (.frz o (.tup (ns.map V.int))) ∧ Q (.int (ns.idxOf k : Nat)) H2
theorem pe_idxT {X : Cx} {o e : Expr} {es : List Expr} {to : TE} {t : TA} {apos cpos : Pos} (ho : PE X o to) (ha : PA X (e :: es) t)
    (hbase : attributeBase o "index" X.env (eval o X.env) = eval o X.env := by rfl)
    (hfew : ((backTo cpos (starEach (e :: es) X.env)).all (fun x => !x.1) && (backToKw cpos (keywordEach [] X.env)).all (fun x => x.1.isSome)
      && decide ((e :: es).length + ([] : List Keyword).length + (if ([] : List Keyword).isEmpty then 0 else 1) < 30)) = true := by rfl)
    (hline : (apos.endLine == cpos.line) = true := by rfl) (hs : starEach (e :: es) X.env = (false, eval e X.env) :: starEach es X.env := by rfl) (hplain : (backTo cpos (starEach es X.env)).any (·.1) = false := by rfl) :
    PE X (.Call (.Attribute o "index" apos) (e :: es) [] cpos) (tIdxT X.K to t) := by
  refine ⟨fun pins s σ H Q I h => ?_⟩
  refine wpAny_Call_method_late hbase hfew hline rfl (thn (ho.run pins s σ H _ I h) fun v s1 ⟨x, H1, I1, r1, p, ob, ns, ex, hp, hc, hd, q1⟩ => ?_)
  subst ex
  cases r1
  have g1 := (I1.hok p _ hp).1
  refine ⟨"tuple", "tuple.index", PySem.F.plainAttrs_tuple, PySem.F.slot_tuple_index, PySem.F.type_tuple_index, ⟨ob, g1, hc⟩, fun a z => by cases z; exact ⟨ob, g1, hd⟩, ?_⟩
  have hA := ha.run cpos pins s1 σ H1 _ I1 q1
  rw [hs] at hA ⊢
  refine Calls.callWith_builtin (by show (false || (backTo cpos (starEach es X.env)).any (·.1)) = false; rw [hplain] <;> rfl) (Calls.evalArgs_plain ?_)
  refine thn hA fun us s2 ⟨vs, H2, I2, r2, k, ev, hk, hp2, q2⟩ => ?_
  subst ev
  obtain ⟨u, rfl, ru⟩ := vals1 r2
  obtain ⟨tk, rfl⟩ := ru
  obtain ⟨_, _, its, vi, ist⟩ := I2.hok p _ hp2
  exact PySem.SeqAt.tuple_index_ints ist (Vals.ints vi) hk ⟨.int (ns.idxOf k : Nat), H2, I2.tok _, ⟨_, rfl⟩, q2⟩
def eIdxT (x y : EM) : EM := fun g => match x g with
  | some (_, .dict [(.none, .tuple (.bool true :: ds))]) => match asInts ds with
    | some ks => match y g with
      | some (_, .int k) => if k ∈ ks then some (true, .int (ks.idxOf k : Nat)) else none
      | _ => none
    | none => none
  | _ => none
theorem se_idxT (h : SE K ta ea) (h' : SE K tb eb) : SE K (tIdxT K ta (tCons tb tNil)) (eIdxT ea eb) := fun G g b d a e => by
  unfold eIdxT at e
  split at e
  · rename_i b1 ds e1
    split at e
    · rename_i ks hk
      split at e
      · rename_i b2 k e2
        split at e
        · rename_i hm
          cases e
          have h1 : DE K none ta G (mkT ds) := h.no a e1
          have h2 := h'.no a e2
          rw [asInts_of hk] at h1
          refine de_imm (fun c' σ H s0 Q q => h1 c' σ H s0 _ fun v H1 s r => ?_) rfl
          have s1 := s0.ext s
          obtain ⟨p, vs, o, rfl, hp, hc, hd, rr⟩ := rep_mkT r
          have := rr.ints
          subst this
          have hp1 := s1.vsame _ _ hp
          refine ⟨p, o, ks, rfl, hp1, hc, hd, h2 c' σ H1 s1 _ fun u H2 s2 r2 => ?_⟩
          cases r2
          exact ⟨k, rfl, hm, s2 _ _ hp1, q _ H2 (s.trans s2) (.int _)⟩
        · cases e
      · cases e
    · cases e
  · cases e
end
end TB

/-! TB rules of application of the mirror's parts (printed by mkap.py). -/
namespace TB
open PySem PySem.Spec PyProof.Rows L2
theorem eLit_a (d : PyData) (g_ : Stt) : eLit d g_ = some (true, d) := rfl
theorem eVar_a (i : Nat) (g : Stt) : eVar i g = match g[i]? with
  | some (some q) => some (q.isV, q.full)
  | _ => none := rfl
theorem aNil_a (g_ : Stt) : aNil  g_ = some (true, []) := rfl
theorem aCons_a (e : EM) (r : AM) (g : Stt) : aCons e r g = match e g with
  | some (b, d) => match r g with
    | some (c, ds) => some (b && c, d :: ds)
    | none => none
  | none => none := rfl
theorem eOp_a (f : PyData → PyData → Option PyData) (x y : EM) (g : Stt) : eOp f x y g = match x g with
  | some (b, d) => match y g with
    | some (c, d') => match f d d' with
      | some z => some (true, z)
      | none => none
    | none => none
  | none => none := rfl
theorem eAdd_a (x y : EM) (g : Stt) : eAdd x y g = match x g with
  | some (b, d) => match y g with
    | some (c, d') => match pAdd d d' with
      | some z => some (b && c || imm z, z)
      | none => none
    | none => none
  | none => none := rfl
theorem eNeg_a (x : EM) (g : Stt) : eNeg x g = match x g with
  | some (_, .int a) => some (true, .int (-a))
  | _ => none := rfl
theorem eIx_a (x y : EM) (g : Stt) : eIx x y g = match x g with
  | some (b, d) => match y g with
    | some (_, d') => match pIx d d' with
      | some z => some (b || imm z, z)
      | none => none
    | none => none
  | none => none := rfl
theorem eIxV_a (i : Nat) (y : EM) (g : Stt) : eIxV i y g = match y g with
  | some (_, d') => match g[i]? with
    | some (some (.v d)) => match pIx d d' with
      | some z => some (true, z)
      | none => none
    | some (some (.l ds)) => match d' with
      | .int k => match L2.atI ds k with
        | some z => some (true, z)
        | none => none
      | _ => none
    | some (some (.k D)) => match keyOf d' with
      | some k => match valD D k with
        | some z => some (true, z)
        | none => none
      | none => none
    | some (some (.t xs)) => match pIx (.tuple (xs.map itP)) d' with
      | some z => some (imm z, z)
      | none => none
    | _ => none
  | none => none := rfl
theorem oNo_a (g_ : Stt) : oNo  g_ = some none := rfl
theorem oSo_a (e : EM) (g : Stt) : oSo e g = match e g with
  | some (_, .int k) => some (some k)
  | _ => none := rfl
theorem eTup_a (x : AM) (g : Stt) : eTup x g = match x g with
  | some (b, ds) => if ds.length ≤ 100000 then some (b || imm (.tuple ds), .tuple ds) else none
  | none => none := rfl
theorem eLst_a (x : AM) (g : Stt) : eLst x g = match x g with
  | some (b, ds) => if ds.length ≤ 100000 then some (b || imms ds, .list ds) else none
  | none => none := rfl
theorem mTest_a (x : EM) (g : Stt) : mTest x g = match x g with
  | some (_, .bool b) => some b
  | _ => none := rfl
theorem mNot_a (x : TM) (g : Stt) : mNot x g = match x g with
  | some b => some (!b)
  | none => none := rfl
theorem mAnd_a (x y : TM) (g : Stt) : mAnd x y g = match x g with
  | some true => y g
  | some false => some false
  | none => none := rfl
theorem mOr_a (x y : TM) (g : Stt) : mOr x y g = match x g with
  | some true => some true
  | some false => y g
  | none => none := rfl
theorem mYes_a (g_ : Stt) : mYes  g_ = some true := rfl
theorem eAnd_a (x y : EM) (g : Stt) : eAnd x y g = match x g with
  | some (_, .bool true) => match y g with
    | some (_, .bool b) => some (true, .bool b)
    | _ => none
  | some (_, .bool false) => some (true, .bool false)
  | _ => none := rfl
theorem eOr_a (x y : EM) (g : Stt) : eOr x y g = match x g with
  | some (_, .bool false) => match y g with
    | some (_, .bool b) => some (true, .bool b)
    | _ => none
  | some (_, .bool true) => some (true, .bool true)
  | _ => none := rfl
theorem eNot_a (x : EM) (g : Stt) : eNot x g = match x g with
  | some (_, .bool b) => some (true, .bool (!b))
  | _ => none := rfl
theorem eIf_a (t : TM) (x y : EM) (g : Stt) : eIf t x y g = match t g with
  | some true => x g
  | some false => y g
  | none => none := rfl
theorem eChain_a (f f' : PyData → PyData → Option PyData) (x y z : EM) (g : Stt) : eChain f f' x y z g = match x g with
  | some (_, d) => match y g with
    | some (_, d') => match f d d' with
      | some (.bool true) => match z g with
        | some (_, d'') => match f' d' d'' with
          | some (.bool b) => some (true, .bool b)
          | _ => none
        | none => none
      | some (.bool false) => some (true, .bool false)
      | _ => none
    | none => none
  | none => none := rfl
theorem rE_a (e : EM) (g : Stt) : rE e g = match e g with
  | some (b, d) => if b || imm d then some (.v d) else none
  | none => none := rfl
theorem eR_a (r : RM) (g : Stt) : eR r g = match r g with
  | some q => some (true, q.full)
  | none => none := rfl
theorem rLst_a (x : AM) (g : Stt) : rLst x g = match x g with
  | some (b, ds) => if (b || imms ds) && decide (ds.length ≤ 100000) then some (.l ds) else none
  | none => none := rfl
theorem eCall_a (f : MF) (am : AM) (g : Stt) : eCall f am g = match am g with
  | some (b, ds) => match f ds with
    | some q => some (b || imm q.full, q.full)
    | none => none
  | none => none := rfl
theorem rCall_a (f : MF) (am : AM) (g : Stt) : rCall f am g = match am g with
  | some (b, ds) => match f ds with
    | some q => if b || q.fl then some q else none
    | none => none
  | none => none := rfl
theorem sNext_a (g : Stt) : sNext  g = some (.nx g) := rfl
theorem sBrk_a (g : Stt) : sBrk  g = some (.bk g) := rfl
theorem sCnt_a (g : Stt) : sCnt  g = some (.ct g) := rfl
theorem sSeq_a (x y : SM) (g : Stt) : sSeq x y g = match x g with
  | some (.nx g') => y g'
  | o => o := rfl
theorem sIf_a (t : TM) (x y : SM) (g : Stt) : sIf t x y g = match t g with
  | some true => x g
  | some false => y g
  | none => none := rfl
theorem sAsg_a (i : Nat) (e : EM) (g : Stt) : sAsg i e g = match e g with
  | some (b, d) => if (b || imm d) && decide (i < g.length) then some (.nx (g.set i (some (.v d)))) else none
  | none => none := rfl
theorem sAsgR_a (i : Nat) (r : RM) (g : Stt) : sAsgR i r g = match r g with
  | some q => if i < g.length then some (.nx (g.set i (some q))) else none
  | none => none := rfl
theorem sExp_a (e : EM) (g : Stt) : sExp e g = match e g with
  | some _ => some (.nx g)
  | none => none := rfl
theorem sRet_a (r : RM) (g : Stt) : sRet r g = match r g with
  | some q => some (.rt q)
  | none => none := rfl
theorem sRetN_a (g : Stt) : sRetN  g = some (.rt (.v .none)) := rfl
theorem sRetV_a (i : Nat) (g : Stt) : sRetV i g = match g[i]? with
  | some (some q) => some (.rt q)
  | _ => none := rfl
theorem sApp_a (i : Nat) (e : EM) (g : Stt) : sApp i e g = match e g with
  | some (b, d) => match g[i]? with
    | some (some (.l ds)) => if (b || imm d) && decide (ds.length < 100000) then some (.nx (g.set i (some (.l (ds ++ [d]))))) else none
    | _ => none
  | none => none := rfl
theorem sSet_a (i : Nat) (e x : EM) (g : Stt) : sSet i e x g = match e g with
  | some (b, d) => match x g with
    | some (_, k) => match g[i]? with
      | some (some (.l ds)) => match k with
        | .int k => match ixN ds.length k with
          | some j => if b || imm d then some (.nx (g.set i (some (.l (ds.set j d))))) else none
          | none => none
        | _ => none
      | some (some (.k D)) => match keyOf k with
        | some k => if (b || imm d) && decide (D.length < 100000) then some (.nx (g.set i (some (.k (putD D k d))))) else none
        | none => none
      | _ => none
    | none => none
  | none => none := rfl
theorem sPop_a (i j : Nat) (g : Stt) : sPop i j g = match g[i]? with
  | some (some (.l ds)) => match ds[ds.length - 1]? with
    | some d => if j < g.length then some (.nx ((g.set j (some (.v d))).set i (some (.l ds.dropLast)))) else none
    | none => none
  | _ => none := rfl
theorem sFrz_a (i : Nat) (s : SM) (g : Stt) : sFrz i s g = s (frz i g) := rfl
theorem gNm_a (i : Nat) (d : PyData) (g : Stt) : gNm i d g = if i < g.length then some (g.set i (some (.v d))) else none := rfl
theorem gN0_a (ds : List PyData) (g : Stt) : gN0  ds g = match ds with
  | [] => some g
  | _ => none := rfl
theorem gC_a (i : Nat) (r : GMs) (ds : List PyData) (g : Stt) : gC i r ds g = match ds with
  | d :: ds => if i < g.length then r ds (g.set i (some (.v d))) else none
  | [] => none := rfl
theorem gCT_a (x : GMs) (r : GMs) (ds : List PyData) (g : Stt) : gCT x r ds g = match ds with
  | .tuple es :: ds => if imms ds then match x es g with
    | some g' => r ds g'
    | none => none
    else none
  | _ => none := rfl
theorem gTp_a (r : GMs) (d : PyData) (g : Stt) : gTp r d g = match d with
  | .tuple ds => r ds g
  | _ => none := rfl
theorem iSq_a (e : EM) (g : Stt) : iSq e g = match e g with
  | some (b, .list ds) => if b then some ds else none
  | some (b, .tuple ds) => if b || imm (.tuple ds) then some ds else none
  | _ => none := rfl
theorem iZip_a (x y : EM) (g : Stt) : iZip x y g = match x g with
  | some (b, .list ds) => match y g with
    | some (c, .list es) => if b && c then some (List.zipWith pair ds es) else none
    | _ => none
  | some (b, .tuple ds) => match y g with
    | some (c, .tuple es) => if (b || imm (.tuple ds)) && (c || imm (.tuple es)) then some (List.zipWith pair ds es) else none
    | _ => none
  | _ => none := rfl
theorem iRev_a (x : EM) (g : Stt) : iRev x g = match x g with
  | some (b, .list ds) => if b then some ds.reverse else none
  | _ => none := rfl
theorem iItm_a (r : RM) (g : Stt) : iItm r g = match r g with
  | some (.k D) => some (D.map fun p => .tuple [kD p.1, p.2])
  | _ => none := rfl
theorem eB1_a (f : PyData → Option PyData) (x : EM) (g : Stt) : eB1 f x g = match x g with
  | some (_, d) => match f d with
    | some z => some (true, z)
    | none => none
  | none => none := rfl
theorem eMax2_a (x y : EM) (g : Stt) : eMax2 x y g = match x g with
  | some (_, .int a) => match y g with
    | some (_, .int b) => some (true, .int (max a b))
    | _ => none
  | _ => none := rfl
theorem eIsi_a (T : String) (x : EM) (g : Stt) : eIsi T x g = match x g with
  | some (_, d) => match isiD d T with
    | some b => some (true, .bool b)
    | none => none
  | none => none := rfl
theorem rListO_a (x : EM) (g : Stt) : rListO x g = match x g with
  | some (b, .list ds) => if b || imms ds then some (.l ds) else none
  | some (b, .tuple ds) => if b || imms ds then some (.l ds) else none
  | _ => none := rfl
theorem eTupO_a (x : EM) (g : Stt) : eTupO x g = match x g with
  | some (b, .list ds) => some (b || imms ds, .tuple ds)
  | _ => none := rfl
theorem eInV_a (neg : Bool) (i : Nat) (x : EM) (g : Stt) : eInV neg i x g = match x g with
  | some (_, d) => match g[i]? with
    | some (some (.k D)) => match keyOf d with
      | some k => some (true, .bool (if neg then !(valD D k).isSome else (valD D k).isSome))
      | none => none
    | some (some q) => match (if neg then pNotIn d q.full else pIn d q.full) with
      | some z => some (true, z)
      | none => none
    | _ => none
  | none => none := rfl
theorem eGet_a (x y : EM) (g : Stt) : eGet x y g = match x g with
  | some (b, .dict ks) => match y g with
    | some (_, d') => match unkk ks with
      | some D => match keyOf d' with
        | some k => some (b || imm ((valD D k).getD .none), (valD D k).getD .none)
        | none => none
      | none => none
    | none => none
  | _ => none := rfl
theorem rDi1_a (x y : EM) (g : Stt) : rDi1 x y g = match x g with
  | some (_, d) => match y g with
    | some (b, d') => match keyOf d with
      | some k => if b || imm d' then some (.k [(k, d')]) else none
      | none => none
    | none => none
  | none => none := rfl
theorem rSoK_a (x : EM) (g : Stt) : rSoK x g = match x g with
  | some (_, .dict ks) => match unkk ks with
    | some D => match intKeys D with
      | some l => if l.length < 64 then some (.l ((sortI (l.map (·.1))).map .int)) else none
      | none => none
    | none => none
  | _ => none := rfl
theorem rAdd_a (x y : EM) (g : Stt) : rAdd x y g = match x g with
  | some (b, d) => match y g with
    | some (c, d') => match d, d' with
      | .list xs, .list ys => if (b && c || imms (xs ++ ys)) && decide (xs.length + ys.length ≤ 100000) then some (.l (xs ++ ys)) else none
      | d, d' => match pAdd d d' with
        | some z => if b && c || imm z then some (.v z) else none
        | none => none
    | none => none
  | none => none := rfl
theorem rSo_a (x : EM) (g : Stt) : rSo x g = match x g with
  | some (_, .list ds) => match asInts ds with
    | some ks => some (.l ((sortI ks).map .int))
    | none => none
  | _ => none := rfl
theorem eLenSet_a (x : EM) (g : Stt) : eLenSet x g = match x g with
  | some (_, .list ds) => match asInts ds with
    | some ks => if decide (ks.length < 64) && decide ks.Nodup then some (true, .int (ks.length : Nat)) else none
    | none => none
  | _ => none := rfl
theorem eCount_a (x y : EM) (g : Stt) : eCount x y g = match x g with
  | some (_, .list ds) => match asInts ds with
    | some ks => match y g with
      | some (_, .int k) => some (true, .int (ks.count k : Nat))
      | _ => none
    | none => none
  | _ => none := rfl
theorem sClr_a (i : Nat) (g : Stt) : sClr i g = match g[i]? with
  | some (some (.l _)) => some (.nx (g.set i (some (.l []))))
  | _ => none := rfl
theorem sPar_a (i j : Nat) (x : AM) (g : Stt) : sPar i j x g = match x g with
  | some (b, [d, d']) => if (b || imms [d, d']) && (decide (i < g.length) && decide (j < g.length)) then some (.nx ((g.set i (some (.v d))).set j (some (.v d')))) else none
  | _ => none := rfl
theorem sAsT_a (e : EM) (gm : GM) (g : Stt) : sAsT e gm g = match e g with
  | some (b, d) => if b || imm d then match gm d g with
      | some g' => some (.nx g')
      | none => none
    else none
  | none => none := rfl
theorem sMov_a (i j : Nat) (g : Stt) : sMov i j g = match g[i]? with
  | some (some q) => if decide (i ≠ j) && decide (j < g.length) then some (.nx ((g.set i none).set j (some q))) else none
  | _ => none := rfl
theorem sForK_a (dm : Stt → Option KD) (gm : GM) (s : SM) (g : Stt) : sForK dm gm s g = match dm g with
  | some D => forRun gm s (keysD D) g
  | none => none := rfl
theorem iKyC_a (r : RM) (g : Stt) : iKyC r g = match r g with
  | some (.k D) => some (keysD D)
  | _ => none := rfl
theorem iEnu_a (x : EM) (g : Stt) : iEnu x g = match x g with
  | some (b, .list ds) => if b then some (enumD ds) else none
  | some (b, .tuple ds) => if b || imm (.tuple ds) then some (enumD ds) else none
  | _ => none := rfl
theorem rLRev_a (x : EM) (g : Stt) : rLRev x g = match x g with
  | some (b, .list ds) => if b || imms ds then some (.l ds.reverse) else none
  | _ => none := rfl
theorem rSoP_a (x : EM) (g : Stt) : rSoP x g = match x g with
  | some (_, .list ds) => match asPairs ds with
    | some ps => some (.l ((sortP ps).map pairI))
    | none => none
  | _ => none := rfl
theorem eMinD_a (x y : EM) (g : Stt) : eMinD x y g = match x g with
  | some (_, .list ds) => match asInts ds with
    | some ns => match y g with
      | some (_, .int d) => some (true, .int (if ns = [] then d else minL ns))
      | _ => none
    | none => none
  | _ => none := rfl
theorem aMore_a (x : AM) (g : Stt) : aMore x g = match x g with
  | some (b, ds) => some (b, ds ++ [.none])
  | none => none := rfl
theorem rDi0_a (g_ : Stt) : rDi0  g_ = some (.k []) := rfl
theorem rLRg2_a (x y : EM) (g : Stt) : rLRg2 x y g = match x g with
  | some (_, .int lo) => match y g with
    | some (_, .int hi) => if (decide (-100000 ≤ lo) && decide (lo ≤ 100000)) && (decide (-100000 ≤ hi) && decide (hi ≤ 100000)) then some (.l ((rgZ lo hi).map .int)) else none
    | _ => none
  | _ => none := rfl
theorem eMk_a (r : RM) (g : Stt) : eMk r g = match r g with
  | some (.l ds) => some (true, mk ds)
  | _ => none := rfl
theorem eUm_a (x : EM) (g : Stt) : eUm x g = match x g with
  | some (b, d) => some (b, unm d)
  | none => none := rfl
theorem iZipT_a (x y u : EM) (g : Stt) : iZipT x y u g = match x g with
  | some (a, .tuple ds) => match y g with
    | some (b, .list es) => match u g with
      | some (c, .list fs) => if (a || imm (.tuple ds)) && (b && c) then some (zip3D ds es fs) else none
      | _ => none
    | _ => none
  | _ => none := rfl
theorem eMin2_a (x y : EM) (g : Stt) : eMin2 x y g = match x g with
  | some (_, .int a) => match y g with
    | some (_, .int b) => some (true, .int (min a b))
    | _ => none
  | _ => none := rfl
theorem xNo_a (g_ : Stt) : xNo  g_ = none := rfl
theorem xThen_a (a : XM) (ok : Stt → Bool) (b : XM) (g : Stt) : xThen a ok b g = match a g with
  | some nm => some nm
  | none => if ok g then b g else none := rfl
theorem xCall_a (xa : XM) (am : AM) (x : XF) (g : Stt) : xCall xa am x g = match xa g with
  | some nm => some nm
  | none => match am g with
    | some (_, ds) => x ds
    | none => none := rfl
theorem xRaise_a (nm : Str) (g_ : Stt) : xRaise nm g_ = some nm := rfl
theorem xSeq_a (xa : XM) (sm : SM) (xb : XM) (g : Stt) : xSeq xa sm xb g = match xa g with
  | some nm => some nm
  | none => match sm g with
    | some (.nx g') => xb g'
    | _ => none := rfl
theorem xIf_a (tm : TM) (xa xb : XM) (g : Stt) : xIf tm xa xb g = match tm g with
  | some true => xa g
  | some false => xb g
  | none => none := rfl
theorem xFor_a (im : IM) (gm : GM) (sm : SM) (xb : XM) (g : Stt) : xFor im gm sm xb g = match im g with
  | some ds => forX gm sm xb ds g
  | none => none := rfl
theorem eIsE_a (tab : Tab) (nm : Str) (a : Addr) (i : Nat) (T : Str) (g : Stt) : eIsE tab nm a i T g = if isExc i a g then (match isub tab nm T with
  | some b => some (true, .bool b)
  | none => none) else none := rfl
theorem eIsV_a (tab : Tab) (nm : Str) (a : Addr) (i : Nat) (g : Stt) : eIsV tab nm a i g = if isExc i a g && (tab.any fun p => decide (p.1 = nm)) then some (true, .bool true) else none := rfl
theorem eIsT_a (tab : Tab) (nm : Str) (a : Addr) (i : Nat) (Ts : List Str) (g : Stt) : eIsT tab nm a i Ts g = if isExc i a g then (match isAny tab nm Ts with
  | some b => some (true, .bool b)
  | none => none) else none := rfl
theorem sIns_a (i : Nat) (ek em : EM) (g : Stt) : sIns i ek em g = match ek g with
  | some (_, .int k) => match em g with
    | some (b, d) => match g[i]? with
      | some (some (.l ds)) => if (b || imm d) && (decide (ds.length < 100000) && (decide (0 ≤ k) && decide (k < 100000))) then some (.nx (g.set i (some (.l (ds.take k.toNat ++ [d] ++ ds.drop k.toNat))))) else none
      | _ => none
    | none => none
  | _ => none := rfl
theorem gLp_a (r : GMs) (d : PyData) (g : Stt) : gLp r d g = match d with
  | .list ds => r ds g
  | _ => none := rfl
theorem eTupRv_a (x : EM) (g : Stt) : eTupRv x g = match x g with
  | some (_, .tuple ds) => if imms ds then some (true, .tuple ds.reverse) else none
  | _ => none := rfl
theorem eAlt_a (x y : EM) (g : Stt) : eAlt x y g = match x g with
  | some r => some r
  | none => y g := rfl
theorem rAlt_a (x y : RM) (g : Stt) : rAlt x y g = match x g with
  | some r => some r
  | none => y g := rfl
theorem eFld_a (cs : List Str) (f : Str) (x : EM) (g : Stt) : eFld cs f x g = match x g with
  | some (b, d) => match pFld cs f d with
    | some z => some (b || imm z, z)
    | none => none
  | none => none := rfl
theorem aMth_a (c m : Str) (x : EM) (r : AM) (g : Stt) : aMth c m x r g = match x g with
  | some (_, d) => if insIs c m d then aCons x r g else none
  | none => none := rfl
theorem eMake_a (c f : Str) (x : EM) (g : Stt) : eMake c f x g = match x g with
  | some (b, d) => some (b || imm d, insD c [f] [d])
  | none => none := rfl
theorem eIsC_a (tab : Tab) (T : Str) (x : EM) (g : Stt) : eIsC tab T x g = match x g with
  | some (_, .dict [(.none, .tuple (.list (.str c :: _) :: _))]) => match isub tab c T with
    | some b => some (true, .bool b)
    | none => none
  | _ => none := rfl
theorem sRetT_a (e : EM) (r : RM) (g : Stt) : sRetT e r g = match e g with
  | some (_, d) => match r g with
    | some (.l ds) => if imm d then some (.rt (.t [.inl d, .inr ds])) else none
    | _ => none
  | none => none := rfl
theorem sRetTV_a (e : EM) (i : Nat) (g : Stt) : sRetTV e i g = match e g with
  | some (_, d) => match g[i]? with
    | some (some (.l ds)) => if imm d then some (.rt (.t [.inl d, .inr ds])) else none
    | _ => none
  | none => none := rfl
theorem sUnp2_a (i j : Nat) (r : RM) (g : Stt) : sUnp2 i j r g = match r g with
  | some (.t [.inl d, .inr ds]) => if (imm d && decide (i ≠ j)) && (decide (i < g.length) && decide (j < g.length)) then some (.nx ((g.set j (some (.l ds))).set i (some (.v d)))) else none
  | some (.v (.tuple [d, d'])) => if decide (i ≠ j) && (decide (i < g.length) && decide (j < g.length)) then some (.nx ((g.set j (some (.v d'))).set i (some (.v d)))) else none
  | _ => none := rfl
theorem sClrT_a (i k : Nat) (g : Stt) : sClrT i k g = match g[i]? with
  | some (some (.t xs)) => match xs[k]? with
    | some (.inr _) => some (.nx (g.set i (some (.t (xs.set k (.inr []))))))
    | _ => none
  | _ => none := rfl
theorem eDef_a (nm : Str) (g_ : Stt) : eDef nm g_ = some (true, defD nm) := rfl
theorem eCallL_a (i : Nat) (nm : Str) (f : MF) (am : AM) (g : Stt) : eCallL i nm f am g = match g[i]? with
  | some (some (.v d)) => match defNm d with
    | some n => if n = nm then eCall f am g else none
    | none => none
  | _ => none := rfl
theorem eIndex_a (x y : EM) (g : Stt) : eIndex x y g = match x g with
  | some (_, .list ds) => match asInts ds with
    | some ks => match y g with
      | some (_, .int k) => match ks.findIdx? (fun z => decide (z = k)) with
        | some j => some (true, .int (j : Nat))
        | none => none
      | _ => none
    | none => none
  | _ => none := rfl
theorem sAppO_a (i j : Nat) (g : Stt) : sAppO i j g = if i = j then none else match g[j]? with
  | some (some (.l ds)) => match g[i]? with
    | some (some (.l [])) => some (.nx ((g.set j none).set i (some (.ll [.inr ds]))))
    | some (some (.ll xs)) => if xs.length < 100000 then some (.nx ((g.set j none).set i (some (.ll (xs ++ [.inr ds]))))) else none
    | _ => none
  | _ => none := rfl
theorem sSetLL_a (i : Nat) (e x y : EM) (g : Stt) : sSetLL i e x y g = match e g with
  | some (_, d) => match x g with
    | some (_, .int k) => match y g with
      | some (_, .int l) => match g[i]? with
        | some (some (.ll xs)) => match ixN xs.length k with
          | some p => match xs[p]? with
            | some (.inr ds) => match ixN ds.length l with
              | some q => if imm d then some (.nx (g.set i (some (.ll (xs.set p (.inr (ds.set q d))))))) else none
              | none => none
            | _ => none
          | none => none
        | _ => none
      | _ => none
    | _ => none
  | none => none := rfl
theorem iSgn_a (e : EM) (g : Stt) : iSgn e g = match e g with
  | some (_, .str z) => some (sgD z)
  | _ => none := rfl
theorem rSplit_a (x y : EM) (g : Stt) : rSplit x y g = match x g with
  | some (_, .str a) => match y g with
    | some (_, .str b) => if !(b.length == 0) && decide (a.length ≤ 100000) then some (.l ((Txt.split a b).map .str)) else none
    | _ => none
  | _ => none := rfl
theorem ePart_a (x y : EM) (g : Stt) : ePart x y g = match x g with
  | some (_, .str a) => match y g with
    | some (_, .str b) => if !(b.length == 0) && decide (a.length ≤ 100000) then some (true, .tuple [.str (Txt.partition a b).1, .str (Txt.partition a b).2.1, .str (Txt.partition a b).2.2]) else none
    | _ => none
  | _ => none := rfl
theorem eJoin_a (x y : EM) (g : Stt) : eJoin x y g = match x g with
  | some (_, .str a) => match y g with
    | some (_, .list ds) => match asStrs ds with
      | some ys => if (ys.map (·.length)).sum + ys.length * a.length ≤ 16777216 then some (true, .str (Txt.join a ys)) else none
      | none => none
    | _ => none
  | _ => none := rfl
theorem eFmt_a (x : EM) (g : Stt) : eFmt x g = match x g with
  | some (_, .str y) => if y.length ≤ 100000 then some (true, .str y) else none
  | some (_, .int i) => if i.natAbs.log2 < 1920 then some (true, .str (numS i)) else none
  | _ => none := rfl
theorem eJs_a (es : List EM) (g : Stt) : eJs es g = match runJ es Str.empty g with
  | some s => some (true, .str s)
  | none => none := rfl
theorem eRepL_a (x y : EM) (g : Stt) : eRepL x y g = match x g with
  | some (_, .list ds) => match y g with
    | some (_, .int k) => if (0 ≤ k ∧ k ≤ 1000) ∧ ds.length ≤ 1000 then some (false, .list (List.replicate k.toNat ds).flatten) else none
    | _ => none
  | _ => none := rfl
theorem eRepT_a (x y : EM) (g : Stt) : eRepT x y g = match x g with
  | some (b, .tuple ds) => match y g with
    | some (_, .int k) => if (2 ≤ k ∧ k ≤ 1000) ∧ 0 < ds.length ∧ ds.length ≤ 1000 then some (b || imm (.tuple (List.replicate k.toNat ds).flatten), .tuple (List.replicate k.toNat ds).flatten) else none
    | _ => none
  | _ => none := rfl
theorem eUnt_a (x : EM) (g : Stt) : eUnt x g = match x g with
  | some (b, d) => some (b, um 4 d)
  | none => none := rfl
theorem eTupM_a (x : EM) (g : Stt) : eTupM x g = match x g with
  | some (_, .list ds) => if intsD ds then some (true, mkT ds) else none
  | _ => none := rfl
theorem eIdxT_a (x y : EM) (g : Stt) : eIdxT x y g = match x g with
  | some (_, .dict [(.none, .tuple (.bool true :: ds))]) => match asInts ds with
    | some ks => match y g with
      | some (_, .int k) => if k ∈ ks then some (true, .int (ks.idxOf k : Nat)) else none
      | _ => none
    | none => none
  | _ => none := rfl
theorem eSl_a (x : EM) (l h : Stt → Option (Option Int)) (g : Stt) : eSl x l h g = match x g with
  | some (b, d) => match l g with
    | some lo => match h g with
      | some hi => match d with
        | .list ds => some (b || imms (cutD ds lo hi) && false, .list (cutD ds lo hi))
        | .tuple ds => some (b || imm (.tuple (cutD ds lo hi)), .tuple (cutD ds lo hi))
        | _ => none
      | none => none
    | none => none
  | none => none := rfl
theorem rSlc_a (x : EM) (l h : Stt → Option (Option Int)) (g : Stt) : rSlc x l h g = match x g with
  | some (b, d) => match l g with
    | some lo => match h g with
      | some hi => match d with
        | .list ds => if b || imms (cutD ds lo hi) then some (.l (cutD ds lo hi)) else none
        | .tuple ds => if b || imm (.tuple (cutD ds lo hi)) then some (.v (.tuple (cutD ds lo hi))) else none
        | _ => none
      | none => none
    | none => none
  | none => none := rfl
theorem eSlS_a (x : EM) (l h : Stt → Option (Option Int)) (g : Stt) : eSlS x l h g = match x g with
  | some (_, .str z) => match l g with
    | some lo => match h g with
      | some hi => if z.length ≤ 100000 then some (true, .str (cutS z lo hi)) else none
      | none => none
    | none => none
  | _ => none := rfl
end TB

/-! TB plain: how a mirror is reckoned. -/
namespace TB
open PySem PySem.Spec PyProof.Rows L2
def W (x : Option Oc) (P : Oc → Prop) : Prop := ∃ o, x = some o ∧ P o
section
variable {P P' : Oc → Prop} {x y : SM} {g : Stt} {q : Q}
theorem W.imp {a : Option Oc} (h : W a P) (k : ∀ o, P o → P' o) : W a P' := let ⟨o, e, p⟩ := h; ⟨o, e, k o p⟩
theorem w_nx {g' : Stt} (h : x g = some (.nx g')) (k : P (.nx g')) : W (x g) P := ⟨_, h, k⟩
theorem w_rt (h : x g = some (.rt q)) (k : P (.rt q)) : W (x g) P := ⟨_, h, k⟩
theorem w_to {o : Oc} (h : x g = some o) (k : P o) : W (x g) P := ⟨_, h, k⟩
def andThen (y : SM) (P : Oc → Prop) : Oc → Prop
  | .nx g' => W (y g') P
  | .rt q => P (.rt q)
  | .bk g' => P (.bk g')
  | .ct g' => P (.ct g')
theorem w_seq (h : W (x g) (andThen y P)) : W (sSeq x y g) P := by
  obtain ⟨o, e, p⟩ := h
  unfold sSeq
  rw [e]
  cases o with
  | nx g' => exact p
  | rt q => exact ⟨_, rfl, p⟩
  | bk g' => exact ⟨_, rfl, p⟩
  | ct g' => exact ⟨_, rfl, p⟩
/-- a step that goes on, in one known way -/
theorem w_st {g' : Stt} (h : x g = some (.nx g')) (k : W (y g') P) : W (sSeq x y g) P := w_seq ⟨_, h, k⟩
theorem seq_nx {g' : Stt} (h : x g = some (.nx g')) : sSeq x y g = y g' := by unfold sSeq; rw [h]
theorem seq_rt (h : x g = some (.rt q)) : sSeq x y g = some (.rt q) := by unfold sSeq; rw [h]
theorem w_frz {i : Nat} (h : W (x (frz i g)) P) : W (sFrz i x g) P := h
theorem w_if {t : TM} {b : Bool} (h : t g = some b) (h1 : b = true → W (x g) P) (h2 : b = false → W (y g) P) : W (sIf t x y g) P := by
  unfold sIf
  rw [h]
  cases b
  · exact h2 rfl
  · exact h1 rfl
theorem w_ifT {t : TM} (h : t g = some true) (h1 : W (x g) P) : W (sIf t x y g) P := w_if h (fun _ => h1) (fun z => nomatch z)
theorem w_ifF {t : TM} (h : t g = some false) (h1 : W (y g) P) : W (sIf t x y g) P := w_if h (fun z => nomatch z) (fun _ => h1)
/-- the turn of a loop: goes on by I, or ends by P -/
def turn (I : Stt → Prop) (P : Oc → Prop) : Oc → Prop
  | .nx g => I g
  | .ct g => I g
  | .bk g => P (.nx g)
  | .rt q => P (.rt q)
theorem w_run {gm : GM} {s : SM} : ∀ (ds : List PyData) (I : Nat → Stt → Prop) (g : Stt), I 0 g → (∀ k d g, ds[k]? = some d → I k g → ∃ g1, gm d g = some g1 ∧ W (s g1) (turn (I (k + 1)) P)) → (∀ g, I ds.length g → P (.nx g)) → W (forRun gm s ds g) P
  | [], I, g, h0, _, hd => ⟨_, rfl, hd g h0⟩
  | d :: ds, I, g, h0, hs, hd => by
    obtain ⟨g1, e1, o, e2, p⟩ := hs 0 d g rfl h0
    unfold forRun
    simp only [e1, e2]
    have go : ∀ g2, I 1 g2 → W (forRun gm s ds g2) P := fun g2 p => w_run ds (fun k => I (k + 1)) g2 p (fun k d' g' hk hi => hs (k + 1) d' g' (by simpa using hk) hi) (fun g' hi => hd g' hi)
    cases o with
    | nx g2 => exact go g2 p
    | ct g2 => exact go g2 p
    | bk g2 => exact ⟨_, rfl, p⟩
    | rt q => exact ⟨_, rfl, p⟩
theorem w_for {im : IM} {gm : GM} {s : SM} {ds : List PyData} (hi : im g = some ds) (I : Nat → Stt → Prop) (h0 : I 0 g) (hs : ∀ k d g, ds[k]? = some d → I k g → ∃ g1, gm d g = some g1 ∧ W (s g1) (turn (I (k + 1)) P)) (hd : ∀ g, I ds.length g → P (.nx g)) : W (sFor im gm s g) P := by
  unfold sFor
  rw [hi]
  exact w_run ds I g h0 hs hd
/-- for x in range(n) -/
theorem w_forN {im : IM} {gm : GM} {s : SM} {n : Nat} (hi : im g = some (rg1 n)) (I : Nat → Stt → Prop) (h0 : I 0 g) (hs : ∀ k g, k < n → I k g → ∃ g1, gm (.int (k : Nat)) g = some g1 ∧ W (s g1) (turn (I (k + 1)) P)) (hd : ∀ g, I n g → P (.nx g)) : W (sFor im gm s g) P := by
  refine w_for hi I h0 (fun k d g hk hi => ?_) (fun g hg => hd g (by simpa [rg1] using hg))
  unfold rg1 at hk
  rw [List.getElem?_map] at hk
  cases e : (List.range n)[k]? with
  | none => rw [e] at hk; cases hk
  | some z =>
    rw [e] at hk
    obtain ⟨h1, h2⟩ := List.getElem?_eq_some_iff.mp e
    rw [List.getElem_range] at h2
    subst h2
    cases hk
    exact hs k g (by simpa using h1) hi
/-- for x in a list of f-things -/
theorem w_forM {α : Type} {im : IM} {gm : GM} {s : SM} {xs : List α} {f : α → PyData} (hi : im g = some (xs.map f)) (I : Nat → Stt → Prop) (h0 : I 0 g) (hs : ∀ k x g, xs[k]? = some x → I k g → ∃ g1, gm (f x) g = some g1 ∧ W (s g1) (turn (I (k + 1)) P)) (hd : ∀ g, I xs.length g → P (.nx g)) : W (sFor im gm s g) P := by
  refine w_for hi I h0 (fun k d g hk hi => ?_) (fun g hg => hd g (by simpa using hg))
  rw [List.getElem?_map] at hk
  cases e : xs[k]? with
  | none => rw [e] at hk; cases hk
  | some z => rw [e] at hk; cases hk; exact hs k z g e hi
theorem w_while {tm : TM} {s : SM} (I : Nat → Stt → Prop) (m : Nat) (h0 : I m g) (hs : ∀ m g, I m g → ∃ b, tm g = some b ∧ (b = true → W (s g) (turn (fun g' => ∃ m', m' < m ∧ I m' g') P)) ∧ (b = false → P (.nx g))) : W (sWhile tm s g) P := by
  suffices h : ∀ n m g, m < n → I m g → ∃ o, itW tm s n g = some o ∧ P o by
    obtain ⟨o, e, p⟩ := h (m + 1) m g (Nat.lt_succ_self _) h0
    exact ⟨o, sWhile_by e, p⟩
  intro n
  induction n with
  | zero => intro m g h; omega
  | succ n ih =>
    intro m g hm hI
    obtain ⟨b, e, h1, h2⟩ := hs m g hI
    unfold itW
    rw [e]
    cases b with
    | false => exact ⟨_, rfl, h2 rfl⟩
    | true =>
      obtain ⟨o, e2, p⟩ := h1 rfl
      simp only [e2]
      cases o with
      | nx g2 => obtain ⟨m', hm', hI'⟩ := p; exact ih m' g2 (by omega) hI'
      | ct g2 => obtain ⟨m', hm', hI'⟩ := p; exact ih m' g2 (by omega) hI'
      | bk g2 => exact ⟨_, rfl, p⟩
      | rt q => exact ⟨_, rfl, p⟩
def isR (q : Q) : Oc → Prop
  | .rt q' => q' = q
  | .nx _ => q = .v .none
  | _ => False
theorem fin_of {s : SM} (h : W (s g) (isR q)) : fin (s g) = some q := by
  obtain ⟨o, e, p⟩ := h
  rw [e]
  cases o with
  | rt q' => exact congrArg some p
  | nx g' => exact congrArg some (show Q.v .none = q from Eq.symm p)
  | _ => exact p.elim
theorem run_rt {N k : Nat} {s : SM} {vs : List PyData} (hl : vs.length = k) (h : s (entM N vs) = some (.rt q)) : runM N k s vs = some q := by rw [runM_eq hl, h]; rfl
theorem run_of {N k : Nat} {s : SM} {vs : List PyData} (hl : vs.length = k) (h : W (s (entM N vs)) (isR q)) : runM N k s vs = some q := by rw [runM_eq hl]; exact fin_of h
end
/-! what is refused -/
section
variable {P : Oc → Prop} {x y : SM} {g : Stt} {tab : Tab} {sm : SM} {xm : XM} {nm T : Str}
theorem w_try {hs : List (Str × SM)} (h : xm g = some nm) (k : W (hRun tab nm hs g) P) : W (sTry tab sm xm hs g) P := by
  unfold sTry
  rw [h]
  exact k
theorem w_tryN {hs : List (Str × SM)} {g' : Stt} (h : xm g = none) (h2 : sm g = some (.nx g')) (k : P (.nx g')) : W (sTry tab sm xm hs g) P := by
  unfold sTry
  rw [h, h2]
  exact ⟨_, rfl, k⟩
theorem w_hT {s : SM} {hs : List (Str × SM)} (h : isub tab nm T = some true) (k : W (s g) P) : W (hRun tab nm ((T, s) :: hs) g) P := by
  unfold hRun
  rw [h]
  exact k
theorem w_hF {s : SM} {hs : List (Str × SM)} (h : isub tab nm T = some false) (k : W (hRun tab nm hs g) P) : W (hRun tab nm ((T, s) :: hs) g) P := by
  unfold hRun
  rw [h]
  exact k
theorem w_tryA {s : Str → Addr → SM} {i : Nat} {o : Oc} (h : xm g = some nm) (hT : isub tab nm T = some true) (hi : i < g.length) (hs : ∀ a, W (s nm a (g.set i (some (.v (exc a))))) (fun o' => dropOc i o' = o)) (k : P o) : W (sTryA tab sm xm i T s g) P := by
  have : sTryA tab sm xm i T s g = some o := by
    unfold sTryA
    rw [h]
    simp only [hT]
    refine sSuite_of hi fun a => ?_
    obtain ⟨o', e, p⟩ := hs a
    rw [e]
    exact congrArg some p
  exact ⟨_, this, k⟩
theorem runx_of {N k : Nat} {s : XM} {vs : List PyData} (hl : vs.length = k) (h : s (entM N vs) = some nm) : runX N k s vs = some nm := by rw [runX_eq hl]; exact h
theorem runx_no {N k : Nat} {s : XM} {vs : List PyData} (hl : vs.length = k) (h : s (entM N vs) = none) : runX N k s vs = none := by rw [runX_eq hl]; exact h
end
/-! comprehensions -/
theorem lc_map {gm : GM} {em : EM} {g : Stt} {α : Type} {inj f : α → PyData} : ∀ {xs : List α}, (∀ x ∈ xs, ∃ g1 b, gm (inj x) g = some g1 ∧ em g1 = some (b, f x) ∧ (b || imm (f x)) = true) → lcRun gm mYes em g (xs.map inj) = some (xs.map f)
  | [], _ => rfl
  | x :: xs, h => by
    obtain ⟨g1, b, e1, e2, e3⟩ := h x (by simp)
    rw [List.map_cons, lcRun]
    simp only [e1, e2, e3, mYes, if_true]
    rw [lc_map fun y hy => h y (by simp [hy])]
    rfl
theorem lc_filter {gm : GM} {tm : TM} {em : EM} {g : Stt} {α : Type} {inj f : α → PyData} {p : α → Bool} : ∀ {xs : List α}, (∀ x ∈ xs, ∃ g1, gm (inj x) g = some g1 ∧ tm g1 = some (p x) ∧ (p x = true → ∃ b, em g1 = some (b, f x) ∧ (b || imm (f x)) = true)) → lcRun gm tm em g (xs.map inj) = some ((xs.filter p).map f)
  | [], _ => rfl
  | x :: xs, h => by
    obtain ⟨g1, e1, e2, e3⟩ := h x (by simp)
    have ih := lc_filter fun y (hy : y ∈ xs) => h y (by simp [hy])
    rw [List.map_cons, lcRun]
    simp only [e1, e2]
    cases hp : p x with
    | true =>
      obtain ⟨b, e4, e5⟩ := e3 hp
      simp only [e4, e5, if_true, ih]
      rw [List.filter_cons_of_pos hp]
      rfl
    | false =>
      simp only [ih]
      rw [List.filter_cons_of_neg (by rw [hp]; exact Bool.false_ne_true)]
theorem rLc_map {im : IM} {gm : GM} {em : EM} {vs : List Nat} {g : Stt} {α : Type} {inj f : α → PyData} {xs : List α} (hi : im g = some (xs.map inj)) (hn : noOw g vs = true) (hl : xs.length ≤ 100000) (h : ∀ x ∈ xs, ∃ g1 b, gm (inj x) (wipeS g vs) = some g1 ∧ em g1 = some (b, f x) ∧ (b || imm (f x)) = true) : rLc im gm mYes em vs g = some (.l (xs.map f)) := by
  unfold rLc
  simp only [hi, hn, List.length_map, hl, decide_true, Bool.and_self, if_true]
  rw [lc_map h]
theorem rLc_filter {im : IM} {gm : GM} {tm : TM} {em : EM} {vs : List Nat} {g : Stt} {α : Type} {inj f : α → PyData} {p : α → Bool} {xs : List α} (hi : im g = some (xs.map inj)) (hn : noOw g vs = true) (hl : xs.length ≤ 100000) (h : ∀ x ∈ xs, ∃ g1, gm (inj x) (wipeS g vs) = some g1 ∧ tm g1 = some (p x) ∧ (p x = true → ∃ b, em g1 = some (b, f x) ∧ (b || imm (f x)) = true)) : rLc im gm tm em vs g = some (.l ((xs.filter p).map f)) := by
  unfold rLc
  simp only [hi, hn, List.length_map, hl, decide_true, Bool.and_self, if_true]
  rw [lc_filter h]
theorem rg1_map (n : Nat) : rg1 n = (List.range n).map fun k : Nat => PyData.int (k : Nat) := rfl
end TB
namespace TB
open PySem PySem.Spec PyProof.Rows L2
theorem asInts_mapF {α : Type} {f : α → Int} : ∀ xs : List α, asInts (xs.map fun x => PyData.int (f x)) = some (xs.map f)
  | [] => rfl
  | x :: xs => by rw [List.map_cons, asInts, asInts_mapF xs]; rfl
theorem zip_map {α β : Type} {f : α → PyData} {h : β → PyData} : ∀ (xs : List α) (ys : List β), List.zipWith pair (xs.map f) (ys.map h) = (xs.zip ys).map fun p => pair (f p.1) (h p.2)
  | [], _ => rfl
  | x :: xs, [] => rfl
  | x :: xs, y :: ys => by
    rw [List.map_cons, List.map_cons, List.zipWith_cons_cons, List.zip_cons_cons, List.map_cons, zip_map]
theorem cut_map {α : Type} {f : α → PyData} (xs : List α) (lo hi : Option Int) : cutD (xs.map f) lo hi = ((xs.drop (HT.sIx xs.length 0 lo)).take (HT.sIx xs.length xs.length hi - HT.sIx xs.length 0 lo)).map f := by
  unfold cutD
  rw [List.length_map, ← List.map_drop, ← List.map_take]
theorem cut_init {α : Type} {f : α → PyData} (xs : List α) : cutD (xs.map f) none (some (-1)) = xs.dropLast.map f := by
  rw [cut_map]
  congr 1
  have : HT.sIx xs.length xs.length (some (-1)) = xs.length - 1 := by unfold HT.sIx; simp; omega
  rw [this]
  have : HT.sIx xs.length 0 none = 0 := rfl
  rw [this, List.drop_zero, Nat.sub_zero, List.dropLast_eq_take]
theorem cut_tail {α : Type} {f : α → PyData} (xs : List α) : cutD (xs.map f) (some 1) none = (xs.drop 1).map f := by
  rw [cut_map]
  congr 1
  have e1 : HT.sIx xs.length xs.length none = xs.length := rfl
  have e2 : HT.sIx xs.length 0 (some 1) = min 1 xs.length := by unfold HT.sIx; simp
  rw [e1, e2]
  rcases xs with _ | ⟨x, xs⟩
  · rfl
  · simp
theorem atI_lastM {α β : Type} {f : α → β} {xs : List α} {x : α} (h : xs.getLast? = some x) : L2.atI (xs.map f) (-1) = some (f x) := by
  obtain ⟨ys, rfl⟩ : ∃ ys, xs = ys ++ [x] := by
    rcases xs.eq_nil_or_concat with e | ⟨ys, y, e⟩
    · rw [e] at h; cases h
    · rw [e, List.concat_eq_append, List.getLast?_append] at h
      simp at h
      exact ⟨ys, by rw [e, List.concat_eq_append, h]⟩
  rw [List.map_append]
  exact L2.atI_last _ _
theorem atI_natM {α β : Type} {f : α → β} {xs : List α} {k : Nat} {x : α} (h : xs[k]? = some x) : L2.atI (xs.map f) ((k : Nat) : Int) = some (f x) := L2.atI_nat (by rw [List.getElem?_map, h]; rfl)
theorem atI_intM {α β : Type} {f : α → β} {xs : List α} {i : Int} (h0 : 0 ≤ i) (h1 : i < (xs.length : Nat)) : ∃ x, xs[i.toNat]? = some x ∧ L2.atI (xs.map f) i = some (f x) := by
  have hk : i.toNat < xs.length := by omega
  refine ⟨xs[i.toNat], List.getElem?_eq_getElem hk, ?_⟩
  have := atI_natM (f := f) (List.getElem?_eq_getElem hk)
  rwa [show ((i.toNat : Nat) : Int) = i by omega] at this
theorem imms_ints : ∀ l : List Int, imms (l.map .int) = true
  | [] => rfl
  | x :: l => by rw [List.map_cons, imms, imms_ints l]; rfl
theorem imms_intsF {α : Type} {f : α → Int} : ∀ l : List α, imms (l.map fun x => PyData.int (f x)) = true
  | [] => rfl
  | x :: l => by rw [List.map_cons, imms, imms_intsF l]; rfl
theorem pLen_l (ds : List PyData) : pLen (.list ds) = some (.int (ds.length : Nat)) := rfl
theorem pLen_t (ds : List PyData) : pLen (.tuple ds) = some (.int (ds.length : Nat)) := rfl
theorem pIx_l (ds : List PyData) (k : Int) : pIx (.list ds) (.int k) = L2.atI ds k := rfl
theorem pIx_t (ds : List PyData) (k : Int) : pIx (.tuple ds) (.int k) = L2.atI ds k := rfl
theorem pIx_d (D : KD) (k : Key) : pIx (.dict (kk D)) (kD k) = valD D k := by
  show (match unkk (kk D) with | some D => (match keyOf (kD k) with | some k => valD D k | none => none) | none => none) = _
  rw [unkk_kk, keyOf_D]
theorem pIx_di (D : KD) (k : Int) : pIx (.dict (kk D)) (.int k) = valD D (.inl k) := pIx_d D (.inl k)
theorem pIn_di (D : KD) (k : Int) : pIn (.int k) (.dict (kk D)) = some (.bool (valD D (.inl k)).isSome) := by
  show (match unkk (kk D) with | some D => (match keyOf (.int k) with | some k => some (PyData.bool (valD D k).isSome) | none => none) | none => none) = _
  rw [unkk_kk]; rfl
theorem pLen_d (D : KD) : pLen (.dict (kk D)) = some (.int (D.length : Nat)) := by
  show (match unkk (kk D) with | some D => some (PyData.int (D.length : Nat)) | none => none) = _
  rw [unkk_kk]
theorem pSum_l {ds : List PyData} {ks : List Int} (h : asInts ds = some ks) : pSum (.list ds) = some (.int ks.sum) := by unfold pSum; simp only [h]
theorem pSum_t {ds : List PyData} {ks : List Int} (h : asInts ds = some ks) : pSum (.tuple ds) = some (.int ks.sum) := by unfold pSum; simp only [h]
theorem pMin_l {ds : List PyData} {ks : List Int} (h : asInts ds = some ks) (h0 : 0 < ks.length) : pMin (.list ds) = some (.int (minL ks)) := by unfold pMin; simp only [h, h0, if_true]
theorem pMax_l {ds : List PyData} {ks : List Int} (h : asInts ds = some ks) (h0 : 0 < ks.length) : pMax (.list ds) = some (.int (maxL ks)) := by unfold pMax; simp only [h, h0, if_true]
theorem pEq_i (a b : Int) : pEq (.int a) (.int b) = some (.bool (decide (a = b))) := by rw [← eqv_int]; exact if_pos rfl
theorem pNe_i (a b : Int) : pNe (.int a) (.int b) = some (.bool (!decide (a = b))) := by rw [← eqv_int]; exact if_pos rfl
theorem pIs_n (d : PyData) : pIs d .none = some (.bool (isV d .none)) := rfl
theorem pIsNot_n (d : PyData) : pIsNot d .none = some (.bool (!isV d .none)) := rfl
theorem pAdd_l {xs ys : List PyData} (h : xs.length + ys.length ≤ 100000) : pAdd (.list xs) (.list ys) = some (.list (xs ++ ys)) := by unfold pAdd; simp only [h, if_true]
theorem pAdd_t {xs ys : List PyData} (h : xs.length + ys.length ≤ 100000) : pAdd (.tuple xs) (.tuple ys) = some (.tuple (xs ++ ys)) := by unfold pAdd; simp only [h, if_true]
theorem pAdd_i (a b : Int) : pAdd (.int a) (.int b) = some (.int (a + b)) := rfl
theorem isV_i (a : Int) : isV (.int a) .none = false := rfl
theorem isV_l (a : List PyData) : isV (.list a) .none = false := rfl
theorem isV_t (a : List PyData) : isV (.tuple a) .none = false := rfl
theorem isV_n : isV .none .none = true := rfl
theorem iR1_of {e : EM} {g : Stt} {b : Bool} {n : Nat} (h : e g = some (b, .int (n : Nat))) (hn : n ≤ 100000) : iR1 e g = some (rg1 n) := by
  unfold iR1
  simp only [h]
  rw [if_pos (by rw [Bool.and_eq_true]; exact ⟨decide_eq_true (by omega), decide_eq_true (by omega)⟩), Int.toNat_natCast]
theorem rLRg_of {e : EM} {g : Stt} {b : Bool} {n : Nat} (h : e g = some (b, .int (n : Nat))) (hn : n ≤ 100000) : rLRg e g = some (.l (rg1 n)) := by
  unfold rLRg
  simp only [h]
  rw [if_pos (by rw [Bool.and_eq_true]; exact ⟨decide_eq_true (by omega), decide_eq_true (by omega)⟩), Int.toNat_natCast]
theorem shapedI (l : List Int) : SeqAt.shaped (.list (l.map .int)) = true := by
  have h : ∀ l : List Int, PyData.canLayAll0 (l.map .int) = true ∧ PyData.depthAll (l.map .int) = 0 := fun l => by
    induction l with
    | nil => exact ⟨rfl, rfl⟩
    | cons x l ih =>
      refine ⟨?_, ?_⟩
      · rw [List.map_cons, PyData.canLayAll0, ih.1]; rfl
      · rw [List.map_cons, PyData.depthAll, ih.2]; rfl
  obtain ⟨h1, h2⟩ := h l
  unfold SeqAt.shaped
  rw [Bool.and_eq_true]
  exact ⟨by rw [PyData.canLay0]; exact h1, decide_eq_true (by rw [PyData.depth, h2]; decide)⟩
theorem pEq_self {d : PyData} (h : SeqAt.shaped d = true) : pEq d d = some (.bool true) := by
  unfold pEq
  rw [h, PySem.SeqAt.eqv_refl d (shaped_lay h)]
  rfl
theorem any_ints {l : List Int} {k : Int} : ((l.map PyData.int).any fun z => PyData.eqv z (.int k)) = decide (k ∈ l) := by
  rw [List.any_map]
  induction l with
  | nil => rfl
  | cons x l ih =>
    rw [List.any_cons, ih]
    show (PyData.eqv (.int x) (.int k) || _) = _
    rw [eqv_int]
    by_cases h : x = k
    · subst h; simp
    · have : ¬ k = x := fun z => h z.symm
      simp [h, this]
theorem pIn_ints (l : List Int) (k : Int) : pIn (.int k) (.list (l.map .int)) = some (.bool (decide (k ∈ l))) := by
  show (if SeqAt.shaped (.int k) && SeqAt.shaped (.list (l.map .int)) then _ else _) = _
  rw [shapedI, any_ints]
  rfl
theorem pNotIn_ints (l : List Int) (k : Int) : pNotIn (.int k) (.list (l.map .int)) = some (.bool (!decide (k ∈ l))) := by
  show (if SeqAt.shaped (.int k) && SeqAt.shaped (.list (l.map .int)) then _ else _) = _
  rw [shapedI, any_ints]
  rfl
theorem w_lc {P : Oc → Prop} {i : Nat} {r : RM} {y : SM} {g g' : Stt} {q : Q} (h : r g = some q) (hi : decide (i < g.length) = true) (hg : g.set i (some (.v q.full)) = g') (k : W (y g') P) : W (sSeq (sAsg i (eR r)) y g) P := by
  refine w_st (g' := g') ?_ k
  rw [sAsg_a, eR_a, h]
  simp only [Bool.true_or, Bool.true_and, hi, if_true, hg]
theorem w_lcR {P : Oc → Prop} {i : Nat} {r : RM} {y : SM} {g g' : Stt} {q : Q} (h : r g = some q) (hi : decide (i < g.length) = true) (hg : g.set i (some q) = g') (k : W (y g') P) : W (sSeq (sAsgR i r) y g) P := by
  refine w_st (g' := g') ?_ k
  rw [sAsgR_a, h]
  simp only [of_decide_eq_true hi, if_true, hg]
theorem cMul_s {a b : Int} (h1 : -10000000000000000000000000000000000000000000000000000000000000000000000 < a) (h2 : a < 10000000000000000000000000000000000000000000000000000000000000000000000)
    (h3 : -10000000000000000000000000000000000000000000000000000000000000000000000 < b) (h4 : b < 10000000000000000000000000000000000000000000000000000000000000000000000) : cMul a b = true := decide_eq_true (cm_om h1 h2 h3 h4)
theorem cMul_of {a b : Int} (h : CMulX a b) : cMul a b = true := decide_eq_true h
theorem cDiv_s {b : Int} (h1 : 0 < b) (h2 : b < 10000000000000000000000000000000000000000000000000000000000000000000000) : cDiv b = true := by
  unfold cDiv
  rw [Bool.and_eq_true]
  exact ⟨decide_eq_true h1, decide_eq_true (lg_om h1 h2)⟩
theorem cPos_s {b : Int} (h1 : 0 < b) : decide (0 < b) = true := decide_eq_true h1
theorem pPow_9 : pPow (.int 10) (.int 9) = some (.int 1000000000) := by
  show (if cPow 10 9 then some (PyData.int ((10 : Int) ^ (9 : Int).toNat)) else none) = _
  rw [if_pos (by decide)]
  exact congrArg (fun x => some (PyData.int x)) (show (10 : Int) ^ 9 = 1000000000 by decide)
theorem pPow_10 : pPow (.int 10) (.int 10) = some (.int 10000000000) := by
  show (if cPow 10 10 then some (PyData.int ((10 : Int) ^ (10 : Int).toNat)) else none) = _
  rw [if_pos (by decide)]
  exact congrArg (fun x => some (PyData.int x)) (show (10 : Int) ^ 10 = 10000000000 by decide)
theorem pPow_12 : pPow (.int 10) (.int 12) = some (.int 1000000000000) := by
  show (if cPow 10 12 then some (PyData.int ((10 : Int) ^ (12 : Int).toNat)) else none) = _
  rw [if_pos (by decide)]
  exact congrArg (fun x => some (PyData.int x)) (show (10 : Int) ^ 12 = 1000000000000 by decide)
theorem pPow_15 : pPow (.int 10) (.int 15) = some (.int 1000000000000000) := by
  show (if cPow 10 15 then some (PyData.int ((10 : Int) ^ (15 : Int).toNat)) else none) = _
  rw [if_pos (by decide)]
  exact congrArg (fun x => some (PyData.int x)) (show (10 : Int) ^ 15 = 1000000000000000 by decide)
theorem pPow_17 : pPow (.int 10) (.int 17) = some (.int 100000000000000000) := by
  show (if cPow 10 17 then some (PyData.int ((10 : Int) ^ (17 : Int).toNat)) else none) = _
  rw [if_pos (by decide)]
  exact congrArg (fun x => some (PyData.int x)) (show (10 : Int) ^ 17 = 100000000000000000 by decide)
theorem pPow_18 : pPow (.int 10) (.int 18) = some (.int 1000000000000000000) := by
  show (if cPow 10 18 then some (PyData.int ((10 : Int) ^ (18 : Int).toNat)) else none) = _
  rw [if_pos (by decide)]
  exact congrArg (fun x => some (PyData.int x)) (show (10 : Int) ^ 18 = 1000000000000000000 by decide)
theorem pPow_19 : pPow (.int 10) (.int 19) = some (.int 10000000000000000000) := by
  show (if cPow 10 19 then some (PyData.int ((10 : Int) ^ (19 : Int).toNat)) else none) = _
  rw [if_pos (by decide)]
  exact congrArg (fun x => some (PyData.int x)) (show (10 : Int) ^ 19 = 10000000000000000000 by decide)
theorem pPow_20 : pPow (.int 10) (.int 20) = some (.int 100000000000000000000) := by
  show (if cPow 10 20 then some (PyData.int ((10 : Int) ^ (20 : Int).toNat)) else none) = _
  rw [if_pos (by decide)]
  exact congrArg (fun x => some (PyData.int x)) (show (10 : Int) ^ 20 = 100000000000000000000 by decide)
theorem pPow_21 : pPow (.int 10) (.int 21) = some (.int 1000000000000000000000) := by
  show (if cPow 10 21 then some (PyData.int ((10 : Int) ^ (21 : Int).toNat)) else none) = _
  rw [if_pos (by decide)]
  exact congrArg (fun x => some (PyData.int x)) (show (10 : Int) ^ 21 = 1000000000000000000000 by decide)
theorem pPow_25 : pPow (.int 10) (.int 25) = some (.int 10000000000000000000000000) := by
  show (if cPow 10 25 then some (PyData.int ((10 : Int) ^ (25 : Int).toNat)) else none) = _
  rw [if_pos (by decide)]
  exact congrArg (fun x => some (PyData.int x)) (show (10 : Int) ^ 25 = 10000000000000000000000000 by decide)
theorem pPow_28 : pPow (.int 10) (.int 28) = some (.int 10000000000000000000000000000) := by
  show (if cPow 10 28 then some (PyData.int ((10 : Int) ^ (28 : Int).toNat)) else none) = _
  rw [if_pos (by decide)]
  exact congrArg (fun x => some (PyData.int x)) (show (10 : Int) ^ 28 = 10000000000000000000000000000 by decide)
theorem pPow_30 : pPow (.int 10) (.int 30) = some (.int 1000000000000000000000000000000) := by
  show (if cPow 10 30 then some (PyData.int ((10 : Int) ^ (30 : Int).toNat)) else none) = _
  rw [if_pos (by decide)]
  exact congrArg (fun x => some (PyData.int x)) (show (10 : Int) ^ 30 = 1000000000000000000000000000000 by decide)
theorem pPow_39 : pPow (.int 10) (.int 39) = some (.int 1000000000000000000000000000000000000000) := by
  show (if cPow 10 39 then some (PyData.int ((10 : Int) ^ (39 : Int).toNat)) else none) = _
  rw [if_pos (by decide)]
  exact congrArg (fun x => some (PyData.int x)) (show (10 : Int) ^ 39 = 1000000000000000000000000000000000000000 by decide)
theorem pPow_40 : pPow (.int 10) (.int 40) = some (.int T40) := by
  show (if cPow 10 40 then some (PyData.int ((10 : Int) ^ (40 : Int).toNat)) else none) = _
  rw [if_pos (by decide)]
  exact congrArg (fun x => some (PyData.int x)) (show (10 : Int) ^ 40 = T40 by decide)
theorem pPow_59 : pPow (.int 10) (.int 59) = some (.int 100000000000000000000000000000000000000000000000000000000000) := by
  show (if cPow 10 59 then some (PyData.int ((10 : Int) ^ (59 : Int).toNat)) else none) = _
  rw [if_pos (by decide)]
  exact congrArg (fun x => some (PyData.int x)) (show (10 : Int) ^ 59 = 100000000000000000000000000000000000000000000000000000000000 by decide)
end TB

namespace TB
open PySem PySem.Spec PyProof.Rows L2
section
variable {K : PySem.W.Frag} {m : Md} {ta tb tc : TE} {G : Sl}
theorem de_leC {a b c : Int} (ha : DE K none ta G (.int a)) (hb : DE K none tb G (.int b)) (hc : DE K none tc G (.int c)) : DE K m (tChain rLe rLe ta tb tc) G (.bool (decide (a ≤ b) && decide (b ≤ c))) := de_chain opd_le (fun _ => opd_le) ha hb (fun _ => hc)
theorem de_leLtC {a b c : Int} (ha : DE K none ta G (.int a)) (hb : DE K none tb G (.int b)) (hc : DE K none tc G (.int c)) : DE K m (tChain rLe rLt ta tb tc) G (.bool (decide (a ≤ b) && decide (b < c))) := de_chain opd_le (fun _ => opd_lt) ha hb (fun _ => hc)
end
local macro_rules | `(tactic| fail "side") => `(tactic| ((fail_if_success with_reducible apply gd_de); (fail_if_success with_reducible apply gd_da); (fail_if_success with_reducible apply gd_dt); first | with_reducible assumption | rfl | exact Nat.le_of_ble_eq_true rfl | decide | omega | exact cm_om (by omega) (by omega) (by omega) (by omega) | exact lg_om (by omega) (by omega) | assumption))
local macro_rules | `(tactic| fail "g") => `(tactic| first
  | ((with_reducible apply gd_da); first
    | with_reducible exact da_nil
    | ((with_reducible apply da_cons) <;> fail "g"))
  | ((with_reducible apply gd_var); first
    | ((with_reducible apply de_sh) <;> rfl)
    | ((with_reducible apply de_shI) <;> first | rfl | assumption)
    | ((with_reducible apply de_own); rfl))
  | ((with_reducible apply gd_c); first
    | with_reducible exact de_int
    | with_reducible exact de_bl
    | with_reducible exact de_non
    | with_reducible exact de_str)
  | ((with_reducible apply gd_op); first
    | ((with_reducible apply de_add) <;> fail "g")
    | ((with_reducible apply de_sub) <;> fail "g")
    | ((with_reducible apply de_mul) <;> fail "g")
    | ((with_reducible apply de_mod) <;> fail "g")
    | ((with_reducible apply de_floor) <;> fail "g")
    | with_reducible exact de_p9
    | with_reducible exact de_p12
    | with_reducible exact de_p15
    | with_reducible exact de_p18
    | with_reducible exact de_p20
    | with_reducible exact de_p25
    | with_reducible exact de_p30
    | with_reducible exact de_p40
    | ((with_reducible apply de_lt) <;> fail "g")
    | ((with_reducible apply de_le) <;> fail "g")
    | ((with_reducible apply de_gt) <;> fail "g")
    | ((with_reducible apply de_ge) <;> fail "g")
    | ((with_reducible apply de_eqI) <;> fail "g")
    | ((with_reducible apply de_neI) <;> fail "g")
    | ((with_reducible apply de_eq) <;> fail "g")
    | ((with_reducible apply de_ne) <;> fail "g")
    | ((with_reducible apply de_is) <;> fail "g")
    | ((with_reducible apply de_isNot) <;> fail "g")
    | ((with_reducible apply de_ixT) <;> fail "g")
    | ((with_reducible apply de_ixL) <;> fail "g"))
  | ((with_reducible apply gd_cb); first
    | ((with_reducible apply de_lenL) <;> fail "g")
    | ((with_reducible apply de_lenT) <;> fail "g")
    | ((with_reducible apply de_isiA) <;> fail "g")
    | ((with_reducible apply de_intI) <;> fail "g")
    | ((with_reducible apply de_intB) <;> fail "g")
    | ((with_reducible apply de_sumL) <;> fail "g")
    | ((with_reducible apply de_sumT) <;> fail "g")
    | ((with_reducible apply de_minL) <;> fail "g")
    | ((with_reducible apply de_minT) <;> fail "g")
    | ((with_reducible apply de_maxL) <;> fail "g")
    | ((with_reducible apply de_max2) <;> fail "g")
    | ((with_reducible apply de_tupL) <;> fail "g")
    | ((with_reducible apply de_tupM) <;> fail "g"))
  | ((with_reducible apply gd_dt); first
    | ((with_reducible apply dt_test) <;> fail "g")
    | ((with_reducible apply dt_B) <;> fail "g")
    | ((with_reducible apply dt_not) <;> fail "g")
    | ((with_reducible apply dt_and) <;> fail "g")
    | ((with_reducible apply dt_or) <;> fail "g"))
  | ((with_reducible apply gd_de); first
    | ((with_reducible apply de_tup) <;> fail "g")
    | ((with_reducible apply de_lst) <;> fail "g")
    | with_reducible exact de_dnew
    | ((with_reducible apply de_leC) <;> fail "g")
    | ((with_reducible apply de_leLtC) <;> fail "g")
    | ((with_reducible apply de_andV) <;> fail "g")
    | ((with_reducible apply de_orV) <;> fail "g")
    | ((with_reducible apply de_notV) <;> fail "g")
    | ((with_reducible apply de_neg) <;> fail "g"))
  | (intro _; fail "g")
  | fail "call"
  | fail "side")

def isI : PyData → Bool
  | .int _ => true
  | _ => false
def isIB : PyData → Bool
  | .int _ => true
  | .bool _ => true
  | _ => false
def isBl : PyData → Bool
  | .bool _ => true
  | _ => false

/-! ### _law_int -/
def sp_l_int (K : PySem.W.Frag) : Sp := spD K (ι := PyData) (fun d => [d]) (fun d => exK d = false) (fun d r => r = .val true (.bool (isI d)))
/- 0 _law_found -/
def N_l_int : List Str := ["_law_found"]
def t_l_int (K : PySem.W.Frag) : TS :=
  tRet (tAndV (tCB (rIsiA K) (tCons (tVar 0) (tCons (tC (.ty "int")) tNil))) (tNotV (tCB (rIsiA K) (tCons (tVar 0) (tCons (tC (.ty "bool")) tNil)))))
theorem ds_l_int {K : PySem.W.Frag} (d : PyData) (hx : exK d = false) : DS K (t_l_int K) (ent ["_law_found"] [d]) { nx := fun _ => R.val true .none = R.val true (.bool (isI d)), rt := fun r => r = .val true (.bool (isI d)) } := by
  show DS K (tRet _) [some (.sh false d)] _
  refine ds_retD (n := true) (d := .bool (isI d)) ?_ rfl
  have hb : kitB (tyD d) "int" = some (isIB d) := by cases d <;> rfl
  have hc : kitB (tyD d) "bool" = some (isBl d) := by cases d <;> rfl
  refine de_to (by fail "g") ?_
  cases d <;> rfl
theorem call_l_int {K : PySem.W.Frag} {m : Md} {G : Sl} {t : TA} {d : PyData} (h : DA K none t G [d]) (hx : exK d = false := by rfl) : DE K m (tCall (sp_l_int K) [] E0 t) G (.bool (isI d)) := de_callN (r := .val true (.bool (isI d))) (ι := PyData) d h hx (fun r hr => hr) rfl
local macro_rules | `(tactic| fail "call") => `(tactic| ((with_reducible apply call_l_int) <;> fail "g"))

/-! ### _law_cell -/
def cellN (ns : List Int) (k : Nat) : Int :=
  if h : k < ns.length then (ns[k] + 104729) * 2718281828459045235360287471352662497757 % T40
  else
    let z := (k : Int) * k * 7919 + 5 + (if h : 0 < ns.length then (ns[(k * 7) % ns.length]'(Nat.mod_lt _ h)) % T40 * 48271 else 0)
    z * z % 2147483629 * 2718281828459045235360287471352662497757 % T40
theorem cellN_bd (ns : List Int) (k : Nat) : 0 ≤ cellN ns k ∧ cellN ns k < T40 := by
  unfold cellN
  split
  · exact ⟨Int.emod_nonneg _ (by decide), Int.emod_lt_of_pos _ (by decide)⟩
  · exact ⟨Int.emod_nonneg _ (by decide), Int.emod_lt_of_pos _ (by decide)⟩
def sp_l_cell (K : PySem.W.Frag) : Sp := spD K (ι := List Int × Nat) (fun p => [.list (p.1.map .int), .int (p.2 : Nat)]) (fun p => Scr p.1 ∧ p.2 ≤ 1000) (fun p r => r = .val true (.int (cellN p.1 p.2)))
/- 0 _law_script, 1 _law_k, 2 _law_number -/
def N_l_cell : List Str := ["_law_script", "_law_k", "_law_number"]
def t_l_cell (K : PySem.W.Frag) : TS :=
  tSeq (tIfS (tTest (tOp rLt (tVar 1) (tCB (rLen K) (tCons (tVar 0) (tNil))))) (tRet (tOp rMod (tOp (rTimes K) (tOp (rPlusQ K) (tOp (rSub K) (tVar 0) (tVar 1)) (tC (.int 104729))) (tC (.int 2718281828459045235360287471352662497757))) (tOp rPow (tC (.int 10)) (tC (.int 40))))) (tNext))
    (tSeq (tAsg (tOp (rPlusQ K) (tOp (rTimes K) (tOp (rTimes K) (tVar 1) (tVar 1)) (tC (.int 7919))) (tC (.int 5))) (gName 2))
    (tSeq (tIfS (tTest (tOp rGt (tCB (rLen K) (tCons (tVar 0) (tNil))) (tC (.int 0)))) (tAsg (tOp (rPlusQ K) (tVar 2) (tOp (rTimes K) (tOp rMod (tOp (rSub K) (tVar 0) (tOp rMod (tOp (rTimes K) (tVar 1) (tC (.int 7))) (tCB (rLen K) (tCons (tVar 0) (tNil))))) (tOp rPow (tC (.int 10)) (tC (.int 40)))) (tC (.int 48271)))) (gName 2)) (tNext))
    (tRet (tOp rMod (tOp (rTimes K) (tOp rMod (tOp (rTimes K) (tVar 2) (tVar 2)) (tC (.int 2147483629))) (tC (.int 2718281828459045235360287471352662497757))) (tOp rPow (tC (.int 10)) (tC (.int 40)))))))
theorem ds_l_cell {K : PySem.W.Frag} (p : List Int × Nat) (h : Scr p.1 ∧ p.2 ≤ 1000) : DS K (t_l_cell K) (ent ["_law_script", "_law_k", "_law_number"] [.list (p.1.map .int), .int (p.2 : Nat)]) { nx := fun _ => R.val true .none = R.val true (.int (cellN p.1 p.2)), rt := fun r => r = .val true (.int (cellN p.1 p.2)) } := by
  obtain ⟨ns, k⟩ := p
  obtain ⟨⟨h1, h2⟩, h3⟩ := h
  have h3 : k ≤ 1000 := h3
  have pos40 : (0 : Int) < T40 := by decide
  show DS K (t_l_cell K) [some (.sh false (.list (ns.map .int))), some (.sh false (.int (k : Nat))), none] _
  unfold t_l_cell
  refine ds_seq (ds_if (b := decide (((k : Nat) : Int) < ((ns.map PyData.int).length : Nat))) (by fail "g") (fun hb => ?_) (fun hb => ?_))
  · have hb := of_decide_eq_true hb
    rw [List.length_map] at hb
    have hk : k < ns.length := by omega
    have hat : L2.atI (ns.map PyData.int) ((k : Nat) : Int) = some (.int ns[k]) := atI_map (List.getElem?_eq_getElem hk) rfl
    have hm : CMulX (ns[k] + 104729) 2718281828459045235360287471352662497757 := cm_of (n := SB + 1) (k := 200) (lt_add (h2 _ (List.getElem_mem hk)) (lt_up (n := 20) (by decide) (by decide))) (by decide) (by decide) (by decide) (by decide)
    refine ds_retD (n := true) (d := .int ((ns[k] + 104729) * 2718281828459045235360287471352662497757 % T40)) (by fail "g") ?_
    unfold cellN
    rw [dif_pos hk]
  · have hb := of_decide_eq_false hb
    rw [List.length_map] at hb
    have hk : ¬ k < ns.length := by omega
    refine ds_next ?_
    have b1 : ((k : Nat) : Int).natAbs < 2 ^ 100 := Nat.lt_of_le_of_lt (show ((k : Nat) : Int).natAbs ≤ 1000 by omega) (by decide)
    have m1 : CMulX ((k : Nat) : Int) ((k : Nat) : Int) := cm_small (lt_up b1 (by decide)) (lt_up b1 (by decide))
    have m2 : CMulX (((k : Nat) : Int) * ((k : Nat) : Int)) 7919 := cm_small (lt_up (lt_mul b1 b1) (by decide)) (lt_up (n := 20) (by decide) (by decide))
    refine ds_seq (ds_set (n := true) (d := .int ((k : Int) * k * 7919 + 5)) (by fail "g") (Nat.lt_of_sub_eq_succ rfl) ?_)
    show DS K _ [some (.sh false (.list (ns.map .int))), some (.sh false (.int (k : Nat))), some (.sh true (.int ((k : Int) * k * 7919 + 5)))] _
    have b2 : ((k : Int) * k * 7919 + 5).natAbs < 2 ^ 260 := lt_up (lt_add (n := 220) (lt_mul (lt_mul b1 b1) (k := 20) (by decide)) (lt_up (n := 3) (by decide) (by decide))) (by decide)
    have fin : ∀ z : Int, z = (if h : 0 < ns.length then (ns[(k * 7) % ns.length]'(Nat.mod_lt _ h)) % T40 * 48271 else 0) → z.natAbs < 2 ^ 260 →
        DS K (tRet (tOp rMod (tOp (rTimes K) (tOp rMod (tOp (rTimes K) (tVar 2) (tVar 2)) (tC (.int 2147483629))) (tC (.int 2718281828459045235360287471352662497757))) (tOp rPow (tC (.int 10)) (tC (.int 40))))) [some (.sh false (.list (ns.map .int))), some (.sh false (.int (k : Nat))), some (.sh true (.int ((k : Int) * k * 7919 + 5 + z)))] { nx := fun _ => R.val true .none = R.val true (.int (cellN ns k)), rt := fun r => r = .val true (.int (cellN ns k)) } := fun z hz bz => by
      have b3 := lt_add b2 bz
      have m3 : CMulX ((k : Int) * k * 7919 + 5 + z) ((k : Int) * k * 7919 + 5 + z) := cm_small (lt_up b3 (by decide)) (lt_up b3 (by decide))
      have m4 : CMulX (((k : Int) * k * 7919 + 5 + z) * ((k : Int) * k * 7919 + 5 + z) % 2147483629) 2718281828459045235360287471352662497757 :=
        cm_small (lt_up (nat_bound (n := 40) (Int.emod_nonneg _ (by decide)) (Int.emod_lt_of_pos _ (by decide)) (by decide)) (by decide)) (lt_up (n := 200) (by decide) (by decide))
      refine ds_retD (n := true) (d := .int (((k : Int) * k * 7919 + 5 + z) * ((k : Int) * k * 7919 + 5 + z) % 2147483629 * 2718281828459045235360287471352662497757 % T40)) (by fail "g") ?_
      unfold cellN
      rw [dif_neg hk, hz]
    refine ds_seq (ds_if (b := decide ((0 : Int) < ((ns.map PyData.int).length : Nat))) (by fail "g") (fun hb => ?_) (fun hb => ?_))
    · have hb := of_decide_eq_true hb
      have hl : (0 : Int) < ((ns.map PyData.int).length : Nat) := hb
      rw [List.length_map] at hb
      have hp : 0 < ns.length := by omega
      have m5 : CMulX ((k : Nat) : Int) 7 := cm_small (lt_up b1 (by decide)) (lt_up (n := 3) (by decide) (by decide))
      have hat : L2.atI (ns.map PyData.int) (((k : Nat) : Int) * 7 % ((ns.map PyData.int).length : Nat)) = some (.int (ns[(k * 7) % ns.length]'(Nat.mod_lt _ hp))) :=
        atI_map (List.getElem?_eq_getElem (Nat.mod_lt _ hp)) (by rw [List.length_map]; simp)
      have bz := bd40 ⟨Int.emod_nonneg (ns[(k * 7) % ns.length]'(Nat.mod_lt _ hp)) (show T40 ≠ 0 by decide), Int.emod_lt_of_pos _ pos40⟩
      have m6 : CMulX ((ns[(k * 7) % ns.length]'(Nat.mod_lt _ hp)) % T40) 48271 := cm_small (lt_up bz (by decide)) (lt_up (n := 20) (by decide) (by decide))
      refine ds_set (n := true) (d := .int ((k : Int) * k * 7919 + 5 + (ns[(k * 7) % ns.length]'(Nat.mod_lt _ hp)) % T40 * 48271)) (by fail "g") (Nat.lt_of_sub_eq_succ rfl) ?_
      exact fin _ (by rw [dif_pos hp]) (lt_up (lt_mul bz (k := 20) (by decide)) (by decide))
    · have hb := of_decide_eq_false hb
      rw [List.length_map] at hb
      have hp : ¬ 0 < ns.length := by omega
      refine ds_next ?_
      have := fin 0 (by rw [dif_neg hp]) (by decide)
      rwa [Int.add_zero] at this
theorem call_l_cell {K : PySem.W.Frag} {m : Md} {G : Sl} {t : TA} {ns : List Int} {k : Nat} (h : DA K none t G [.list (ns.map .int), .int (k : Nat)]) (hs : Scr ns) (hk : k ≤ 1000) : DE K m (tCall (sp_l_cell K) [] E0 t) G (.int (cellN ns k)) := de_callN (r := .val true (.int (cellN ns k))) (ι := List Int × Nat) (ns, k) h ⟨hs, hk⟩ (fun r hr => hr) rfl
/-- .. its number written, or reckoned -/
theorem call_l_cellZ {K : PySem.W.Frag} {m : Md} {G : Sl} {t : TA} {ns : List Int} {z : Int} (h : DA K none t G [.list (ns.map .int), .int z]) (hs : Scr ns) (h0 : 0 ≤ z) (hk : z ≤ 1000) : DE K m (tCall (sp_l_cell K) [] E0 t) G (.int (cellN ns z.toNat)) := call_l_cell (by rw [Int.toNat_of_nonneg h0]; exact h) hs (by omega)
local macro_rules | `(tactic| fail "call") => `(tactic| ((with_reducible apply call_l_cellZ) <;> fail "g"))

/-! ### _law_next, _law_shape -/
def nextI (c : Int) : Int := (c * 6364136223846793007 + 1442695040888963407) % T40
def iterN : Nat → Int → Int
  | 0, c => c
  | k + 1, c => nextI (iterN k c)
theorem T40_pos : (0 : Int) < T40 := by decide
theorem T40_eq : T40 = 10000000000000000000000000000000000000000 := rfl
theorem nextI_bd (c : Int) : 0 ≤ nextI c ∧ nextI c < T40 := ⟨Int.emod_nonneg _ (by decide), Int.emod_lt_of_pos _ T40_pos⟩
def Bd40 (c : Int) : Prop := 0 ≤ c ∧ c < T40
theorem iterN_bd {c : Int} (h : Bd40 c) : ∀ k, Bd40 (iterN k c)
  | 0 => h
  | k + 1 => nextI_bd _
def sp_l_next (K : PySem.W.Frag) : Sp := spD K (ι := Int) (fun c => [.int c]) Bd40 (fun c r => r = .val true (.int (nextI c)))
/- 0 _law_cell_here -/
def N_l_next : List Str := ["_law_cell_here"]
def t_l_next (K : PySem.W.Frag) : TS :=
  tRet (tOp rMod (tOp (rPlusQ K) (tOp (rTimes K) (tVar 0) (tC (.int 6364136223846793007))) (tC (.int 1442695040888963407))) (tOp rPow (tC (.int 10)) (tC (.int 40))))
theorem ds_l_next {K : PySem.W.Frag} (c : Int) (h : Bd40 c) : DS K (t_l_next K) (ent N_l_next [.int c]) { nx := fun _ => R.val true .none = R.val true (.int (nextI c)), rt := fun r => r = .val true (.int (nextI c)) } := by
  obtain ⟨h1, h2⟩ := h
  rw [T40_eq] at h2
  have p := T40_pos
  show DS K (tRet _) [some (.sh false (.int c))] _
  exact ds_retE (n := true) (d' := .int (nextI c)) (by fail "g") (by rfl) rfl
theorem call_l_next {K : PySem.W.Frag} {m : Md} {G : Sl} {t : TA} {c : Int} (h : DA K none t G [.int c]) (hc : Bd40 c) : DE K m (tCall (sp_l_next K) [] E0 t) G (.int (nextI c)) := de_callN (r := .val true (.int (nextI c))) (ι := Int) c h hc (fun r hr => hr) rfl
local macro_rules | `(tactic| fail "call") => `(tactic| ((with_reducible apply call_l_next) <;> fail "g"))
def shapeRaw (c : Int) (w : Nat) : List Int := (List.range w).map fun k => iterN (k + 1) c / 1000000000000000 % 4
def shapeN (c : Int) (w : Nat) : List Int := if (shapeRaw c w).sum = 0 then (shapeRaw c w).set 0 1 else shapeRaw c w
theorem shapeRaw_at {c : Int} {w : Nat} : ∀ x ∈ shapeRaw c w, 0 ≤ x ∧ x ≤ 3 := fun x hx => by
  obtain ⟨k, _, rfl⟩ := List.mem_map.mp hx
  have := Int.emod_nonneg (iterN (k + 1) c / 1000000000000000) (show (4 : Int) ≠ 0 by decide)
  have := Int.emod_lt_of_pos (iterN (k + 1) c / 1000000000000000) (show (0 : Int) < 4 by decide)
  omega
theorem shapeN_len {c : Int} {w : Nat} : (shapeN c w).length = w := by
  unfold shapeN shapeRaw
  split <;> simp
theorem shapeN_at {c : Int} {w : Nat} : ∀ x ∈ shapeN c w, 0 ≤ x ∧ x ≤ 3 := fun x hx => by
  unfold shapeN at hx
  split at hx
  · rcases List.mem_or_eq_of_mem_set hx with h | h
    · exact shapeRaw_at x h
    · omega
  · exact shapeRaw_at x hx
theorem sum_nonneg : ∀ {l : List Int}, (∀ x ∈ l, 0 ≤ x) → 0 ≤ l.sum
  | [], _ => by simp
  | x :: l, h => by
    rw [List.sum_cons]
    have := h x (by simp)
    have := sum_nonneg (l := l) fun y hy => h y (by simp [hy])
    omega
theorem sum_fix {l : List Int} (h : ∀ x ∈ l, 0 ≤ x) (hl : 0 < l.length) : 0 < (if l.sum = 0 then l.set 0 1 else l).sum := by
  have h0 := sum_nonneg h
  split
  · cases l with
    | nil => simp at hl
    | cons x r =>
      rw [List.set_cons_zero, List.sum_cons]
      have := sum_nonneg (l := r) fun y hy => h y (by simp [hy])
      omega
  · omega
def sp_l_shape (K : PySem.W.Frag) : Sp := spD K (ι := Int × Nat) (fun p => [.int p.1, .int (p.2 : Nat)]) (fun p => Bd40 p.1 ∧ 1 ≤ p.2 ∧ p.2 ≤ 6) (fun p r => r = .own true ((shapeN p.1 p.2).map .int))
/- 0 _law_cell_here, 1 _law_wares, 2 _law_shape_here, 3 _law_k -/
def N_l_shape : List Str := ["_law_cell_here", "_law_wares", "_law_shape_here", "_law_k"]
def t_l_shape (K : PySem.W.Frag) : TS :=
  tSeq (tAsg (tLst (tNil)) (gName 2))
    (tSeq (tFor (iRng1 (tCons (tVar 1) (tNil))) (gName 3) (tSeq (tAsg (tCall (sp_l_next K) [] E0 (tCons (tVar 0) (tNil))) (gName 0))
    (tDrop (tBM K "list" rAppend (tVar 2) (tCons (tOp rMod (tOp rFloor (tVar 0) (tOp rPow (tC (.int 10)) (tC (.int 15)))) (tC (.int 4))) (tNil))))))
    (tSeq (tIfS (tTest (tOp (rEqD K) (tCB (rSumA K) (tCons (tVar 2) (tNil))) (tC (.int 0)))) (tAsg (tC (.int 1)) (gSub (tVar 2) (tC (.int 0)) rSetA)) (tNext))
    (tRet (tVar 2))))
theorem ds_l_shape {K : PySem.W.Frag} (p : Int × Nat) (h : Bd40 p.1 ∧ 1 ≤ p.2 ∧ p.2 ≤ 6) : DS K (t_l_shape K) (ent N_l_shape [.int p.1, .int (p.2 : Nat)]) { nx := fun _ => R.val true .none = R.own true ((shapeN p.1 p.2).map .int), rt := fun r => r = .own true ((shapeN p.1 p.2).map .int) } := by
  obtain ⟨c, w⟩ := p
  obtain ⟨hc, hw1, hw6⟩ := h
  have hc : Bd40 c := hc
  have hw1 : 1 ≤ w := hw1
  have hw6 : w ≤ 6 := hw6
  show DS K (t_l_shape K) [some (.sh false (.int c)), some (.sh false (.int (w : Nat))), none, none] _
  unfold t_l_shape
  refine ds_seq (ds_ownE (n := true) (ds' := (([] : List Int).map .int)) (dn_lst da_nil (by decide)) (by rfl) (Nat.lt_of_sub_eq_succ rfl) fun a => ?_)
  refine ds_cut (fun G => ∃ x y, G = [x, some (.sh false (.int (w : Nat))), some (.own true a ((shapeRaw c w).map .int)), y]) ?_ ?_
  · refine ds_forR (q := w) (by fail "g") rfl (by omega) (fun k G => ∃ b y, G = [some (.sh b (.int (iterN k c))), some (.sh false (.int (w : Nat))), some (.own true a ((shapeRaw c k).map .int)), y]) ⟨false, none, rfl⟩ ?_ ?_ ?_
    · rintro k G ⟨b, y, rfl⟩; exact (Nat.lt_of_sub_eq_succ rfl)
    · rintro k G hk ⟨b, y, rfl⟩
      have hb := iterN_bd hc k
      refine ds_seq (ds_setE (n := true) (d' := .int (iterN (k + 1) c)) (by fail "g") (by rfl) (Nat.lt_of_sub_eq_succ rfl) ?_)
      refine ds_appE (n := true) (d := .int (iterN (k + 1) c / 1000000000000000 % 4)) (by rfl) (by fail "g") (by simp [shapeRaw]; omega) (ds' := (shapeRaw c (k + 1)).map .int) ?_ ⟨true, _, rfl⟩
      unfold shapeRaw
      rw [List.range_succ, List.map_append, List.map_append]
      rfl
    · rintro G ⟨b, y, rfl⟩; exact ⟨_, _, rfl⟩
  · rintro G ⟨x, y, rfl⟩
    have hl : 0 < (shapeRaw c w).length := by unfold shapeRaw; simp; omega
    refine ds_cut (fun G => G = [x, some (.sh false (.int (w : Nat))), some (.own true a ((shapeN c w).map .int)), y]) ?_ ?_
    · refine ds_if (b := decide ((shapeRaw c w).sum = 0)) (by fail "g") (fun hb => ?_) (fun hb => ?_)
      · have hb := of_decide_eq_true hb
        refine ds_setItemA (n := true) (j := 0) (d := .int 1) (ds := (shapeRaw c w).map .int) (by rfl) (by fail "g") (by fail "g") (by unfold ixN; rw [List.length_map, if_pos (by decide), if_pos (by omega)]; rfl) ?_
        show [x, _, some (B.own true a (((shapeRaw c w).map PyData.int).set 0 (.int 1))), y] = _
        unfold shapeN
        rw [if_pos hb, List.map_set]
      · have hb := of_decide_eq_false hb
        refine ds_next ?_
        unfold shapeN
        rw [if_neg hb]
    · rintro G rfl
      exact ds_retV (b := .own true a ((shapeN c w).map .int)) (by rfl) rfl
theorem dr_l_shape {K : PySem.W.Frag} {G : Sl} {t : TA} {c : Int} {w : Nat} (h : DA K none t G [.int c, .int (w : Nat)]) (hc : Bd40 c) (h1 : 1 ≤ w) (h6 : w ≤ 6) : DR K (tCall (sp_l_shape K) [] E0 t) G (.own true ((shapeN c w).map .int)) := dr_call (ι := Int × Nat) (c, w) h ⟨hc, h1, h6⟩ (fun r hr => hr) (.inl rfl)
theorem call_l_shapeZ {K : PySem.W.Frag} {m : Md} {G : Sl} {t : TA} {c z : Int} (h : DA K none t G [.int c, .int z]) (hc : Bd40 c) (h1 : 1 ≤ z) (h6 : z ≤ 6) : DE K m (tCall (sp_l_shape K) [] E0 t) G (.list ((shapeN c z.toNat).map .int)) := de_dr (dr_l_shape (w := z.toNat) (by rw [Int.toNat_of_nonneg (by omega)]; exact h) hc (by omega) (by omega)) (by cases m with | none => rfl | some k => cases k <;> rfl)
local macro_rules | `(tactic| fail "call") => `(tactic| ((with_reducible apply call_l_shapeZ) <;> fail "g"))
/-! ### _law_best -/
def bestN (ps sh : List Int) (j : Nat) : Int := if (List.range ps.length).any (fun k => decide ((1 + sh.getD j 0) * ps.getD k 0 < (1 + sh.getD k 0) * ps.getD j 0)) then 0 else 1
theorem bestN_bd (ps sh : List Int) (j : Nat) : 0 ≤ bestN ps sh j ∧ bestN ps sh j ≤ 1 := by unfold bestN; split <;> omega
structure PS (ps sh : List Int) : Prop where
  len : sh.length = ps.length
  l6 : ps.length ≤ 6
  p : ∀ x ∈ ps, 1 ≤ x ∧ x ≤ 1000000000
  s : ∀ x ∈ sh, 0 ≤ x ∧ x ≤ 3
theorem getD_mem' {l : List Int} {k : Nat} (h : k < l.length) : l.getD k 0 ∈ l := by
  rw [List.getD_eq_getElem?_getD, List.getElem?_eq_getElem h]; exact List.getElem_mem h
theorem at_getD {l : List Int} {k : Nat} {z : Int} (h : k < l.length) (e : z = (k : Nat)) : L2.atI (l.map PyData.int) z = some (.int (l.getD k 0)) := atI_map (x := l.getD k 0) (by rw [List.getD_eq_getElem?_getD, List.getElem?_eq_getElem h]; rfl) e
def sp_l_best (K : PySem.W.Frag) : Sp := spD K (ι := List Int × List Int × Nat) (fun p => [.list (p.1.map .int), .list (p.2.1.map .int), .int (p.2.2 : Nat)]) (fun p => PS p.1 p.2.1 ∧ p.2.2 < p.1.length) (fun p r => r = .val true (.int (bestN p.1 p.2.1 p.2.2)))
/- 0 _law_prices, 1 _law_shape_here, 2 _law_j, 3 _law_k -/
def N_l_best : List Str := ["_law_prices", "_law_shape_here", "_law_j", "_law_k"]
def t_l_best (K : PySem.W.Frag) : TS :=
  tSeq (tFor (iRng1 (tCons (tCB (rLen K) (tCons (tVar 0) (tNil))) (tNil))) (gName 3) (tIfS (tTest (tOp rGt (tOp (rTimes K) (tOp (rPlusQ K) (tC (.int 1)) (tOp (rSub K) (tVar 1) (tVar 3))) (tOp (rSub K) (tVar 0) (tVar 2))) (tOp (rTimes K) (tOp (rPlusQ K) (tC (.int 1)) (tOp (rSub K) (tVar 1) (tVar 2))) (tOp (rSub K) (tVar 0) (tVar 3))))) (tRet (tC (.int 0))) (tNext)))
    (tRet (tC (.int 1)))
theorem ds_l_best {K : PySem.W.Frag} (p : List Int × List Int × Nat) (h : PS p.1 p.2.1 ∧ p.2.2 < p.1.length) : DS K (t_l_best K) (ent N_l_best [.list (p.1.map .int), .list (p.2.1.map .int), .int (p.2.2 : Nat)]) { nx := fun _ => R.val true .none = R.val true (.int (bestN p.1 p.2.1 p.2.2)), rt := fun r => r = .val true (.int (bestN p.1 p.2.1 p.2.2)) } := by
  obtain ⟨ps, sh, j⟩ := p
  obtain ⟨H, hj⟩ := h
  have H : PS ps sh := H
  have hj : j < ps.length := hj
  show DS K (t_l_best K) [some (.sh false (.list (ps.map .int))), some (.sh false (.list (sh.map .int))), some (.sh false (.int (j : Nat))), none] _
  unfold t_l_best
  have l6 := H.l6
  refine ds_seq (ds_forR (q := ps.length) (by fail "g") (by simp) (by omega) (fun k G => (∃ y, G = [some (.sh false (.list (ps.map .int))), some (.sh false (.list (sh.map .int))), some (.sh false (.int (j : Nat))), y]) ∧ (List.range k).any (fun k => decide ((1 + sh.getD j 0) * ps.getD k 0 < (1 + sh.getD k 0) * ps.getD j 0)) = false) ⟨⟨none, rfl⟩, rfl⟩ ?_ ?_ ?_)
  · rintro k G ⟨⟨y, rfl⟩, _⟩; exact (Nat.lt_of_sub_eq_succ rfl)
  · rintro k G hk ⟨⟨y, rfl⟩, ha⟩
    have hk' : k < sh.length := by rw [H.len]; exact hk
    have hj' : j < sh.length := by rw [H.len]; exact hj
    have a1 : L2.atI (sh.map PyData.int) ((k : Nat) : Int) = some (.int (sh.getD k 0)) := at_getD hk' rfl
    have a2 : L2.atI (ps.map PyData.int) ((k : Nat) : Int) = some (.int (ps.getD k 0)) := at_getD hk rfl
    have a3 : L2.atI (sh.map PyData.int) ((j : Nat) : Int) = some (.int (sh.getD j 0)) := at_getD hj' rfl
    have a4 : L2.atI (ps.map PyData.int) ((j : Nat) : Int) = some (.int (ps.getD j 0)) := at_getD hj rfl
    obtain ⟨p1, p2⟩ := H.p _ (getD_mem' hk)
    obtain ⟨p3, p4⟩ := H.p _ (getD_mem' hj)
    obtain ⟨s1, s2⟩ := H.s _ (getD_mem' hk')
    obtain ⟨s3, s4⟩ := H.s _ (getD_mem' hj')
    refine ds_if (b := decide ((1 + sh.getD j 0) * ps.getD k 0 < (1 + sh.getD k 0) * ps.getD j 0)) (by fail "g") (fun hb => ?_) (fun hb => ds_next ?_)
    · refine ds_retE (n := true) (d' := .int 0) (by fail "g") (by rfl) ?_
      show _ = _
      unfold bestN
      rw [if_pos (List.any_eq_true.mpr ⟨k, List.mem_range.mpr hk, hb⟩)]
    · refine ⟨⟨_, rfl⟩, ?_⟩
      rw [List.range_succ, List.any_append, ha]
      simpa using hb
  · rintro G ⟨⟨y, rfl⟩, ha⟩
    refine ds_retE (n := true) (d' := .int 1) (by fail "g") (by rfl) ?_
    show _ = _
    unfold bestN
    rw [if_neg (by rw [ha]; decide)]
theorem call_l_best {K : PySem.W.Frag} {m : Md} {G : Sl} {t : TA} {ps sh : List Int} {j : Nat} (h : DA K none t G [.list (ps.map .int), .list (sh.map .int), .int (j : Nat)]) (H : PS ps sh) (hj : j < ps.length) : DE K m (tCall (sp_l_best K) [] E0 t) G (.int (bestN ps sh j)) := de_callN (r := .val true (.int (bestN ps sh j))) (ι := List Int × List Int × Nat) (ps, sh, j) h ⟨H, hj⟩ (fun r hr => hr) rfl
local macro_rules | `(tactic| fail "call") => `(tactic| ((with_reducible apply call_l_best) <;> fail "g"))

/-! ### _law_bought -/
def boughtN (way : Int) (ps as sh : List Int) (times : Int) : List Int :=
  if way = 3 then (List.range ps.length).map fun k => times * sh.getD k 0
  else if way = 4 then (List.range ps.length).map fun k => times * sh.getD k 0 * 12 / ps.getD k 0
  else if way = 5 then (List.range ps.length).map fun k => (1 + as.getD k 0) * bestN ps sh k
  else if way = 6 then (List.range ps.length).map fun k => (1 + as.getD k 0) * (if decide (ps.getD k 0 = minL ps) = true then 1 else 0)
  else if way = 7 then ps.map fun p => 9 - p
  else as
structure Buy (way : Int) (ps as sh : List Int) (times : Int) : Prop where
  ps' : PS ps sh
  l1 : 1 ≤ ps.length
  la : as.length = ps.length
  a : ∀ x ∈ as, 0 ≤ x ∧ x ≤ 1000000000
  t : 1 ≤ times ∧ times ≤ 5
  w7 : way = 7 → ∀ x ∈ ps, x ≤ 9
theorem boughtN_len {way : Int} {ps as sh : List Int} {times : Int} (h : Buy way ps as sh times) : (boughtN way ps as sh times).length = ps.length := by
  unfold boughtN
  split
  · simp
  split
  · simp
  split
  · simp
  split
  · simp
  split
  · simp
  · exact h.la
theorem map_range_at {n : Nat} {f : Nat → Int} {P : Int → Prop} (h : ∀ k < n, P (f k)) : ∀ x ∈ (List.range n).map f, P x := fun x hx => by
  obtain ⟨k, hk, rfl⟩ := List.mem_map.mp hx
  exact h k (List.mem_range.mp hk)
theorem mul_le {a b c d : Int} (ha : 0 ≤ a) (hb : 0 ≤ b) (h1 : a ≤ c) (h2 : b ≤ d) : 0 ≤ a * b ∧ a * b ≤ c * d := ⟨Int.mul_nonneg ha hb, Int.mul_le_mul h1 h2 hb (by omega)⟩
theorem boughtN_at {way : Int} {ps as sh : List Int} {times : Int} (h : Buy way ps as sh times) : ∀ x ∈ boughtN way ps as sh times, 0 ≤ x ∧ x ≤ 1000000001 := by
  obtain ⟨H, l1, la, ha, ht, h7⟩ := h
  have s : ∀ k < ps.length, 0 ≤ sh.getD k 0 ∧ sh.getD k 0 ≤ 3 := fun k hk => H.s _ (getD_mem' (by rw [H.len]; exact hk))
  have a : ∀ k < ps.length, 0 ≤ as.getD k 0 ∧ as.getD k 0 ≤ 1000000000 := fun k hk => ha _ (getD_mem' (by rw [la]; exact hk))
  have p : ∀ k < ps.length, 1 ≤ ps.getD k 0 ∧ ps.getD k 0 ≤ 1000000000 := fun k hk => H.p _ (getD_mem' hk)
  unfold boughtN
  split
  · refine map_range_at fun k hk => ?_
    have := mul_le (show 0 ≤ times by omega) (s k hk).1 ht.2 (s k hk).2
    omega
  split
  · refine map_range_at fun k hk => ?_
    have h1 := mul_le (show 0 ≤ times by omega) (s k hk).1 ht.2 (s k hk).2
    have h2 := p k hk
    have h3 := Int.ediv_nonneg (show 0 ≤ times * sh.getD k 0 * 12 by omega) (show 0 ≤ ps.getD k 0 by omega)
    have h4 := Int.ediv_le_self (ps.getD k 0) (show 0 ≤ times * sh.getD k 0 * 12 by omega)
    omega
  split
  · refine map_range_at fun k hk => ?_
    have := mul_le (show 0 ≤ 1 + as.getD k 0 by have := a k hk; omega) (bestN_bd ps sh k).1 (show 1 + as.getD k 0 ≤ 1000000001 by have := a k hk; omega) (bestN_bd ps sh k).2
    omega
  split
  · refine map_range_at fun k hk => ?_
    have := a k hk
    split <;> omega
  split
  · rename_i h
    intro x hx
    obtain ⟨y, hy, rfl⟩ := List.mem_map.mp hx
    have := h7 h y hy
    have := H.p y hy
    omega
  · intro x hx
    have := ha x hx
    omega
def args_bought (p : Int × List Int × List Int × List Int × Int) : List PyData := [.int p.1, .list (p.2.1.map .int), .list (p.2.2.1.map .int), .list (p.2.2.2.1.map .int), .int p.2.2.2.2]
def Own (way : Int) : Prop := 3 ≤ way ∧ way ≤ 7
def pre_bought (p : Int × List Int × List Int × List Int × Int) : Prop := Buy p.1 p.2.1 p.2.2.1 p.2.2.2.1 p.2.2.2.2 ∧ Own p.1
def res_bought (p : Int × List Int × List Int × List Int × Int) (r : R) : Prop := r = .own true ((boughtN p.1 p.2.1 p.2.2.1 p.2.2.2.1 p.2.2.2.2).map .int)
def sp_l_bought (K : PySem.W.Frag) : Sp := fun vs H Q E => spD K args_bought pre_bought res_bought vs H Q E ∨ ∃ way ps as sh times v, Reps K H vs [.int way, ps, as, sh, times] ∧ ¬ Own way ∧ vs[2]? = some v ∧ ∀ H', Same H H' → Q v H'
/- 0 _law_way, 1 _law_prices, 2 _law_amounts, 3 _law_shape_here, 4 _law_times, 5 _law_k, 6 _law_price_here -/
def N_l_bought : List Str := ["_law_way", "_law_prices", "_law_amounts", "_law_shape_here", "_law_times", "_law_k", "_law_price_here"]
def t_l_bought (K : PySem.W.Frag) : TS :=
  tSeq (tIfS (tTest (tOp (rEqD K) (tVar 0) (tC (.int 3)))) (tRet (tLc (iRng1 (tCons (tCB (rLen K) (tCons (tVar 1) (tNil))) (tNil))) (gName 5) (tYes) (tOp (rTimes K) (tVar 4) (tOp (rSub K) (tVar 3) (tVar 5))) [5])) (tNext))
    (tSeq (tIfS (tTest (tOp (rEqD K) (tVar 0) (tC (.int 4)))) (tRet (tLc (iRng1 (tCons (tCB (rLen K) (tCons (tVar 1) (tNil))) (tNil))) (gName 5) (tYes) (tOp rFloor (tOp (rTimes K) (tOp (rTimes K) (tVar 4) (tOp (rSub K) (tVar 3) (tVar 5))) (tC (.int 12))) (tOp (rSub K) (tVar 1) (tVar 5))) [5])) (tNext))
    (tSeq (tIfS (tTest (tOp (rEqD K) (tVar 0) (tC (.int 5)))) (tRet (tLc (iRng1 (tCons (tCB (rLen K) (tCons (tVar 1) (tNil))) (tNil))) (gName 5) (tYes) (tOp (rTimes K) (tOp (rPlusQ K) (tC (.int 1)) (tOp (rSub K) (tVar 2) (tVar 5))) (tCall (sp_l_best K) [] E0 (tCons (tVar 1) (tCons (tVar 3) (tCons (tVar 5) (tNil)))))) [5])) (tNext))
    (tSeq (tIfS (tTest (tOp (rEqD K) (tVar 0) (tC (.int 6)))) (tRet (tLc (iRng1 (tCons (tCB (rLen K) (tCons (tVar 1) (tNil))) (tNil))) (gName 5) (tYes) (tOp (rTimes K) (tOp (rPlusQ K) (tC (.int 1)) (tOp (rSub K) (tVar 2) (tVar 5))) (tCB rInt1 (tCons (tOp (rEqD K) (tOp (rSub K) (tVar 1) (tVar 5)) (tCB (rMinA K) (tCons (tVar 1) (tNil)))) (tNil)))) [5])) (tNext))
    (tSeq (tIfS (tTest (tOp (rEqD K) (tVar 0) (tC (.int 7)))) (tRet (tLc (iSeq K (tVar 1)) (gName 6) (tYes) (tOp rSubI (tC (.int 9)) (tVar 6)) [6])) (tNext))
    (tRet (tVar 2))))))
theorem ds_l_bought {K : PySem.W.Frag} (p : Int × List Int × List Int × List Int × Int) (h : pre_bought p) : DS K (t_l_bought K) (ent N_l_bought (args_bought p)) { nx := fun _ => res_bought p (.val true .none), rt := res_bought p } := by
  obtain ⟨way, ps, as, sh, times⟩ := p
  obtain ⟨B, o1, o2⟩ := h
  have B : Buy way ps as sh times := B
  have o1 : 3 ≤ way := o1
  have o2 : way ≤ 7 := o2
  show DS K (t_l_bought K) [some (.sh false (.int way)), some (.sh false (.list (ps.map .int))), some (.sh false (.list (as.map .int))), some (.sh false (.list (sh.map .int))), some (.sh false (.int times)), none, none] { nx := _, rt := fun r => r = .own true ((boughtN way ps as sh times).map .int) }
  unfold t_l_bought
  have l6 := B.ps'.l6
  have t1 := B.t.1
  have t2 := B.t.2
  have le1 : ((ps.map PyData.int).length : Int) = (ps.length : Nat) := by simp
  refine ds_seq (ds_if (b := decide (way = 3)) (by fail "g") (fun hb => ?_) (fun hb => ds_next ?_))
  · have hb := of_decide_eq_true hb
    subst hb
    refine ds_ret (dr_new (n := true) (dn_lcR (q := ps.length) (fun k => .int (times * sh.getD k 0)) (by fail "g") le1 (by omega) (Nat.lt_of_sub_eq_succ rfl) (fun b hb => by cases hb) fun k hk => ?_)) ?_
    · have hk' : k < sh.length := by rw [B.ps'.len]; exact hk
      have a1 : L2.atI (sh.map PyData.int) ((k : Nat) : Int) = some (.int (sh.getD k 0)) := at_getD hk' rfl
      obtain ⟨s1, s2⟩ := B.ps'.s _ (getD_mem' hk')
      fail "g"
    · show R.own _ _ = R.own _ _
      unfold boughtN
      rw [if_pos rfl, List.map_map]
      rfl
  have n3 := of_decide_eq_false hb
  refine ds_seq (ds_if (b := decide (way = 4)) (by fail "g") (fun hb => ?_) (fun hb => ds_next ?_))
  · have hb := of_decide_eq_true hb
    subst hb
    refine ds_ret (dr_new (n := true) (dn_lcR (q := ps.length) (fun k => .int (times * sh.getD k 0 * 12 / ps.getD k 0)) (by fail "g") le1 (by omega) (Nat.lt_of_sub_eq_succ rfl) (fun b hb => by cases hb) fun k hk => ?_)) ?_
    · have hk' : k < sh.length := by rw [B.ps'.len]; exact hk
      have a1 : L2.atI (sh.map PyData.int) ((k : Nat) : Int) = some (.int (sh.getD k 0)) := at_getD hk' rfl
      have a2 : L2.atI (ps.map PyData.int) ((k : Nat) : Int) = some (.int (ps.getD k 0)) := at_getD hk rfl
      obtain ⟨s1, s2⟩ := B.ps'.s _ (getD_mem' hk')
      obtain ⟨p1, p2⟩ := B.ps'.p _ (getD_mem' hk)
      have := mul_le (show 0 ≤ times by omega) s1 t2 s2
      obtain ⟨m1, m2⟩ := this
      fail "g"
    · show R.own _ _ = R.own _ _
      unfold boughtN
      rw [if_neg (by omega), if_pos rfl, List.map_map]
      rfl
  have n4 := of_decide_eq_false hb
  refine ds_seq (ds_if (b := decide (way = 5)) (by fail "g") (fun hb => ?_) (fun hb => ds_next ?_))
  · have hb := of_decide_eq_true hb
    subst hb
    refine ds_ret (dr_new (n := true) (dn_lcR (q := ps.length) (fun k => .int ((1 + as.getD k 0) * bestN ps sh k)) (by fail "g") le1 (by omega) (Nat.lt_of_sub_eq_succ rfl) (fun b hb => by cases hb) fun k hk => ?_)) ?_
    · have hk' : k < as.length := by rw [B.la]; exact hk
      have a1 : L2.atI (as.map PyData.int) ((k : Nat) : Int) = some (.int (as.getD k 0)) := at_getD hk' rfl
      obtain ⟨s1, s2⟩ := B.a _ (getD_mem' hk')
      obtain ⟨m1, m2⟩ := bestN_bd ps sh k
      have H := B.ps'
      fail "g"
    · show R.own _ _ = R.own _ _
      unfold boughtN
      rw [if_neg (by omega), if_neg (by omega), if_pos rfl, List.map_map]
      rfl
  have n5 := of_decide_eq_false hb
  refine ds_seq (ds_if (b := decide (way = 6)) (by fail "g") (fun hb => ?_) (fun hb => ds_next ?_))
  · have hb := of_decide_eq_true hb
    subst hb
    refine ds_ret (dr_new (n := true) (dn_lcR (q := ps.length) (fun k => .int ((1 + as.getD k 0) * (if decide (ps.getD k 0 = minL ps) = true then 1 else 0))) (by fail "g") le1 (by omega) (Nat.lt_of_sub_eq_succ rfl) (fun b hb => by cases hb) fun k hk => ?_)) ?_
    · have hk' : k < as.length := by rw [B.la]; exact hk
      have a1 : L2.atI (as.map PyData.int) ((k : Nat) : Int) = some (.int (as.getD k 0)) := at_getD hk' rfl
      have a2 : L2.atI (ps.map PyData.int) ((k : Nat) : Int) = some (.int (ps.getD k 0)) := at_getD hk rfl
      obtain ⟨s1, s2⟩ := B.a _ (getD_mem' hk')
      have l1 := B.l1
      have m1 : CMulX (1 + as.getD k 0) (if decide (ps.getD k 0 = minL ps) = true then 1 else 0) := cm_om (by omega) (by omega) (by split <;> omega) (by split <;> omega)
      fail "g"
    · show R.own _ _ = R.own _ _
      unfold boughtN
      rw [if_neg (by omega), if_neg (by omega), if_neg (by omega), if_pos rfl, List.map_map]
      rfl
  have n6 := of_decide_eq_false hb
  have e7 : way = 7 := by omega
  subst e7
  refine ds_seq (ds_if (b := true) (dt_to (by fail "g") (by rfl)) (fun _ => ?_) (fun hb => by cases hb))
  refine ds_ret (dr_new (n := true) (dn_lcX (n' := false) ps .int (fun p => .int (9 - p)) (di_listS (by fail "g")) (by omega) (Nat.lt_of_sub_eq_succ rfl) (fun b hb => by cases hb) fun k hk => ?_)) ?_
  · fail "g"
  · show R.own _ _ = R.own _ _
    unfold boughtN
    rw [if_neg (by omega), if_neg (by omega), if_neg (by omega), if_neg (by omega), if_pos rfl, List.map_map]
    rfl
theorem len_l_bought {K : PySem.W.Frag} : ∀ vs H Q E, sp_l_bought K vs H Q E → vs.length = 5 := fun vs H Q E h => by
  rcases h with h | ⟨_, _, _, _, _, _, h, _⟩
  · exact spD_len (args := args_bought) (k := 5) (fun _ => rfl) vs H Q E h
  · exact h.length
theorem raw_if {K : PySem.W.Frag} {c : C} {G : Sl} {σ : L2.St} {H : Hp} {D : Ends} {tt : TT} {ts tv : TS} (e : Sits K c G σ H) (h : DT K tt G false) (k : ∀ H1, Same H H1 → Sits K c G σ H1 → tv D σ H1) : tSeq (tIfS tt ts tNext) tv D σ H :=
  h c σ H e _ fun H1 s => by
    show (if false = true then _ else _)
    rw [if_neg Bool.false_ne_true]
    exact k H1 s (e.ext s)
theorem raw_l_bought {K : PySem.W.Frag} : ∀ vs H Q E, sp_l_bought K vs H Q E → t_l_bought K { nx := fun _ H' => Q .non H', rt := Q } (L2.start N_l_bought vs) H := fun vs H Q E h => by
  rcases h with h | ⟨way, ps, as, sh, times, v, hr, ho, hv, k⟩
  · exact raw_of ds_l_bought vs H Q E h
  · have e : Sits K ⟨H, H, H⟩ (ent N_l_bought [.int way, ps, as, sh, times]) (L2.start N_l_bought vs) H := ent_sits (Same.refl H) hr
    have e : Sits K ⟨H, H, H⟩ [some (.sh false (.int way)), some (.sh false ps), some (.sh false as), some (.sh false sh), some (.sh false times), none, none] (L2.start N_l_bought vs) H := e
    have T : ∀ z : Int, 3 ≤ z → z ≤ 7 → DT K (tTest (tOp (rEqD K) (tVar 0) (tC (.int z)))) [some (.sh false (.int way)), some (.sh false ps), some (.sh false as), some (.sh false sh), some (.sh false times), none, none] false := fun z h1 h2 =>
      dt_to (by fail "g") (decide_eq_false (fun hz => ho ⟨by omega, by omega⟩))
    unfold t_l_bought
    refine raw_if e (T 3 (by decide) (by decide)) fun H1 s1 e1 => raw_if e1 (T 4 (by decide) (by decide)) fun H2 s2 e2 => raw_if e2 (T 5 (by decide) (by decide)) fun H3 s3 e3 => raw_if e3 (T 6 (by decide) (by decide)) fun H4 s4 e4 => raw_if e4 (T 7 (by decide) (by decide)) fun H5 s5 e5 => ?_
    refine ⟨v, ?_, k H5 ((((s1.trans s2).trans s3).trans s4).trans s5)⟩
    have hl := hr.length
    match vs, hl with
    | [_, _, _, _, _], _ =>
      cases hv
      rfl
/-- amounts = bought(..): another list, or the very list -/
theorem ds_bought {K : PySem.W.Frag} {G : Sl} {P : Post} {tx : TE} {way times : Int} {ps as sh : List Int} {a p : Addr} {n1 n2 : Bool} (h1 : G[1]? = some (some (.sh n1 (.int way)))) (h3 : G[3]? = some (some (.own true p (ps.map .int)))) (h4 : G[4]? = some (some (.own true a (as.map .int)))) (h2 : G[2]? = some (some (.sh n2 (.list (sh.map .int)))))
    (hx : DE K none tx G (.int times)) (hB : Buy way ps as sh times) (hi : 4 < G.length) (k : ∀ a', P.nx (G.set 4 (some (.own true a' ((boughtN way ps as sh times).map .int))))) :
    DS K (tAsg (tCall (sp_l_bought K) [] E0 (tCons (tVar 1) (tCons (tVar 3) (tCons (tVar 4) (tCons (tVar 2) (tCons tx tNil)))))) (gName 4)) G P := by
  have hA : DA K none (tCons (tVar 1) (tCons (tVar 3) (tCons (tVar 4) (tCons (tVar 2) (tCons tx tNil))))) G [.int way, .list (ps.map .int), .list (as.map .int), .list (sh.map .int), .int times] :=
    da_cons (de_full h1) (da_cons (de_own h3) (da_cons (de_own h4) (da_cons (de_full h2) (da_cons hx da_nil))))
  by_cases ho : Own way
  · exact ds_own (dr_callS (args := args_bought) (pre := pre_bought) (res := res_bought) (sp := sp_l_bought K) (fun _ _ _ h => .inl h) (way, ps, as, sh, times) hA ⟨hB, ho⟩ (fun r hr => hr) (.inl rfl)) hi k
  · intro c σ H D e k1 k2 k3 k4
    obtain ⟨v1, e1, r1⟩ := e.at_ 1 _ h1
    obtain ⟨v3, e3, r3⟩ := e.at_ 3 _ h3
    obtain ⟨v4, e4, r4⟩ := e.at_ 4 _ h4
    obtain ⟨v2, e2, r2⟩ := e.at_ 2 _ h2
    have w1 := r1.full fun n => e.vsame (m := some n)
    have w3 := r3.full fun n => e.vsame (m := some n)
    have w4 := r4.full fun n => e.vsame (m := some n)
    have w2 := r2.full fun n => e.vsame (m := some n)
    refine ⟨v1, e1, v3, e3, v4, e4, v2, e2, hx c σ H e _ fun v H' s r => .inr ⟨way, _, _, _, _, v4, .cons (w1.mono s) (.cons (w3.mono s) (.cons (w4.mono s) (.cons (w2.mono s) (.cons r .nil)))), ho, rfl, fun H2 s2 => ?_⟩⟩
    show D.nx (σ.set 4 (some v4)) H2
    have es : σ.set 4 (some v4) = σ := by
      refine List.ext_getElem? fun i => ?_
      by_cases hi : 4 = i
      · subst hi; rw [List.getElem?_set_self (List.getElem?_eq_some_iff.mp e4).1, e4]
      · rw [List.getElem?_set_ne hi]
    have eg : G.set 4 (some (.own true a ((boughtN way ps as sh times).map .int))) = G := by
      have hb : boughtN way ps as sh times = as := by
        unfold boughtN
        unfold Own at ho
        rw [if_neg (by omega), if_neg (by omega), if_neg (by omega), if_neg (by omega), if_neg (by omega)]
      rw [hb]
      refine List.ext_getElem? fun i => ?_
      by_cases hi : 4 = i
      · subst hi; rw [List.getElem?_set_self (List.getElem?_eq_some_iff.mp h4).1, h4]
      · rw [List.getElem?_set_ne hi]
    have := k a
    rw [eg] at this
    rw [es]
    exact k1 G σ H2 this (e.ext (s.trans s2))
/-! ### _law_price -/
def priceN (way high : Int) : Int :=
  if way = 0 then 1 + high % 3 else if way = 1 then 1 + high % 5 else if way = 2 then 1 + high % 1000000000
  else if way = 4 then ([1, 2, 3, 4, 6, 12] : List Int).getD (high % 6).toNat 0 else 1 + high % 8
theorem pick6 {k : Int} (h0 : 0 ≤ k) (h : k < 6) : L2.atI [PyData.int 1, PyData.int 2, PyData.int 3, PyData.int 4, PyData.int 6, PyData.int 12] k = some (.int (([1, 2, 3, 4, 6, 12] : List Int).getD k.toNat 0)) := by
  have : k = 0 ∨ k = 1 ∨ k = 2 ∨ k = 3 ∨ k = 4 ∨ k = 5 := by omega
  rcases this with h | h | h | h | h | h <;> subst h <;> rfl
theorem pick6_bd {k : Int} (h0 : 0 ≤ k) (h : k < 6) : 1 ≤ ([1, 2, 3, 4, 6, 12] : List Int).getD k.toNat 0 ∧ ([1, 2, 3, 4, 6, 12] : List Int).getD k.toNat 0 ≤ 12 := by
  have : k = 0 ∨ k = 1 ∨ k = 2 ∨ k = 3 ∨ k = 4 ∨ k = 5 := by omega
  rcases this with h | h | h | h | h | h <;> subst h <;> decide
theorem priceN_bd {way high : Int} : 1 ≤ priceN way high ∧ priceN way high ≤ 1000000000 ∧ (way = 7 → priceN way high ≤ 9) := by
  have h6 := pick6_bd (Int.emod_nonneg high (show (6 : Int) ≠ 0 by decide)) (Int.emod_lt_of_pos high (by decide))
  have h1 := Int.emod_nonneg high (show (1000000000 : Int) ≠ 0 by decide)
  have h2 := Int.emod_lt_of_pos high (show (0 : Int) < 1000000000 by decide)
  unfold priceN
  split
  · omega
  split
  · omega
  split
  · omega
  split
  · omega
  · omega
def sp_l_price (K : PySem.W.Frag) : Sp := spD K (ι := Int × Int) (fun p => [.int p.1, .int p.2]) (fun _ => True) (fun p r => r = .val true (.int (priceN p.1 p.2)))
/- 0 _law_way, 1 _law_high -/
def N_l_price : List Str := ["_law_way", "_law_high"]
def t_l_price (K : PySem.W.Frag) : TS :=
  tSeq (tIfS (tTest (tOp (rEqD K) (tVar 0) (tC (.int 0)))) (tRet (tOp (rPlusQ K) (tC (.int 1)) (tOp rMod (tVar 1) (tC (.int 3))))) (tNext))
    (tSeq (tIfS (tTest (tOp (rEqD K) (tVar 0) (tC (.int 1)))) (tRet (tOp (rPlusQ K) (tC (.int 1)) (tOp rMod (tVar 1) (tC (.int 5))))) (tNext))
    (tSeq (tIfS (tTest (tOp (rEqD K) (tVar 0) (tC (.int 2)))) (tRet (tOp (rPlusQ K) (tC (.int 1)) (tOp rMod (tVar 1) (tOp rPow (tC (.int 10)) (tC (.int 9)))))) (tNext))
    (tSeq (tIfS (tTest (tOp (rEqD K) (tVar 0) (tC (.int 4)))) (tRet (tOp (rSub K) (tLst (tCons (tC (.int 1)) (tCons (tC (.int 2)) (tCons (tC (.int 3)) (tCons (tC (.int 4)) (tCons (tC (.int 6)) (tCons (tC (.int 12)) (tNil)))))))) (tOp rMod (tVar 1) (tC (.int 6))))) (tNext))
    (tRet (tOp (rPlusQ K) (tC (.int 1)) (tOp rMod (tVar 1) (tC (.int 8))))))))
theorem ds_l_price {K : PySem.W.Frag} (p : Int × Int) (_ : True) : DS K (t_l_price K) (ent N_l_price [.int p.1, .int p.2]) { nx := fun _ => R.val true .none = R.val true (.int (priceN p.1 p.2)), rt := fun r => r = .val true (.int (priceN p.1 p.2)) } := by
  obtain ⟨way, high⟩ := p
  show DS K (t_l_price K) [some (.sh false (.int way)), some (.sh false (.int high))] { nx := _, rt := fun r => r = .val true (.int (priceN way high)) }
  unfold t_l_price
  have h6 := pick6 (Int.emod_nonneg high (show (6 : Int) ≠ 0 by decide)) (Int.emod_lt_of_pos high (by decide))
  refine ds_seq (ds_if (b := decide (way = 0)) (by fail "g") (fun hb => ?_) (fun hb => ds_next ?_))
  · exact ds_retE (n := true) (by fail "g") (by rfl) (by unfold priceN; rw [if_pos (of_decide_eq_true hb)])
  have n0 := of_decide_eq_false hb
  refine ds_seq (ds_if (b := decide (way = 1)) (by fail "g") (fun hb => ?_) (fun hb => ds_next ?_))
  · exact ds_retE (n := true) (by fail "g") (by rfl) (by unfold priceN; rw [if_neg n0, if_pos (of_decide_eq_true hb)])
  have n1 := of_decide_eq_false hb
  refine ds_seq (ds_if (b := decide (way = 2)) (by fail "g") (fun hb => ?_) (fun hb => ds_next ?_))
  · exact ds_retE (n := true) (by fail "g") (by rfl) (by unfold priceN; rw [if_neg n0, if_neg n1, if_pos (of_decide_eq_true hb)])
  have n2 := of_decide_eq_false hb
  refine ds_seq (ds_if (b := decide (way = 4)) (by fail "g") (fun hb => ?_) (fun hb => ds_next ?_))
  · exact ds_retE (n := true) (by fail "g") (by rfl) (by unfold priceN; rw [if_neg n0, if_neg n1, if_neg n2, if_pos (of_decide_eq_true hb)])
  have n4 := of_decide_eq_false hb
  exact ds_retE (n := true) (by fail "g") (by rfl) (by unfold priceN; rw [if_neg n0, if_neg n1, if_neg n2, if_neg n4])
theorem call_l_price {K : PySem.W.Frag} {m : Md} {G : Sl} {t : TA} {way high : Int} (h : DA K none t G [.int way, .int high]) : DE K m (tCall (sp_l_price K) [] E0 t) G (.int (priceN way high)) := de_callN (r := .val true (.int (priceN way high))) (ι := Int × Int) (way, high) h trivial (fun r hr => hr) rfl
local macro_rules | `(tactic| fail "call") => `(tactic| ((with_reducible apply call_l_price) <;> fail "g"))

/-! ### _law_day -/
theorem pick2 {x y : Int} {b : Bool} : L2.atI [PyData.int x, PyData.int y] (if b = true then 1 else 0) = some (.int (if b = true then y else x)) := by cases b <;> rfl
def highN (c : Int) (k : Nat) : Int := iterN (k + 1) c / 1000000000000000
def dps0 (c way : Int) (w : Nat) : List Int := (List.range w).map fun k => priceN way (highN c k)
def das0 (c way : Int) (w : Nat) : List Int := (List.range w).map fun k => if decide (way = 2) = true then highN c k / 1000000000 % 1000000000 else highN c k / 420 % 4
def datN (c : Int) (w : Nat) : Int := iterN w c / 10000000000000000000000000 % (w : Nat)
def dps8 (c : Int) (w : Nat) : List Int := (List.range w).map fun k => if decide (((k : Nat) : Int) = (datN c w + 1) % (w : Nat)) = true then 2 + iterN w c % 2 else 9
def dps1 (c way : Int) (w : Nat) : List Int := if way = 8 then (dps8 c w).set (datN c w).toNat 3 else dps0 c way w
def das1 (c way : Int) (w : Nat) : List Int := if way = 8 then (List.range w).map fun k => if decide (((k : Nat) : Int) = datN c w) = true then 1 else 0 else das0 c way w
def dtN (c : Int) (w : Nat) : Int := 1 + iterN w c / 1000000000000000000000000000000 % 5
def das2 (c way : Int) (sh : List Int) : List Int := boughtN way (dps1 c way sh.length) (das1 c way sh.length) sh (dtN c sh.length)
def das3 (c way : Int) (sh : List Int) : List Int := if (das2 c way sh).sum = 0 then (das2 c way sh).set 0 1 else das2 c way sh
abbrev Day := List Int × List Int
def dayN (c way : Int) (sh : List Int) : Day := (dps1 c way sh.length, das3 c way sh)
def dayD (d : Day) : PyData := .tuple [mkT (d.1.map .int), .tuple (d.2.map .int)]
theorem intsD_map : ∀ l : List Int, intsD (l.map .int) = true
  | [] => rfl
  | _ :: l => intsD_map l
theorem imm_mkT {l : List Int} : imm (mkT (l.map .int)) = true := intsD_map l
def bookD (b : List Day) : PyData := .tuple (b.map dayD)
theorem imm_ints {l : List Int} : imm (.tuple (l.map .int)) = true := imm_map fun _ _ => rfl
theorem imm_dayD (d : Day) : imm (dayD d) = true := imm_tup fun x hx => by
  rcases List.mem_cons.mp hx with h | h
  · subst h; exact imm_mkT
  · rcases List.mem_cons.mp h with h | h
    · subst h; exact imm_ints
    · cases h
theorem imm_bookD (b : List Day) : imm (bookD b) = true := imm_map fun d _ => imm_dayD d
structure GoodDay (w : Nat) (d : Day) : Prop where
  l1 : d.1.length = w
  l2 : d.2.length = w
  p : ∀ x ∈ d.1, 1 ≤ x ∧ x ≤ 1000000000
  a : ∀ x ∈ d.2, 0 ≤ x ∧ x ≤ 1000000000000000000
  s : 0 < d.2.sum
structure Shp (sh : List Int) : Prop where
  l1 : 1 ≤ sh.length
  l6 : sh.length ≤ 6
  s : ∀ x ∈ sh, 0 ≤ x ∧ x ≤ 3
theorem dps1_len {c way : Int} {w : Nat} : (dps1 c way w).length = w := by unfold dps1 dps8 dps0; split <;> simp
theorem das1_len {c way : Int} {w : Nat} : (das1 c way w).length = w := by unfold das1 das0; split <;> simp
theorem set_all {P : Int → Prop} {l : List Int} {j : Nat} {v : Int} (h : ∀ x ∈ l, P x) (hv : P v) : ∀ x ∈ l.set j v, P x := fun x hx => by
  rcases List.mem_or_eq_of_mem_set hx with q | q
  · exact h x q
  · subst q; exact hv
theorem dps1_at {c way : Int} {w : Nat} : (∀ x ∈ dps1 c way w, 1 ≤ x ∧ x ≤ 1000000000) ∧ (way = 7 → ∀ x ∈ dps1 c way w, x ≤ 9) := by
  unfold dps1
  split
  · refine ⟨set_all (map_range_at fun k hk => ?_) (by decide), fun h => by omega⟩
    have := Int.emod_nonneg (iterN w c) (show (2 : Int) ≠ 0 by decide)
    have := Int.emod_lt_of_pos (iterN w c) (show (0 : Int) < 2 by decide)
    split <;> omega
  · exact ⟨map_range_at fun k hk => ⟨priceN_bd.1, priceN_bd.2.1⟩, fun h => map_range_at fun k hk => priceN_bd.2.2 h⟩
theorem das1_at {c way : Int} {w : Nat} : ∀ x ∈ das1 c way w, 0 ≤ x ∧ x ≤ 1000000000 := by
  unfold das1
  split
  · refine map_range_at fun k hk => ?_
    split <;> omega
  · refine map_range_at fun k hk => ?_
    have := Int.emod_nonneg (highN c k / 1000000000) (show (1000000000 : Int) ≠ 0 by decide)
    have := Int.emod_lt_of_pos (highN c k / 1000000000) (show (0 : Int) < 1000000000 by decide)
    have := Int.emod_nonneg (highN c k / 420) (show (4 : Int) ≠ 0 by decide)
    have := Int.emod_lt_of_pos (highN c k / 420) (show (0 : Int) < 4 by decide)
    split <;> omega
theorem day_buy {c way : Int} {sh : List Int} (h : Shp sh) : Buy way (dps1 c way sh.length) (das1 c way sh.length) sh (dtN c sh.length) where
  ps' := ⟨dps1_len.symm, by rw [dps1_len]; exact h.l6, dps1_at.1, h.s⟩
  l1 := by rw [dps1_len]; exact h.l1
  la := by rw [dps1_len, das1_len]
  a := das1_at
  t := by
    have := Int.emod_nonneg (iterN sh.length c / 1000000000000000000000000000000) (show (5 : Int) ≠ 0 by decide)
    have := Int.emod_lt_of_pos (iterN sh.length c / 1000000000000000000000000000000) (show (0 : Int) < 5 by decide)
    unfold dtN
    omega
  w7 := dps1_at.2
theorem dayN_good {c way : Int} {sh : List Int} (h : Shp sh) : GoodDay sh.length (dayN c way sh) ∧ ∀ x ∈ (dayN c way sh).2, x ≤ 1000000001 := by
  have B := day_buy (c := c) (way := way) h
  have hl : (das2 c way sh).length = sh.length := (boughtN_len B).trans dps1_len
  have ha : ∀ x ∈ das2 c way sh, 0 ≤ x ∧ x ≤ 1000000001 := boughtN_at B
  have h3 : ∀ x ∈ das3 c way sh, 0 ≤ x ∧ x ≤ 1000000001 := by
    unfold das3
    split
    · exact set_all ha (by decide)
    · exact ha
  refine ⟨⟨dps1_len, ?_, dps1_at.1, fun x hx => ?_, ?_⟩, fun x hx => (h3 x hx).2⟩
  · show (das3 c way sh).length = _
    unfold das3
    split <;> simp [hl]
  · have := h3 x hx; omega
  · exact sum_fix (fun x hx => (ha x hx).1) (by rw [hl]; exact h.l1)
def sp_l_day (K : PySem.W.Frag) : Sp := spD K (ι := Int × Int × List Int) (fun p => [.int p.1, .int p.2.1, .list (p.2.2.map .int)]) (fun p => Bd40 p.1 ∧ Shp p.2.2) (fun p r => r = .val true (dayD (dayN p.1 p.2.1 p.2.2)))
/- 0 _law_cell_here, 1 _law_way, 2 _law_shape_here, 3 _law_prices, 4 _law_amounts, 5 _law_k, 6 _law_high, 7 _law_at -/
def N_l_day : List Str := ["_law_cell_here", "_law_way", "_law_shape_here", "_law_prices", "_law_amounts", "_law_k", "_law_high", "_law_at"]
def t_l_day (K : PySem.W.Frag) : TS :=
  tSeq (tAsg (tLst (tNil)) (gName 3))
    (tSeq (tAsg (tLst (tNil)) (gName 4))
    (tSeq (tFor (iRng1 (tCons (tCB (rLen K) (tCons (tVar 2) (tNil))) (tNil))) (gName 5) (tSeq (tAsg (tCall (sp_l_next K) [] E0 (tCons (tVar 0) (tNil))) (gName 0))
    (tSeq (tAsg (tOp rFloor (tVar 0) (tOp rPow (tC (.int 10)) (tC (.int 15)))) (gName 6))
    (tSeq (tDrop (tBM K "list" rAppend (tVar 3) (tCons (tCall (sp_l_price K) [] E0 (tCons (tVar 1) (tCons (tVar 6) (tNil)))) (tNil))))
    (tDrop (tBM K "list" rAppend (tVar 4) (tCons (tOp (rSub K) (tLst (tCons (tOp rMod (tOp rFloor (tVar 6) (tC (.int 420))) (tC (.int 4))) (tCons (tOp rMod (tOp rFloor (tVar 6) (tOp rPow (tC (.int 10)) (tC (.int 9)))) (tOp rPow (tC (.int 10)) (tC (.int 9)))) (tNil)))) (tCB rInt1 (tCons (tOp (rEqD K) (tVar 1) (tC (.int 2))) (tNil)))) (tNil))))))))
    (tSeq (tIfS (tTest (tOp (rEqD K) (tVar 1) (tC (.int 8)))) (tSeq (tAsg (tOp rMod (tOp rFloor (tVar 0) (tOp rPow (tC (.int 10)) (tC (.int 25)))) (tCB (rLen K) (tCons (tVar 3) (tNil)))) (gName 7))
    (tSeq (tAsg (tLc (iRng1 (tCons (tCB (rLen K) (tCons (tVar 2) (tNil))) (tNil))) (gName 5) (tYes) (tOp (rSub K) (tLst (tCons (tC (.int 9)) (tCons (tOp (rPlusQ K) (tC (.int 2)) (tOp rMod (tVar 0) (tC (.int 2)))) (tNil)))) (tCB rInt1 (tCons (tOp (rEqD K) (tVar 5) (tOp rMod (tOp (rPlusQ K) (tVar 7) (tC (.int 1))) (tCB (rLen K) (tCons (tVar 2) (tNil))))) (tNil)))) [5]) (gName 3))
    (tSeq (tAsg (tC (.int 3)) (gSub (tVar 3) (tVar 7) rSetA))
    (tAsg (tLc (iRng1 (tCons (tCB (rLen K) (tCons (tVar 2) (tNil))) (tNil))) (gName 5) (tYes) (tCB rInt1 (tCons (tOp (rEqD K) (tVar 5) (tVar 7)) (tNil))) [5]) (gName 4))))) (tNext))
    (tSeq (tAsg (tCall (sp_l_bought K) [] E0 (tCons (tVar 1) (tCons (tVar 3) (tCons (tVar 4) (tCons (tVar 2) (tCons (tOp (rPlusQ K) (tC (.int 1)) (tOp rMod (tOp rFloor (tVar 0) (tOp rPow (tC (.int 10)) (tC (.int 30)))) (tC (.int 5)))) (tNil))))))) (gName 4))
    (tSeq (tIfS (tTest (tOp (rEqD K) (tCB (rSumA K) (tCons (tVar 4) (tNil))) (tC (.int 0)))) (tAsg (tC (.int 1)) (gSub (tVar 4) (tC (.int 0)) rSetA)) (tNext))
    (tRet (tTup (tCons (tCB (rTupM K) (tCons (tVar 3) (tNil))) (tCons (tCB (rTupOf K) (tCons (tVar 4) (tNil))) (tNil))))))))))
theorem ds_l_day {K : PySem.W.Frag} (p : Int × Int × List Int) (h : Bd40 p.1 ∧ Shp p.2.2) : DS K (t_l_day K) (ent N_l_day [.int p.1, .int p.2.1, .list (p.2.2.map .int)]) { nx := fun _ => R.val true .none = R.val true (dayD (dayN p.1 p.2.1 p.2.2)), rt := fun r => r = .val true (dayD (dayN p.1 p.2.1 p.2.2)) } := by
  obtain ⟨c, way, sh⟩ := p
  obtain ⟨hc, S⟩ := h
  have hc : Bd40 c := hc
  have S : Shp sh := S
  show DS K (t_l_day K) [some (.sh false (.int c)), some (.sh false (.int way)), some (.sh false (.list (sh.map .int))), none, none, none, none, none] { nx := _, rt := fun r => r = .val true (dayD (dayN c way sh)) }
  unfold t_l_day
  have l1 := S.l1
  have l6 := S.l6
  have le1 : ((sh.map PyData.int).length : Int) = (sh.length : Nat) := by simp
  refine ds_seq (ds_ownE (n := true) (ds' := (([] : List Int).map .int)) (dn_lst da_nil (by decide)) (by rfl) (Nat.lt_of_sub_eq_succ rfl) fun a => ?_)
  refine ds_seq (ds_ownE (n := true) (ds' := (([] : List Int).map .int)) (dn_lst da_nil (by decide)) (by rfl) (Nat.lt_of_sub_eq_succ rfl) fun a2 => ?_)
  refine ds_cut (fun G => ∃ b y z, (∀ b', y = some b' → B.ows b' = []) ∧ G = [some (.sh b (.int (iterN sh.length c))), some (.sh false (.int way)), some (.sh false (.list (sh.map .int))), some (.own true a ((dps0 c way sh.length).map .int)), some (.own true a2 ((das0 c way sh.length).map .int)), y, z, none]) ?_ ?_
  · refine ds_forR (q := sh.length) (by fail "g") le1 (by omega) (fun k G => ∃ b y z, (∀ b', y = some b' → B.ows b' = []) ∧ G = [some (.sh b (.int (iterN k c))), some (.sh false (.int way)), some (.sh false (.list (sh.map .int))), some (.own true a ((dps0 c way k).map .int)), some (.own true a2 ((das0 c way k).map .int)), y, z, none]) ⟨false, none, none, (fun _ h => by cases h), rfl⟩ ?_ ?_ ?_
    · rintro k G ⟨b, y, z, hy, rfl⟩; exact (Nat.lt_of_sub_eq_succ rfl)
    · rintro k G hk ⟨b, y, z, hy, rfl⟩
      have hb := iterN_bd hc k
      have hb2 := iterN_bd hc (k + 1)
      obtain ⟨hb3, hb4⟩ := hb2
      refine ds_seq (ds_setE (n := true) (d' := .int (iterN (k + 1) c)) (by fail "g") (by rfl) (Nat.lt_of_sub_eq_succ rfl) ?_)
      refine ds_seq (ds_setE (n := true) (d' := .int (highN c k)) (by fail "g") (by rfl) (Nat.lt_of_sub_eq_succ rfl) ?_)
      refine ds_seq (ds_appE (n := true) (d := .int (priceN way (highN c k))) (by rfl) (by fail "g") (by simp [dps0]; omega) (ds' := (dps0 c way (k + 1)).map .int) ?_ ?_)
      · unfold dps0
        rw [List.range_succ, List.map_append, List.map_append]
        rfl
      have p2 := pick2 (x := highN c k / 420 % 4) (y := highN c k / 1000000000 % 1000000000) (b := decide (way = 2))
      refine ds_appE (n := true) (d := .int (if decide (way = 2) = true then highN c k / 1000000000 % 1000000000 else highN c k / 420 % 4)) (by rfl) (by fail "g") (by simp [das0]; omega) (ds' := (das0 c way (k + 1)).map .int) ?_ ⟨true, _, _, (fun b' h => by cases h; rfl), rfl⟩
      unfold das0
      rw [List.range_succ, List.map_append, List.map_append]
      rfl
    · rintro G ⟨b, y, z, hy, rfl⟩; exact ⟨_, _, _, hy, rfl⟩
  · rintro G ⟨b, y, z, hy, rfl⟩
    have hcb := iterN_bd hc sh.length
    obtain ⟨hb3, hb4⟩ := hcb
    refine ds_cut (fun G => ∃ a a2 y z u, G = [some (.sh b (.int (iterN sh.length c))), some (.sh false (.int way)), some (.sh false (.list (sh.map .int))), some (.own true a ((dps1 c way sh.length).map .int)), some (.own true a2 ((das1 c way sh.length).map .int)), y, z, u]) ?_ ?_
    · refine ds_if (b := decide (way = 8)) (by fail "g") (fun hb => ?_) (fun hb => ?_)
      · have hb := of_decide_eq_true hb
        have m1 : 0 ≤ datN c sh.length := Int.emod_nonneg _ (by omega)
        have m2 : datN c sh.length < (sh.length : Nat) := Int.emod_lt_of_pos _ (by omega)
        have le2 : (((dps0 c way sh.length).map PyData.int).length : Int) = (sh.length : Nat) := by simp [dps0]
        have lp : 0 < (((dps0 c way sh.length).map PyData.int).length : Int) := by rw [le2]; omega
        have lp2 : 0 < ((sh.map PyData.int).length : Int) := by rw [le1]; omega
        refine ds_seq (ds_setE (n := true) (d' := .int (datN c sh.length)) (by fail "g") (by rw [le2]; rfl) (Nat.lt_of_sub_eq_succ rfl) ?_)
        refine ds_seq (ds_ownE (n := true) (ds' := (dps8 c sh.length).map .int) (dn_lcR (q := sh.length) (fun k => .int (if decide (((k : Nat) : Int) = (datN c sh.length + 1) % (sh.length : Nat)) = true then 2 + iterN sh.length c % 2 else 9)) (by fail "g") le1 (by omega) (Nat.lt_of_sub_eq_succ rfl) ?_ fun k hk => ?_) ?_ (Nat.lt_of_sub_eq_succ rfl) fun a3 => ?_)
        · exact fun b hb => hy b (Option.some.inj hb)
        · have p2 := pick2 (x := 9) (y := 2 + iterN sh.length c % 2) (b := decide (((k : Nat) : Int) = (datN c sh.length + 1) % (sh.length : Nat)))
          rw [← le1] at p2 ⊢
          fail "g"
        · unfold dps8; rw [List.map_map]; rfl
        refine ds_seq (ds_setItemA (n := true) (j := (datN c sh.length).toNat) (d := .int 3) (ds := (dps8 c sh.length).map .int) (by rfl) (by fail "g") (by fail "g") (by unfold ixN; rw [List.length_map, if_pos (by omega), if_pos (by unfold dps8; rw [List.length_map, List.length_range]; omega)]) ?_)
        refine ds_ownE (n := true) (ds' := (das1 c way sh.length).map .int) (dn_lcR (q := sh.length) (fun k => .int (if decide (((k : Nat) : Int) = datN c sh.length) = true then 1 else 0)) (by fail "g") le1 (by omega) (Nat.lt_of_sub_eq_succ rfl) ?_ fun k hk => ?_) ?_ (Nat.lt_of_sub_eq_succ rfl) fun a4 => ?_
        · exact fun b hb => hy b (Option.some.inj hb)
        · fail "g"
        · unfold das1; rw [if_pos hb, List.map_map]; rfl
        · refine ⟨a3, a4, y, z, some (.sh true (.int (datN c sh.length))), ?_⟩
          unfold dps1
          rw [if_pos hb, List.map_set]
          rfl
      · have hb := of_decide_eq_false hb
        refine ds_next ⟨a, a2, y, z, none, ?_⟩
        unfold dps1 das1
        rw [if_neg hb, if_neg hb]
    · rintro G ⟨a, a2, y, z, u, rfl⟩
      have B := day_buy (c := c) (way := way) S
      refine ds_seq (ds_bought (times := dtN c sh.length) (as := das1 c way sh.length) (ps := dps1 c way sh.length) (sh := sh) (way := way) (by rfl) (by rfl) (by rfl) (by rfl) (de_trans (by fail "g") (by rfl)) B (Nat.lt_of_sub_eq_succ rfl) fun a3 => ?_)
      refine ds_cut (fun G => G = [some (.sh b (.int (iterN sh.length c))), some (.sh false (.int way)), some (.sh false (.list (sh.map .int))), some (.own true a ((dps1 c way sh.length).map .int)), some (.own true a3 ((das3 c way sh).map .int)), y, z, u]) ?_ ?_
      · show DS K _ [some (.sh b (.int (iterN sh.length c))), some (.sh false (.int way)), some (.sh false (.list (sh.map .int))), some (.own true a ((dps1 c way sh.length).map .int)), some (.own true a3 ((das2 c way sh).map .int)), y, z, u] _
        refine ds_if (b := decide ((das2 c way sh).sum = 0)) (by fail "g") (fun hb => ?_) (fun hb => ?_)
        · have hb := of_decide_eq_true hb
          have hl : (das2 c way sh).length = sh.length := (boughtN_len B).trans dps1_len
          refine ds_setItemA (n := true) (j := 0) (d := .int 1) (ds := (das2 c way sh).map .int) (by rfl) (by fail "g") (by fail "g") (by unfold ixN; rw [List.length_map, if_pos (by decide), if_pos (by omega)]; rfl) ?_
          unfold das3
          rw [if_pos hb, List.map_set]
          rfl
        · have hb := of_decide_eq_false hb
          refine ds_next ?_
          unfold das3
          rw [if_neg hb]
      · rintro G rfl
        exact ds_retD (n := true) (d := dayD (dayN c way sh)) (de_imm (by unfold dayD dayN; fail "g") (imm_dayD _)) rfl
theorem call_l_day {K : PySem.W.Frag} {m : Md} {G : Sl} {t : TA} {c way : Int} {sh : List Int} (h : DA K none t G [.int c, .int way, .list (sh.map .int)]) (hc : Bd40 c) (hs : Shp sh) : DE K m (tCall (sp_l_day K) [] E0 t) G (dayD (dayN c way sh)) := de_callN (r := .val true (dayD (dayN c way sh))) (ι := Int × Int × List Int) (c, way, sh) h ⟨hc, hs⟩ (fun r hr => hr) rfl
local macro_rules | `(tactic| fail "call") => `(tactic| ((with_reducible apply call_l_day) <;> fail "g"))

/-! ### _law_book -/
def wayN (c : Int) : Int := ([0, 1, 0, 2, 8, 3, 4, 5, 6, 7] : List Int).getD (c / 8 % 10).toNat 0
theorem pick10 {k : Int} (h0 : 0 ≤ k) (h : k < 10) : L2.atI [PyData.int 0, .int 1, .int 0, .int 2, .int 8, .int 3, .int 4, .int 5, .int 6, .int 7] k = some (.int (([0, 1, 0, 2, 8, 3, 4, 5, 6, 7] : List Int).getD k.toNat 0)) := by
  have : k = 0 ∨ k = 1 ∨ k = 2 ∨ k = 3 ∨ k = 4 ∨ k = 5 ∨ k = 6 ∨ k = 7 ∨ k = 8 ∨ k = 9 := by omega
  rcases this with h | h | h | h | h | h | h | h | h | h <;> subst h <;> rfl
def bshN (c wares : Int) : List Int := shapeN c (1 + c % wares).toNat
def bqN (c most : Int) : Nat := (1 + c / 80 % most).toNat
def bdays (ns : List Int) (start most wares : Int) : List Day := (List.range (bqN (cellN ns start.toNat) most)).map fun k => dayN (cellN ns (start + 1 + (k : Nat)).toNat) (wayN (cellN ns start.toNat)) (bshN (cellN ns start.toNat) wares)
def bumpN (d : Day) (j : Nat) : Day := (d.1, d.2.set j (d.2.getD j 0 + 1))
def bkN (c most : Int) : Int := c / 4000 % ((bqN c most : Nat) : Int)
def bjN (c wares : Int) : Int := c / 40000 % (((bshN c wares).length : Nat) : Int)
def bookN (ns : List Int) (start most wares : Int) : List Day :=
  if cellN ns start.toNat / 1000 % 4 = 0 then
    (bdays ns start most wares).set (bkN (cellN ns start.toNat) most).toNat (bumpN ((bdays ns start most wares).getD (bkN (cellN ns start.toNat) most).toNat ([], [])) (bjN (cellN ns start.toNat) wares).toNat)
  else bdays ns start most wares
structure GoodBook (w : Nat) (b : List Day) : Prop where
  l1 : 1 ≤ b.length
  l8 : b.length ≤ 8
  w1 : 1 ≤ w
  w6 : w ≤ 6
  d : ∀ x ∈ b, GoodDay w x
theorem bsh_shp {c wares : Int} (h1 : 1 ≤ wares) (h6 : wares ≤ 6) : Shp (bshN c wares) := by
  have := Int.emod_nonneg c (show wares ≠ 0 by omega)
  have := Int.emod_lt_of_pos c (show 0 < wares by omega)
  exact ⟨by unfold bshN; rw [shapeN_len]; omega, by unfold bshN; rw [shapeN_len]; omega, shapeN_at⟩
theorem bq_bd {c most : Int} (h1 : 1 ≤ most) (h8 : most ≤ 8) : 1 ≤ bqN c most ∧ bqN c most ≤ 8 ∧ ((bqN c most : Nat) : Int) = 1 + c / 80 % most := by
  have := Int.emod_nonneg (c / 80) (show most ≠ 0 by omega)
  have := Int.emod_lt_of_pos (c / 80) (show 0 < most by omega)
  unfold bqN
  omega
theorem sum_set : ∀ {l : List Int} {j : Nat}, j < l.length → (l.set j (l.getD j 0 + 1)).sum = l.sum + 1
  | x :: l, 0, _ => by simp; omega
  | x :: l, j + 1, h => by
    have := sum_set (l := l) (j := j) (by simpa using h)
    simp only [List.set_cons_succ, List.sum_cons, List.getD_cons_succ]
    omega
theorem getD_memX {α : Type} {l : List α} {k : Nat} {z : α} (h : k < l.length) : l.getD k z ∈ l := by
  rw [List.getD_eq_getElem?_getD, List.getElem?_eq_getElem h]; exact List.getElem_mem h
theorem bump_good {w : Nat} {d : Day} {j : Nat} (h : GoodDay w d) (hj : j < w) (hb : ∀ x ∈ d.2, x ≤ 1000000001) : GoodDay w (bumpN d j) where
  l1 := h.l1
  l2 := by unfold bumpN; simp [h.l2]
  p := h.p
  a := set_all h.a (by
    have h1 := h.a _ (getD_mem' (l := d.2) (k := j) (by rw [h.l2]; exact hj))
    have h2 := hb _ (getD_mem' (l := d.2) (k := j) (by rw [h.l2]; exact hj))
    omega)
  s := by
    have := sum_set (l := d.2) (j := j) (by rw [h.l2]; exact hj)
    have := h.s
    show 0 < (d.2.set j (d.2.getD j 0 + 1)).sum
    omega
theorem bdays_good {ns : List Int} {start most wares : Int} (h1 : 1 ≤ wares) (h6 : wares ≤ 6) : ∀ d ∈ bdays ns start most wares, GoodDay (bshN (cellN ns start.toNat) wares).length d ∧ ∀ x ∈ d.2, x ≤ 1000000001 := fun d hd => by
  obtain ⟨k, _, rfl⟩ := List.mem_map.mp hd
  exact dayN_good (bsh_shp h1 h6)
theorem bdays_len {ns : List Int} {start most wares : Int} : (bdays ns start most wares).length = bqN (cellN ns start.toNat) most := by unfold bdays; simp
theorem bk_bd {c most : Int} (h1 : 1 ≤ most) (h8 : most ≤ 8) : 0 ≤ bkN c most ∧ bkN c most < ((bqN c most : Nat) : Int) := by
  have := bq_bd (c := c) h1 h8
  exact ⟨Int.emod_nonneg _ (by omega), Int.emod_lt_of_pos _ (by omega)⟩
theorem bj_bd {c wares : Int} (h1 : 1 ≤ wares) (h6 : wares ≤ 6) : 0 ≤ bjN c wares ∧ bjN c wares < (((bshN c wares).length : Nat) : Int) := by
  have := (bsh_shp (c := c) h1 h6).l1
  exact ⟨Int.emod_nonneg _ (by omega), Int.emod_lt_of_pos _ (by omega)⟩
theorem bookN_good {ns : List Int} {start most wares : Int} (m1 : 1 ≤ most) (m8 : most ≤ 8) (h1 : 1 ≤ wares) (h6 : wares ≤ 6) : GoodBook (bshN (cellN ns start.toNat) wares).length (bookN ns start most wares) := by
  have S := bsh_shp (c := cellN ns start.toNat) h1 h6
  have Q := bq_bd (c := cellN ns start.toNat) m1 m8
  have D := bdays_good (ns := ns) (start := start) (most := most) h1 h6
  have L := bdays_len (ns := ns) (start := start) (most := most) (wares := wares)
  have BK := bk_bd (c := cellN ns start.toNat) m1 m8
  have BJ := bj_bd (c := cellN ns start.toNat) h1 h6
  have hl : (bookN ns start most wares).length = bqN (cellN ns start.toNat) most := by unfold bookN; split <;> simp [L]
  refine ⟨by omega, by omega, S.l1, S.l6, fun x hx => ?_⟩
  unfold bookN at hx
  split at hx
  · rcases List.mem_or_eq_of_mem_set hx with q | q
    · exact (D x q).1
    · subst q
      have := D _ (getD_memX (l := bdays ns start most wares) (k := (bkN (cellN ns start.toNat) most).toNat) (z := ([], [])) (by rw [L]; omega))
      exact bump_good this.1 (by omega) this.2
  · exact (D x hx).1
theorem at_getX {α : Type} {f : α → PyData} {l : List α} {k : Nat} {z : Int} {x : α} (h : k < l.length) (e : z = (k : Nat)) : L2.atI (l.map f) z = some (f (l.getD k x)) := atI_map (x := l.getD k x) (by rw [List.getD_eq_getElem?_getD, List.getElem?_eq_getElem h]; rfl) e
theorem cut_bump {as : List Int} {j : Nat} {z : Int} (h : j < as.length) (e : z = (j : Nat)) : cutD (as.map PyData.int) none (some z) ++ [.int (as.getD j 0 + 1)] ++ cutD (as.map PyData.int) (some (z + 1)) none = (as.set j (as.getD j 0 + 1)).map .int := by
  subst e
  have e1 : ((j : Nat) : Int) + 1 = ((j + 1 : Nat) : Int) := by omega
  unfold cutD
  rw [e1, HT.sIx_nat, HT.sIx_nat, HT.sIx_none, HT.sIx_none, List.length_map, List.drop_zero, Nat.sub_zero, Nat.min_eq_left (by omega), Nat.min_eq_left (by omega), List.set_eq_take_append_cons_drop, if_pos h, List.map_append, List.map_cons, List.map_take, List.map_drop]
  rw [List.take_of_length_le (l := (as.map PyData.int).drop (j + 1)) (by simp)]
  simp
theorem cutD_len {xs : List PyData} {lo hi : Option Int} : (cutD xs lo hi).length ≤ xs.length := by
  unfold cutD
  rw [List.length_take, List.length_drop]
  omega
structure BookPre (p : List Int × Int × Int × Int) : Prop where
  s : Scr p.1
  s0 : 0 ≤ p.2.1
  s1 : p.2.1 ≤ 500
  m1 : 1 ≤ p.2.2.1
  m8 : p.2.2.1 ≤ 8
  w1 : 1 ≤ p.2.2.2
  w6 : p.2.2.2 ≤ 6
def sp_l_book (K : PySem.W.Frag) : Sp := spD K (ι := List Int × Int × Int × Int) (fun p => [.list (p.1.map .int), .int p.2.1, .int p.2.2.1, .int p.2.2.2]) BookPre (fun p r => r = .val true (bookD (bookN p.1 p.2.1 p.2.2.1 p.2.2.2)))
/- 0 _law_script, 1 _law_start, 2 _law_most, 3 _law_wares, 4 _law_cell_here, 5 _law_way, 6 _law_shape_here, 7 _law_book_here, 8 _law_k, 9 _law_j, 10 _law_amounts -/
def N_l_book : List Str := ["_law_script", "_law_start", "_law_most", "_law_wares", "_law_cell_here", "_law_way", "_law_shape_here", "_law_book_here", "_law_k", "_law_j", "_law_amounts"]
def t_l_book (K : PySem.W.Frag) : TS :=
  tSeq (tAsg (tCall (sp_l_cell K) [] E0 (tCons (tVar 0) (tCons (tVar 1) (tNil)))) (gName 4))
    (tSeq (tAsg (tOp (rSub K) (tLst (tCons (tC (.int 0)) (tCons (tC (.int 1)) (tCons (tC (.int 0)) (tCons (tC (.int 2)) (tCons (tC (.int 8)) (tCons (tC (.int 3)) (tCons (tC (.int 4)) (tCons (tC (.int 5)) (tCons (tC (.int 6)) (tCons (tC (.int 7)) (tNil)))))))))))) (tOp rMod (tOp rFloor (tVar 4) (tC (.int 8))) (tC (.int 10)))) (gName 5))
    (tSeq (tAsg (tCall (sp_l_shape K) [] E0 (tCons (tVar 4) (tCons (tOp (rPlusQ K) (tC (.int 1)) (tOp rMod (tVar 4) (tVar 3))) (tNil)))) (gName 6))
    (tSeq (tAsg (tLc (iRng1 (tCons (tOp (rPlusQ K) (tC (.int 1)) (tOp rMod (tOp rFloor (tVar 4) (tC (.int 80))) (tVar 2))) (tNil))) (gName 8) (tYes) (tCall (sp_l_day K) [] E0 (tCons (tCall (sp_l_cell K) [] E0 (tCons (tVar 0) (tCons (tOp (rPlusQ K) (tOp (rPlusQ K) (tVar 1) (tC (.int 1))) (tVar 8)) (tNil)))) (tCons (tVar 5) (tCons (tVar 6) (tNil))))) [8]) (gName 7))
    (tSeq (tIfS (tTest (tOp (rEqD K) (tOp rMod (tOp rFloor (tVar 4) (tC (.int 1000))) (tC (.int 4))) (tC (.int 0)))) (tSeq (tAsg (tOp rMod (tOp rFloor (tVar 4) (tC (.int 4000))) (tCB (rLen K) (tCons (tVar 7) (tNil)))) (gName 8))
    (tSeq (tAsg (tOp rMod (tOp rFloor (tVar 4) (tC (.int 40000))) (tCB (rLen K) (tCons (tVar 6) (tNil)))) (gName 9))
    (tSeq (tAsg (tOp (rPlusQ K) (tOp (rPlusQ K) (tSl (rSl K) (tOp (rSub K) (tOp (rSub K) (tVar 7) (tVar 8)) (tC (.int 1))) (tNoPart) (tPart (tVar 9))) (tTup (tCons (tOp (rPlusQ K) (tOp (rSub K) (tOp (rSub K) (tOp (rSub K) (tVar 7) (tVar 8)) (tC (.int 1))) (tVar 9)) (tC (.int 1))) (tNil)))) (tSl (rSl K) (tOp (rSub K) (tOp (rSub K) (tVar 7) (tVar 8)) (tC (.int 1))) (tPart (tOp (rPlusQ K) (tVar 9) (tC (.int 1)))) (tNoPart))) (gName 10))
    (tAsg (tTup (tCons (tOp (rSub K) (tOp (rSub K) (tVar 7) (tVar 8)) (tC (.int 0))) (tCons (tVar 10) (tNil)))) (gSub (tVar 7) (tVar 8) rSetA))))) (tNext))
    (tRet (tCB (rTupOf K) (tCons (tVar 7) (tNil))))))))
theorem ds_l_book {K : PySem.W.Frag} (p : List Int × Int × Int × Int) (h : BookPre p) : DS K (t_l_book K) (ent N_l_book [.list (p.1.map .int), .int p.2.1, .int p.2.2.1, .int p.2.2.2]) { nx := fun _ => R.val true .none = R.val true (bookD (bookN p.1 p.2.1 p.2.2.1 p.2.2.2)), rt := fun r => r = .val true (bookD (bookN p.1 p.2.1 p.2.2.1 p.2.2.2)) } := by
  obtain ⟨ns, start, most, wares⟩ := p
  obtain ⟨hs, s0, s1, m1, m8, w1, w6⟩ := h
  have hs : Scr ns := hs
  have s0 : 0 ≤ start := s0
  have s1 : start ≤ 500 := s1
  have m1 : 1 ≤ most := m1
  have m8 : most ≤ 8 := m8
  have w1 : 1 ≤ wares := w1
  have w6 : wares ≤ 6 := w6
  show DS K (t_l_book K) [some (.sh false (.list (ns.map .int))), some (.sh false (.int start)), some (.sh false (.int most)), some (.sh false (.int wares)), none, none, none, none, none, none, none] { nx := _, rt := fun r => r = .val true (bookD (bookN ns start most wares)) }
  unfold t_l_book
  refine ds_seq (ds_setE (n := true) (d' := .int (cellN ns start.toNat)) (by fail "g") (by rfl) (Nat.lt_of_sub_eq_succ rfl) ?_)
  have hc := cellN_bd ns start.toNat
  have S := bsh_shp (c := cellN ns start.toNat) w1 w6
  have Q := bq_bd (c := cellN ns start.toNat) m1 m8
  have D := bdays_good (ns := ns) (start := start) (most := most) w1 w6
  have L := bdays_len (ns := ns) (start := start) (most := most) (wares := wares)
  have BK := bk_bd (c := cellN ns start.toNat) m1 m8
  have BJ := bj_bd (c := cellN ns start.toNat) w1 w6
  have e0 : bookN ns start most wares = bookN ns start most wares := rfl
  have p10 := pick10 (Int.emod_nonneg (cellN ns start.toNat / 8) (show (10 : Int) ≠ 0 by decide)) (Int.emod_lt_of_pos (cellN ns start.toNat / 8) (by decide))
  have r1 := Int.emod_nonneg (cellN ns start.toNat) (show wares ≠ 0 by omega)
  have r2 := Int.emod_lt_of_pos (cellN ns start.toNat) (show 0 < wares by omega)
  refine ds_seq (ds_setE (n := true) (d' := .int (wayN (cellN ns start.toNat))) (by fail "g") (by rfl) (Nat.lt_of_sub_eq_succ rfl) ?_)
  refine ds_seq (ds_own (n := true) (ds := (bshN (cellN ns start.toNat) wares).map .int) (by
    have := dr_l_shape (K := K) (G := [some (.sh false (.list (ns.map .int))), some (.sh false (.int start)), some (.sh false (.int most)), some (.sh false (.int wares)), some (.sh true (.int (cellN ns start.toNat))), some (.sh true (.int (wayN (cellN ns start.toNat)))), none, none, none, none, none]) (t := tCons (tVar 4) (tCons (tOp (rPlusQ K) (tC (.int 1)) (tOp rMod (tVar 4) (tVar 3))) tNil)) (c := cellN ns start.toNat) (w := (1 + cellN ns start.toNat % wares).toNat) (by rw [Int.toNat_of_nonneg (by omega)]; fail "g") hc (by omega) (by omega)
    exact this) (Nat.lt_of_sub_eq_succ rfl) fun a => ?_)
  refine ds_seq (ds_ownE (n := true) (ds' := (bdays ns start most wares).map dayD) (dn_lcR (q := bqN (cellN ns start.toNat) most) (fun k => dayD (dayN (cellN ns (start + 1 + (k : Nat)).toNat) (wayN (cellN ns start.toNat)) (bshN (cellN ns start.toNat) wares))) (by fail "g") Q.2.2.symm (by omega) (Nat.lt_of_sub_eq_succ rfl) (fun b hb => by cases hb) fun k hk => ?_) ?_ (Nat.lt_of_sub_eq_succ rfl) fun a2 => ?_)
  · have hck := cellN_bd ns (start + 1 + (k : Nat)).toNat
    have hck : Bd40 (cellN ns (start + 1 + (k : Nat)).toNat) := hck
    fail "g"
  · unfold bdays; rw [List.map_map]; rfl
  refine ds_cut (fun G => ∃ a x y z, G = [some (.sh false (.list (ns.map .int))), some (.sh false (.int start)), some (.sh false (.int most)), some (.sh false (.int wares)), some (.sh true (.int (cellN ns start.toNat))), some (.sh true (.int (wayN (cellN ns start.toNat)))), some (.own true a ((bshN (cellN ns start.toNat) wares).map .int)), some (.own true a2 ((bookN ns start most wares).map dayD)), x, y, z]) ?_ ?_
  · refine ds_if (b := decide (cellN ns start.toNat / 1000 % 4 = 0)) (by fail "g") (fun hb => ?_) (fun hb => ?_)
    · have hb := of_decide_eq_true hb
      have le2 : (((bdays ns start most wares).map dayD).length : Int) = ((bqN (cellN ns start.toNat) most : Nat) : Int) := by rw [List.length_map, L]
      have le1 : (((bshN (cellN ns start.toNat) wares).map PyData.int).length : Int) = (((bshN (cellN ns start.toNat) wares).length : Nat) : Int) := by rw [List.length_map]
      have lp2 : 0 < (((bdays ns start most wares).map dayD).length : Int) := by omega
      have lp1 : 0 < (((bshN (cellN ns start.toNat) wares).map PyData.int).length : Int) := by have := S.l1; omega
      refine ds_seq (ds_setE (n := true) (d' := .int (bkN (cellN ns start.toNat) most)) (by fail "g") (by rw [le2]; rfl) (Nat.lt_of_sub_eq_succ rfl) ?_)
      refine ds_seq (ds_setE (n := true) (d' := .int (bjN (cellN ns start.toNat) wares)) (by fail "g") (by rw [le1]; rfl) (Nat.lt_of_sub_eq_succ rfl) ?_)
      obtain ⟨kn, hkn⟩ : ∃ kn : Nat, bkN (cellN ns start.toNat) most = (kn : Nat) := ⟨_, (Int.toNat_of_nonneg BK.1).symm⟩
      obtain ⟨jn, hjn⟩ : ∃ jn : Nat, bjN (cellN ns start.toNat) wares = (jn : Nat) := ⟨_, (Int.toNat_of_nonneg BJ.1).symm⟩
      have hkl : kn < (bdays ns start most wares).length := by omega
      obtain ⟨g1, g2⟩ := D _ (getD_memX (z := ([], [])) hkl)
      have hjl : jn < ((bdays ns start most wares).getD kn ([], [])).2.length := by rw [g1.l2]; omega
      have a1 : L2.atI ((bdays ns start most wares).map dayD) (bkN (cellN ns start.toNat) most) = some (.tuple [mkT (((bdays ns start most wares).getD kn ([], [])).1.map .int), .tuple (((bdays ns start most wares).getD kn ([], [])).2.map .int)]) := at_getX (f := dayD) hkl hkn
      have at2 : L2.atI (((bdays ns start most wares).getD kn ([], [])).2.map PyData.int) (bjN (cellN ns start.toNat) wares) = some (.int (((bdays ns start most wares).getD kn ([], [])).2.getD jn 0)) := at_getX hjl hjn
      have i1 : ∀ x y : PyData, L2.atI [x, y] 1 = some y := fun _ _ => rfl
      have i0 : ∀ x y : PyData, L2.atI [x, y] 0 = some x := fun _ _ => rfl
      refine ds_seq (ds_setE (n := true) (d := .tuple ((((bdays ns start most wares).getD kn ([], [])).2.set jn (((bdays ns start most wares).getD kn ([], [])).2.getD jn 0 + 1)).map .int)) (d' := .tuple ((((bdays ns start most wares).getD kn ([], [])).2.set jn (((bdays ns start most wares).getD kn ([], [])).2.getD jn 0 + 1)).map .int)) ?_ rfl (Nat.lt_of_sub_eq_succ rfl) ?_)
      · rw [← cut_bump hjl hjn]
        refine de_imm (m := some true) ?_ ?_
        · have da1 : ∀ {G : Sl}, G[7]? = some (some (B.own true a2 ((bdays ns start most wares).map dayD))) → G[8]? = some (some (.sh true (.int (bkN (cellN ns start.toNat) most)))) → DE K none (tOp (rSub K) (tOp (rSub K) (tVar 7) (tVar 8)) (tC (.int 1))) G (.tuple (((bdays ns start most wares).getD kn ([], [])).2.map .int)) := fun h7 h8 => de_ixT (de_ixL (de_own h7) (de_full h8) a1) de_int (i1 _ _)
          have c6 : ((((bdays ns start most wares).getD kn ([], [])).2.map PyData.int).length) ≤ 6 := by rw [List.length_map, g1.l2]; exact S.l6
          exact de_catT (de_catT (de_slT (da1 rfl rfl) do_none (do_some (by fail "g"))) (de_tup (da_cons (de_add (de_ixT (da1 rfl rfl) (by fail "g") at2) (by fail "g")) da_nil) (by simp)) (Nat.le_trans (Nat.add_le_add (Nat.le_trans cutD_len c6) (Nat.le_refl 1)) (by decide))) (de_slT (da1 rfl rfl) (do_some (by fail "g")) do_none) (by
            rw [List.length_append]
            exact Nat.le_trans (Nat.add_le_add (Nat.add_le_add (Nat.le_trans cutD_len c6) (Nat.le_refl 1)) (Nat.le_trans cutD_len c6)) (by decide))
        · rw [cut_bump hjl hjn]; exact imm_ints
      · refine ds_setItemA (n := true) (j := kn) (d := dayD (bumpN ((bdays ns start most wares).getD kn ([], [])) jn)) (ds := (bdays ns start most wares).map dayD) (by rfl) (de_imm ?_ (imm_dayD _)) (by fail "g") (by unfold ixN; rw [List.length_map, if_pos (by omega), if_pos (by omega)]; rw [hkn]; rfl) ?_
        · unfold dayD bumpN
          exact de_tup (da_cons (de_ixT (de_ixL (by fail "g") (by fail "g") a1) (by fail "g") (i0 _ _)) (da_cons (by fail "g") da_nil)) (by simp)
        · refine ⟨a, some (.sh true (.int (bkN (cellN ns start.toNat) most))), some (.sh true (.int (bjN (cellN ns start.toNat) wares))), some (.sh true (.tuple ((((bdays ns start most wares).getD kn ([], [])).2.set jn (((bdays ns start most wares).getD kn ([], [])).2.getD jn 0 + 1)).map .int))), ?_⟩
          have em : (bookN ns start most wares).map dayD = ((bdays ns start most wares).map dayD).set kn (dayD (bumpN ((bdays ns start most wares).getD kn ([], [])) jn)) := by
            unfold bookN
            rw [if_pos hb, hkn, hjn, Int.toNat_natCast, Int.toNat_natCast, List.map_set]
          rw [em]
          rfl
    · have hb := of_decide_eq_false hb
      refine ds_next ⟨a, none, none, none, ?_⟩
      unfold bookN
      rw [if_neg hb]
      rfl
  · rintro G ⟨a, x, y, z, rfl⟩
    exact ds_retD (n := true) (d := bookD (bookN ns start most wares)) (de_imm (by unfold bookD; fail "g") (imm_bookD _)) rfl
theorem call_l_book {K : PySem.W.Frag} {m : Md} {G : Sl} {t : TA} {ns : List Int} {start most wares : Int} (h : DA K none t G [.list (ns.map .int), .int start, .int most, .int wares]) (hs : Scr ns) (s0 : 0 ≤ start) (s1 : start ≤ 500) (m1 : 1 ≤ most) (m8 : most ≤ 8) (w1 : 1 ≤ wares) (w6 : wares ≤ 6) : DE K m (tCall (sp_l_book K) [] E0 t) G (bookD (bookN ns start most wares)) := de_callN (r := .val true (bookD (bookN ns start most wares))) (ι := List Int × Int × Int × Int) (ns, start, most, wares) h ⟨hs, s0, s1, m1, m8, w1, w6⟩ (fun r hr => hr) rfl
local macro_rules | `(tactic| fail "call") => `(tactic| ((with_reducible apply call_l_book) <;> fail "g"))

/-! ### known, paid, cost, purse -/
def dotN (ps as : List Int) : Int := ((ps.zip as).map fun p => p.1 * p.2).sum
def atB (b : List Day) (i : Nat) : Day := b.getD i ([], [])
def costN (b : List Day) (i j : Nat) : Int := dotN (atB b i).1 (atB b j).2
theorem GoodBook.at_ {w : Nat} {b : List Day} (B : GoodBook w b) {i : Nat} (h : i < b.length) : GoodDay w (atB b i) := B.d _ (getD_memX h)
theorem tup0 {x y : PyData} : L2.atI [x, y] 0 = some x := rfl
theorem tup1 {x y : PyData} : L2.atI [x, y] 1 = some y := rfl

/-! ### what is promised by data, as mirrors -/
theorem ints_inj : ∀ {as bs : List Int}, as.map PyData.int = bs.map PyData.int → as = bs
  | [], [], _ => rfl
  | [], b :: bs, h => by cases h
  | a :: as, [], h => by cases h
  | a :: as, b :: bs, h => by
    rw [List.map_cons, List.map_cons, List.cons.injEq] at h
    rw [PyData.int.inj h.1, ints_inj h.2]
theorem mkT_inj {a b : List PyData} (h : mkT a = mkT b) : a = b := (List.cons.inj (PyData.tuple.inj (Prod.mk.inj (List.cons.inj (PyData.dict.inj h)).1).2)).2
theorem dayD_inj {d e : Day} (h : dayD d = dayD e) : d = e := by
  obtain ⟨a, b⟩ := d
  obtain ⟨c, f⟩ := e
  have h1 := PyData.tuple.inj h
  rw [List.cons.injEq, List.cons.injEq] at h1
  have e1 : a = c := ints_inj (mkT_inj h1.1)
  have e2 : b = f := ints_inj (PyData.tuple.inj h1.2.1)
  rw [e1, e2]
theorem days_inj : ∀ {as bs : List Day}, as.map dayD = bs.map dayD → as = bs
  | [], [], _ => rfl
  | [], b :: bs, h => by cases h
  | a :: as, [], h => by cases h
  | a :: as, b :: bs, h => by
    rw [List.map_cons, List.map_cons, List.cons.injEq] at h
    rw [dayD_inj h.1, days_inj h.2]
theorem bookD_inj {as bs : List Day} (h : bookD as = bookD bs) : as = bs := days_inj (PyData.tuple.inj h)
theorem rows_inj : ∀ {as bs : List (List Int)}, (as.map fun r => PyData.list (r.map .int)) = bs.map (fun r => PyData.list (r.map .int)) → as = bs
  | [], [], _ => rfl
  | [], b :: bs, h => by cases h
  | a :: as, [], h => by cases h
  | a :: as, b :: bs, h => by
    rw [List.map_cons, List.map_cons, List.cons.injEq] at h
    rw [ints_inj (PyData.list.inj h.1), rows_inj h.2]
noncomputable def m_l_int : MF := mOf (fun d : PyData => [d]) (fun d => exK d = false) (fun d => .v (.bool (isI d)))
theorem eq_l_int {d : PyData} (hx : exK d = false := by rfl) : m_l_int [d] = some (.v (.bool (isI d))) := mOf_eq (i := d) (by intro i j h _ _; simp only [List.cons.injEq, PyData.int.injEq, PyData.list.injEq, Int.natCast_inj, and_true] at h; rw [h]) hx
theorem so_l_int {K : PySem.W.Frag} {dv : List V} : SpOk K (sp_l_int K) dv m_l_int := spOk_of fun i r _ h => by subst h; rfl
noncomputable def m_l_cell : MF := mOf (fun p : List Int × Nat => [.list (p.1.map .int), .int (p.2 : Nat)]) (fun p => Scr p.1 ∧ p.2 ≤ 1000) (fun p => .v (.int (cellN p.1 p.2)))
theorem eq_l_cell {ns : List Int} {k : Nat} (h : Scr ns) (hk : k ≤ 1000) : m_l_cell [.list (ns.map .int), .int (k : Nat)] = some (.v (.int (cellN ns k))) := mOf_eq (i := (ns, k)) (by intro i j h _ _; simp only [List.cons.injEq, PyData.int.injEq, PyData.list.injEq, Int.natCast_inj, and_true] at h; rw [ints_inj h.1, h.2]) ⟨h, hk⟩
theorem so_l_cell {K : PySem.W.Frag} {dv : List V} : SpOk K (sp_l_cell K) dv m_l_cell := spOk_of fun i r _ h => by subst h; rfl
noncomputable def m_l_book : MF := mOf (fun p : List Int × Int × Int × Int => [.list (p.1.map .int), .int p.2.1, .int p.2.2.1, .int p.2.2.2]) BookPre (fun p => .v (bookD (bookN p.1 p.2.1 p.2.2.1 p.2.2.2)))
theorem eq_l_book {ns : List Int} {a b c : Int} (h : BookPre (ns, a, b, c)) : m_l_book [.list (ns.map .int), .int a, .int b, .int c] = some (.v (bookD (bookN ns a b c))) := mOf_eq (i := (ns, a, b, c)) (by intro i j h _ _; simp only [List.cons.injEq, PyData.int.injEq, PyData.list.injEq, Int.natCast_inj, and_true] at h; rw [ints_inj h.1, h.2.1, h.2.2.1, h.2.2.2]) h
theorem so_l_book {K : PySem.W.Frag} {dv : List V} : SpOk K (sp_l_book K) dv m_l_book := spOk_of fun i r _ h => by subst h; rfl

local macro_rules | `(tactic| fail "ev") => `(tactic| simp (disch := omega) only [eLit_a, eVar_a, aNil_a, aCons_a, eOp_a, eAdd_a, eNeg_a, eIx_a, eIxV_a, oNo_a, oSo_a, eTup_a, eLst_a, mTest_a, mNot_a, mAnd_a, mOr_a, mYes_a, eAnd_a, eOr_a, eNot_a, eIf_a, eChain_a, rE_a, eR_a, rLst_a, eCall_a, rCall_a, sNext_a, sBrk_a, sCnt_a, sSeq_a, sIf_a, sAsg_a, sAsgR_a, sExp_a, sRet_a, sRetN_a, sRetV_a, sApp_a, sSet_a, sPop_a, sFrz_a, gNm_a, gN0_a, gC_a, gCT_a, gTp_a, gLp_a, iSq_a, iZip_a, iRev_a, iItm_a, eB1_a, eMax2_a, eIsi_a, rListO_a, eTupO_a, eTupRv_a, eInV_a, eGet_a, rDi1_a, rSoK_a, rAdd_a, rSo_a, eLenSet_a, eCount_a, sClr_a, sIns_a, sPar_a, sAsT_a, sMov_a, eMinD_a, rLRev_a, rLRg2_a, rDi0_a, iEnu_a, rSoP_a, aMore_a, rCallN, eCallN, sForK, eSl_a, rSlc_a, eMk_a, eUm_a, iZipT_a, eMin2_a, eIsE_a, eIsT_a, eIsV_a, isExc, exc, exD, xNo_a, xThen_a, xCall_a, xSeq_a, xIf_a, xRaise_a, unm_mk, isiD, exK, eAlt_a, rAlt_a, eFld_a, aMth_a, eMake_a, eDef_a, eIndex_a, frz, pair,
  pI, pIc, pSub, pMul, pMod, pFloor, pPow_9, pPow_10, pPow_12, pPow_15, pPow_17, pPow_18, pPow_19, pPow_20, pPow_21, pPow_25, pPow_28, pPow_30, pPow_39, pPow_40, pPow_59, cMul_s, cDiv_s, cPos_s, pLt, pLe, pGt, pGe, pEq_i, pNe_i, pIs_n, pIsNot_n, pAdd_i, pAdd_l, pAdd_t, pIx_l, pIx_t, pIx_di, pIn_di, pLen_d, pLen_l, pLen_t, pInt, keyOf, Q.isV, Q.full, Q.fl, imm, imms, tyD, isV_i, isV_l, isV_t, isV_n, entM, List.map_cons, List.map_nil, List.cons_append, List.nil_append, List.length_cons, List.length_nil, List.length_map, List.getElem?_cons_succ, List.getElem?_cons_zero, List.set_cons_succ, List.set_cons_zero, List.replicate, Function.comp, Bool.and_self, Bool.and_true, Bool.true_and, Bool.and_false, Bool.false_and, Bool.true_or, Bool.or_true, Bool.or_false, Bool.false_or, Bool.not_true, Bool.not_false, if_true, if_false, ite_true, ite_false, reduceIte, Bool.false_eq_true, decide_true, decide_false, decide_eq_true_eq, Nat.reduceAdd, Nat.reduceSub, Nat.reduceLT, Nat.reduceLeDiff, Nat.zero_add, Nat.add_zero, Option.some.injEq, Oc.nx.injEq, Oc.rt.injEq, *])
local macro_rules | `(tactic| fail "st") => `(tactic| refine w_st (by (try fail "ev") <;> first | done | exact rfl) ?_)
local macro_rules | `(tactic| fail "rt") => `(tactic| refine w_rt (by (try fail "ev") <;> first | done | exact rfl) ?_)
local macro_rules | `(tactic| fail "tg") => `(tactic| refine ⟨_, (by (try fail "ev") <;> first | done | exact rfl), ?_⟩)
local macro_rules | `(tactic| fail "ex") => `(tactic| ((try fail "ev") <;> first | done | rfl | exact rfl))

/-! ### naturals behind ints; what divides all -/
/-- kept from simp -/
structure Kp (p : Prop) : Prop where
  h : p
theorem nats_of : ∀ {l : List Int}, (∀ x ∈ l, 0 ≤ x) → ∃ ns : List Nat, l = ns.map fun n : Nat => (n : Int)
  | [], _ => ⟨[], rfl⟩
  | x :: l, h => by
    obtain ⟨ns, e⟩ := nats_of (l := l) fun y hy => h y (List.mem_cons_of_mem _ hy)
    have := h x List.mem_cons_self
    exact ⟨x.toNat :: ns, by rw [List.map_cons, ← e]; congr 1; omega⟩
def natD (ns : List Nat) : List PyData := ns.map fun n : Nat => PyData.int (n : Int)
theorem natD_map (ns : List Nat) : (ns.map fun n : Nat => (n : Int)).map PyData.int = natD ns := by rw [List.map_map]; rfl
theorem sum_nats : ∀ ns : List Nat, (ns.map fun n : Nat => (n : Int)).sum = ((ns.sum : Nat) : Int)
  | [] => rfl
  | n :: ns => by rw [List.map_cons, List.sum_cons, List.sum_cons, sum_nats ns]; omega
theorem natD_at {ns : List Nat} {k : Nat} (h : k < ns.length) : L2.atI (natD ns) ((k : Nat) : Int) = some (.int ((ns.getD k 0 : Nat) : Int)) := by
  refine L2.atI_nat ?_
  unfold natD
  rw [List.getElem?_map, List.getD_eq_getElem?_getD, List.getElem?_eq_getElem h]
  rfl
theorem take_mem_succ {α : Type} {l : List α} {k : Nat} {x y : α} (h : l[k]? = some y) : x ∈ l.take (k + 1) ↔ x ∈ l.take k ∨ x = y := by
  rw [List.take_add_one, List.mem_append, h]
  simp
theorem asInts_nat : ∀ ns : List Nat, asInts (natD ns) = some (ns.map fun n : Nat => (n : Int))
  | [] => rfl
  | n :: ns => by
    show asInts (.int (n : Int) :: natD ns) = _
    rw [asInts, asInts_nat ns]
    rfl
/-- p divides m q for each m of the list, and nothing but 1 divides all: p divides q -/
theorem dvd_all {ms : List Nat} {p q : Nat} (h1 : ∀ d, (∀ m ∈ ms, d ∣ m) → d = 1) (h : ∀ m ∈ ms, p ∣ m * q) : p ∣ q := by
  rcases Nat.eq_zero_or_pos p with hp | hp
  · subst hp
    rcases Nat.eq_zero_or_pos q with hq | hq
    · subst hq; exact Nat.dvd_refl 0
    · have : (2 : Nat) = 1 := h1 2 fun m hm => by
        have := Nat.eq_zero_of_zero_dvd (h m hm)
        have : m = 0 := by
          rcases Nat.mul_eq_zero.mp this with z | z
          · exact z
          · omega
        subst this
        exact Nat.dvd_zero 2
      omega
  · have hg : 0 < Nat.gcd q p := Nat.gcd_pos_of_pos_right _ hp
    obtain ⟨p', hp'⟩ := Nat.gcd_dvd_right q p
    have : p' = 1 := h1 p' fun m hm => by
      have : p ∣ m * Nat.gcd q p := by
        rw [← Nat.gcd_mul_left]
        exact Nat.dvd_gcd (h m hm) ⟨m, Nat.mul_comm _ _⟩
      rw [Nat.mul_comm m] at this
      have : Nat.gcd q p * p' ∣ Nat.gcd q p * m := hp' ▸ this
      exact Nat.dvd_of_mul_dvd_mul_left hg this
    rw [this, Nat.mul_one] at hp'
    rw [hp']
    exact Nat.gcd_dvd_left q p

/-! ### data that == compares -/
def SH (n : Nat) (d : PyData) : Prop := d.canLay0 = true ∧ d.depth ≤ n
theorem SH.int {n : Nat} (i : Int) : SH n (.int i) := ⟨rfl, Nat.zero_le _⟩
theorem SH.bl {n : Nat} (i : Bool) : SH n (.bool i) := ⟨rfl, Nat.zero_le _⟩
theorem SH.alls {n : Nat} : ∀ {ds : List PyData}, (∀ d ∈ ds, SH n d) → PyData.canLayAll0 ds = true ∧ PyData.depthAll ds ≤ n
  | [], _ => ⟨rfl, Nat.zero_le _⟩
  | d :: ds, h => by
    obtain ⟨h1, h2⟩ := h d List.mem_cons_self
    obtain ⟨i1, i2⟩ := SH.alls (ds := ds) fun x hx => h x (List.mem_cons_of_mem _ hx)
    refine ⟨by rw [PyData.canLayAll0, h1, i1]; rfl, ?_⟩
    rw [PyData.depthAll]
    omega
theorem SH.tup {n : Nat} {ds : List PyData} (h : ∀ d ∈ ds, SH n d) : SH (n + 1) (.tuple ds) := by
  obtain ⟨i1, i2⟩ := SH.alls h
  exact ⟨by rw [PyData.canLay0]; exact i1, by rw [PyData.depth]; omega⟩
theorem SH.lst {n : Nat} {ds : List PyData} (h : ∀ d ∈ ds, SH n d) : SH (n + 1) (.list ds) := by
  obtain ⟨i1, i2⟩ := SH.alls h
  exact ⟨by rw [PyData.canLay0]; exact i1, by rw [PyData.depth]; omega⟩
theorem SH.tupM {α : Type} {n : Nat} {xs : List α} {f : α → PyData} (h : ∀ x ∈ xs, SH n (f x)) : SH (n + 1) (.tuple (xs.map f)) := SH.tup fun d hd => by obtain ⟨x, hx, rfl⟩ := List.mem_map.mp hd; exact h x hx
theorem SH.lstM {α : Type} {n : Nat} {xs : List α} {f : α → PyData} (h : ∀ x ∈ xs, SH n (f x)) : SH (n + 1) (.list (xs.map f)) := SH.lst fun d hd => by obtain ⟨x, hx, rfl⟩ := List.mem_map.mp hd; exact h x hx
theorem SH.two {n : Nat} {a b : PyData} (h1 : SH n a) (h2 : SH n b) : SH (n + 1) (.tuple [a, b]) := SH.tup fun d hd => by
  simp only [List.mem_cons, List.not_mem_nil, or_false] at hd
  rcases hd with rfl | rfl
  · exact h1
  · exact h2
theorem SH.up {n m : Nat} {d : PyData} (h : SH n d) (k : n ≤ m) : SH m d := ⟨h.1, Nat.le_trans h.2 k⟩
theorem SH.ok {d : PyData} (h : SH 64 d) : SeqAt.shaped d = true := by
  unfold SeqAt.shaped
  rw [Bool.and_eq_true]
  exact ⟨h.1, decide_eq_true h.2⟩
theorem pNe_self {d : PyData} (h : SeqAt.shaped d = true) : pNe d d = some (.bool false) := by
  unfold pNe
  rw [h, PySem.SeqAt.eqv_refl _ (shaped_lay h)]
  rfl

theorem atB_get {b : List Day} {k : Nat} {d : Day} (h : b[k]? = some d) : atB b k = d := by
  unfold atB
  rw [List.getD_eq_getElem?_getD, h]
  rfl
theorem at_bk {b : List Day} {d : Nat} (h : d < b.length) : L2.atI (b.map dayD) ((d : Nat) : Int) = some (dayD (atB b d)) := by
  rw [atI_natM (List.getElem?_eq_getElem h), atB_get (List.getElem?_eq_getElem h)]

theorem eqv_str {a b : Str} : PyData.eqv (.str a) (.str b) = decide (a = b) := by
  unfold PyData.eqv
  rw [Bool.eq_iff_iff]
  simp
theorem pEq_s {a b : Str} (h : (SeqAt.shaped (.str a) && SeqAt.shaped (.str b)) = true) : pEq (.str a) (.str b) = some (.bool (decide (a = b))) := by rw [← eqv_str]; exact if_pos h
theorem pNe_s {a b : Str} (h : (SeqAt.shaped (.str a) && SeqAt.shaped (.str b)) = true) : pNe (.str a) (.str b) = some (.bool (!decide (a = b))) := by rw [← eqv_str]; exact if_pos h
theorem pEq_rt : pEq (.str "ring") (.str "taste") = some (.bool false) := by rw [pEq_s (by decide +kernel)]; rfl
theorem pEq_rr : pEq (.str "ring") (.str "ring") = some (.bool true) := by rw [pEq_s (by decide +kernel)]; rfl
theorem pEq_tt : pEq (.str "taste") (.str "taste") = some (.bool true) := by rw [pEq_s (by decide +kernel)]; rfl
theorem pNe_tt : pNe (.str "taste") (.str "taste") = some (.bool false) := by rw [pNe_s (by decide +kernel)]; rfl
theorem pNe_rt : pNe (.str "ring") (.str "taste") = some (.bool true) := by rw [pNe_s (by decide +kernel)]; rfl

theorem pEq_nn : pEq (.str "numbers") (.str "numbers") = some (.bool true) := by rw [pEq_s (by decide +kernel)]; rfl
theorem pEq_nr : pEq (.str "numbers") (.str "ring") = some (.bool false) := by rw [pEq_s (by decide +kernel)]; rfl
theorem pEq_rn : pEq (.str "ring") (.str "numbers") = some (.bool false) := by rw [pEq_s (by decide +kernel)]; rfl

theorem mAnd_no {x y : TM} {g : Stt} {b : Bool} (h : x g = some b) (k : b = true → y g = some false) : mAnd x y g = some false := by
  rw [mAnd_a, h]
  cases b with
  | false => rfl
  | true => exact k rfl
theorem mT_op {f : PyData → PyData → Option PyData} {x y : EM} {g : Stt} {d d' : PyData} {b1 b2 b : Bool} (h1 : x g = some (b1, d)) (h2 : y g = some (b2, d')) (h : f d d' = some (.bool b)) : mTest (eOp f x y) g = some b := by
  rw [mTest_a, eOp_a]
  simp only [h1, h2, h]
theorem mN_call2 {f : MF} {x y : EM} {g : Stt} {d d' : PyData} {b1 b2 b : Bool} (h1 : x g = some (b1, d)) (h2 : y g = some (b2, d')) (h : f [d, d'] = some (.v (.bool b))) : mNot (mTest (eCall f (aCons x (aCons y aNil)))) g = some (!b) := by
  rw [mNot_a, mTest_a, eCall_a, aCons_a, aCons_a]
  simp only [h1, h2, aNil_a, h, Q.full]
theorem mN_isi {x : EM} {g : Stt} {b : Bool} {d : PyData} {T : String} (h : x g = some (b, d)) (h2 : isiD d T = some true) : mNot (mTest (eIsi T x)) g = some false := by
  rw [mNot_a, mTest_a, eIsi_a]
  simp only [h, h2]
  rfl
theorem mOr_no {x y : TM} {g : Stt} (h : x g = some false) (k : y g = some false) : mOr x y g = some false := by
  rw [mOr_a, h]
  exact k
theorem eB_of {f : PyData → Option PyData} {x : EM} {g : Stt} {b : Bool} {d z : PyData} (h : x g = some (b, d)) (h2 : f d = some z) : eB1 f x g = some (true, z) := by
  rw [eB1_a]
  simp only [h, h2]

theorem kit_ll : kitB "list" "list" = some true := by decide +kernel
theorem kit_tt : kitB "tuple" "tuple" = some true := by decide +kernel
theorem eAnd_t {x y : EM} {g : Stt} {b c d : Bool} (h1 : x g = some (b, .bool true)) (h2 : y g = some (c, .bool d)) : eAnd x y g = some (true, .bool d) := by
  rw [eAnd_a, h1]
  simp only [h2]

/-! ### prices and amounts by day and ware -/
def prN (b : List Day) (k u : Nat) : Int := (atB b k).1.getD u 0
def amI (b : List Day) (k u : Nat) : Int := (atB b k).2.getD u 0
theorem getD_memZ {l : List Int} {i : Nat} (h : i < l.length) : l.getD i 0 ∈ l := by
  rw [List.getD_eq_getElem?_getD, List.getElem?_eq_getElem h]
  exact List.getElem_mem h
theorem int_at {l : List Int} {i : Nat} (h : i < l.length) : L2.atI (l.map PyData.int) ((i : Nat) : Int) = some (.int (l.getD i 0)) := by
  rw [atI_natM (List.getElem?_eq_getElem h), List.getD_eq_getElem?_getD, List.getElem?_eq_getElem h]
  rfl
def pN (b : List Day) (k u : Nat) : Nat := (prN b k u).toNat
structure PrOk (w : Nat) (b : List Day) : Prop where
  p : ∀ k < b.length, ∀ u < w, 0 < pN b k u ∧ pN b k u < 2 ^ 30 ∧ prN b k u = (pN b k u : Nat)
  a : ∀ k < b.length, ∀ u < w, 0 ≤ amI b k u
  h1 : 1 ≤ b.length
  h8 : b.length ≤ 8
  w1 : 1 ≤ w
  w6 : w ≤ 6
  l1 : ∀ d ∈ b, d.1.length = w
  l2 : ∀ d ∈ b, d.2.length = w
theorem prOk {w : Nat} {b : List Day} (B : GoodBook w b) : PrOk w b := by
  refine ⟨fun k hk u hu => ?_, fun k hk u hu => ?_, B.l1, B.l8, B.w1, B.w6, fun d hd => (B.d d hd).l1, fun d hd => (B.d d hd).l2⟩
  · have D := B.at_ hk
    have := D.p _ (getD_memZ (l := (atB b k).1) (i := u) (by rw [D.l1]; exact hu))
    have e : (2 : Nat) ^ 30 = 1073741824 := by decide
    unfold pN prN
    rw [e]
    omega
  · have D := B.at_ hk
    exact (D.a _ (getD_memZ (l := (atB b k).2) (i := u) (by rw [D.l2]; exact hu))).1
theorem PrOk.at1 {w : Nat} {b : List Day} (P : PrOk w b) {k u : Nat} (hk : k < b.length) (hu : u < w) : L2.atI ((atB b k).1.map PyData.int) ((u : Nat) : Int) = some (.int (pN b k u : Nat)) := by
  have m : atB b k ∈ b := getD_memX hk
  rw [int_at (by rw [P.l1 _ m]; exact hu), ← (P.p k hk u hu).2.2]
  rfl
theorem PrOk.at2 {w : Nat} {b : List Day} (P : PrOk w b) {k u : Nat} (hk : k < b.length) (hu : u < w) : L2.atI ((atB b k).2.map PyData.int) ((u : Nat) : Int) = some (.int (amI b k u)) := by
  have m : atB b k ∈ b := getD_memX hk
  rw [int_at (by rw [P.l2 _ m]; exact hu)]
  rfl

def clsTab : List Str := ["Total"]
def insTab : Tab := [("Total", "Kind", true), ("Total", "Sums", false)]
/- 0 self, 1 day, 2 prices, 3 amounts, 4 cheapest, 5 ware, 6 amount -/
def N_c_Total_answer : List Str := ["self", "day", "prices", "amounts", "cheapest", "ware", "amount"]
def t_c_Total_answer (K : PySem.W.Frag) : TS :=
  tSeq (tFor (iEnumA K (tCons (tFld K (tVar 0) "days") (tNil))) (gTup K 2 (gCons (gName 1) (gCons (gTup K 2 (gCons (gName 2) (gCons (gName 3) (gNil)))) (gNil)))) (tSeq (tAsg (tIdxT K (tVar 2) (tCons (tCB (rMinA K) (tCons (tVar 2) (tNil))) (tNil))) (gName 4))
    (tFor (iEnumA K (tCons (tVar 3) (tNil))) (gTup K 2 (gCons (gName 5) (gCons (gName 6) (gNil)))) (tIfS (tAnd (tTest (tOp rGt (tVar 6) (tC (.int 0)))) (tTest (tOp rGt (tOp (rSub K) (tVar 2) (tVar 5)) (tOp (rSub K) (tVar 2) (tVar 4))))) (tRet (tTup (tCons (tC (.str "but")) (tCons (tTup (tCons (tVar 1) (tCons (tVar 5) (tCons (tVar 4) (tNil))))) (tNil))))) (tNext)))))
    (tRet (tTup (tCons (tC (.str "taste")) (tNil))))
noncomputable def b_c_Total_answer : SM :=
  sSeq (sFor (iEnu (eFld clsTab "days" (eVar 0))) (gTp (gC 1 (gCT (gC 2 (gC 3 (gN0))) (gN0)))) (sSeq (sAsg 4 (eIdxT (eVar 2) (eB1 pMin (eUnt (eVar 2)))))
    (sFor (iEnu (eVar 3)) (gTp (gC 5 (gC 6 (gN0)))) (sIf (mAnd (mTest (eOp pGt (eVar 6) (eLit (.int 0)))) (mTest (eOp pGt (eIx (eUnt (eVar 2)) (eVar 5)) (eIx (eUnt (eVar 2)) (eVar 4))))) (sRet (rE (eTup (aCons (eLit (.str "but")) (aCons (eTup (aCons (eVar 1) (aCons (eVar 5) (aCons (eVar 4) (aNil))))) (aNil)))))) (sNext)))))
    (sRet (rE (eTup (aCons (eLit (.str "taste")) (aNil)))))
noncomputable def m_c_Total_answer : MF := runM 7 1 b_c_Total_answer
def sp_c_Total_answer (K : PySem.W.Frag) : Sp := spM K m_c_Total_answer
theorem ss_c_Total_answer {K : PySem.W.Frag} (KC : KCls K clsTab "days" insTab) : SS K (t_c_Total_answer K) b_c_Total_answer :=
  (ss_seq (ss_for (vs := [1, 2, 3]) (si_enum (se_fld KC.cl se_var)) (sg_tup (sgs_cons (by decide) (sgs_tup (sgs_cons (by decide) (sgs_cons (by decide) sgs_nil)) sgs_nil))) (ss_seq (ss_asg (se_idxT se_var (se_b1 o_min (se_unt se_var))))
    (ss_for (vs := [5, 6]) (si_enum se_var) (sg_tup (sgs_cons (by decide) (sgs_cons (by decide) sgs_nil))) (ss_if (st_and (st_test (se_op o_gt se_var se_int)) (st_test (se_op o_gt (se_ix (se_unt se_var) se_var) (se_ix (se_unt se_var) se_var)))) (ss_ret (sr_E (se_tup (sa_cons se_str (sa_cons (se_tup (sa_cons se_var (sa_cons se_var (sa_cons se_var sa_nil)))) sa_nil))))) ss_next))))
    (ss_ret (sr_E (se_tup (sa_cons se_str sa_nil)))))
theorem so_c_Total_answer {K : PySem.W.Frag} {dv : List V} : SpOk K (sp_c_Total_answer K) dv m_c_Total_answer := spOk_M
theorem len_c_Total_answer {K : PySem.W.Frag} : ∀ vs H Q E, sp_c_Total_answer K vs H Q E → vs.length = 1 := spM_len runM_len
theorem raw_c_Total_answer {K : PySem.W.Frag} (KC : KCls K clsTab "days" insTab) : ∀ vs H Q E, sp_c_Total_answer K vs H Q E → t_c_Total_answer K { nx := fun _ H' => Q .non H', rt := Q } (L2.start N_c_Total_answer vs) H := raw_M (N := N_c_Total_answer) (ss_c_Total_answer KC)
/- 0 self -/
def N_c_Kind_explains : List Str := ["self"]
def t_c_Kind_explains (K : PySem.W.Frag) : TS :=
  tRet (tOp (rEqD K) (tOp (rSub K) (tCall (sp_c_Total_answer K) [] E0 (tMth K "Total" "answer" (tVar 0) (tNil))) (tC (.int 0))) (tC (.str "taste")))
noncomputable def b_c_Kind_explains : SM :=
  sRet (rE (eOp pEq (eIx (eCall m_c_Total_answer (aMth "Total" "answer" (eVar 0) (aNil))) (eLit (.int 0))) (eLit (.str "taste"))))
noncomputable def m_c_Kind_explains : MF := runM 1 1 b_c_Kind_explains
def sp_c_Kind_explains (K : PySem.W.Frag) : Sp := spM K m_c_Kind_explains
theorem ss_c_Kind_explains {K : PySem.W.Frag} : SS K (t_c_Kind_explains K) b_c_Kind_explains :=
  (ss_ret (sr_E (se_op o_eq (se_ix (se_call so_c_Total_answer (sa_mth se_var sa_nil)) se_int) se_str)))
theorem so_c_Kind_explains {K : PySem.W.Frag} {dv : List V} : SpOk K (sp_c_Kind_explains K) dv m_c_Kind_explains := spOk_M
theorem len_c_Kind_explains {K : PySem.W.Frag} : ∀ vs H Q E, sp_c_Kind_explains K vs H Q E → vs.length = 1 := spM_len runM_len
theorem raw_c_Kind_explains {K : PySem.W.Frag} : ∀ vs H Q E, sp_c_Kind_explains K vs H Q E → t_c_Kind_explains K { nx := fun _ H' => Q .non H', rt := Q } (L2.start N_c_Kind_explains vs) H := raw_M (N := N_c_Kind_explains) ss_c_Kind_explains
/- 0 _law_book_here, 1 _law_prices, 2 _law_amounts, 3 _law_price_here, 4 _law_amount -/
def N_l_is_total : List Str := ["_law_book_here", "_law_prices", "_law_amounts", "_law_price_here", "_law_amount"]
def t_l_is_total (K : PySem.W.Frag) : TS :=
  tSeq (tFor (iSeq K (tVar 0)) (gTup K 2 (gCons (gName 1) (gCons (gName 2) (gNil)))) (tFor (RZ.iZipA K (tCons (tVar 1) (tCons (tVar 2) (tNil)))) (gTup K 2 (gCons (gName 3) (gCons (gName 4) (gNil)))) (tIfS (tAnd (tTest (tOp rGt (tVar 4) (tC (.int 0)))) (tTest (tOp rGt (tVar 3) (tCB (rMinA K) (tCons (tVar 1) (tNil)))))) (tRet (tC (.bl false))) (tNext))))
    (tRet (tC (.bl true)))
noncomputable def b_l_is_total : SM :=
  sSeq (sFor (iSq (eVar 0)) (gTp (gC 1 (gC 2 (gN0)))) (sFor (iZip (eVar 1) (eVar 2)) (gTp (gC 3 (gC 4 (gN0)))) (sIf (mAnd (mTest (eOp pGt (eVar 4) (eLit (.int 0)))) (mTest (eOp pGt (eVar 3) (eB1 pMin (eVar 1))))) (sRet (rE (eLit (.bool false)))) (sNext))))
    (sRet (rE (eLit (.bool true))))
noncomputable def m_l_is_total : MF := runM 5 1 b_l_is_total
def sp_l_is_total (K : PySem.W.Frag) : Sp := spM K m_l_is_total
theorem ss_l_is_total {K : PySem.W.Frag} : SS K (t_l_is_total K) b_l_is_total :=
  (ss_seq (ss_for (vs := [1, 2]) (si_seq se_var) (sg_tup (sgs_cons (by decide) (sgs_cons (by decide) sgs_nil))) (ss_for (vs := [3, 4]) (si_zip se_var se_var) (sg_tup (sgs_cons (by decide) (sgs_cons (by decide) sgs_nil))) (ss_if (st_and (st_test (se_op o_gt se_var se_int)) (st_test (se_op o_gt se_var (se_b1 o_min se_var)))) (ss_ret (sr_E se_bl)) ss_next)))
    (ss_ret (sr_E se_bl)))
theorem so_l_is_total {K : PySem.W.Frag} {dv : List V} : SpOk K (sp_l_is_total K) dv m_l_is_total := spOk_M
theorem len_l_is_total {K : PySem.W.Frag} : ∀ vs H Q E, sp_l_is_total K vs H Q E → vs.length = 1 := spM_len runM_len
theorem raw_l_is_total {K : PySem.W.Frag} : ∀ vs H Q E, sp_l_is_total K vs H Q E → t_l_is_total K { nx := fun _ H' => Q .non H', rt := Q } (L2.start N_l_is_total vs) H := raw_M (N := N_l_is_total) ss_l_is_total
/- 0 _law_book_here, 1 _law_three, 2 _law_one, 3 _law_day_here, 4 _law_ware, 5 _law_cheaper -/
def N_l_speaks : List Str := ["_law_book_here", "_law_three", "_law_one", "_law_day_here", "_law_ware", "_law_cheaper"]
def t_l_speaks (K : PySem.W.Frag) : TS :=
  tSeq (tIfS (tOr (tNot (tB (tCB (rIsiA K) (tCons (tVar 1) (tCons (tC (.ty "tuple")) tNil))))) (tOr (tTest (tOp (rNeD K) (tCB (rLen K) (tCons (tVar 1) (tNil))) (tC (.int 3)))) (tTest (tOp (rNeD K) (tCB (rLen K) (tCons (tLc (iSeq K (tVar 1)) (gName 2) (tB (tCall (sp_l_int K) [] E0 (tCons (tVar 2) (tNil)))) (tVar 2) [2]) (tNil))) (tC (.int 3)))))) (tRet (tC (.bl false))) (tNext))
    (tSeq (tAsg (tVar 1) (gTup K 3 (gCons (gName 3) (gCons (gName 4) (gCons (gName 5) (gNil))))))
    (tSeq (tIfS (tOr (tNot (tTest (tChain rLe rLt (tC (.int 0)) (tVar 3) (tCB (rLen K) (tCons (tVar 0) (tNil)))))) (tOr (tNot (tTest (tChain rLe rLt (tC (.int 0)) (tVar 4) (tCB (rLen K) (tCons (tOp (rSub K) (tOp (rSub K) (tVar 0) (tC (.int 0))) (tC (.int 0))) (tNil)))))) (tNot (tTest (tChain rLe rLt (tC (.int 0)) (tVar 5) (tCB (rLen K) (tCons (tOp (rSub K) (tOp (rSub K) (tVar 0) (tC (.int 0))) (tC (.int 0))) (tNil)))))))) (tRet (tC (.bl false))) (tNext))
    (tRet (tAndV (tOp rGt (tOp (rSub K) (tOp (rSub K) (tOp (rSub K) (tVar 0) (tVar 3)) (tC (.int 1))) (tVar 4)) (tC (.int 0))) (tOp rLt (tOp (rSub K) (tOp (rSub K) (tOp (rSub K) (tVar 0) (tVar 3)) (tC (.int 0))) (tVar 5)) (tOp (rSub K) (tOp (rSub K) (tOp (rSub K) (tVar 0) (tVar 3)) (tC (.int 0))) (tVar 4)))))))
noncomputable def b_l_speaks : SM :=
  sSeq (sIf (mOr (mNot (mTest (eIsi "tuple" (eVar 1)))) (mOr (mTest (eOp pNe (eB1 pLen (eVar 1)) (eLit (.int 3)))) (mTest (eOp pNe (eB1 pLen (eR (rLc (iSq (eVar 1)) (gNm 2) (mTest (eCall m_l_int (aCons (eVar 2) (aNil)))) (eVar 2) [2]))) (eLit (.int 3)))))) (sRet (rE (eLit (.bool false)))) (sNext))
    (sSeq (sAsT (eVar 1) (gTp (gC 3 (gC 4 (gC 5 (gN0))))))
    (sSeq (sIf (mOr (mNot (mTest (eChain pLe pLt (eLit (.int 0)) (eVar 3) (eB1 pLen (eVar 0))))) (mOr (mNot (mTest (eChain pLe pLt (eLit (.int 0)) (eVar 4) (eB1 pLen (eIx (eIxV 0 (eLit (.int 0))) (eLit (.int 0))))))) (mNot (mTest (eChain pLe pLt (eLit (.int 0)) (eVar 5) (eB1 pLen (eIx (eIxV 0 (eLit (.int 0))) (eLit (.int 0))))))))) (sRet (rE (eLit (.bool false)))) (sNext))
    (sRet (rE (eAnd (eOp pGt (eIx (eIx (eIxV 0 (eVar 3)) (eLit (.int 1))) (eVar 4)) (eLit (.int 0))) (eOp pLt (eIx (eIx (eIxV 0 (eVar 3)) (eLit (.int 0))) (eVar 5)) (eIx (eIx (eIxV 0 (eVar 3)) (eLit (.int 0))) (eVar 4))))))))
noncomputable def m_l_speaks : MF := runM 6 2 b_l_speaks
def sp_l_speaks (K : PySem.W.Frag) : Sp := spM K m_l_speaks
theorem ss_l_speaks {K : PySem.W.Frag} : SS K (t_l_speaks K) b_l_speaks :=
  (ss_seq (ss_if (st_or (st_not (st_B (se_isi se_var))) (st_or (st_test (se_op o_ne (se_b1 o_len se_var) se_int)) (st_test (se_op o_ne (se_b1 o_len (se_R (sr_lc (si_seq se_var) (sg_name (by decide)) (st_B (se_call so_l_int (sa_cons se_var sa_nil))) se_var))) se_int)))) (ss_ret (sr_E se_bl)) ss_next)
    (ss_seq (ss_asT (vs := [3, 4, 5]) se_var (sg_tup (sgs_cons (by decide) (sgs_cons (by decide) (sgs_cons (by decide) sgs_nil)))))
    (ss_seq (ss_if (st_or (st_not (st_test (se_chain ob_le ob_lt se_int se_var (se_b1 o_len se_var)))) (st_or (st_not (st_test (se_chain ob_le ob_lt se_int se_var (se_b1 o_len (se_ix (se_ixV se_int) se_int))))) (st_not (st_test (se_chain ob_le ob_lt se_int se_var (se_b1 o_len (se_ix (se_ixV se_int) se_int))))))) (ss_ret (sr_E se_bl)) ss_next)
    (ss_ret (sr_E (se_and (se_op o_gt (se_ix (se_ix (se_ixV se_var) se_int) se_var) se_int) (se_op o_lt (se_ix (se_ix (se_ixV se_var) se_int) se_var) (se_ix (se_ix (se_ixV se_var) se_int) se_var))))))))
theorem so_l_speaks {K : PySem.W.Frag} {dv : List V} : SpOk K (sp_l_speaks K) dv m_l_speaks := spOk_M
theorem len_l_speaks {K : PySem.W.Frag} : ∀ vs H Q E, sp_l_speaks K vs H Q E → vs.length = 2 := spM_len runM_len
theorem raw_l_speaks {K : PySem.W.Frag} : ∀ vs H Q E, sp_l_speaks K vs H Q E → t_l_speaks K { nx := fun _ H' => Q .non H', rt := Q } (L2.start N_l_speaks vs) H := raw_M (N := N_l_speaks) ss_l_speaks
/- 0 _law_script, 1 _law_book_here, 2 _law_kind, 3 _law_found -/
def N_law : List Str := ["_law_script", "_law_book_here", "_law_kind", "_law_found"]
def t_law (K : PySem.W.Frag) : TS :=
  tSeq (tAsg (tCall (sp_l_book K) [] E0 (tCons (tVar 0) (tCons (tC (.int 1)) (tCons (tC (.int 8)) (tCons (tC (.int 6)) (tNil)))))) (gName 1))
    (tSeq (tAsg (tMake (clsA K "Total") (spInit K "days") [] E0 (tCons (tVar 1) tNil)) (gName 2))
    (tSeq (tAsg (tCall (sp_c_Total_answer K) [] E0 (tMth K "Total" "answer" (tVar 2) (tNil))) (gName 3))
    (tSeq (tIfS (tOr (tNot (tB (tCB (rIsi K) (tCons (tVar 2) (tCons (tC (.ref (clsA K "Kind"))) tNil))))) (tOr (tB (tCB (rIsi K) (tCons (tVar 2) (tCons (tC (.ref (clsA K "Sums"))) tNil)))) (tNot (tB (tCB (rIsiA K) (tCons (tVar 3) (tCons (tC (.ty "tuple")) tNil))))))) (tRet (tC (.bl false))) (tNext))
    (tSeq (tIfS (tB (tCall (sp_l_is_total K) [] E0 (tCons (tVar 1) (tNil)))) (tIfS (tOr (tTest (tOp (rNeD K) (tVar 3) (tTup (tCons (tC (.str "taste")) (tNil))))) (tTest (tOp rIsNot (tCall (sp_c_Kind_explains K) [] E0 (tMth K "Total" "explains" (tVar 2) (tNil))) (tC (.bl true))))) (tRet (tC (.bl false))) (tNext)) (tIfS (tOr (tTest (tOp (rNeD K) (tCB (rLen K) (tCons (tVar 3) (tNil))) (tC (.int 2)))) (tOr (tTest (tOp (rNeD K) (tOp (rSub K) (tVar 3) (tC (.int 0))) (tC (.str "but")))) (tOr (tNot (tB (tCall (sp_l_speaks K) [] E0 (tCons (tVar 1) (tCons (tOp (rSub K) (tVar 3) (tC (.int 1))) (tNil)))))) (tTest (tOp rIsNot (tCall (sp_c_Kind_explains K) [] E0 (tMth K "Total" "explains" (tVar 2) (tNil))) (tC (.bl false))))))) (tRet (tC (.bl false))) (tNext)))
    (tSeq (tDrop (tCall (sp_c_Total_answer K) [] E0 (tMth K "Total" "answer" (tMake (clsA K "Total") (spInit K "days") [] E0 (tCons (tCall (sp_l_book K) [] E0 (tCons (tVar 0) (tCons (tC (.int 0)) (tCons (tC (.int 3)) (tCons (tC (.int 2)) (tNil)))))) tNil)) (tNil))))
    (tRet (tAndV (tOp (rEqD K) (tCall (sp_c_Total_answer K) [] E0 (tMth K "Total" "answer" (tVar 2) (tNil))) (tVar 3)) (tOp (rEqD K) (tCall (sp_c_Total_answer K) [] E0 (tMth K "Total" "answer" (tMake (clsA K "Total") (spInit K "days") [] E0 (tCons (tVar 1) tNil)) (tNil))) (tVar 3)))))))))
noncomputable def b_law : SM :=
  sSeq (sAsg 1 (eCall m_l_book (aCons (eVar 0) (aCons (eLit (.int 1)) (aCons (eLit (.int 8)) (aCons (eLit (.int 6)) (aNil)))))))
    (sSeq (sAsg 2 (eMake "Total" "days" (eVar 1)))
    (sSeq (sAsg 3 (eCall m_c_Total_answer (aMth "Total" "answer" (eVar 2) (aNil))))
    (sSeq (sIf (mOr (mNot (mTest (eIsC insTab "Kind" (eVar 2)))) (mOr (mTest (eIsC insTab "Sums" (eVar 2))) (mNot (mTest (eIsi "tuple" (eVar 3)))))) (sRet (rE (eLit (.bool false)))) (sNext))
    (sSeq (sIf (mTest (eCall m_l_is_total (aCons (eUnt (eVar 1)) (aNil)))) (sIf (mOr (mTest (eOp pNe (eVar 3) (eTup (aCons (eLit (.str "taste")) (aNil))))) (mTest (eOp pIsNot (eCall m_c_Kind_explains (aMth "Total" "explains" (eVar 2) (aNil))) (eLit (.bool true))))) (sRet (rE (eLit (.bool false)))) (sNext)) (sIf (mOr (mTest (eOp pNe (eB1 pLen (eVar 3)) (eLit (.int 2)))) (mOr (mTest (eOp pNe (eIxV 3 (eLit (.int 0))) (eLit (.str "but")))) (mOr (mNot (mTest (eCall m_l_speaks (aCons (eUnt (eVar 1)) (aCons (eIxV 3 (eLit (.int 1))) (aNil)))))) (mTest (eOp pIsNot (eCall m_c_Kind_explains (aMth "Total" "explains" (eVar 2) (aNil))) (eLit (.bool false))))))) (sRet (rE (eLit (.bool false)))) (sNext)))
    (sSeq (sExp (eCall m_c_Total_answer (aMth "Total" "answer" (eMake "Total" "days" (eCall m_l_book (aCons (eVar 0) (aCons (eLit (.int 0)) (aCons (eLit (.int 3)) (aCons (eLit (.int 2)) (aNil))))))) (aNil))))
    (sRet (rE (eAnd (eOp pEq (eCall m_c_Total_answer (aMth "Total" "answer" (eVar 2) (aNil))) (eVar 3)) (eOp pEq (eCall m_c_Total_answer (aMth "Total" "answer" (eMake "Total" "days" (eVar 1)) (aNil))) (eVar 3))))))))))
theorem ss_law {K : PySem.W.Frag} (KC : KCls K clsTab "days" insTab) : SS K (t_law K) b_law :=
  (ss_seq (ss_asg (se_call so_l_book (sa_cons se_var (sa_cons se_int (sa_cons se_int (sa_cons se_int sa_nil))))))
    (ss_seq (ss_asg (se_make (KC.cl _ (by decide +kernel)) se_var))
    (ss_seq (ss_asg (se_call so_c_Total_answer (sa_mth se_var sa_nil)))
    (ss_seq (ss_if (st_or (st_not (st_B (se_isC KC.ii se_var))) (st_or (st_B (se_isC KC.ii se_var)) (st_not (st_B (se_isi se_var))))) (ss_ret (sr_E se_bl)) ss_next)
    (ss_seq (ss_if (st_B (se_call so_l_is_total (sa_cons (se_unt se_var) sa_nil))) (ss_if (st_or (st_test (se_op o_ne se_var (se_tup (sa_cons se_str sa_nil)))) (st_test (se_op o_isNot (se_call so_c_Kind_explains (sa_mth se_var sa_nil)) se_bl))) (ss_ret (sr_E se_bl)) ss_next) (ss_if (st_or (st_test (se_op o_ne (se_b1 o_len se_var) se_int)) (st_or (st_test (se_op o_ne (se_ixV se_int) se_str)) (st_or (st_not (st_B (se_call so_l_speaks (sa_cons (se_unt se_var) (sa_cons (se_ixV se_int) sa_nil))))) (st_test (se_op o_isNot (se_call so_c_Kind_explains (sa_mth se_var sa_nil)) se_bl))))) (ss_ret (sr_E se_bl)) ss_next))
    (ss_seq (ss_exp (se_call so_c_Total_answer (sa_mth (se_make (KC.cl _ (by decide +kernel)) (se_call so_l_book (sa_cons se_var (sa_cons se_int (sa_cons se_int (sa_cons se_int sa_nil)))))) sa_nil)))
    (ss_ret (sr_E (se_and (se_op o_eq (se_call so_c_Total_answer (sa_mth se_var sa_nil)) se_var) (se_op o_eq (se_call so_c_Total_answer (sa_mth (se_make (KC.cl _ (by decide +kernel)) se_var) sa_nil)) se_var))))))))))

/-! ### the book as plain tuples -/
def dayP (d : Day) : PyData := .tuple [.tuple (d.1.map .int), .tuple (d.2.map .int)]
def bookP (b : List Day) : PyData := .tuple (b.map dayP)
theorem um_int (n : Nat) (k : Int) : um n (.int k) = .int k := by cases n <;> rfl
theorem um_ints (n : Nat) (l : List Int) : (l.map PyData.int).map (um n) = l.map .int := by
  rw [List.map_map]
  exact List.map_congr_left fun k _ => um_int n k
theorem um_mkT (n : Nat) (l : List Int) : um (n + 1) (mkT (l.map .int)) = .tuple (l.map .int) := by
  show PyData.tuple ((l.map PyData.int).map (um n)) = _
  rw [um_ints]
theorem um_tup (n : Nat) (ds : List PyData) : um (n + 1) (.tuple ds) = .tuple (ds.map (um n)) := rfl
theorem um_dayD (n : Nat) (d : Day) : um (n + 2) (dayD d) = dayP d := by
  unfold dayD dayP
  rw [um_tup, List.map_cons, List.map_cons, um_mkT, um_tup, um_ints]
  rfl
theorem um_bookD (b : List Day) : um 4 (bookD b) = bookP b := by
  unfold bookD bookP
  rw [um_tup, List.map_map]
  exact congrArg _ (List.map_congr_left fun d _ => um_dayD 1 d)
theorem eIx_of {x y : EM} {g : Stt} {b1 b2 : Bool} {d d' z : PyData} (h1 : x g = some (b1, d)) (h2 : y g = some (b2, d')) (h : pIx d d' = some z) : eIx x y g = some (b1 || imm z, z) := by
  rw [eIx_a]
  simp only [h1, h2, h]
theorem eUnt_of {x : EM} {g : Stt} {b : Bool} {d z : PyData} (h : x g = some (b, d)) (e : um 4 d = z) : eUnt x g = some (b, z) := by
  unfold eUnt
  simp only [h, e]
theorem mAnd_of {x y : TM} {g : Stt} {b : Bool} (h : x g = some true) (k : y g = some b) : mAnd x y g = some b := by
  rw [mAnd_a, h]
  exact k
theorem mAnd_f {x y : TM} {g : Stt} (h : x g = some false) : mAnd x y g = some false := by
  rw [mAnd_a, h]
theorem pMin_t {ks : List Int} (h0 : 0 < ks.length) : pMin (.tuple (ks.map .int)) = some (.int (minL ks)) := by
  unfold pMin
  simp only [asInts_map, h0, if_true]
theorem eIdx_of {x y : EM} {g : Stt} {b1 b2 : Bool} {ks : List Int} {k : Int} (h1 : x g = some (b1, mkT (ks.map .int))) (h2 : y g = some (b2, .int k)) (hm : k ∈ ks) : eIdxT x y g = some (true, .int (ks.idxOf k : Nat)) := by
  rw [eIdxT_a]
  simp only [h1, h2, mkT, exD, asInts_map, hm, if_true]
theorem pIx_t2 {l : List Int} {i : Nat} (h : i < l.length) : pIx (.tuple (l.map .int)) (.int (i : Nat)) = some (.int (l.getD i 0)) := int_at h
/-! ### answer -/
def ButP (w : Nat) (b : List Day) (q : Q) : Prop := ∃ k u c : Nat, k < b.length ∧ u < w ∧ c < w ∧ q = .v (.tuple [.str "but", .tuple [.int (k : Nat), .int (u : Nat), .int (c : Nat)]]) ∧ 0 < amI b k u ∧ prN b k c < prN b k u
def NoBut (w : Nat) (b : List Day) (k : Nat) : Prop := ∀ u < w, 0 < amI b k u → prN b k u ≤ minL (atB b k).1
def TotR (w : Nat) (b : List Day) (q : Q) : Prop := (q = .v (.tuple [.str "taste"]) ∧ ∀ k < b.length, NoBut w b k) ∨ ButP w b q
theorem eq_answer {w : Nat} {b : List Day} (P : PrOk w b) : ∃ q, m_c_Total_answer [insD "Total" ["days"] [bookD b]] = some q ∧ TotR w b q := by
  suffices h : W (b_c_Total_answer (entM 7 [insD "Total" ["days"] [bookD b]])) (fun o => ∃ q, o = .rt q ∧ TotR w b q) by
    obtain ⟨o, e, q, rfl, hr⟩ := h
    exact ⟨q, run_rt rfl e, hr⟩
  unfold b_c_Total_answer
  have w1 := P.w1
  have f1 : pFld clsTab "days" (insD "Total" ["days"] [bookD b]) = some (bookD b) := rfl
  have ib := imm_bookD b
  generalize insD "Total" ["days"] [bookD b] = I at *
  have en : entM 7 [I] = [some (Q.v I), none, none, none, none, none, none] := rfl
  rw [en]
  refine w_seq (w_for (ds := enumD (b.map dayD)) (by have e : bookD b = .tuple (b.map dayD) := rfl; rw [e] at f1 ib; fail "ex") (fun k g => ∃ x1 x2 x3 x4 x5 x6 : Option PyData, g = [some (Q.v I), x1.map Q.v, x2.map Q.v, x3.map Q.v, x4.map Q.v, x5.map Q.v, x6.map Q.v] ∧ ∀ d < k, NoBut w b d)
    ⟨none, none, none, none, none, none, rfl, fun _ h => by omega⟩ ?_ ?_)
  · rintro k x g hk ⟨x1, x2, x3, x4, x5, x6, rfl, hall⟩
    obtain ⟨y, hy, rfl⟩ := enumD_at hk
    rw [List.getElem?_map] at hy
    cases e : b[k]? with
    | none => rw [e] at hy; cases hy
    | some d =>
    rw [e] at hy
    cases hy
    have kl := (List.getElem?_eq_some_iff.mp e).1
    have ed : atB b k = d := atB_get e
    have dm : d ∈ b := List.mem_of_getElem? e
    have l1 := P.l1 _ dm
    have l2 := P.l2 _ dm
    obtain ⟨hmem, hle⟩ := minL_spec (ns := d.1) (by omega)
    have hci : d.1.idxOf (minL d.1) < w := by rw [← l1]; exact List.idxOf_lt_length_iff.mpr hmem
    have hcv : d.1.getD (d.1.idxOf (minL d.1)) 0 = minL d.1 := by
      rw [List.getD_eq_getElem?_getD, List.getElem?_eq_getElem (by omega)]
      exact List.getElem_idxOf (by omega)
    obtain ⟨c, hc⟩ : ∃ c, c = d.1.idxOf (minL d.1) := ⟨_, rfl⟩
    have hcc := hc
    rw [← hc] at hci hcv
    refine ⟨[some (Q.v I), some (Q.v (.int (k : Nat))), some (Q.v (mkT (d.1.map .int))), some (Q.v (.tuple (d.2.map .int))), x4.map Q.v, x5.map Q.v, x6.map Q.v], by cases x1 <;> cases x2 <;> cases x3 <;> rfl, ?_⟩
    have u2 : ∀ x4 x5 x6, eUnt (eVar 2) [some (Q.v I), some (Q.v (.int (k : Nat))), some (Q.v (mkT (d.1.map .int))), some (Q.v (.tuple (d.2.map .int))), x4, x5, x6] = some (true, .tuple (d.1.map .int)) := fun _ _ _ => eUnt_of (b := true) (d := mkT (d.1.map .int)) rfl (um_mkT 3 _)
    refine w_st (g' := [some (Q.v I), some (Q.v (.int (k : Nat))), some (Q.v (mkT (d.1.map .int))), some (Q.v (.tuple (d.2.map .int))), some (Q.v (.int (c : Nat))), x5.map Q.v, x6.map Q.v]) (by
      have e := eIdx_of (x := eVar 2) (y := eB1 pMin (eUnt (eVar 2))) (g := [some (Q.v I), some (Q.v (.int (k : Nat))), some (Q.v (mkT (d.1.map .int))), some (Q.v (.tuple (d.2.map .int))), x4.map Q.v, x5.map Q.v, x6.map Q.v]) (b1 := true) rfl (eB_of (u2 _ _ _) (pMin_t (by omega))) hmem
      rw [sAsg_a, e, ← hcc]
      cases x4 <;> rfl) ?_
    refine w_for (ds := enumD (d.2.map .int)) rfl (fun u g => ∃ x5 x6 : Option PyData, g = [some (Q.v I), some (Q.v (.int (k : Nat))), some (Q.v (mkT (d.1.map .int))), some (Q.v (.tuple (d.2.map .int))), some (Q.v (.int (c : Nat))), x5.map Q.v, x6.map Q.v] ∧ ∀ v < u, 0 < amI b k v → prN b k v ≤ minL d.1)
      ⟨x5, x6, rfl, fun _ h => by omega⟩ ?_ ?_
    · rintro u x g hu ⟨x5, x6, rfl, hal⟩
      obtain ⟨y, hy, rfl⟩ := enumD_at hu
      rw [List.getElem?_map] at hy
      cases e2 : d.2[u]? with
      | none => rw [e2] at hy; cases hy
      | some a =>
      rw [e2] at hy
      cases hy
      have ul := (List.getElem?_eq_some_iff.mp e2).1
      have ea : amI b k u = a := by unfold amI; rw [ed, List.getD_eq_getElem?_getD, e2]; rfl
      have ep : d.1.getD u 0 = prN b k u := by unfold prN; rw [ed]
      refine ⟨[some (Q.v I), some (Q.v (.int (k : Nat))), some (Q.v (mkT (d.1.map .int))), some (Q.v (.tuple (d.2.map .int))), some (Q.v (.int (c : Nat))), some (Q.v (.int (u : Nat))), some (Q.v (.int a))], by cases x5 <;> cases x6 <;> rfl, ?_⟩
      have t1 : mTest (eOp pGt (eVar 6) (eLit (.int 0))) [some (Q.v I), some (Q.v (.int (k : Nat))), some (Q.v (mkT (d.1.map .int))), some (Q.v (.tuple (d.2.map .int))), some (Q.v (.int (c : Nat))), some (Q.v (.int (u : Nat))), some (Q.v (.int a))] = some (decide (0 < a)) := rfl
      have t2 : mTest (eOp pGt (eIx (eUnt (eVar 2)) (eVar 5)) (eIx (eUnt (eVar 2)) (eVar 4))) [some (Q.v I), some (Q.v (.int (k : Nat))), some (Q.v (mkT (d.1.map .int))), some (Q.v (.tuple (d.2.map .int))), some (Q.v (.int (c : Nat))), some (Q.v (.int (u : Nat))), some (Q.v (.int a))] = some (decide (minL d.1 < prN b k u)) := by
        rw [← hcv, ← ep]
        exact mT_op (eIx_of (u2 _ _ _) (b2 := true) rfl (pIx_t2 (by omega))) (eIx_of (u2 _ _ _) (b2 := true) rfl (pIx_t2 (by omega))) rfl
      by_cases q1 : 0 < a
      · rw [decide_eq_true q1] at t1
        by_cases q2 : minL d.1 < prN b k u
        · rw [decide_eq_true q2] at t2
          refine w_ifT (mAnd_of t1 t2) (w_rt (q := .v (.tuple [.str "but", .tuple [.int (k : Nat), .int (u : Nat), .int (c : Nat)]])) rfl ⟨_, rfl, .inr ⟨k, u, c, kl, by omega, hci, rfl, by omega, ?_⟩⟩)
          unfold prN at q2 ⊢
          rw [ed] at q2 ⊢
          rw [hcv]
          exact q2
        · rw [decide_eq_false q2] at t2
          refine w_ifF (mAnd_of t1 t2) (w_nx rfl ⟨some (.int (u : Nat)), some (.int a), rfl, fun v hv hp => ?_⟩)
          rcases Nat.lt_succ_iff_lt_or_eq.mp hv with q | q
          · exact hal v q hp
          · subst q; omega
      · rw [decide_eq_false q1] at t1
        refine w_ifF (mAnd_f t1) (w_nx rfl ⟨some (.int (u : Nat)), some (.int a), rfl, fun v hv hp => ?_⟩)
        rcases Nat.lt_succ_iff_lt_or_eq.mp hv with q | q
        · exact hal v q hp
        · subst q; omega
    · rw [enumD_len, List.length_map, l2]
      rintro g ⟨x5, x6, rfl, hal⟩
      refine ⟨some (.int (k : Nat)), some (mkT (d.1.map .int)), some (.tuple (d.2.map .int)), some (.int (c : Nat)), x5, x6, rfl, fun d' hd' u hu hp => ?_⟩
      rcases Nat.lt_succ_iff_lt_or_eq.mp hd' with q | q
      · exact hall d' q u hu hp
      · subst q; rw [ed]; exact hal u hu hp
  rw [enumD_len, List.length_map]
  rintro g ⟨x1, x2, x3, x4, x5, x6, rfl, hall⟩
  exact w_rt (q := .v (.tuple [.str "taste"])) rfl ⟨_, rfl, .inl ⟨rfl, hall⟩⟩
theorem eq_explains {b : List Day} {q : Q} (h : m_c_Total_answer [insD "Total" ["days"] [bookD b]] = some q) (e : Bool) (he : pIx q.full (.int 0) = some (.str (if e then "taste" else "but"))) : m_c_Kind_explains [insD "Total" ["days"] [bookD b]] = some (.v (.bool e)) := by
  refine run_of rfl ?_
  unfold b_c_Kind_explains
  have f2 : insIs "Total" "answer" (insD "Total" ["days"] [bookD b]) = true := rfl
  generalize insD "Total" ["days"] [bookD b] = I at *
  have en : entM 1 [I] = [some (Q.v I)] := rfl
  rw [en]
  have a : aMth "Total" "answer" (eVar 0) (aNil) [some (Q.v I)] = some (true, [I]) := by rw [aMth_a]; show (if insIs "Total" "answer" I = true then _ else none) = _; rw [f2]; rfl
  have e1 : ∃ c, eCall m_c_Total_answer (aMth "Total" "answer" (eVar 0) (aNil)) [some (Q.v I)] = some (c, q.full) := ⟨true || imm q.full, by rw [eCall_a, a]; simp only [h]⟩
  obtain ⟨c, e1⟩ := e1
  have cmp : pEq (.str (if e then "taste" else "but")) (.str "taste") = some (.bool e) := by
    cases e
    · exact (pEq_s (by decide +kernel)).trans rfl
    · exact pEq_tt
  have e3 := eIx_of e1 (y := eLit (.int 0)) (b2 := true) rfl he
  refine w_rt (q := .v (.bool e)) ?_ rfl
  have e4 : eOp pEq (eIx (eCall m_c_Total_answer (aMth "Total" "answer" (eVar 0) (aNil))) (eLit (.int 0))) (eLit (.str "taste")) [some (Q.v I)] = some (true, .bool e) := by
    rw [eOp_a, e3]
    simp only [eLit_a, cmp]
  rw [sRet_a, rE_a, e4]
  rfl

theorem mChain_t {x y z : EM} {g : Stt} {b1 b2 b3 : Bool} {i j k : Int} (h1 : x g = some (b1, .int i)) (h2 : y g = some (b2, .int j)) (h3 : z g = some (b3, .int k)) (l1 : i ≤ j) (l2 : j < k) : mNot (mTest (eChain pLe pLt x y z)) g = some false := by
  have e1 : pLe (.int i) (.int j) = some (.bool true) := by show some (PyData.bool (decide (i ≤ j))) = _; rw [decide_eq_true l1]
  have e2 : pLt (.int j) (.int k) = some (.bool true) := by show some (PyData.bool (decide (j < k))) = _; rw [decide_eq_true l2]
  have : eChain pLe pLt x y z g = some (true, .bool true) := by
    rw [eChain_a]
    simp only [h1, h2, h3, e1, e2]
  rw [mNot_a, mTest_a, this]
  rfl
/-! ### is_total -/
theorem eq_l_is_total {w : Nat} {b : List Day} (P : PrOk w b) : ∃ t, m_l_is_total [bookP b] = some (.v (.bool t)) ∧ (t = true → ∀ k < b.length, NoBut w b k) ∧ (t = false → ∃ k < b.length, ¬ NoBut w b k) := by
  suffices h : W (b_l_is_total (entM 5 [bookP b])) (fun o => ∃ t, o = .rt (.v (.bool t)) ∧ (t = true → ∀ k < b.length, NoBut w b k) ∧ (t = false → ∃ k < b.length, ¬ NoBut w b k)) by
    obtain ⟨o, e, t, rfl, hr⟩ := h
    exact ⟨t, run_rt rfl e, hr⟩
  unfold b_l_is_total
  have w1 := P.w1
  have en : entM 5 [bookP b] = [some (Q.v (bookP b)), none, none, none, none] := rfl
  rw [en]
  have hi : iSq (eVar 0) [some (Q.v (bookP b)), none, none, none, none] = some (b.map dayP) := rfl
  generalize bookP b = BP at *
  refine w_seq (w_forM (xs := b) (f := dayP) hi (fun k g => ∃ x1 x2 x3 x4 : Option PyData, g = [some (Q.v BP), x1.map Q.v, x2.map Q.v, x3.map Q.v, x4.map Q.v] ∧ ∀ d < k, NoBut w b d) ⟨none, none, none, none, rfl, fun _ h => by omega⟩ ?_ ?_)
  · rintro k d g e ⟨x1, x2, x3, x4, rfl, hall⟩
    have kl := (List.getElem?_eq_some_iff.mp e).1
    have ed : atB b k = d := atB_get e
    have dm : d ∈ b := List.mem_of_getElem? e
    have l1 := P.l1 _ dm
    have l2 := P.l2 _ dm
    refine ⟨[some (Q.v BP), some (Q.v (.tuple (d.1.map .int))), some (Q.v (.tuple (d.2.map .int))), x3.map Q.v, x4.map Q.v], by cases x1 <;> cases x2 <;> rfl, ?_⟩
    have lz : (d.1.zip d.2).length = w := by rw [List.length_zip, l1, l2, Nat.min_self]
    refine w_forM (xs := d.1.zip d.2) (f := fun p => pair (.int p.1) (.int p.2)) (by rw [← zip_map]; rfl) (fun u g => ∃ x3 x4 : Option PyData, g = [some (Q.v BP), some (Q.v (.tuple (d.1.map .int))), some (Q.v (.tuple (d.2.map .int))), x3.map Q.v, x4.map Q.v] ∧ ∀ v < u, 0 < amI b k v → prN b k v ≤ minL d.1) ⟨x3, x4, rfl, fun _ h => by omega⟩ ?_ ?_
    · rintro u ⟨p, a⟩ g hu ⟨x3, x4, rfl, hal⟩
      have ul := (List.getElem?_eq_some_iff.mp hu).1
      have hz := List.getElem?_zip_eq_some.mp hu
      have ep : prN b k u = p := by unfold prN; rw [ed, List.getD_eq_getElem?_getD, hz.1]; rfl
      have ea : amI b k u = a := by unfold amI; rw [ed, List.getD_eq_getElem?_getD, hz.2]; rfl
      refine ⟨[some (Q.v BP), some (Q.v (.tuple (d.1.map .int))), some (Q.v (.tuple (d.2.map .int))), some (Q.v (.int p)), some (Q.v (.int a))], by cases x3 <;> cases x4 <;> rfl, ?_⟩
      have t1 : mTest (eOp pGt (eVar 4) (eLit (.int 0))) [some (Q.v BP), some (Q.v (.tuple (d.1.map .int))), some (Q.v (.tuple (d.2.map .int))), some (Q.v (.int p)), some (Q.v (.int a))] = some (decide (0 < a)) := rfl
      have t2 : mTest (eOp pGt (eVar 3) (eB1 pMin (eVar 1))) [some (Q.v BP), some (Q.v (.tuple (d.1.map .int))), some (Q.v (.tuple (d.2.map .int))), some (Q.v (.int p)), some (Q.v (.int a))] = some (decide (minL d.1 < p)) :=
        mT_op (b1 := true) (d := .int p) rfl (eB_of (b := true) (d := .tuple (d.1.map .int)) rfl (pMin_t (by omega))) rfl
      by_cases q1 : 0 < a
      · rw [decide_eq_true q1] at t1
        by_cases q2 : minL d.1 < p
        · rw [decide_eq_true q2] at t2
          refine w_ifT (mAnd_of t1 t2) (w_rt (q := .v (.bool false)) rfl ⟨false, rfl, (fun z => nomatch z), fun _ => ⟨k, kl, fun h => ?_⟩⟩)
          have := h u (by omega) (by omega)
          rw [ed] at this
          omega
        · rw [decide_eq_false q2] at t2
          refine w_ifF (mAnd_of t1 t2) (w_nx rfl ⟨some (.int p), some (.int a), rfl, fun v hv hp => ?_⟩)
          rcases Nat.lt_succ_iff_lt_or_eq.mp hv with q | q
          · exact hal v q hp
          · subst q; omega
      · rw [decide_eq_false q1] at t1
        refine w_ifF (mAnd_f t1) (w_nx rfl ⟨some (.int p), some (.int a), rfl, fun v hv hp => ?_⟩)
        rcases Nat.lt_succ_iff_lt_or_eq.mp hv with q | q
        · exact hal v q hp
        · subst q; omega
    · rw [lz]
      rintro g ⟨x3, x4, rfl, hal⟩
      refine ⟨some (.tuple (d.1.map .int)), some (.tuple (d.2.map .int)), x3, x4, rfl, fun d' hd' u hu hp => ?_⟩
      rcases Nat.lt_succ_iff_lt_or_eq.mp hd' with q | q
      · exact hall d' q u hu hp
      · subst q; rw [ed]; exact hal u hu hp
  rintro g ⟨x1, x2, x3, x4, rfl, hall⟩
  exact w_rt (q := .v (.bool true)) rfl ⟨true, rfl, fun _ => hall, fun z => nomatch z⟩
/-! ### speaks -/
theorem eq_l_speaks {w : Nat} {b : List Day} {k u c : Nat} (P : PrOk w b) (hk : k < b.length) (hu : u < w) (hc : c < w) (ha : 0 < amI b k u) (hp : prN b k c < prN b k u) :
    m_l_speaks [bookP b, .tuple [.int (k : Nat), .int (u : Nat), .int (c : Nat)]] = some (.v (.bool true)) := by
  refine run_of rfl ?_
  unfold b_l_speaks
  have h1 := P.h1
  have ix : ∀ k < b.length, pIx (bookP b) (.int (k : Nat)) = some (dayP (atB b k)) := fun k hk => (show pIx (bookP b) (.int (k : Nat)) = L2.atI (b.map dayP) ((k : Nat) : Int) from rfl).trans (at_getX hk rfl)
  have x0 : pIx (bookP b) (.int 0) = some (dayP (atB b 0)) := ix 0 (by omega)
  have xk := ix k hk
  have d0 : atB b 0 ∈ b := getD_memX (by omega)
  have dk : atB b k ∈ b := getD_memX hk
  have p1 : pLen (bookP b) = some (.int (b.length : Nat)) := by unfold bookP; rw [pLen_t, List.length_map]
  have p2 : pLen (.tuple ((atB b 0).1.map .int)) = some (.int (w : Nat)) := by rw [pLen_t, List.length_map, P.l1 _ d0]
  have y1 : pIx (.tuple ((atB b k).1.map .int)) (.int (u : Nat)) = some (.int (prN b k u)) := pIx_t2 (by rw [P.l1 _ dk]; exact hu)
  have y2 : pIx (.tuple ((atB b k).1.map .int)) (.int (c : Nat)) = some (.int (prN b k c)) := pIx_t2 (by rw [P.l1 _ dk]; exact hc)
  have y3 : pIx (.tuple ((atB b k).2.map .int)) (.int (u : Nat)) = some (.int (amI b k u)) := pIx_t2 (by rw [P.l2 _ dk]; exact hu)
  have z0 : pIx (dayP (atB b 0)) (.int 0) = some (.tuple ((atB b 0).1.map .int)) := rfl
  have zk0 : pIx (dayP (atB b k)) (.int 0) = some (.tuple ((atB b k).1.map .int)) := rfl
  have zk1 : pIx (dayP (atB b k)) (.int 1) = some (.tuple ((atB b k).2.map .int)) := rfl
  have lc := rLc_filter (im := iSq (eVar 1)) (gm := gNm 2) (tm := mTest (eCall m_l_int (aCons (eVar 2) (aNil)))) (em := eVar 2) (vs := [2]) (g := [some (Q.v (bookP b)), some (Q.v (.tuple [.int (k : Nat), .int (u : Nat), .int (c : Nat)])), none, none, none, none]) (xs := [((k : Nat) : Int), ((u : Nat) : Int), ((c : Nat) : Int)]) (inj := .int) (f := .int) (p := fun _ => true) rfl rfl (Nat.le_of_ble_eq_true rfl) (fun x hx => by
    have hi := eq_l_int (d := .int x)
    have hi2 : isI (.int x) = true := rfl
    rw [hi2] at hi
    refine ⟨[some (Q.v (bookP b)), some (Q.v (.tuple [.int (k : Nat), .int (u : Nat), .int (c : Nat)])), some (Q.v (.int x)), none, none, none], by unfold wipeS wipeS; exact rfl, ?_, fun _ => ⟨true, rfl, rfl⟩⟩
    have a : aCons (eVar 2) aNil [some (Q.v (bookP b)), some (Q.v (.tuple [.int (k : Nat), .int (u : Nat), .int (c : Nat)])), some (Q.v (.int x)), none, none, none] = some (true, [.int x]) := rfl
    rw [mTest_a, eCall_a, a]
    simp only [hi]
    rfl)
  have en : entM 6 [bookP b, .tuple [.int (k : Nat), .int (u : Nat), .int (c : Nat)]] = [some (Q.v (bookP b)), some (Q.v (.tuple [.int (k : Nat), .int (u : Nat), .int (c : Nat)])), none, none, none, none] := rfl
  rw [en]
  generalize bookP b = BP at *
  generalize dayP (atB b 0) = D0 at *
  generalize dayP (atB b k) = Dk at *
  refine w_seq (w_ifF (mOr_no (mN_isi (b := true) (d := .tuple [.int (k : Nat), .int (u : Nat), .int (c : Nat)]) rfl kit_tt) (mOr_no rfl (by
    rw [mTest_a, eOp_a, eB1_a, eR_a, lc]
    rfl))) (w_nx rfl ?_))
  refine w_st (g' := [some (Q.v BP), some (Q.v (.tuple [.int (k : Nat), .int (u : Nat), .int (c : Nat)])), none, some (Q.v (.int (k : Nat))), some (Q.v (.int (u : Nat))), some (Q.v (.int (c : Nat)))]) rfl ?_
  have i0 : ∀ (j : EM) (z d : PyData), j [some (Q.v BP), some (Q.v (.tuple [.int (k : Nat), .int (u : Nat), .int (c : Nat)])), none, some (Q.v (.int (k : Nat))), some (Q.v (.int (u : Nat))), some (Q.v (.int (c : Nat)))] = some (true, z) → pIx BP z = some d → eIxV 0 j [some (Q.v BP), some (Q.v (.tuple [.int (k : Nat), .int (u : Nat), .int (c : Nat)])), none, some (Q.v (.int (k : Nat))), some (Q.v (.int (u : Nat))), some (Q.v (.int (c : Nat)))] = some (true, d) := fun j z d h1 h2 => by
    rw [eIxV_a, h1]
    show (match pIx BP z with | some z => some (true, z) | none => none) = _
    rw [h2]
  have c0 := i0 (eLit (.int 0)) _ _ rfl x0
  have ck := i0 (eVar 3) _ _ rfl xk
  have cl : ∀ (x : EM), mNot (mTest (eChain pLe pLt (eLit (.int 0)) x (eB1 pLen (eIx (eIxV 0 (eLit (.int 0))) (eLit (.int 0)))))) [some (Q.v BP), some (Q.v (.tuple [.int (k : Nat), .int (u : Nat), .int (c : Nat)])), none, some (Q.v (.int (k : Nat))), some (Q.v (.int (u : Nat))), some (Q.v (.int (c : Nat)))] = mNot (mTest (eChain pLe pLt (eLit (.int 0)) x (eLit (.int (w : Nat))))) [some (Q.v BP), some (Q.v (.tuple [.int (k : Nat), .int (u : Nat), .int (c : Nat)])), none, some (Q.v (.int (k : Nat))), some (Q.v (.int (u : Nat))), some (Q.v (.int (c : Nat)))] := fun x => by
    have e : eB1 pLen (eIx (eIxV 0 (eLit (.int 0))) (eLit (.int 0))) [some (Q.v BP), some (Q.v (.tuple [.int (k : Nat), .int (u : Nat), .int (c : Nat)])), none, some (Q.v (.int (k : Nat))), some (Q.v (.int (u : Nat))), some (Q.v (.int (c : Nat)))] = some (true, .int (w : Nat)) := eB_of (eIx_of c0 (b2 := true) rfl z0) p2
    rw [mNot_a, mTest_a, eChain_a, mNot_a, mTest_a, eChain_a, e]
    rfl
  refine w_seq (w_ifF (mOr_no (mChain_t (b1 := true) (b2 := true) (b3 := true) (i := 0) (j := (k : Nat)) rfl rfl (eB_of (b := true) (d := BP) rfl p1) (by omega) (by omega)) (mOr_no (by rw [cl]; exact mChain_t (b1 := true) (b2 := true) (b3 := true) (i := 0) (j := (u : Nat)) (k := (w : Nat)) rfl rfl rfl (by omega) (by omega)) (by rw [cl]; exact mChain_t (b1 := true) (b2 := true) (b3 := true) (i := 0) (j := (c : Nat)) (k := (w : Nat)) rfl rfl rfl (by omega) (by omega)))) (w_nx rfl ?_))
  refine w_rt (q := .v (.bool true)) ?_ rfl
  have q1 : eOp pGt (eIx (eIx (eIxV 0 (eVar 3)) (eLit (.int 1))) (eVar 4)) (eLit (.int 0)) [some (Q.v BP), some (Q.v (.tuple [.int (k : Nat), .int (u : Nat), .int (c : Nat)])), none, some (Q.v (.int (k : Nat))), some (Q.v (.int (u : Nat))), some (Q.v (.int (c : Nat)))] = some (true, .bool true) := by
    rw [eOp_a, eIx_of (eIx_of ck (b2 := true) rfl zk1) (b2 := true) rfl y3]
    show some (true, PyData.bool (decide (0 < amI b k u))) = _
    rw [decide_eq_true ha]
  have q2 : eOp pLt (eIx (eIx (eIxV 0 (eVar 3)) (eLit (.int 0))) (eVar 5)) (eIx (eIx (eIxV 0 (eVar 3)) (eLit (.int 0))) (eVar 4)) [some (Q.v BP), some (Q.v (.tuple [.int (k : Nat), .int (u : Nat), .int (c : Nat)])), none, some (Q.v (.int (k : Nat))), some (Q.v (.int (u : Nat))), some (Q.v (.int (c : Nat)))] = some (true, .bool true) := by
    rw [eOp_a, eIx_of (eIx_of ck (b2 := true) rfl zk0) (b2 := true) rfl y2, eIx_of (eIx_of ck (b2 := true) rfl zk0) (b2 := true) rfl y1]
    show some (true, PyData.bool (decide (prN b k c < prN b k u))) = _
    rw [decide_eq_true hp]
  rw [sRet_a, rE_a, eAnd_t q1 q2]
  rfl
/-! ### the law -/
theorem law_ok (ns : List Int) (hs : Scr ns) : b_law (entM 4 [.list (ns.map .int)]) = some (.rt (.v (.bool true))) := by
  suffices h : W (b_law (entM 4 [.list (ns.map .int)])) (fun o => o = .rt (.v (.bool true))) by
    obtain ⟨o, e, p⟩ := h; rw [e, p]
  have h1 := eq_l_book (ns := ns) (a := 1) (b := 8) (c := 6) ⟨hs, by show (0 : Int) ≤ 1; decide, by show (1 : Int) ≤ 500; decide, by show (1 : Int) ≤ 8; decide, by show (8 : Int) ≤ 8; decide, by show (1 : Int) ≤ 6; decide, by show (6 : Int) ≤ 6; decide⟩
  have h0 := eq_l_book (ns := ns) (a := 0) (b := 3) (c := 2) ⟨hs, by show (0 : Int) ≤ 0; decide, by show (0 : Int) ≤ 500; decide, by show (1 : Int) ≤ 3; decide, by show (3 : Int) ≤ 8; decide, by show (1 : Int) ≤ 2; decide, by show (2 : Int) ≤ 6; decide⟩
  obtain ⟨w, B⟩ : ∃ w, GoodBook w (bookN ns 1 8 6) := ⟨_, bookN_good (ns := ns) (start := 1) (most := 8) (wares := 6) (by decide) (by decide) (by decide) (by decide)⟩
  obtain ⟨w', B'⟩ : ∃ w, GoodBook w (bookN ns 0 3 2) := ⟨_, bookN_good (ns := ns) (start := 0) (most := 3) (wares := 2) (by decide) (by decide) (by decide) (by decide)⟩
  generalize bookN ns 1 8 6 = b at *
  generalize bookN ns 0 3 2 = b' at *
  generalize PyData.list (ns.map .int) = scr at *
  have P := prOk B
  have P' := prOk B'
  obtain ⟨q, hr, hR⟩ := eq_answer P
  obtain ⟨q', hr', _⟩ := eq_answer P'
  obtain ⟨t, ht, t1, t2⟩ := eq_l_is_total P
  have ib := imm_bookD b
  have ib' := imm_bookD b'
  have hum := um_bookD b
  have g1 : insIs "Total" "answer" (insD "Total" ["days"] [bookD b]) = true := rfl
  have g2 : insIs "Total" "explains" (insD "Total" ["days"] [bookD b]) = true := rfl
  have g3 : insIs "Total" "answer" (insD "Total" ["days"] [bookD b']) = true := rfl
  have r1 : ∀ x1 x3, mTest (eIsC insTab "Kind" (eVar 2)) [some (Q.v scr), x1, some (Q.v (insD "Total" ["days"] [bookD b])), x3] = some true := fun _ _ => rfl
  have r2 : ∀ x1 x3, mTest (eIsC insTab "Sums" (eVar 2)) [some (Q.v scr), x1, some (Q.v (insD "Total" ["days"] [bookD b])), x3] = some false := fun _ _ => rfl
  obtain ⟨x, e, hx, hx1, hsh, him, hrr⟩ : ∃ (x : List PyData) (e : Bool), q = .v (.tuple (.str (if e then "taste" else "but") :: x)) ∧ (e = true → x = []) ∧ SH 3 (.tuple (.str (if e then "taste" else "but") :: x)) ∧ imms x = true ∧ ((e = true ∧ t = true) ∨ (e = false ∧ t = false ∧ ∃ y, x = [y] ∧ m_l_speaks [bookP b, y] = some (.v (.bool true)))) := by
    rcases hR with ⟨q1, q2⟩ | ⟨k, u, c, q1, q2, q3, q4, q5, q6⟩
    · refine ⟨[], true, q1, fun _ => rfl, (SH.tup (n := 0) fun d hd => ?_).up (by decide), rfl, .inl ⟨rfl, ?_⟩⟩
      · simp only [List.mem_cons, List.not_mem_nil, or_false] at hd
        subst hd
        exact ⟨by decide +kernel, Nat.zero_le _⟩
      · cases t with
        | true => rfl
        | false => obtain ⟨k, hk, hn⟩ := t2 rfl; exact (hn (q2 k hk)).elim
    · refine ⟨[_], false, q4, (fun z => nomatch z), (SH.two (n := 1) ⟨by decide +kernel, Nat.zero_le _⟩ (SH.tup (n := 0) fun x hx => by simp only [List.mem_cons, List.not_mem_nil, or_false] at hx; rcases hx with rfl | rfl | rfl <;> exact SH.int _)).up (by decide), rfl, .inr ⟨rfl, ?_, _, rfl, eq_l_speaks P q1 q2 q3 q5 q6⟩⟩
      cases t with
      | false => rfl
      | true =>
        have h := t1 rfl k q1 u q2 q5
        have dm : atB b k ∈ b := getD_memX q1
        have hm : prN b k c ∈ (atB b k).1 := getD_memZ (by rw [P.l1 _ dm]; exact q3)
        have := (minL_spec (ns := (atB b k).1) (by rw [P.l1 _ dm]; omega)).2 _ hm
        omega
  have ex := eq_explains hr e (by
    rw [hx]
    rcases hrr with ⟨rfl, _⟩ | ⟨rfl, _, y, rfl, _⟩
    · cases hx1 rfl; rfl
    · rfl)
  have shp := SH.ok (hsh.up (m := 64) (by decide))
  have iq : imm (.tuple (.str (if e then "taste" else "but") :: x)) = true := by show imms (_ :: x) = true; rw [imms, him]; rfl
  have pE := pEq_self shp
  have pN := pNe_self shp
  clear hR t1 t2 hsh him P P' B B'
  subst hx
  have en : entM 4 [scr] = [some (Q.v scr), none, none, none] := rfl
  rw [en]
  unfold b_law
  have hM : ∀ x2 x3, eMake "Total" "days" (eVar 1) [some (Q.v scr), some (Q.v (bookD b)), x2, x3] = some (true, insD "Total" ["days"] [bookD b]) := fun _ _ => rfl
  refine w_st (g' := [some (Q.v scr), some (Q.v (bookD b)), none, none]) (by
    have a : aCons (eVar 0) (aCons (eLit (.int 1)) (aCons (eLit (.int 8)) (aCons (eLit (.int 6)) (aNil)))) [some (Q.v scr), none, none, none] = some (true, [scr, .int 1, .int 8, .int 6]) := rfl
    rw [sAsg_a, eCall_a, a]
    simp only [h1]
    rfl) ?_
  refine w_st (g' := [some (Q.v scr), some (Q.v (bookD b)), some (Q.v (insD "Total" ["days"] [bookD b])), none]) (by rw [sAsg_a, hM]; rfl) ?_
  have hM2 : insD "Total" ["days"] [bookD b'] = insD "Total" ["days"] [bookD b'] := rfl
  obtain ⟨I2, hI2⟩ : ∃ I2, I2 = insD "Total" ["days"] [bookD b'] := ⟨_, rfl⟩
  generalize insD "Total" ["days"] [bookD b] = I at *
  clear hM2
  rw [← hI2] at hr' g3
  have aI : ∀ x1 x3, aMth "Total" "answer" (eVar 2) (aNil) [some (Q.v scr), x1, some (Q.v I), x3] = some (true, [I]) := fun x1 x3 => by rw [aMth_a]; show (if insIs "Total" "answer" I = true then _ else none) = _; rw [g1]; rfl
  have aE : ∀ x1 x3, aMth "Total" "explains" (eVar 2) (aNil) [some (Q.v scr), x1, some (Q.v I), x3] = some (true, [I]) := fun x1 x3 => by rw [aMth_a]; show (if insIs "Total" "explains" I = true then _ else none) = _; rw [g2]; rfl
  have cI : ∀ x1 x3, eCall m_c_Total_answer (aMth "Total" "answer" (eVar 2) (aNil)) [some (Q.v scr), x1, some (Q.v I), x3] = some (true, .tuple (.str (if e then "taste" else "but") :: x)) := fun x1 x3 => by rw [eCall_a, aI]; simp only [hr]; rfl
  have cE : ∀ x1 x3, eCall m_c_Kind_explains (aMth "Total" "explains" (eVar 2) (aNil)) [some (Q.v scr), x1, some (Q.v I), x3] = some (true, .bool e) := fun x1 x3 => by rw [eCall_a, aE]; simp only [ex]; rfl
  refine w_st (g' := [some (Q.v scr), some (Q.v (bookD b)), some (Q.v I), some (Q.v (.tuple (.str (if e then "taste" else "but") :: x)))]) (by rw [sAsg_a, cI]; rfl) ?_
  refine w_seq (w_ifF (mOr_no (by rw [mNot_a, r1]; rfl) (mOr_no (r2 _ _) (mN_isi (b := true) (d := .tuple (.str (if e then "taste" else "but") :: x)) rfl kit_tt))) (w_nx rfl ?_))
  have v3 : ∀ x1, eVar 3 [some (Q.v scr), x1, some (Q.v I), some (Q.v (.tuple (.str (if e then "taste" else "but") :: x)))] = some (true, .tuple (.str (if e then "taste" else "but") :: x)) := fun _ => rfl
  have u1 : eUnt (eVar 1) [some (Q.v scr), some (Q.v (bookD b)), some (Q.v I), some (Q.v (.tuple (.str (if e then "taste" else "but") :: x)))] = some (true, bookP b) := eUnt_of (b := true) (d := bookD b) rfl hum
  have tq : mTest (eCall m_l_is_total (aCons (eUnt (eVar 1)) (aNil))) [some (Q.v scr), some (Q.v (bookD b)), some (Q.v I), some (Q.v (.tuple (.str (if e then "taste" else "but") :: x)))] = some t := by
    have a : aCons (eUnt (eVar 1)) aNil [some (Q.v scr), some (Q.v (bookD b)), some (Q.v I), some (Q.v (.tuple (.str (if e then "taste" else "but") :: x)))] = some (true, [bookP b]) := by rw [aCons_a, u1]; rfl
    rw [mTest_a, eCall_a, a]
    simp only [ht]
    rfl
  have fin : W ((sSeq (sExp (eCall m_c_Total_answer (aMth "Total" "answer" (eMake "Total" "days" (eCall m_l_book (aCons (eVar 0) (aCons (eLit (.int 0)) (aCons (eLit (.int 3)) (aCons (eLit (.int 2)) (aNil))))))) (aNil))))
    (sRet (rE (eAnd (eOp pEq (eCall m_c_Total_answer (aMth "Total" "answer" (eVar 2) (aNil))) (eVar 3)) (eOp pEq (eCall m_c_Total_answer (aMth "Total" "answer" (eMake "Total" "days" (eVar 1)) (aNil))) (eVar 3)))))) [some (Q.v scr), some (Q.v (bookD b)), some (Q.v I), some (Q.v (.tuple (.str (if e then "taste" else "but") :: x)))]) (fun o => o = .rt (.v (.bool true))) := by
    have c2' : ∃ b1 d1, eCall m_c_Total_answer (aMth "Total" "answer" (eMake "Total" "days" (eCall m_l_book (aCons (eVar 0) (aCons (eLit (.int 0)) (aCons (eLit (.int 3)) (aCons (eLit (.int 2)) (aNil))))))) (aNil)) [some (Q.v scr), some (Q.v (bookD b)), some (Q.v I), some (Q.v (.tuple (.str (if e then "taste" else "but") :: x)))] = some (b1, d1) := by
      have e1 : eCall m_l_book (aCons (eVar 0) (aCons (eLit (.int 0)) (aCons (eLit (.int 3)) (aCons (eLit (.int 2)) (aNil))))) [some (Q.v scr), some (Q.v (bookD b)), some (Q.v I), some (Q.v (.tuple (.str (if e then "taste" else "but") :: x)))] = some (true, bookD b') := by
        have a : aCons (eVar 0) (aCons (eLit (.int 0)) (aCons (eLit (.int 3)) (aCons (eLit (.int 2)) (aNil)))) [some (Q.v scr), some (Q.v (bookD b)), some (Q.v I), some (Q.v (.tuple (.str (if e then "taste" else "but") :: x)))] = some (true, [scr, .int 0, .int 3, .int 2]) := rfl
        rw [eCall_a, a]
        simp only [h0]
        rfl
      have e2 : eMake "Total" "days" (eCall m_l_book (aCons (eVar 0) (aCons (eLit (.int 0)) (aCons (eLit (.int 3)) (aCons (eLit (.int 2)) (aNil)))))) [some (Q.v scr), some (Q.v (bookD b)), some (Q.v I), some (Q.v (.tuple (.str (if e then "taste" else "but") :: x)))] = some (true, I2) := by
        rw [eMake_a, e1, hI2]
        rfl
      have e3 : aMth "Total" "answer" (eMake "Total" "days" (eCall m_l_book (aCons (eVar 0) (aCons (eLit (.int 0)) (aCons (eLit (.int 3)) (aCons (eLit (.int 2)) (aNil))))))) (aNil) [some (Q.v scr), some (Q.v (bookD b)), some (Q.v I), some (Q.v (.tuple (.str (if e then "taste" else "but") :: x)))] = some (true, [I2]) := by
        rw [aMth_a, e2]
        show (if insIs "Total" "answer" I2 = true then aCons _ _ _ else none) = _
        rw [g3, aCons_a, e2]
        rfl
      exact ⟨true || imm q'.full, q'.full, by
        rw [eCall_a, e3]
        simp only [hr']⟩
    obtain ⟨b1, d1, c2'⟩ := c2'
    refine w_st (g' := [some (Q.v scr), some (Q.v (bookD b)), some (Q.v I), some (Q.v (.tuple (.str (if e then "taste" else "but") :: x)))]) (by rw [sExp_a, c2']) ?_
    have f2 : eCall m_c_Total_answer (aMth "Total" "answer" (eMake "Total" "days" (eVar 1)) (aNil)) [some (Q.v scr), some (Q.v (bookD b)), some (Q.v I), some (Q.v (.tuple (.str (if e then "taste" else "but") :: x)))] = some (true, .tuple (.str (if e then "taste" else "but") :: x)) := by
      have a : aMth "Total" "answer" (eMake "Total" "days" (eVar 1)) (aNil) [some (Q.v scr), some (Q.v (bookD b)), some (Q.v I), some (Q.v (.tuple (.str (if e then "taste" else "but") :: x)))] = some (true, [I]) := by
        rw [aMth_a, hM]
        show (if insIs "Total" "answer" I = true then aCons _ _ _ else none) = _
        rw [g1, aCons_a, hM]
        rfl
      rw [eCall_a, a]
      simp only [hr]
      rfl
    have o1 : ∀ (z : EM), z [some (Q.v scr), some (Q.v (bookD b)), some (Q.v I), some (Q.v (.tuple (.str (if e then "taste" else "but") :: x)))] = some (true, .tuple (.str (if e then "taste" else "but") :: x)) → eOp pEq z (eVar 3) [some (Q.v scr), some (Q.v (bookD b)), some (Q.v I), some (Q.v (.tuple (.str (if e then "taste" else "but") :: x)))] = some (true, .bool true) := fun z hz => by
      rw [eOp_a, hz, v3]
      simp only [pE]
    exact w_rt (q := .v (.bool true)) (by
      rw [sRet_a, rE_a, eAnd_t (o1 _ (cI _ _)) (o1 _ f2)]
      rfl) rfl
  rcases hrr with ⟨rfl, rfl⟩ | ⟨rfl, rfl, y, rfl, hy⟩
  · have := hx1 rfl
    subst this
    refine w_seq (w_ifT tq (w_ifF (mOr_no (mT_op (v3 _) (b2 := true) (d' := .tuple [.str "taste"]) rfl pN) (mT_op (cE _ _) (b2 := true) (d' := .bool true) rfl rfl)) (w_nx rfl fin)))
  · have x1 : ∀ x1, eIxV 3 (eLit (.int 1)) [some (Q.v scr), x1, some (Q.v I), some (Q.v (.tuple [.str (if false then "taste" else "but"), y]))] = some (true, y) := fun _ => rfl
    have s2 : pNe (.str "but") (.str "but") = some (.bool false) := (pNe_s (by decide +kernel)).trans rfl
    refine w_seq (w_ifF tq (w_ifF (mOr_no rfl (mOr_no (mT_op (b1 := true) (d := .str "but") rfl (b2 := true) (d' := .str "but") rfl s2) (mOr_no (mN_call2 u1 (x1 _) hy) (mT_op (cE _ _) (b2 := true) (d' := .bool false) rfl rfl)))) (w_nx rfl fin)))

def sp_law (K : PySem.W.Frag) : Sp := spD K (ι := List Int) (fun ns => [.list (ns.map .int)]) Scr (fun _ r => r = .val false (.bool true))
theorem ds_law {K : PySem.W.Frag} (KC : KCls K clsTab "days" insTab) (ns : List Int) (hs : Scr ns) : DS K (t_law K) (ent N_law [.list (ns.map .int)]) { nx := fun _ => R.val true .none = R.val false (.bool true), rt := fun r => r = .val false (.bool true) } :=
  (ss_law KC _ _ _ (abs_ent N_law [.list (ns.map .int)]) (law_ok ns hs)).imp (fun _ p => p.elim) (fun _ p => p) (fun _ p => p.elim) (fun _ p => p.elim)
end TB
namespace TB
open PySem PySem.Spec PyProof.Rows L2
/-! ### the text -/
def lcScopeOf : Expr → Scope
  | .ListComp _ _ s _ => s
  | .Call _ (.ListComp _ _ s _ :: _) _ _ => s
  | _ => defScope (.Pass ⟨0, 0, 0, 0⟩)
def relS (sc o : Scope) : Scope := { sc with names := sc.names.map fun (n, k) => if (k == NameKind.free && o.kind == .function && o.names.lookup n == some .cell) then (n, NameKind.cell) else (n, k) }
def valE : Stmt → Expr
  | .Return (some e) _ => e
  | .Assign _ e _ => e
  | _ => .Constant .none 0 ⟨0, 0, 0, 0⟩
def top (i : Nat) : Stmt := PySem.Challenge.pw_tastesbook_k46_total.main.body.getD i (.Pass ⟨0, 0, 0, 0⟩)
abbrev s_c_Kind_init : Stmt := inClass (top 24) 0
abbrev s_c_Total_answer : Stmt := inClass (top 26) 0
abbrev s_c_Kind_explains : Stmt := inClass (top 24) 2
abbrev s_l_cell : Stmt := top 28
abbrev s_l_int : Stmt := top 29
abbrev s_l_next : Stmt := top 30
abbrev s_l_shape : Stmt := top 31
abbrev s_l_best : Stmt := top 32
abbrev s_l_bought : Stmt := top 33
abbrev s_l_price : Stmt := top 34
abbrev s_l_day : Stmt := top 35
abbrev s_l_book : Stmt := top 36
abbrev s_l_is_total : Stmt := top 37
abbrev s_l_speaks : Stmt := top 38
abbrev s_law : Stmt := top 39
structure Blt (mg : Str → Option Value) : Prop where
  b_bool : mg "bool" = none
  b_enumerate : mg "enumerate" = none
  b_int : mg "int" = none
  b_isinstance : mg "isinstance" = none
  b_len : mg "len" = none
  b_min : mg "min" = none
  b_range : mg "range" = none
  b_sum : mg "sum" = none
  b_tuple : mg "tuple" = none
  b_zip : mg "zip" = none
def N_c_Kind_init : List Str := ["self", "book"]
section
variable {P : Program} {w : World} {K : PySem.W.Frag} {mg : Str → Option Value} {base : Heap}
theorem sc_c_Kind_init : FnScope N_c_Kind_init ["self", "book"] (defScope s_c_Kind_init) := ⟨rfl, rfl, rfl, by decide +kernel, rfl, by decide +kernel, by decide +kernel⟩
theorem ok_c_Kind_init {f : Addr} {fd : FuncData} (F : Fun K "__init__" "Kind.__init__" s_c_Kind_init f fd) : FnOk P w K mg base CX0 1 f fd ["self", "book"] (spInit K "days") :=
  ok_init1 F sc_c_Kind_init (fun f cdv A outer s H E hr => pss_one (ps_fld (pv 0) (pv 1) rfl))
theorem bd_c_Kind_init (kV doc pm : Value) (an : Option Addr) (cdv ct : Value) (us : List Value) (hl : us.length = 2) : bindArgs (PySem.W.fnOf "__init__" "Kind.__init__" (defArgs s_c_Kind_init) (defBody s_c_Kind_init) (defScope s_c_Kind_init) .none kV doc pm an cdv ct) ⟨us, []⟩ = pure ((["self", "book"] : List Str).zip us) :=
  match us, hl with | [_, _], _ => rfl
theorem sc_c_Total_answer : FnScope N_c_Total_answer ["self"] (defScope s_c_Total_answer) := ⟨rfl, rfl, rfl, by decide +kernel, rfl, by decide +kernel, by decide +kernel⟩
theorem ok_c_Total_answer {f : Addr} {fd : FuncData} (F : Fun K "answer" "Total.answer" s_c_Total_answer f fd) (B : Blt mg) (KC : KCls K clsTab "days" insTab) :
    FnOk P w K mg base CX0 1 f fd ["self"] (sp_c_Total_answer K) :=
  mkFnQ F sc_c_Total_answer len_c_Total_answer (fun f cdv A outer s H E hr => (pss_cons (ps_for PassesOwn.never rfl (pi_enumA (by rfl) B.b_enumerate (pa_cons (pe_fld (pv 0) rfl) pa_nil)) (pg_tup (by rfl) (pgs_cons (pg_name (i := 1) (sc_c_Total_answer).nd rfl (Or.inl rfl)) (pgs_cons (pg_tup (by rfl) (pgs_cons (pg_name (i := 2) (sc_c_Total_answer).nd rfl (Or.inl rfl)) (pgs_cons (pg_name (i := 3) (sc_c_Total_answer).nd rfl (Or.inl rfl)) pgs_nil))) pgs_nil))) (pss_cons (ps_set (i := 4) (sc_c_Total_answer).nd rfl (Or.inl rfl) (pe_idxT (pv 2) (pa_cons (pe_callB (call_minA rfl) (by rfl) B.b_min (by decide +kernel) (pa_cons (pv 2) pa_nil)) pa_nil)))
    (pss_one (ps_for PassesOwn.never rfl (pi_enumA (by rfl) B.b_enumerate (pa_cons (pv 3) pa_nil)) (pg_tup (by rfl) (pgs_cons (pg_name (i := 5) (sc_c_Total_answer).nd rfl (Or.inl rfl)) (pgs_cons (pg_name (i := 6) (sc_c_Total_answer).nd rfl (Or.inl rfl)) pgs_nil))) (pss_one (ps_if (PW.pt (pw_and (pt_cmpR op_gtI (pv 6) pe_int (nomark _)) (pw_and1 (pt_cmpR op_gtI (pe_ix (ix_sub (hu_of hr)) (pv 2) (pv 5) (fun _ _ => rfl)) (pe_ix (ix_sub (hu_of hr)) (pv 2) (pv 4) (fun _ _ => rfl)) (nomark _))))) (pss_one (ps_ret (pe_tup (pa_cons pe_str (pa_cons (pe_tup (pa_cons (pv 1) (pa_cons (pv 5) (pa_cons (pv 4) pa_nil)))) pa_nil))))) pss_nil))))))
    (pss_one (ps_ret (pe_tup (pa_cons pe_str pa_nil)))))) (raw_c_Total_answer KC)
theorem bd_c_Total_answer (kV doc pm : Value) (an : Option Addr) (cdv ct : Value) (us : List Value) (hl : us.length = 1) : bindArgs (PySem.W.fnOf "answer" "Total.answer" (defArgs s_c_Total_answer) (defBody s_c_Total_answer) (defScope s_c_Total_answer) .none kV doc pm an cdv ct) ⟨us, []⟩ = pure ((["self"] : List Str).zip us) :=
  match us, hl with | [_], _ => rfl
theorem sc_c_Kind_explains : FnScope N_c_Kind_explains ["self"] (defScope s_c_Kind_explains) := ⟨rfl, rfl, rfl, by decide +kernel, rfl, by decide +kernel, by decide +kernel⟩
theorem ok_c_Kind_explains {f : Addr} {fd : FuncData} (F : Fun K "explains" "Kind.explains" s_c_Kind_explains f fd)
    (M_Total_answer : MetOk P w K mg base 1 "Total" "answer" ["self"] (sp_c_Total_answer K)) :
    FnOk P w K mg base CX0 2 f fd ["self"] (sp_c_Kind_explains K) :=
  mkFnQ F sc_c_Kind_explains len_c_Kind_explains (fun f cdv A outer s H E hr => (pss_one (ps_ret (pe_cmpR (op_eqD hr.units) (pe_ix (ix_sub (hu_of hr)) (pe_metD0 M_Total_answer (hr.mono (by decide)) (pv 0)) pe_int (fun _ _ => rfl)) pe_str (nomark _))))) raw_c_Kind_explains
theorem bd_c_Kind_explains (kV doc pm : Value) (an : Option Addr) (cdv ct : Value) (us : List Value) (hl : us.length = 1) : bindArgs (PySem.W.fnOf "explains" "Kind.explains" (defArgs s_c_Kind_explains) (defBody s_c_Kind_explains) (defScope s_c_Kind_explains) .none kV doc pm an cdv ct) ⟨us, []⟩ = pure ((["self"] : List Str).zip us) :=
  match us, hl with | [_], _ => rfl
theorem sc_l_cell : FnScope N_l_cell ["_law_script", "_law_k"] (defScope s_l_cell) := ⟨rfl, rfl, rfl, by decide +kernel, rfl, by decide +kernel, by decide +kernel⟩
theorem ok_l_cell (h : Here K mg "_law_cell" s_l_cell ["_law_script", "_law_k"]) (B : Blt mg) :
    DefOk P w K mg base 1 "_law_cell" ["_law_script", "_law_k"] (sp_l_cell K) :=
  mkDef h sc_l_cell (fun _ => rfl) (fun f cdv A outer s H E hr => (pss_cons (ps_if (pt_cmpR op_ltI (pv 1) (pe_callB call_lenA (by rfl) B.b_len (by decide +kernel) (pa_cons (pv 0) pa_nil)) (nomark _)) (pss_one (ps_ret (pe_op op_modI (pe_op op_times (pe_op op_plusQ (pe_ix (ix_sub (hu_of hr)) (pv 0) (pv 1) (fun _ _ => rfl)) pe_int) pe_int) (pe_op op_powI pe_int pe_int)))) pss_nil)
    (pss_cons (ps_set (i := 2) (sc_l_cell).nd rfl (Or.inl rfl) (pe_op op_plusQ (pe_op op_times (pe_op op_times (pv 1) (pv 1)) pe_int) pe_int))
    (pss_cons (ps_if (pt_cmpR op_gtI (pe_callB call_lenA (by rfl) B.b_len (by decide +kernel) (pa_cons (pv 0) pa_nil)) pe_int (nomark _)) (pss_one (ps_set (i := 2) (sc_l_cell).nd rfl (Or.inl rfl) (pe_op op_plusQ (pv 2) (pe_op op_times (pe_op op_modI (pe_ix (ix_sub (hu_of hr)) (pv 0) (pe_op op_modI (pe_op op_times (pv 1) pe_int) (pe_callB call_lenA (by rfl) B.b_len (by decide +kernel) (pa_cons (pv 0) pa_nil))) (fun _ _ => rfl)) (pe_op op_powI pe_int pe_int)) pe_int)))) pss_nil)
    (pss_one (ps_ret (pe_op op_modI (pe_op op_times (pe_op op_modI (pe_op op_times (pv 2) (pv 2)) pe_int) pe_int) (pe_op op_powI pe_int pe_int)))))))) ds_l_cell
theorem bd_l_cell (kV doc pm : Value) (an : Option Addr) (cdv ct : Value) (us : List Value) (hl : us.length = 2) : bindArgs (PySem.W.fnOf "_law_cell" "_law_cell" (defArgs s_l_cell) (defBody s_l_cell) (defScope s_l_cell) .none kV doc pm an cdv ct) ⟨us, []⟩ = pure ((["_law_script", "_law_k"] : List Str).zip us) :=
  match us, hl with | [_, _], _ => rfl
theorem sc_l_int : FnScope N_l_int ["_law_found"] (defScope s_l_int) := ⟨rfl, rfl, rfl, by decide +kernel, rfl, by decide +kernel, by decide +kernel⟩
theorem ok_l_int (h : Here K mg "_law_int" s_l_int ["_law_found"]) (B : Blt mg) :
    DefOk P w K mg base 1 "_law_int" ["_law_found"] (sp_l_int K) :=
  mkDef h sc_l_int (fun _ => rfl) (fun f cdv A outer s H E hr => (pss_one (ps_ret (pe_and (pe_callB call_isiA (by rfl) B.b_isinstance (by decide +kernel) (pa_cons (pv 0) (pa_cons (pe_ty "int" (by rfl) B.b_int (by decide +kernel)) pa_nil))) (pe_one (pe_not (pe_callB call_isiA (by rfl) B.b_isinstance (by decide +kernel) (pa_cons (pv 0) (pa_cons (pe_ty "bool" (by rfl) B.b_bool (by decide +kernel)) pa_nil))))))))) ds_l_int
theorem bd_l_int (kV doc pm : Value) (an : Option Addr) (cdv ct : Value) (us : List Value) (hl : us.length = 1) : bindArgs (PySem.W.fnOf "_law_int" "_law_int" (defArgs s_l_int) (defBody s_l_int) (defScope s_l_int) .none kV doc pm an cdv ct) ⟨us, []⟩ = pure ((["_law_found"] : List Str).zip us) :=
  match us, hl with | [_], _ => rfl
theorem sc_l_next : FnScope N_l_next ["_law_cell_here"] (defScope s_l_next) := ⟨rfl, rfl, rfl, by decide +kernel, rfl, by decide +kernel, by decide +kernel⟩
theorem ok_l_next (h : Here K mg "_law_next" s_l_next ["_law_cell_here"]) :
    DefOk P w K mg base 1 "_law_next" ["_law_cell_here"] (sp_l_next K) :=
  mkDef h sc_l_next (fun _ => rfl) (fun f cdv A outer s H E hr => (pss_one (ps_ret (pe_op op_modI (pe_op op_plusQ (pe_op op_times (pv 0) pe_int) pe_int) (pe_op op_powI pe_int pe_int))))) ds_l_next
theorem bd_l_next (kV doc pm : Value) (an : Option Addr) (cdv ct : Value) (us : List Value) (hl : us.length = 1) : bindArgs (PySem.W.fnOf "_law_next" "_law_next" (defArgs s_l_next) (defBody s_l_next) (defScope s_l_next) .none kV doc pm an cdv ct) ⟨us, []⟩ = pure ((["_law_cell_here"] : List Str).zip us) :=
  match us, hl with | [_], _ => rfl
theorem sc_l_shape : FnScope N_l_shape ["_law_cell_here", "_law_wares"] (defScope s_l_shape) := ⟨rfl, rfl, rfl, by decide +kernel, rfl, by decide +kernel, by decide +kernel⟩
theorem ok_l_shape (h : Here K mg "_law_shape" s_l_shape ["_law_cell_here", "_law_wares"]) (B : Blt mg)
    (D_l_next : DefOk P w K mg base 1 "_law_next" ["_law_cell_here"] (sp_l_next K)) :
    DefOk P w K mg base 2 "_law_shape" ["_law_cell_here", "_law_wares"] (sp_l_shape K) :=
  mkDef h sc_l_shape (fun _ => rfl) (fun f cdv A outer s H E hr => (pss_cons (ps_set (i := 2) (sc_l_shape).nd rfl (Or.inl rfl) (pe_lst pa_nil))
    (pss_cons (ps_for PassesOwn.never rfl (pi_range1 (by rfl) B.b_range (pa_cons (pv 1) pa_nil)) (pg_name (i := 3) (sc_l_shape).nd rfl (Or.inl rfl)) (pss_cons (ps_set (i := 0) (sc_l_shape).nd rfl (Or.inl rfl) (pe_callD D_l_next (hr.mono (by decide)) (by rfl) (pa_cons (pv 0) pa_nil)))
    (pss_one (ps_expr (pe_bm PySem.F.plainAttrs_list PySem.F.slot_list_append PySem.F.type_list_append mt_append (pv 2) (pa_cons (pe_op op_modI (pe_op op_floor (pv 0) (pe_op op_powI pe_int pe_int)) pe_int) pa_nil))))))
    (pss_cons (ps_if (pt_cmpR (op_eqD hr.units) (pe_callB (call_sumA rfl) (by rfl) B.b_sum (by decide +kernel) (pa_cons (pv 2) pa_nil)) pe_int (nomark _)) (pss_one (ps_asg pe_int (pg_sub (pv 2) pe_int (set_any (hu_of hr))))) pss_nil)
    (pss_one (ps_ret (pv 2))))))) ds_l_shape
theorem bd_l_shape (kV doc pm : Value) (an : Option Addr) (cdv ct : Value) (us : List Value) (hl : us.length = 2) : bindArgs (PySem.W.fnOf "_law_shape" "_law_shape" (defArgs s_l_shape) (defBody s_l_shape) (defScope s_l_shape) .none kV doc pm an cdv ct) ⟨us, []⟩ = pure ((["_law_cell_here", "_law_wares"] : List Str).zip us) :=
  match us, hl with | [_, _], _ => rfl
theorem sc_l_best : FnScope N_l_best ["_law_prices", "_law_shape_here", "_law_j"] (defScope s_l_best) := ⟨rfl, rfl, rfl, by decide +kernel, rfl, by decide +kernel, by decide +kernel⟩
theorem ok_l_best (h : Here K mg "_law_best" s_l_best ["_law_prices", "_law_shape_here", "_law_j"]) (B : Blt mg) :
    DefOk P w K mg base 1 "_law_best" ["_law_prices", "_law_shape_here", "_law_j"] (sp_l_best K) :=
  mkDef h sc_l_best (fun _ => rfl) (fun f cdv A outer s H E hr => (pss_cons (ps_for PassesOwn.never rfl (pi_range1 (by rfl) B.b_range (pa_cons (pe_callB call_lenA (by rfl) B.b_len (by decide +kernel) (pa_cons (pv 0) pa_nil)) pa_nil)) (pg_name (i := 3) (sc_l_best).nd rfl (Or.inl rfl)) (pss_one (ps_if (pt_cmpR op_gtI (pe_op op_times (pe_op op_plusQ pe_int (pe_ix (ix_sub (hu_of hr)) (pv 1) (pv 3) (fun _ _ => rfl))) (pe_ix (ix_sub (hu_of hr)) (pv 0) (pv 2) (fun _ _ => rfl))) (pe_op op_times (pe_op op_plusQ pe_int (pe_ix (ix_sub (hu_of hr)) (pv 1) (pv 2) (fun _ _ => rfl))) (pe_ix (ix_sub (hu_of hr)) (pv 0) (pv 3) (fun _ _ => rfl))) (nomark _)) (pss_one (ps_ret pe_int)) pss_nil)))
    (pss_one (ps_ret pe_int)))) ds_l_best
theorem bd_l_best (kV doc pm : Value) (an : Option Addr) (cdv ct : Value) (us : List Value) (hl : us.length = 3) : bindArgs (PySem.W.fnOf "_law_best" "_law_best" (defArgs s_l_best) (defBody s_l_best) (defScope s_l_best) .none kV doc pm an cdv ct) ⟨us, []⟩ = pure ((["_law_prices", "_law_shape_here", "_law_j"] : List Str).zip us) :=
  match us, hl with | [_, _, _], _ => rfl
theorem sc_l_bought : FnScope N_l_bought ["_law_way", "_law_prices", "_law_amounts", "_law_shape_here", "_law_times"] (defScope s_l_bought) := ⟨rfl, rfl, rfl, by decide +kernel, rfl, by decide +kernel, by decide +kernel⟩
theorem ok_l_bought (h : Here K mg "_law_bought" s_l_bought ["_law_way", "_law_prices", "_law_amounts", "_law_shape_here", "_law_times"]) (B : Blt mg)
    (D_l_best : DefOk P w K mg base 1 "_law_best" ["_law_prices", "_law_shape_here", "_law_j"] (sp_l_best K)) :
    DefOk P w K mg base 2 "_law_bought" ["_law_way", "_law_prices", "_law_amounts", "_law_shape_here", "_law_times"] (sp_l_bought K) :=
  mkDefR h sc_l_bought len_l_bought (fun f cdv A outer s H E hr => (pss_cons (ps_if (pt_cmpR (op_eqD hr.units) (pv 0) pe_int (nomark _)) (pss_one (ps_ret (pe_lc (own := [("_law_k", 5)]) rfl (sc_l_bought).nd (pi_range1 (by rfl) B.b_range (pa_cons (pe_callB call_lenA (by rfl) B.b_len (by decide +kernel) (pa_cons (pv 1) pa_nil)) pa_nil)) (blkOk_by (own := [("_law_k", 5)]) (N := N_l_bought) (sc := defScope s_l_bought) (by decide +kernel)) (fun _ _ _ _ _ => (pg_name (i := 5) (sc_l_bought).nd rfl (Or.inl rfl))) (fun _ _ _ _ _ => pts_nil) (fun _ _ _ _ _ => (pe_op op_times (pv 4) (pe_ix (ix_sub (hu_of hr)) (pv 3) (pv 5) (fun _ _ => rfl))))))) pss_nil)
    (pss_cons (ps_if (pt_cmpR (op_eqD hr.units) (pv 0) pe_int (nomark _)) (pss_one (ps_ret (pe_lc (own := [("_law_k", 5)]) rfl (sc_l_bought).nd (pi_range1 (by rfl) B.b_range (pa_cons (pe_callB call_lenA (by rfl) B.b_len (by decide +kernel) (pa_cons (pv 1) pa_nil)) pa_nil)) (blkOk_by (own := [("_law_k", 5)]) (N := N_l_bought) (sc := defScope s_l_bought) (by decide +kernel)) (fun _ _ _ _ _ => (pg_name (i := 5) (sc_l_bought).nd rfl (Or.inl rfl))) (fun _ _ _ _ _ => pts_nil) (fun _ _ _ _ _ => (pe_op op_floor (pe_op op_times (pe_op op_times (pv 4) (pe_ix (ix_sub (hu_of hr)) (pv 3) (pv 5) (fun _ _ => rfl))) pe_int) (pe_ix (ix_sub (hu_of hr)) (pv 1) (pv 5) (fun _ _ => rfl))))))) pss_nil)
    (pss_cons (ps_if (pt_cmpR (op_eqD hr.units) (pv 0) pe_int (nomark _)) (pss_one (ps_ret (pe_lc (own := [("_law_k", 5)]) rfl (sc_l_bought).nd (pi_range1 (by rfl) B.b_range (pa_cons (pe_callB call_lenA (by rfl) B.b_len (by decide +kernel) (pa_cons (pv 1) pa_nil)) pa_nil)) (blkOk_by (own := [("_law_k", 5)]) (N := N_l_bought) (sc := defScope s_l_bought) (by decide +kernel)) (fun _ _ _ _ _ => (pg_name (i := 5) (sc_l_bought).nd rfl (Or.inl rfl))) (fun _ _ _ _ _ => pts_nil) (fun _ _ _ _ _ => (pe_op op_times (pe_op op_plusQ pe_int (pe_ix (ix_sub (hu_of hr)) (pv 2) (pv 5) (fun _ _ => rfl))) (pe_callD D_l_best (hr.mono (by decide)) (by rfl) (pa_cons (pv 1) (pa_cons (pv 3) (pa_cons (pv 5) pa_nil))))))))) pss_nil)
    (pss_cons (ps_if (pt_cmpR (op_eqD hr.units) (pv 0) pe_int (nomark _)) (pss_one (ps_ret (pe_lc (own := [("_law_k", 5)]) rfl (sc_l_bought).nd (pi_range1 (by rfl) B.b_range (pa_cons (pe_callB call_lenA (by rfl) B.b_len (by decide +kernel) (pa_cons (pv 1) pa_nil)) pa_nil)) (blkOk_by (own := [("_law_k", 5)]) (N := N_l_bought) (sc := defScope s_l_bought) (by decide +kernel)) (fun _ _ _ _ _ => (pg_name (i := 5) (sc_l_bought).nd rfl (Or.inl rfl))) (fun _ _ _ _ _ => pts_nil) (fun _ _ _ _ _ => (pe_op op_times (pe_op op_plusQ pe_int (pe_ix (ix_sub (hu_of hr)) (pv 2) (pv 5) (fun _ _ => rfl))) (pe_callTy call_intA (by rfl) B.b_int (by decide +kernel) (pa_cons (pe_cmpR (op_eqD hr.units) (pe_ix (ix_sub (hu_of hr)) (pv 1) (pv 5) (fun _ _ => rfl)) (pe_callB (call_minA rfl) (by rfl) B.b_min (by decide +kernel) (pa_cons (pv 1) pa_nil)) (nomark _)) pa_nil))))))) pss_nil)
    (pss_cons (ps_if (pt_cmpR (op_eqD hr.units) (pv 0) pe_int (nomark _)) (pss_one (ps_ret (pe_lc (own := [("_law_price_here", 6)]) rfl (sc_l_bought).nd (pi_seq (pv 1)) (blkOk_by (own := [("_law_price_here", 6)]) (N := N_l_bought) (sc := defScope s_l_bought) (by decide +kernel)) (fun _ _ _ _ _ => (pg_name (i := 6) (sc_l_bought).nd rfl (Or.inl rfl))) (fun _ _ _ _ _ => pts_nil) (fun _ _ _ _ _ => (pe_op op_subI pe_int (pv 6)))))) pss_nil)
    (pss_one (ps_ret (pv 2))))))))) raw_l_bought
theorem bd_l_bought (kV doc pm : Value) (an : Option Addr) (cdv ct : Value) (us : List Value) (hl : us.length = 5) : bindArgs (PySem.W.fnOf "_law_bought" "_law_bought" (defArgs s_l_bought) (defBody s_l_bought) (defScope s_l_bought) .none kV doc pm an cdv ct) ⟨us, []⟩ = pure ((["_law_way", "_law_prices", "_law_amounts", "_law_shape_here", "_law_times"] : List Str).zip us) :=
  match us, hl with | [_, _, _, _, _], _ => rfl
theorem sc_l_price : FnScope N_l_price ["_law_way", "_law_high"] (defScope s_l_price) := ⟨rfl, rfl, rfl, by decide +kernel, rfl, by decide +kernel, by decide +kernel⟩
theorem ok_l_price (h : Here K mg "_law_price" s_l_price ["_law_way", "_law_high"]) :
    DefOk P w K mg base 1 "_law_price" ["_law_way", "_law_high"] (sp_l_price K) :=
  mkDef h sc_l_price (fun _ => rfl) (fun f cdv A outer s H E hr => (pss_cons (ps_if (pt_cmpR (op_eqD hr.units) (pv 0) pe_int (nomark _)) (pss_one (ps_ret (pe_op op_plusQ pe_int (pe_op op_modI (pv 1) pe_int)))) pss_nil)
    (pss_cons (ps_if (pt_cmpR (op_eqD hr.units) (pv 0) pe_int (nomark _)) (pss_one (ps_ret (pe_op op_plusQ pe_int (pe_op op_modI (pv 1) pe_int)))) pss_nil)
    (pss_cons (ps_if (pt_cmpR (op_eqD hr.units) (pv 0) pe_int (nomark _)) (pss_one (ps_ret (pe_op op_plusQ pe_int (pe_op op_modI (pv 1) (pe_op op_powI pe_int pe_int))))) pss_nil)
    (pss_cons (ps_if (pt_cmpR (op_eqD hr.units) (pv 0) pe_int (nomark _)) (pss_one (ps_ret (pe_ix (ix_sub (hu_of hr)) (pe_lst (pa_cons pe_int (pa_cons pe_int (pa_cons pe_int (pa_cons pe_int (pa_cons pe_int (pa_cons pe_int pa_nil))))))) (pe_op op_modI (pv 1) pe_int) (fun _ _ => rfl)))) pss_nil)
    (pss_one (ps_ret (pe_op op_plusQ pe_int (pe_op op_modI (pv 1) pe_int))))))))) ds_l_price
theorem bd_l_price (kV doc pm : Value) (an : Option Addr) (cdv ct : Value) (us : List Value) (hl : us.length = 2) : bindArgs (PySem.W.fnOf "_law_price" "_law_price" (defArgs s_l_price) (defBody s_l_price) (defScope s_l_price) .none kV doc pm an cdv ct) ⟨us, []⟩ = pure ((["_law_way", "_law_high"] : List Str).zip us) :=
  match us, hl with | [_, _], _ => rfl
theorem sc_l_day : FnScope N_l_day ["_law_cell_here", "_law_way", "_law_shape_here"] (defScope s_l_day) := ⟨rfl, rfl, rfl, by decide +kernel, rfl, by decide +kernel, by decide +kernel⟩
theorem ok_l_day (h : Here K mg "_law_day" s_l_day ["_law_cell_here", "_law_way", "_law_shape_here"]) (B : Blt mg)
    (D_l_next : DefOk P w K mg base 1 "_law_next" ["_law_cell_here"] (sp_l_next K))
    (D_l_price : DefOk P w K mg base 1 "_law_price" ["_law_way", "_law_high"] (sp_l_price K))
    (D_l_bought : DefOk P w K mg base 2 "_law_bought" ["_law_way", "_law_prices", "_law_amounts", "_law_shape_here", "_law_times"] (sp_l_bought K)) :
    DefOk P w K mg base 3 "_law_day" ["_law_cell_here", "_law_way", "_law_shape_here"] (sp_l_day K) :=
  mkDef h sc_l_day (fun _ => rfl) (fun f cdv A outer s H E hr => (pss_cons (ps_set (i := 3) (sc_l_day).nd rfl (Or.inl rfl) (pe_lst pa_nil))
    (pss_cons (ps_set (i := 4) (sc_l_day).nd rfl (Or.inl rfl) (pe_lst pa_nil))
    (pss_cons (ps_for PassesOwn.never rfl (pi_range1 (by rfl) B.b_range (pa_cons (pe_callB call_lenA (by rfl) B.b_len (by decide +kernel) (pa_cons (pv 2) pa_nil)) pa_nil)) (pg_name (i := 5) (sc_l_day).nd rfl (Or.inl rfl)) (pss_cons (ps_set (i := 0) (sc_l_day).nd rfl (Or.inr rfl) (pe_callD D_l_next (hr.mono (by decide)) (by rfl) (pa_cons (pv 0) pa_nil)))
    (pss_cons (ps_set (i := 6) (sc_l_day).nd rfl (Or.inl rfl) (pe_op op_floor (pv 0) (pe_op op_powI pe_int pe_int)))
    (pss_cons (ps_expr (pe_bm PySem.F.plainAttrs_list PySem.F.slot_list_append PySem.F.type_list_append mt_append (pv 3) (pa_cons (pe_callD D_l_price (hr.mono (by decide)) (by rfl) (pa_cons (pv 1) (pa_cons (pv 6) pa_nil))) pa_nil)))
    (pss_one (ps_expr (pe_bm PySem.F.plainAttrs_list PySem.F.slot_list_append PySem.F.type_list_append mt_append (pv 4) (pa_cons (pe_ix (ix_sub (hu_of hr)) (pe_lst (pa_cons (pe_op op_modI (pe_op op_floor (pv 6) pe_int) pe_int) (pa_cons (pe_op op_modI (pe_op op_floor (pv 6) (pe_op op_powI pe_int pe_int)) (pe_op op_powI pe_int pe_int)) pa_nil))) (pe_callTy call_intA (by rfl) B.b_int (by decide +kernel) (pa_cons (pe_cmpR (op_eqD hr.units) (pv 1) pe_int (nomark _)) pa_nil)) (fun _ _ => rfl)) pa_nil))))))))
    (pss_cons (ps_if (pt_cmpR (op_eqD hr.units) (pv 1) pe_int (nomark _)) (pss_cons (ps_set (i := 7) (sc_l_day).nd rfl (Or.inr rfl) (pe_op op_modI (pe_op op_floor (pv 0) (pe_op op_powI pe_int pe_int)) (pe_callB call_lenA (by rfl) B.b_len (by decide +kernel) (pa_cons (pv 3) pa_nil))))
    (pss_cons (ps_setLc (i := 3) (own := [("_law_k", 5)]) rfl (sc_l_day).nd rfl rfl (sw_true rfl rfl rfl (by decide +kernel)) (pi_range1 (by rfl) B.b_range (pa_cons (pe_callB call_lenA (by rfl) B.b_len (by decide +kernel) (pa_cons (pv 2) pa_nil)) pa_nil)) (blkOk_by (own := [("_law_k", 5)]) (N := N_l_day) (sc := defScope s_l_day) (by decide +kernel)) (fun _ _ _ _ _ => (pg_name (i := 5) (sc_l_day).nd rfl (Or.inl rfl))) (fun _ _ _ _ _ => pts_nil) (fun _ _ _ _ _ => (pe_ix (ix_sub (hu_of hr)) (pe_lst (pa_cons pe_int (pa_cons (pe_op op_plusQ pe_int (pe_op op_modI (pv 0) pe_int)) pa_nil))) (pe_callTy call_intA (by rfl) B.b_int (by decide +kernel) (pa_cons (pe_cmpR (op_eqD hr.units) (pv 5) (pe_op op_modI (pe_op op_plusQ (pv 7) pe_int) (pe_callB call_lenA (by rfl) B.b_len (by decide +kernel) (pa_cons (pv 2) pa_nil))) (nomark _)) pa_nil)) (fun _ _ => rfl))))
    (pss_cons (ps_asg pe_int (pg_sub (pv 3) (pv 7) (set_any (hu_of hr))))
    (pss_one (ps_setLc (i := 4) (own := [("_law_k", 5)]) rfl (sc_l_day).nd rfl rfl (sw_true rfl rfl rfl (by decide +kernel)) (pi_range1 (by rfl) B.b_range (pa_cons (pe_callB call_lenA (by rfl) B.b_len (by decide +kernel) (pa_cons (pv 2) pa_nil)) pa_nil)) (blkOk_by (own := [("_law_k", 5)]) (N := N_l_day) (sc := defScope s_l_day) (by decide +kernel)) (fun _ _ _ _ _ => (pg_name (i := 5) (sc_l_day).nd rfl (Or.inl rfl))) (fun _ _ _ _ _ => pts_nil) (fun _ _ _ _ _ => (pe_callTy call_intA (by rfl) B.b_int (by decide +kernel) (pa_cons (pe_cmpR (op_eqD hr.units) (pv 5) (pv 7) (nomark _)) pa_nil)))))))) pss_nil)
    (pss_cons (ps_set (i := 4) (sc_l_day).nd rfl (Or.inl rfl) (pe_callD D_l_bought (hr.mono (by decide)) (by rfl) (pa_cons (pv 1) (pa_cons (pv 3) (pa_cons (pv 4) (pa_cons (pv 2) (pa_cons (pe_op op_plusQ pe_int (pe_op op_modI (pe_op op_floor (pv 0) (pe_op op_powI pe_int pe_int)) pe_int)) pa_nil)))))))
    (pss_cons (ps_if (pt_cmpR (op_eqD hr.units) (pe_callB (call_sumA rfl) (by rfl) B.b_sum (by decide +kernel) (pa_cons (pv 4) pa_nil)) pe_int (nomark _)) (pss_one (ps_asg pe_int (pg_sub (pv 4) pe_int (set_any (hu_of hr))))) pss_nil)
    (pss_one (ps_ret (pe_tup (pa_cons (pe_callTy call_tupM (by rfl) B.b_tuple (by decide +kernel) (pa_cons (pv 3) pa_nil)) (pa_cons (pe_callTy call_tupA (by rfl) B.b_tuple (by decide +kernel) (pa_cons (pv 4) pa_nil)) pa_nil)))))))))))) ds_l_day
theorem bd_l_day (kV doc pm : Value) (an : Option Addr) (cdv ct : Value) (us : List Value) (hl : us.length = 3) : bindArgs (PySem.W.fnOf "_law_day" "_law_day" (defArgs s_l_day) (defBody s_l_day) (defScope s_l_day) .none kV doc pm an cdv ct) ⟨us, []⟩ = pure ((["_law_cell_here", "_law_way", "_law_shape_here"] : List Str).zip us) :=
  match us, hl with | [_, _, _], _ => rfl
theorem sc_l_book : FnScope N_l_book ["_law_script", "_law_start", "_law_most", "_law_wares"] (defScope s_l_book) := ⟨rfl, rfl, rfl, by decide +kernel, rfl, by decide +kernel, by decide +kernel⟩
theorem ok_l_book (h : Here K mg "_law_book" s_l_book ["_law_script", "_law_start", "_law_most", "_law_wares"]) (B : Blt mg)
    (D_l_cell : DefOk P w K mg base 1 "_law_cell" ["_law_script", "_law_k"] (sp_l_cell K))
    (D_l_shape : DefOk P w K mg base 2 "_law_shape" ["_law_cell_here", "_law_wares"] (sp_l_shape K))
    (D_l_day : DefOk P w K mg base 3 "_law_day" ["_law_cell_here", "_law_way", "_law_shape_here"] (sp_l_day K)) :
    DefOk P w K mg base 4 "_law_book" ["_law_script", "_law_start", "_law_most", "_law_wares"] (sp_l_book K) :=
  mkDef h sc_l_book (fun _ => rfl) (fun f cdv A outer s H E hr => (pss_cons (ps_set (i := 4) (sc_l_book).nd rfl (Or.inl rfl) (pe_callD D_l_cell (hr.mono (by decide)) (by rfl) (pa_cons (pv 0) (pa_cons (pv 1) pa_nil))))
    (pss_cons (ps_set (i := 5) (sc_l_book).nd rfl (Or.inr rfl) (pe_ix (ix_sub (hu_of hr)) (pe_lst (pa_cons pe_int (pa_cons pe_int (pa_cons pe_int (pa_cons pe_int (pa_cons pe_int (pa_cons pe_int (pa_cons pe_int (pa_cons pe_int (pa_cons pe_int (pa_cons pe_int pa_nil))))))))))) (pe_op op_modI (pe_op op_floor (pv 4) pe_int) pe_int) (fun _ _ => rfl)))
    (pss_cons (ps_set (i := 6) (sc_l_book).nd rfl (Or.inr rfl) (pe_callD D_l_shape (hr.mono (by decide)) (by rfl) (pa_cons (pv 4) (pa_cons (pe_op op_plusQ pe_int (pe_op op_modI (pv 4) (pv 3))) pa_nil))))
    (pss_cons (ps_setLc (i := 7) (own := [("_law_k", 8)]) rfl (sc_l_book).nd rfl rfl (sw_true rfl rfl rfl (by decide +kernel)) (pi_range1 (by rfl) B.b_range (pa_cons (pe_op op_plusQ pe_int (pe_op op_modI (pe_op op_floor (pv 4) pe_int) (pv 2))) pa_nil)) (blkOk_by (own := [("_law_k", 8)]) (N := N_l_book) (sc := defScope s_l_book) (by decide +kernel)) (fun _ _ _ _ _ => (pg_name (i := 8) (sc_l_book).nd rfl (Or.inl rfl))) (fun _ _ _ _ _ => pts_nil) (fun _ _ _ _ _ => (pe_callD D_l_day (hr.mono (by decide)) (by rfl) (pa_cons (pe_callD D_l_cell (hr.mono (by decide)) (by rfl) (pa_cons (pv 0) (pa_cons (pe_op op_plusQ (pe_op op_plusQ (pv 1) pe_int) (pv 8)) pa_nil))) (pa_cons (pv 5) (pa_cons (pv 6) pa_nil))))))
    (pss_cons (ps_if (pt_cmpR (op_eqD hr.units) (pe_op op_modI (pe_op op_floor (pv 4) pe_int) pe_int) pe_int (nomark _)) (pss_cons (ps_set (i := 8) (sc_l_book).nd rfl (Or.inl rfl) (pe_op op_modI (pe_op op_floor (pv 4) pe_int) (pe_callB call_lenA (by rfl) B.b_len (by decide +kernel) (pa_cons (pv 7) pa_nil))))
    (pss_cons (ps_set (i := 9) (sc_l_book).nd rfl (Or.inl rfl) (pe_op op_modI (pe_op op_floor (pv 4) pe_int) (pe_callB call_lenA (by rfl) B.b_len (by decide +kernel) (pa_cons (pv 6) pa_nil))))
    (pss_cons (ps_set (i := 10) (sc_l_book).nd rfl (Or.inl rfl) (pe_op op_plusQ (pe_op op_plusQ (pe_slice sl_any (pe_ix (ix_sub (hu_of hr)) (pe_ix (ix_sub (hu_of hr)) (pv 7) (pv 8) (fun _ _ => rfl)) pe_int (fun _ _ => rfl)) po_none (po_some (pv 9))) (pe_tup (pa_cons (pe_op op_plusQ (pe_ix (ix_sub (hu_of hr)) (pe_ix (ix_sub (hu_of hr)) (pe_ix (ix_sub (hu_of hr)) (pv 7) (pv 8) (fun _ _ => rfl)) pe_int (fun _ _ => rfl)) (pv 9) (fun _ _ => rfl)) pe_int) pa_nil))) (pe_slice sl_any (pe_ix (ix_sub (hu_of hr)) (pe_ix (ix_sub (hu_of hr)) (pv 7) (pv 8) (fun _ _ => rfl)) pe_int (fun _ _ => rfl)) (po_some (pe_op op_plusQ (pv 9) pe_int)) po_none)))
    (pss_one (ps_asg (pe_tup (pa_cons (pe_ix (ix_sub (hu_of hr)) (pe_ix (ix_sub (hu_of hr)) (pv 7) (pv 8) (fun _ _ => rfl)) pe_int (fun _ _ => rfl)) (pa_cons (pv 10) pa_nil))) (pg_sub (pv 7) (pv 8) (set_any (hu_of hr)))))))) pss_nil)
    (pss_one (ps_ret (pe_callTy call_tupA (by rfl) B.b_tuple (by decide +kernel) (pa_cons (pv 7) pa_nil)))))))))) ds_l_book
theorem bd_l_book (kV doc pm : Value) (an : Option Addr) (cdv ct : Value) (us : List Value) (hl : us.length = 4) : bindArgs (PySem.W.fnOf "_law_book" "_law_book" (defArgs s_l_book) (defBody s_l_book) (defScope s_l_book) .none kV doc pm an cdv ct) ⟨us, []⟩ = pure ((["_law_script", "_law_start", "_law_most", "_law_wares"] : List Str).zip us) :=
  match us, hl with | [_, _, _, _], _ => rfl
theorem sc_l_is_total : FnScope N_l_is_total ["_law_book_here"] (defScope s_l_is_total) := ⟨rfl, rfl, rfl, by decide +kernel, rfl, by decide +kernel, by decide +kernel⟩
theorem ok_l_is_total (h : Here K mg "_law_is_total" s_l_is_total ["_law_book_here"]) (B : Blt mg) :
    DefOk P w K mg base 1 "_law_is_total" ["_law_book_here"] (sp_l_is_total K) :=
  mkDefR h sc_l_is_total len_l_is_total (fun f cdv A outer s H E hr => (pss_cons (ps_for PassesOwn.never rfl (pi_seq (pv 0)) (pg_tup (by rfl) (pgs_cons (pg_name (i := 1) (sc_l_is_total).nd rfl (Or.inl rfl)) (pgs_cons (pg_name (i := 2) (sc_l_is_total).nd rfl (Or.inl rfl)) pgs_nil))) (pss_one (ps_for PassesOwn.never rfl (RZ.pi_zipA (by rfl) B.b_zip (pa_cons (pv 1) (pa_cons (pv 2) pa_nil))) (pg_tup (by rfl) (pgs_cons (pg_name (i := 3) (sc_l_is_total).nd rfl (Or.inl rfl)) (pgs_cons (pg_name (i := 4) (sc_l_is_total).nd rfl (Or.inl rfl)) pgs_nil))) (pss_one (ps_if (PW.pt (pw_and (pt_cmpR op_gtI (pv 4) pe_int (nomark _)) (pw_and1 (pt_cmpR op_gtI (pv 3) (pe_callB (call_minA rfl) (by rfl) B.b_min (by decide +kernel) (pa_cons (pv 1) pa_nil)) (nomark _))))) (pss_one (ps_ret pe_bl)) pss_nil)))))
    (pss_one (ps_ret pe_bl)))) raw_l_is_total
theorem bd_l_is_total (kV doc pm : Value) (an : Option Addr) (cdv ct : Value) (us : List Value) (hl : us.length = 1) : bindArgs (PySem.W.fnOf "_law_is_total" "_law_is_total" (defArgs s_l_is_total) (defBody s_l_is_total) (defScope s_l_is_total) .none kV doc pm an cdv ct) ⟨us, []⟩ = pure ((["_law_book_here"] : List Str).zip us) :=
  match us, hl with | [_], _ => rfl
theorem sc_l_speaks : FnScope N_l_speaks ["_law_book_here", "_law_three"] (defScope s_l_speaks) := ⟨rfl, rfl, rfl, by decide +kernel, rfl, by decide +kernel, by decide +kernel⟩
theorem ok_l_speaks (h : Here K mg "_law_speaks" s_l_speaks ["_law_book_here", "_law_three"]) (B : Blt mg)
    (D_l_int : DefOk P w K mg base 1 "_law_int" ["_law_found"] (sp_l_int K)) :
    DefOk P w K mg base 2 "_law_speaks" ["_law_book_here", "_law_three"] (sp_l_speaks K) :=
  mkDefR h sc_l_speaks len_l_speaks (fun f cdv A outer s H E hr => (pss_cons (ps_if (PW.pt (pw_or (pt_not (pt_val (pe_callB call_isiA (by rfl) B.b_isinstance (by decide +kernel) (pa_cons (pv 1) (pa_cons (pe_ty "tuple" (by rfl) B.b_tuple (by decide +kernel)) pa_nil))))) (pw_or (pt_cmpR (op_neD hr.units) (pe_callB call_lenA (by rfl) B.b_len (by decide +kernel) (pa_cons (pv 1) pa_nil)) pe_int (nomark _)) (pw_or1 (pt_cmpR (op_neD hr.units) (pe_callB call_lenA (by rfl) B.b_len (by decide +kernel) (pa_cons (pe_lc (own := [("_law_one", 2)]) rfl (sc_l_speaks).nd (pi_seq (pv 1)) (blkOk_by (own := [("_law_one", 2)]) (N := N_l_speaks) (sc := defScope s_l_speaks) (by decide +kernel)) (fun _ _ _ _ _ => (pg_name (i := 2) (sc_l_speaks).nd rfl (Or.inl rfl))) (fun _ _ _ _ _ => (pts_one (pt_val (pe_callD D_l_int (hr.mono (by decide)) (by rfl) (pa_cons (pv 2) pa_nil))))) (fun _ _ _ _ _ => pv 2)) pa_nil)) pe_int (nomark _)))))) (pss_one (ps_ret pe_bl)) pss_nil)
    (pss_cons (ps_asg (pv 1) (pg_tup (by rfl) (pgs_cons (pg_name (i := 3) (sc_l_speaks).nd rfl (Or.inl rfl)) (pgs_cons (pg_name (i := 4) (sc_l_speaks).nd rfl (Or.inl rfl)) (pgs_cons (pg_name (i := 5) (sc_l_speaks).nd rfl (Or.inl rfl)) pgs_nil)))))
    (pss_cons (ps_if (PW.pt (pw_or (pt_not (pt_chain op_leI op_ltI pe_int (pv 3) (pe_callB call_lenA (by rfl) B.b_len (by decide +kernel) (pa_cons (pv 0) pa_nil)))) (pw_or (pt_not (pt_chain op_leI op_ltI pe_int (pv 4) (pe_callB call_lenA (by rfl) B.b_len (by decide +kernel) (pa_cons (pe_ix (ix_sub (hu_of hr)) (pe_ix (ix_sub (hu_of hr)) (pv 0) pe_int (fun _ _ => rfl)) pe_int (fun _ _ => rfl)) pa_nil)))) (pw_or1 (pt_not (pt_chain op_leI op_ltI pe_int (pv 5) (pe_callB call_lenA (by rfl) B.b_len (by decide +kernel) (pa_cons (pe_ix (ix_sub (hu_of hr)) (pe_ix (ix_sub (hu_of hr)) (pv 0) pe_int (fun _ _ => rfl)) pe_int (fun _ _ => rfl)) pa_nil)))))))) (pss_one (ps_ret pe_bl)) pss_nil)
    (pss_one (ps_ret (pe_and (pe_cmpR op_gtI (pe_ix (ix_sub (hu_of hr)) (pe_ix (ix_sub (hu_of hr)) (pe_ix (ix_sub (hu_of hr)) (pv 0) (pv 3) (fun _ _ => rfl)) pe_int (fun _ _ => rfl)) (pv 4) (fun _ _ => rfl)) pe_int (nomark _)) (pe_one (pe_cmpR op_ltI (pe_ix (ix_sub (hu_of hr)) (pe_ix (ix_sub (hu_of hr)) (pe_ix (ix_sub (hu_of hr)) (pv 0) (pv 3) (fun _ _ => rfl)) pe_int (fun _ _ => rfl)) (pv 5) (fun _ _ => rfl)) (pe_ix (ix_sub (hu_of hr)) (pe_ix (ix_sub (hu_of hr)) (pe_ix (ix_sub (hu_of hr)) (pv 0) (pv 3) (fun _ _ => rfl)) pe_int (fun _ _ => rfl)) (pv 4) (fun _ _ => rfl)) (nomark _)))))))))) raw_l_speaks
theorem bd_l_speaks (kV doc pm : Value) (an : Option Addr) (cdv ct : Value) (us : List Value) (hl : us.length = 2) : bindArgs (PySem.W.fnOf "_law_speaks" "_law_speaks" (defArgs s_l_speaks) (defBody s_l_speaks) (defScope s_l_speaks) .none kV doc pm an cdv ct) ⟨us, []⟩ = pure ((["_law_book_here", "_law_three"] : List Str).zip us) :=
  match us, hl with | [_, _], _ => rfl
theorem sc_law : FnScope N_law ["_law_script"] (defScope s_law) := ⟨rfl, rfl, rfl, by decide +kernel, rfl, by decide +kernel, by decide +kernel⟩
theorem fn_law {f : Addr} {fd : FuncData} (F : Fun K "law" "law" s_law f fd) (B : Blt mg) (G_Kind : mg "Kind" = some (.ref (clsA K "Kind"))) (G_Sums : mg "Sums" = some (.ref (clsA K "Sums"))) (KC : KCls K clsTab "days" insTab)
    (M_Total_answer : MetOk P w K mg base 1 "Total" "answer" ["self"] (sp_c_Total_answer K))
    (M_Total_explains : MetOk P w K mg base 2 "Total" "explains" ["self"] (sp_c_Kind_explains K))
    (N_Total : MakOk P w K mg base "Total" "days" ["self", "book"])
    (D_l_book : DefOk P w K mg base 4 "_law_book" ["_law_script", "_law_start", "_law_most", "_law_wares"] (sp_l_book K))
    (D_l_is_total : DefOk P w K mg base 1 "_law_is_total" ["_law_book_here"] (sp_l_is_total K))
    (D_l_speaks : DefOk P w K mg base 2 "_law_speaks" ["_law_book_here", "_law_three"] (sp_l_speaks K)) :
    FnOk P w K mg base CX0 5 f fd ["_law_script"] (sp_law K) :=
  mkFn F sc_law (fun _ => rfl) (fun f cdv A outer s H E hr => (pss_cons (ps_set (i := 1) (sc_law).nd rfl (Or.inl rfl) (pe_callD D_l_book (hr.mono (by decide)) (by rfl) (pa_cons (pv 0) (pa_cons pe_int (pa_cons pe_int (pa_cons pe_int pa_nil))))))
    (pss_cons (ps_set (i := 2) (sc_law).nd rfl (Or.inl rfl) (pe_mak N_Total (hr.mono (by decide)) (by rfl) (pa_cons (pv 1) pa_nil)))
    (pss_cons (ps_set (i := 3) (sc_law).nd rfl (Or.inl rfl) (pe_metD0 M_Total_answer (hr.mono (by decide)) (pv 2)))
    (pss_cons (ps_if (PW.pt (pw_or (pt_not (pt_val (pe_callB call_isi (by rfl) B.b_isinstance (by decide +kernel) (pa_cons (pv 2) (pa_cons (pe_globC (by rfl) G_Kind) pa_nil))))) (pw_or (pt_val (pe_callB call_isi (by rfl) B.b_isinstance (by decide +kernel) (pa_cons (pv 2) (pa_cons (pe_globC (by rfl) G_Sums) pa_nil)))) (pw_or1 (pt_not (pt_val (pe_callB call_isiA (by rfl) B.b_isinstance (by decide +kernel) (pa_cons (pv 3) (pa_cons (pe_ty "tuple" (by rfl) B.b_tuple (by decide +kernel)) pa_nil))))))))) (pss_one (ps_ret pe_bl)) pss_nil)
    (pss_cons (ps_if (pt_val (pe_callD D_l_is_total (hr.mono (by decide)) (by rfl) (pa_cons (pv 1) pa_nil))) (pss_one (ps_if (PW.pt (pw_or (pt_cmpR (op_neD hr.units) (pv 3) (pe_tup (pa_cons pe_str pa_nil)) (nomark _)) (pw_or1 (pt_cmpR op_isNot (pe_metD0 M_Total_explains (hr.mono (by decide)) (pv 2)) pe_bl (nomark _))))) (pss_one (ps_ret pe_bl)) pss_nil)) (pss_one (ps_if (PW.pt (pw_or (pt_cmpR (op_neD hr.units) (pe_callB call_lenA (by rfl) B.b_len (by decide +kernel) (pa_cons (pv 3) pa_nil)) pe_int (nomark _)) (pw_or (pt_cmpR (op_neD hr.units) (pe_ix (ix_sub (hu_of hr)) (pv 3) pe_int (fun _ _ => rfl)) pe_str (nomark _)) (pw_or (pt_not (pt_val (pe_callD D_l_speaks (hr.mono (by decide)) (by rfl) (pa_cons (pv 1) (pa_cons (pe_ix (ix_sub (hu_of hr)) (pv 3) pe_int (fun _ _ => rfl)) pa_nil))))) (pw_or1 (pt_cmpR op_isNot (pe_metD0 M_Total_explains (hr.mono (by decide)) (pv 2)) pe_bl (nomark _))))))) (pss_one (ps_ret pe_bl)) pss_nil)))
    (pss_cons (ps_expr (pe_metD0 M_Total_answer (hr.mono (by decide)) (pe_mak N_Total (hr.mono (by decide)) (by rfl) (pa_cons (pe_callD D_l_book (hr.mono (by decide)) (by rfl) (pa_cons (pv 0) (pa_cons pe_int (pa_cons pe_int (pa_cons pe_int pa_nil))))) pa_nil))))
    (pss_one (ps_ret (pe_and (pe_cmpR (op_eqD hr.units) (pe_metD0 M_Total_answer (hr.mono (by decide)) (pv 2)) (pv 3) (nomark _)) (pe_one (pe_cmpR (op_eqD hr.units) (pe_metD0 M_Total_answer (hr.mono (by decide)) (pe_mak N_Total (hr.mono (by decide)) (by rfl) (pa_cons (pv 1) pa_nil))) (pv 3) (nomark _))))))))))))) (ds_law KC)
theorem bd_law (kV doc pm : Value) (an : Option Addr) (cdv ct : Value) (us : List Value) (hl : us.length = 1) : bindArgs (PySem.W.fnOf "law" "law" (defArgs s_law) (defBody s_law) (defScope s_law) .none kV doc pm an cdv ct) ⟨us, []⟩ = pure ((["_law_script"] : List Str).zip us) :=
  match us, hl with | [_], _ => rfl
end
theorem here_of {K : PySem.W.Frag} {mg : Str → Option Value} {h : Heap} {x : Str} {st : Stmt} {ps : List Str} {f : Addr} {oc : Value} {od an : Option Addr} {sl : Array (Option Value)} {kV dc pm cd ct : Value} (X : K.In h) (G : h.Ns mainGlobals mg)
    (a : PySem.W.nsIn K mainGlobals x = some (some (.ref f))) (l : K.lookup f = some ⟨oc, od, .func (PySem.W.fnOf x x (defArgs st) (defBody st) (defScope st) .none kV dc pm an cd ct), sl⟩) (c : PySem.W.codeIn K cd x = true) (k : PySem.W.keepIn K (.ref f) = true)
    (hb : ∀ (kV doc pm : Value) (an : Option Addr) (cdv ct : Value) (us : List Value), us.length = ps.length → bindArgs (PySem.W.fnOf x x (defArgs st) (defBody st) (defScope st) .none kV doc pm an cdv ct) ⟨us, []⟩ = pure (ps.zip us)) : Here K mg x st ps :=
  ⟨f, _, fun_mk l c k, PySem.W.mg_of X G a, (fun_mk l c k).binds hb⟩
theorem here_ofD {K : PySem.W.Frag} {mg : Str → Option Value} {h : Heap} {x : Str} {st : Stmt} {ps : List Str} {f T : Addr} {oc oc2 : Value} {od od2 an : Option Addr} {sl sl2 : Array (Option Value)} {n2 : Nat} {kV dc pm cd ct : Value} (X : K.In h) (G : h.Ns mainGlobals mg)
    (a : PySem.W.nsIn K mainGlobals x = some (some (.ref f))) (l : K.lookup f = some ⟨oc, od, .func (PySem.W.fnOf x x (defArgs st) (defBody st) (defScope st) (.ref T) kV dc pm an cd ct), sl⟩) (d : K.lookup T = some ⟨oc2, od2, .seq #[.none] n2, sl2⟩) (c : PySem.W.codeIn K cd x = true) (k : PySem.W.keepIn K (.ref f) = true) (hp : 1 ≤ ps.length)
    (hb0 : ∀ (T : Addr) (kV doc pm : Value) (an : Option Addr) (cdv ct : Value) (us its : List Value), us.length = ps.length - 1 → its.length = 1 → ∃ k, bindArgs (PySem.W.fnOf x x (defArgs st) (defBody st) (defScope st) (.ref T) kV doc pm an cdv ct) ⟨us, []⟩ = seqItems? (.ref T) >>= k ∧ k (some its.toArray) = pure (ps.zip (us ++ List.drop 0 its)))
    (hb1 : ∀ (T : Addr) (kV doc pm : Value) (an : Option Addr) (cdv ct : Value) (us its : List Value), us.length = ps.length → its.length = 1 → ∃ k, bindArgs (PySem.W.fnOf x x (defArgs st) (defBody st) (defScope st) (.ref T) kV doc pm an cdv ct) ⟨us, []⟩ = seqItems? (.ref T) >>= k ∧ k (some its.toArray) = pure (ps.zip (us ++ List.drop 1 its))) : HereD K mg x st ps := by
  have F : FunD K x x (defArgs st) (defBody st) (defScope st) [.non] [] f (PySem.W.fnOf x x (defArgs st) (defBody st) (defScope st) (.ref T) kV dc pm an cd ct) := ⟨⟨oc, od, _, kV, dc, pm, an, cd, ct, sl, rfl, l, c, .inr ⟨by simp, T, _, [.none], n2, rfl, d, rfl, .cons rfl .nil⟩, .inl rfl⟩, k⟩
  obtain ⟨ds, v, b⟩ := F.binds1 (ps := ps) ps.length 1 (by simp) (by simp) fun T kV doc pm an cdv ct us its h1 h2 => hb1 T kV doc pm an cdv ct us its h1 h2
  cases v
  exact ⟨f, _, F, PySem.W.mg_of X G a, b, F.binds1 (ps := ps) (ps.length - 1) 0 (by simp) (by simp; omega) fun T kV doc pm an cdv ct us its h1 h2 => hb0 T kV doc pm an cdv ct us its h1 h2⟩
theorem all_mk {l : PySem.W.OpenLaw} {w : World} {K : PySem.W.Frag} {h : Heap} {mg : Str → Option Value} {fa : Addr} (X : K.In h) (G : h.Ns mainGlobals mg) (hfa : mg "law" = some (.ref fa))
    {c_Kind : Addr} (u_Kind : PySem.W.nsIn K mainGlobals "Kind" = some (some (.ref c_Kind)))
    {c_Sums : Addr} (u_Sums : PySem.W.nsIn K mainGlobals "Sums" = some (some (.ref c_Sums)))
    {c_Total : Addr} (u_Total : PySem.W.nsIn K mainGlobals "Total" = some (some (.ref c_Total)))
    {f0 : Addr} {od0 an0 : Option Addr} {sl0 : Array (Option Value)} {oc0 kV0 dc0 pm0 cd0 ct0 : Value}
    (l0 : K.lookup f0 = some ⟨oc0, od0, .func (PySem.W.fnOf "__init__" "Kind.__init__" (defArgs s_c_Kind_init) (defBody s_c_Kind_init) (defScope s_c_Kind_init) .none kV0 dc0 pm0 an0 cd0 ct0), sl0⟩) (c0 : PySem.W.codeIn K cd0 "Kind.__init__" = true) (k0 : PySem.W.keepIn K (.ref f0) = true) (i0 : PySem.W.isFn K (.ref f0) = true)
    {f1 : Addr} {od1 an1 : Option Addr} {sl1 : Array (Option Value)} {oc1 kV1 dc1 pm1 cd1 ct1 : Value}
    (l1 : K.lookup f1 = some ⟨oc1, od1, .func (PySem.W.fnOf "answer" "Total.answer" (defArgs s_c_Total_answer) (defBody s_c_Total_answer) (defScope s_c_Total_answer) .none kV1 dc1 pm1 an1 cd1 ct1), sl1⟩) (c1 : PySem.W.codeIn K cd1 "Total.answer" = true) (k1 : PySem.W.keepIn K (.ref f1) = true) (i1 : PySem.W.isFn K (.ref f1) = true)
    {f2 : Addr} {od2 an2 : Option Addr} {sl2 : Array (Option Value)} {oc2 kV2 dc2 pm2 cd2 ct2 : Value}
    (l2 : K.lookup f2 = some ⟨oc2, od2, .func (PySem.W.fnOf "explains" "Kind.explains" (defArgs s_c_Kind_explains) (defBody s_c_Kind_explains) (defScope s_c_Kind_explains) .none kV2 dc2 pm2 an2 cd2 ct2), sl2⟩) (c2 : PySem.W.codeIn K cd2 "Kind.explains" = true) (k2 : PySem.W.keepIn K (.ref f2) = true) (i2 : PySem.W.isFn K (.ref f2) = true)
    {f3 : Addr} {od3 an3 : Option Addr} {sl3 : Array (Option Value)} {oc3 kV3 dc3 pm3 cd3 ct3 : Value}
    (a3 : PySem.W.nsIn K mainGlobals "_law_cell" = some (some (.ref f3))) (l3 : K.lookup f3 = some ⟨oc3, od3, .func (PySem.W.fnOf "_law_cell" "_law_cell" (defArgs s_l_cell) (defBody s_l_cell) (defScope s_l_cell) .none kV3 dc3 pm3 an3 cd3 ct3), sl3⟩) (c3 : PySem.W.codeIn K cd3 "_law_cell" = true) (k3 : PySem.W.keepIn K (.ref f3) = true)
    {f4 : Addr} {od4 an4 : Option Addr} {sl4 : Array (Option Value)} {oc4 kV4 dc4 pm4 cd4 ct4 : Value}
    (a4 : PySem.W.nsIn K mainGlobals "_law_int" = some (some (.ref f4))) (l4 : K.lookup f4 = some ⟨oc4, od4, .func (PySem.W.fnOf "_law_int" "_law_int" (defArgs s_l_int) (defBody s_l_int) (defScope s_l_int) .none kV4 dc4 pm4 an4 cd4 ct4), sl4⟩) (c4 : PySem.W.codeIn K cd4 "_law_int" = true) (k4 : PySem.W.keepIn K (.ref f4) = true)
    {f5 : Addr} {od5 an5 : Option Addr} {sl5 : Array (Option Value)} {oc5 kV5 dc5 pm5 cd5 ct5 : Value}
    (a5 : PySem.W.nsIn K mainGlobals "_law_next" = some (some (.ref f5))) (l5 : K.lookup f5 = some ⟨oc5, od5, .func (PySem.W.fnOf "_law_next" "_law_next" (defArgs s_l_next) (defBody s_l_next) (defScope s_l_next) .none kV5 dc5 pm5 an5 cd5 ct5), sl5⟩) (c5 : PySem.W.codeIn K cd5 "_law_next" = true) (k5 : PySem.W.keepIn K (.ref f5) = true)
    {f6 : Addr} {od6 an6 : Option Addr} {sl6 : Array (Option Value)} {oc6 kV6 dc6 pm6 cd6 ct6 : Value}
    (a6 : PySem.W.nsIn K mainGlobals "_law_shape" = some (some (.ref f6))) (l6 : K.lookup f6 = some ⟨oc6, od6, .func (PySem.W.fnOf "_law_shape" "_law_shape" (defArgs s_l_shape) (defBody s_l_shape) (defScope s_l_shape) .none kV6 dc6 pm6 an6 cd6 ct6), sl6⟩) (c6 : PySem.W.codeIn K cd6 "_law_shape" = true) (k6 : PySem.W.keepIn K (.ref f6) = true)
    {f7 : Addr} {od7 an7 : Option Addr} {sl7 : Array (Option Value)} {oc7 kV7 dc7 pm7 cd7 ct7 : Value}
    (a7 : PySem.W.nsIn K mainGlobals "_law_best" = some (some (.ref f7))) (l7 : K.lookup f7 = some ⟨oc7, od7, .func (PySem.W.fnOf "_law_best" "_law_best" (defArgs s_l_best) (defBody s_l_best) (defScope s_l_best) .none kV7 dc7 pm7 an7 cd7 ct7), sl7⟩) (c7 : PySem.W.codeIn K cd7 "_law_best" = true) (k7 : PySem.W.keepIn K (.ref f7) = true)
    {f8 : Addr} {od8 an8 : Option Addr} {sl8 : Array (Option Value)} {oc8 kV8 dc8 pm8 cd8 ct8 : Value}
    (a8 : PySem.W.nsIn K mainGlobals "_law_bought" = some (some (.ref f8))) (l8 : K.lookup f8 = some ⟨oc8, od8, .func (PySem.W.fnOf "_law_bought" "_law_bought" (defArgs s_l_bought) (defBody s_l_bought) (defScope s_l_bought) .none kV8 dc8 pm8 an8 cd8 ct8), sl8⟩) (c8 : PySem.W.codeIn K cd8 "_law_bought" = true) (k8 : PySem.W.keepIn K (.ref f8) = true)
    {f9 : Addr} {od9 an9 : Option Addr} {sl9 : Array (Option Value)} {oc9 kV9 dc9 pm9 cd9 ct9 : Value}
    (a9 : PySem.W.nsIn K mainGlobals "_law_price" = some (some (.ref f9))) (l9 : K.lookup f9 = some ⟨oc9, od9, .func (PySem.W.fnOf "_law_price" "_law_price" (defArgs s_l_price) (defBody s_l_price) (defScope s_l_price) .none kV9 dc9 pm9 an9 cd9 ct9), sl9⟩) (c9 : PySem.W.codeIn K cd9 "_law_price" = true) (k9 : PySem.W.keepIn K (.ref f9) = true)
    {f10 : Addr} {od10 an10 : Option Addr} {sl10 : Array (Option Value)} {oc10 kV10 dc10 pm10 cd10 ct10 : Value}
    (a10 : PySem.W.nsIn K mainGlobals "_law_day" = some (some (.ref f10))) (l10 : K.lookup f10 = some ⟨oc10, od10, .func (PySem.W.fnOf "_law_day" "_law_day" (defArgs s_l_day) (defBody s_l_day) (defScope s_l_day) .none kV10 dc10 pm10 an10 cd10 ct10), sl10⟩) (c10 : PySem.W.codeIn K cd10 "_law_day" = true) (k10 : PySem.W.keepIn K (.ref f10) = true)
    {f11 : Addr} {od11 an11 : Option Addr} {sl11 : Array (Option Value)} {oc11 kV11 dc11 pm11 cd11 ct11 : Value}
    (a11 : PySem.W.nsIn K mainGlobals "_law_book" = some (some (.ref f11))) (l11 : K.lookup f11 = some ⟨oc11, od11, .func (PySem.W.fnOf "_law_book" "_law_book" (defArgs s_l_book) (defBody s_l_book) (defScope s_l_book) .none kV11 dc11 pm11 an11 cd11 ct11), sl11⟩) (c11 : PySem.W.codeIn K cd11 "_law_book" = true) (k11 : PySem.W.keepIn K (.ref f11) = true)
    {f12 : Addr} {od12 an12 : Option Addr} {sl12 : Array (Option Value)} {oc12 kV12 dc12 pm12 cd12 ct12 : Value}
    (a12 : PySem.W.nsIn K mainGlobals "_law_is_total" = some (some (.ref f12))) (l12 : K.lookup f12 = some ⟨oc12, od12, .func (PySem.W.fnOf "_law_is_total" "_law_is_total" (defArgs s_l_is_total) (defBody s_l_is_total) (defScope s_l_is_total) .none kV12 dc12 pm12 an12 cd12 ct12), sl12⟩) (c12 : PySem.W.codeIn K cd12 "_law_is_total" = true) (k12 : PySem.W.keepIn K (.ref f12) = true)
    {f13 : Addr} {od13 an13 : Option Addr} {sl13 : Array (Option Value)} {oc13 kV13 dc13 pm13 cd13 ct13 : Value}
    (a13 : PySem.W.nsIn K mainGlobals "_law_speaks" = some (some (.ref f13))) (l13 : K.lookup f13 = some ⟨oc13, od13, .func (PySem.W.fnOf "_law_speaks" "_law_speaks" (defArgs s_l_speaks) (defBody s_l_speaks) (defScope s_l_speaks) .none kV13 dc13 pm13 an13 cd13 ct13), sl13⟩) (c13 : PySem.W.codeIn K cd13 "_law_speaks" = true) (k13 : PySem.W.keepIn K (.ref f13) = true)
    {f14 : Addr} {od14 an14 : Option Addr} {sl14 : Array (Option Value)} {oc14 kV14 dc14 pm14 cd14 ct14 : Value}
    (a14 : PySem.W.nsIn K mainGlobals "law" = some (some (.ref f14))) (l14 : K.lookup f14 = some ⟨oc14, od14, .func (PySem.W.fnOf "law" "law" (defArgs s_law) (defBody s_law) (defScope s_law) .none kV14 dc14 pm14 an14 cd14 ct14), sl14⟩) (c14 : PySem.W.codeIn K cd14 "law" = true) (k14 : PySem.W.keepIn K (.ref f14) = true)
    (z_bool : PySem.W.nsIn K mainGlobals "bool" = some none)
    (z_enumerate : PySem.W.nsIn K mainGlobals "enumerate" = some none)
    (z_int : PySem.W.nsIn K mainGlobals "int" = some none)
    (z_isinstance : PySem.W.nsIn K mainGlobals "isinstance" = some none)
    (z_len : PySem.W.nsIn K mainGlobals "len" = some none)
    (z_min : PySem.W.nsIn K mainGlobals "min" = some none)
    (z_range : PySem.W.nsIn K mainGlobals "range" = some none)
    (z_sum : PySem.W.nsIn K mainGlobals "sum" = some none)
    (z_tuple : PySem.W.nsIn K mainGlobals "tuple" = some none)
    (z_zip : PySem.W.nsIn K mainGlobals "zip" = some none)
    (pg_Total : PySem.W.plainGet K c_Total Str.empty = true) (hd_Total : PySem.W.hasDictIn K c_Total = true) (po_Total : PySem.W.plainOver K c_Total = true) (sa_Total : PySem.W.findIn K (.ref c_Total) "__setattr__" = some (some (.builtin "object.__setattr__"))) (na_Total : PySem.W.findIn K (.ref c_Total) "days" = some none) (mk_Total : PySem.W.makesIn K c_Total = true) (kc_Total : PySem.W.keepIn K (.ref c_Total) = true) (ic_Total : PySem.W.findIn K (.ref c_Total) "__class__" = some (some (.builtin "object.__class__"))) (im_Total : PySem.W.mroIn K c_Total (.type "object") = some true) (in_Total : PySem.W.findIn K (.ref c_Total) "__init__" = some (some (.ref f0)))
    (at_Total_answer : PySem.W.findIn K (.ref c_Total) "answer" = some (some (.ref f1)))
    (at_Total_explains : PySem.W.findIn K (.ref c_Total) "explains" = some (some (.ref f2)))
    (y5 : PySem.W.specialIn K (.builtin "object.__class__") "__get__" = some (some (.builtin "getset_descriptor.__get__"))) (y6 : PySem.W.takesIn K (.builtin "object.__class__") = some true)
    (mi_0 : PySem.W.kitOne K (.ref c_Total) (.ref c_Kind) = some true)
    (mi_1 : PySem.W.kitOne K (.ref c_Total) (.ref c_Sums) = some false) :
    ∃ fd : FuncData, (∀ (s : Shared) (v : Value), BindsTo s fd ⟨[v], []⟩ [("_law_script", v)]) ∧ ∀ base : Heap, K.In base → base.Ns mainGlobals mg → FnOk l.prog w K mg base CX0 5 fa fd ["_law_script"] (sp_law K) := by
  have e := hfa.symm.trans (PySem.W.mg_of X G a14)
  cases e
  have B : Blt mg := ⟨PySem.W.mg_none_of X G z_bool, PySem.W.mg_none_of X G z_enumerate, PySem.W.mg_none_of X G z_int, PySem.W.mg_none_of X G z_isinstance, PySem.W.mg_none_of X G z_len, PySem.W.mg_none_of X G z_min, PySem.W.mg_none_of X G z_range, PySem.W.mg_none_of X G z_sum, PySem.W.mg_none_of X G z_tuple, PySem.W.mg_none_of X G z_zip⟩
  have z_Kind := clsA_of u_Kind
  subst z_Kind
  have G_Kind : mg "Kind" = some (.ref (clsA K "Kind")) := PySem.W.mg_of X G u_Kind
  have z_Sums := clsA_of u_Sums
  subst z_Sums
  have G_Sums : mg "Sums" = some (.ref (clsA K "Sums")) := PySem.W.mg_of X G u_Sums
  have z_Total := clsA_of u_Total
  subst z_Total
  have G_Total : mg "Total" = some (.ref (clsA K "Total")) := PySem.W.mg_of X G u_Total
  have C_Total : Cls K (clsA K "Total") := ⟨pg_Total, hd_Total, po_Total, sa_Total⟩
  have KC : KCls K clsTab "days" insTab := ⟨List.forall_mem_cons.mpr ⟨⟨C_Total, na_Total, u_Total⟩, (fun _ h => by cases h)⟩, ⟨List.forall_mem_cons.mpr ⟨⟨C_Total, ic_Total, y5, y6, im_Total⟩, List.forall_mem_cons.mpr ⟨⟨C_Total, ic_Total, y5, y6, im_Total⟩, (fun _ h => by cases h)⟩⟩, List.forall_mem_cons.mpr ⟨mi_0, List.forall_mem_cons.mpr ⟨mi_1, (fun _ h => by cases h)⟩⟩⟩⟩
  have F_c_Kind_init := fun_mk (st := s_c_Kind_init) l0 c0 k0
  have B_c_Kind_init := F_c_Kind_init.binds (ps := ["self", "book"]) bd_c_Kind_init
  have F_c_Total_answer := fun_mk (st := s_c_Total_answer) l1 c1 k1
  have B_c_Total_answer := F_c_Total_answer.binds (ps := ["self"]) bd_c_Total_answer
  have F_c_Kind_explains := fun_mk (st := s_c_Kind_explains) l2 c2 k2
  have B_c_Kind_explains := F_c_Kind_explains.binds (ps := ["self"]) bd_c_Kind_explains
  have H_l_cell : Here K mg "_law_cell" s_l_cell ["_law_script", "_law_k"] := here_of X G a3 l3 c3 k3 bd_l_cell
  have H_l_int : Here K mg "_law_int" s_l_int ["_law_found"] := here_of X G a4 l4 c4 k4 bd_l_int
  have H_l_next : Here K mg "_law_next" s_l_next ["_law_cell_here"] := here_of X G a5 l5 c5 k5 bd_l_next
  have H_l_shape : Here K mg "_law_shape" s_l_shape ["_law_cell_here", "_law_wares"] := here_of X G a6 l6 c6 k6 bd_l_shape
  have H_l_best : Here K mg "_law_best" s_l_best ["_law_prices", "_law_shape_here", "_law_j"] := here_of X G a7 l7 c7 k7 bd_l_best
  have H_l_bought : Here K mg "_law_bought" s_l_bought ["_law_way", "_law_prices", "_law_amounts", "_law_shape_here", "_law_times"] := here_of X G a8 l8 c8 k8 bd_l_bought
  have H_l_price : Here K mg "_law_price" s_l_price ["_law_way", "_law_high"] := here_of X G a9 l9 c9 k9 bd_l_price
  have H_l_day : Here K mg "_law_day" s_l_day ["_law_cell_here", "_law_way", "_law_shape_here"] := here_of X G a10 l10 c10 k10 bd_l_day
  have H_l_book : Here K mg "_law_book" s_l_book ["_law_script", "_law_start", "_law_most", "_law_wares"] := here_of X G a11 l11 c11 k11 bd_l_book
  have H_l_is_total : Here K mg "_law_is_total" s_l_is_total ["_law_book_here"] := here_of X G a12 l12 c12 k12 bd_l_is_total
  have H_l_speaks : Here K mg "_law_speaks" s_l_speaks ["_law_book_here", "_law_three"] := here_of X G a13 l13 c13 k13 bd_l_speaks
  refine ⟨PySem.W.fnOf "law" "law" (defArgs s_law) (defBody s_law) (defScope s_law) .none kV14 dc14 pm14 an14 cd14 ct14, fun s v => .of_eq rfl, fun base _ _ => ?_⟩
  have D_c_Kind_init := ok_c_Kind_init (P := l.prog) (w := w) (mg := mg) (base := base) F_c_Kind_init
  have N_Total : MakOk l.prog w K mg base "Total" "days" ["self", "book"] := ⟨_, _, D_c_Kind_init, ⟨mk_Total, in_Total, i0, kc_Total⟩, G_Total, B_c_Kind_init⟩
  have D_c_Total_answer := ok_c_Total_answer (P := l.prog) (w := w) (mg := mg) (base := base) F_c_Total_answer B KC
  have M_Total_answer : MetOk l.prog w K mg base 1 "Total" "answer" ["self"] (sp_c_Total_answer K) := ⟨_, _, D_c_Total_answer, ⟨at_Total_answer, i1, k1⟩, C_Total, B_c_Total_answer⟩
  have D_c_Kind_explains := ok_c_Kind_explains (P := l.prog) (w := w) (mg := mg) (base := base) F_c_Kind_explains M_Total_answer
  have M_Total_explains : MetOk l.prog w K mg base 2 "Total" "explains" ["self"] (sp_c_Kind_explains K) := ⟨_, _, D_c_Kind_explains, ⟨at_Total_explains, i2, k2⟩, C_Total, B_c_Kind_explains⟩
  have D_l_cell := ok_l_cell (P := l.prog) (w := w) (base := base) H_l_cell B
  have D_l_int := ok_l_int (P := l.prog) (w := w) (base := base) H_l_int B
  have D_l_next := ok_l_next (P := l.prog) (w := w) (base := base) H_l_next
  have D_l_shape := ok_l_shape (P := l.prog) (w := w) (base := base) H_l_shape B D_l_next
  have D_l_best := ok_l_best (P := l.prog) (w := w) (base := base) H_l_best B
  have D_l_bought := ok_l_bought (P := l.prog) (w := w) (base := base) H_l_bought B D_l_best
  have D_l_price := ok_l_price (P := l.prog) (w := w) (base := base) H_l_price
  have D_l_day := ok_l_day (P := l.prog) (w := w) (base := base) H_l_day B D_l_next D_l_price D_l_bought
  have D_l_book := ok_l_book (P := l.prog) (w := w) (base := base) H_l_book B D_l_cell D_l_shape D_l_day
  have D_l_is_total := ok_l_is_total (P := l.prog) (w := w) (base := base) H_l_is_total B
  have D_l_speaks := ok_l_speaks (P := l.prog) (w := w) (base := base) H_l_speaks B D_l_int
  exact fn_law (P := l.prog) (w := w) (base := base) (fun_mk (st := s_law) l14 c14 k14) B G_Kind G_Sums KC M_Total_answer M_Total_explains N_Total D_l_book D_l_is_total D_l_speaks
theorem walk {l : PySem.W.OpenLaw} {q : Program} {loose : List Str} {XP : (Str → Option Value) → Heap → Prop} {YP : World → Heap → Prop} {d : DefRec} {K : Params → PySem.W.Frag} (hn : l.most = some 63) (hdf : d.params.defaults = [])
    (hY : ∀ (w : World) (h : Heap), YP w h → (K w.params).In h)
    (F : ∀ (w : World) (mg : Str → Option Value) (fa : Addr) (h : Heap), (K w.params).In h → h.Ns mainGlobals mg → mg d.name = some (.ref fa) →
      ∃ fd : FuncData, (∀ (s : Shared) (u : Value), BindsTo s fd ⟨[u], []⟩ [("_law_script", u)]) ∧ ∀ base : Heap, (K w.params).In base → base.Ns mainGlobals mg → FnOk l.prog w (K w.params) mg base CX0 5 fa fd ["_law_script"] (sp_law (K w.params))) :
    PySem.W.WalkO q loose XP YP l.row.toRowW d [] (fun f vs => PySem.call f vs) :=
  L2.walk_ofB (n := 63) (k := 5) (x := "_law_script") (CX := fun _ => CX0) (sp := fun w => sp_law (K w.params)) hn (by decide) hdf ⟨rfl, by decide, by decide⟩ hY F (fun w H a ns hl hb _ hS =>
    ⟨H, ns, Same.refl H, .cons (.lst hS (Reps.of_ints ns)) .nil, Scr.of hl hb, fun r v H' hr _ hR => by
      subst hr
      exact ret_true hR⟩) fun _ _ _ _ _ z => z
end TB
open PySem PySem.W PyProof.Rows
set_option maxRecDepth 100000 in
set_option maxHeartbeats 0 in
theorem PySem.Challenge.cw_tastesbook_k46_total_holds : PySem.Challenge.rw_tastesbook_k46_total.Holds := by
  w_on; o_law; k_head; (case hw => w_witness2)
  k_fill
  refine TB.walk (l := PySem.Challenge.rw_tastesbook_k46_total) rfl rfl (fun w h Y => PySem.W.km_in_of Y) ?F
  case F =>
    intro w mg fa h KX G hmg
    refine' TB.all_mk KX G hmg ?u_Kind ?u_Sums ?u_Total ?l0 ?c0 ?k0 ?i0 ?l1 ?c1 ?k1 ?i1 ?l2 ?c2 ?k2 ?i2 ?a3 ?l3 ?c3 ?k3 ?a4 ?l4 ?c4 ?k4 ?a5 ?l5 ?c5 ?k5 ?a6 ?l6 ?c6 ?k6 ?a7 ?l7 ?c7 ?k7 ?a8 ?l8 ?c8 ?k8 ?a9 ?l9 ?c9 ?k9 ?a10 ?l10 ?c10 ?k10 ?a11 ?l11 ?c11 ?k11 ?a12 ?l12 ?c12 ?k12 ?a13 ?l13 ?c13 ?k13 ?a14 ?l14 ?c14 ?k14 ?z_bool ?z_enumerate ?z_int ?z_isinstance ?z_len ?z_min ?z_range ?z_sum ?z_tuple ?z_zip ?pg_Total ?hd_Total ?po_Total ?sa_Total ?na_Total ?mk_Total ?kc_Total ?ic_Total ?im_Total ?in_Total ?at_Total_answer ?at_Total_explains ?y5 ?y6 ?mi_0 ?mi_1
    (case u_Kind => k_is)
    (case u_Sums => k_is)
    (case u_Total => k_is)
    (case in_Total => k_is)
    (case at_Total_answer => k_is)
    (case at_Total_explains => k_is)
    (case l0 => k_is)
    (case c0 => k_is)
    (case k0 => k_is)
    (case i0 => k_is)
    (case l1 => k_is)
    (case c1 => k_is)
    (case k1 => k_is)
    (case i1 => k_is)
    (case l2 => k_is)
    (case c2 => k_is)
    (case k2 => k_is)
    (case i2 => k_is)
    (case a3 => k_is)
    (case l3 => k_is)
    (case c3 => k_is)
    (case k3 => k_is)
    (case a4 => k_is)
    (case l4 => k_is)
    (case c4 => k_is)
    (case k4 => k_is)
    (case a5 => k_is)
    (case l5 => k_is)
    (case c5 => k_is)
    (case k5 => k_is)
    (case a6 => k_is)
    (case l6 => k_is)
    (case c6 => k_is)
    (case k6 => k_is)
    (case a7 => k_is)
    (case l7 => k_is)
    (case c7 => k_is)
    (case k7 => k_is)
    (case a8 => k_is)
    (case l8 => k_is)
    (case c8 => k_is)
    (case k8 => k_is)
    (case a9 => k_is)
    (case l9 => k_is)
    (case c9 => k_is)
    (case k9 => k_is)
    (case a10 => k_is)
    (case l10 => k_is)
    (case c10 => k_is)
    (case k10 => k_is)
    (case a11 => k_is)
    (case l11 => k_is)
    (case c11 => k_is)
    (case k11 => k_is)
    (case a12 => k_is)
    (case l12 => k_is)
    (case c12 => k_is)
    (case k12 => k_is)
    (case a13 => k_is)
    (case l13 => k_is)
    (case c13 => k_is)
    (case k13 => k_is)
    (case a14 => k_is)
    (case l14 => k_is)
    (case c14 => k_is)
    (case k14 => k_is)
    (case z_bool => k_is)
    (case z_enumerate => k_is)
    (case z_int => k_is)
    (case z_isinstance => k_is)
    (case z_len => k_is)
    (case z_min => k_is)
    (case z_range => k_is)
    (case z_sum => k_is)
    (case z_tuple => k_is)
    (case z_zip => k_is)
    (case pg_Total => k_is)
    (case hd_Total => k_is)
    (case po_Total => k_is)
    (case sa_Total => k_is)
    (case na_Total => k_is)
    (case mk_Total => k_is)
    (case kc_Total => k_is)
    (case ic_Total => k_is)
    (case im_Total => k_is)
    (case y5 => k_is)
    (case y6 => k_is)
    (case mi_0 => kit_is)
    (case mi_1 => kit_is)
