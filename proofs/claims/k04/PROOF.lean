import PyProof.Rows.All
import Wide.All
import OpenK.AllK
import Wide.FinOn
import HandS.Base
import HandS.Call
import HandS.List
import HandS.Comp
import HandS.Dict
import HandS.Iter
import HandS.Text
import HandS.Words
import HandS.Wide
import HandS.TupAny
import HandS.TupMul
import HandS.Deep
import HandS.IsInst
import HandS.Style
import HandS.NoneIn
import HandS.WordsDict
import HandS.Zip
import HandS.Rev
import HandS.EndBits
import HandS.ExcOwn
import HandS.WordsExc
import HandS.TryOnly
import HandS.ExcIs
import KE.RegKIsAll
import PySem.Challenge.RW_tastesbook_k04_costs
set_option Elab.async false
set_option linter.all false
set_option maxRecDepth 100000
set_option maxHeartbeats 1000000


/-! TB core: data seen as values; what is owned, frozen, new; judgements over abstract slots. -/
namespace TB
open PySem L2
section
variable {K : PySem.W.Frag}

/-! ### data in a heap -/
def kD : Key → PyData
  | .inl i => .int i
  | .inr s => .str s
mutual
inductive Rep (K : PySem.W.Frag) (H : Hp) : V → PyData → Prop
  | non : Rep K H .non .none
  | bl (b : Bool) : Rep K H (.bl b) (.bool b)
  | int (i : Int) : Rep K H (.int i) (.int i)
  | str (x : Str) : Rep K H (.str x) (.str x)
  | lst {a : Addr} {xs : List V} {ds : List PyData} : SqL K H a xs → Reps K H xs ds → Rep K H (.ref a) (.list ds)
  | tup {a : Addr} {xs : List V} {ds : List PyData} : H a = some (.tup xs) → Reps K H xs ds → Rep K H (.ref a) (.tuple ds)
  | dic {a : Addr} {kvs : List (Key × V)} {kds : List (PyData × PyData)} : Rd H a (.dK kvs) → RepK K H kvs kds → Rep K H (.ref a) (.dict kds)
inductive Reps (K : PySem.W.Frag) (H : Hp) : List V → List PyData → Prop
  | nil : Reps K H [] []
  | cons {v : V} {d : PyData} {vs : List V} {ds : List PyData} : Rep K H v d → Reps K H vs ds → Reps K H (v :: vs) (d :: ds)
inductive RepK (K : PySem.W.Frag) (H : Hp) : List (Key × V) → List (PyData × PyData) → Prop
  | nil : RepK K H [] []
  | cons {k : Key} {v : V} {d : PyData} {r : List (Key × V)} {s : List (PyData × PyData)} : Rep K H v d → RepK K H r s → RepK K H ((k, v) :: r) ((kD k, d) :: s)
end

theorem SqL.same {H H' : Hp} {a : Addr} {xs : List V} (e : Same H H') (h : SqL K H a xs) : SqL K H' a xs := Same.seq e h
theorem Rd.same {H H' : Hp} {a : Addr} {u : HO} (e : Same H H') (h : Rd H a u) : Rd H' a u := by
  rcases h with h | ⟨o, h⟩
  · exact .inl (e _ _ h)
  · exact .inr ⟨o, e _ _ h⟩
mutual
theorem Rep.mono {H H' : Hp} (e : Same H H') : ∀ {v : V} {d : PyData}, Rep K H v d → Rep K H' v d
  | _, _, .non => .non
  | _, _, .bl b => .bl b
  | _, _, .int i => .int i
  | _, _, .str x => .str x
  | _, _, .lst h r => .lst (SqL.same e h) (Reps.mono e r)
  | _, _, .tup h r => .tup (e _ _ h) (Reps.mono e r)
  | _, _, .dic h r => .dic (Rd.same e h) (RepK.mono e r)
theorem Reps.mono {H H' : Hp} (e : Same H H') : ∀ {vs : List V} {ds : List PyData}, Reps K H vs ds → Reps K H' vs ds
  | _, _, .nil => .nil
  | _, _, .cons h r => .cons (Rep.mono e h) (Reps.mono e r)
theorem RepK.mono {H H' : Hp} (e : Same H H') : ∀ {kvs : List (Key × V)} {kds : List (PyData × PyData)}, RepK K H kvs kds → RepK K H' kvs kds
  | _, _, .nil => .nil
  | _, _, .cons h r => .cons (Rep.mono e h) (RepK.mono e r)
end
section
variable {H : Hp} {vs ws : List V} {ds es : List PyData}
theorem Reps.length : ∀ {vs : List V} {ds : List PyData}, Reps K H vs ds → vs.length = ds.length
  | _, _, .nil => rfl
  | _, _, .cons _ r => congrArg (· + 1) (Reps.length r)
theorem Reps.get : ∀ {vs : List V} {ds : List PyData} {i : Nat} {d : PyData}, Reps K H vs ds → ds[i]? = some d → ∃ v, vs[i]? = some v ∧ Rep K H v d
  | _, _, _, _, .nil, h => by simp at h
  | _, _, 0, _, .cons r _, h => by simp at h; subst h; exact ⟨_, rfl, r⟩
  | _, _, i + 1, d, .cons _ r, h => by
    obtain ⟨v, h1, h2⟩ := Reps.get (i := i) (d := d) r (by simpa using h)
    exact ⟨v, by simpa using h1, h2⟩
theorem Reps.getV : ∀ {vs : List V} {ds : List PyData} {i : Nat} {v : V}, Reps K H vs ds → vs[i]? = some v → ∃ d, ds[i]? = some d ∧ Rep K H v d
  | _, _, _, _, .nil, h => by simp at h
  | _, _, 0, _, .cons r _, h => by simp at h; subst h; exact ⟨_, rfl, r⟩
  | _, _, i + 1, v, .cons _ r, h => by
    obtain ⟨d, h1, h2⟩ := Reps.getV (i := i) (v := v) r (by simpa using h)
    exact ⟨d, by simpa using h1, h2⟩
theorem Reps.append : ∀ {vs ws : List V} {ds es : List PyData}, Reps K H vs ds → Reps K H ws es → Reps K H (vs ++ ws) (ds ++ es)
  | _, _, _, _, .nil, s => s
  | _, _, _, _, .cons h r, s => .cons h (Reps.append r s)
theorem Reps.set : ∀ {vs : List V} {ds : List PyData} {v : V} {d : PyData} (i : Nat), Rep K H v d → Reps K H vs ds → Reps K H (vs.set i v) (ds.set i d)
  | _, _, _, _, _, _, .nil => .nil
  | _, _, _, _, 0, h, .cons _ r => .cons h r
  | _, _, _, _, i + 1, h, .cons q r => .cons q (Reps.set i h r)
theorem Reps.take : ∀ {vs : List V} {ds : List PyData} (n : Nat), Reps K H vs ds → Reps K H (vs.take n) (ds.take n)
  | _, _, 0, _ => .nil
  | _, _, _ + 1, .nil => .nil
  | _, _, n + 1, .cons h r => .cons h (Reps.take n r)
theorem Reps.drop : ∀ {vs : List V} {ds : List PyData} (n : Nat), Reps K H vs ds → Reps K H (vs.drop n) (ds.drop n)
  | _, _, 0, r => r
  | _, _, _ + 1, .nil => .nil
  | _, _, n + 1, .cons _ r => Reps.drop n r
theorem Reps.ints : ∀ {vs : List V} {is : List Int}, Reps K H vs (is.map .int) → vs = is.map V.int
  | _, [], .nil => rfl
  | _, i :: is, .cons h r => by cases h; rw [Reps.ints (is := is) r]; rfl
theorem Reps.of_ints : ∀ (is : List Int), Reps K H (is.map V.int) (is.map .int)
  | [] => .nil
  | i :: is => .cons (.int i) (Reps.of_ints is)
theorem Reps.strs : ∀ {vs : List V} {is : List Str}, Reps K H vs (is.map .str) → vs = is.map V.str
  | _, [], .nil => rfl
  | _, i :: is, .cons h r => by cases h; rw [Reps.strs (is := is) r]; rfl
theorem Reps.bools : ∀ {vs : List V} {is : List Bool}, Reps K H vs (is.map .bool) → vs = is.map V.bl
  | _, [], .nil => rfl
  | _, i :: is, .cons h r => by cases h; rw [Reps.bools (is := is) r]; rfl
theorem Reps.of_get : ∀ {vs : List V} {ds : List PyData}, vs.length = ds.length → (∀ (i : Nat) (v : V) (d : PyData), vs[i]? = some v → ds[i]? = some d → Rep K H v d) → Reps K H vs ds
  | [], [], _, _ => .nil
  | v :: vs, d :: ds, hl, h => .cons (h 0 v d rfl rfl) (Reps.of_get (by simpa using hl) fun i v' d' a b => h (i + 1) v' d' (by simpa using a) (by simpa using b))
end
/-! data without lists and dicts -/
mutual
def imm : PyData → Bool
  | .none => true
  | .bool _ => true
  | .int _ => true
  | .str _ => true
  | .list _ => false
  | .tuple xs => imms xs
  | .dict _ => false
def imms : List PyData → Bool
  | [] => true
  | x :: xs => imm x && imms xs
end
theorem imms_all : ∀ {xs : List PyData}, (∀ x ∈ xs, imm x = true) → imms xs = true
  | [], _ => rfl
  | x :: xs, h => by
    rw [imms, h x List.mem_cons_self, imms_all fun y hy => h y (List.mem_cons_of_mem _ hy)]; rfl
theorem imm_tup {xs : List PyData} (h : ∀ x ∈ xs, imm x = true) : imm (.tuple xs) = true := imms_all h
theorem imm_map {α : Type} {f : α → PyData} {xs : List α} (h : ∀ x ∈ xs, imm (f x) = true) : imm (.tuple (xs.map f)) = true :=
  imm_tup fun y hy => by obtain ⟨x, hx, rfl⟩ := List.mem_map.mp hy; exact h x hx
/-- what holds no list or dict is read by the tuples alone -/
def tupsOf (H H' : Hp) : Prop := ∀ a xs, H a = some (.tup xs) → H' a = some (.tup xs)
mutual
theorem Rep.imm {H H' : Hp} (e : tupsOf H H') : ∀ {v : V} {d : PyData}, Rep K H v d → imm d = true → Rep K H' v d
  | _, _, .non, _ => .non
  | _, _, .bl b, _ => .bl b
  | _, _, .int i, _ => .int i
  | _, _, .str x, _ => .str x
  | _, _, .lst _ _, h => by simp [TB.imm] at h
  | _, _, .tup h r, hi => .tup (e _ _ h) (Reps.imm e r hi)
  | _, _, .dic _ _, h => by simp [TB.imm] at h
theorem Reps.imm {H H' : Hp} (e : tupsOf H H') : ∀ {vs : List V} {ds : List PyData}, Reps K H vs ds → imms ds = true → Reps K H' vs ds
  | _, _, .nil, _ => .nil
  | _, _, .cons h r, hi => by
    rw [imms, Bool.and_eq_true] at hi
    exact .cons (Rep.imm e h hi.1) (Reps.imm e r hi.2)
end
/-! for == of the library: data without dicts -/
mutual
theorem Rep.dp {H : Hp} : ∀ {v : V} {d : PyData}, Rep K H v d → d.canLay0 = true → Dp K H v d
  | _, _, .non, _ => .non
  | _, _, .bl b, _ => .bl b
  | _, _, .int i, _ => .int i
  | _, _, .str x, _ => .str x
  | _, _, .lst h r, c => .lst h (Reps.dp r (by simpa [PyData.canLay0] using c))
  | _, _, .tup h r, c => .tup (.inl (.inl h)) (Reps.dp r (by simpa [PyData.canLay0] using c))
  | _, _, .dic _ _, c => by simp [PyData.canLay0] at c
theorem Reps.dp {H : Hp} : ∀ {vs : List V} {ds : List PyData}, Reps K H vs ds → PyData.canLayAll0 ds = true → DpAll K H vs ds
  | _, _, .nil, _ => .nil
  | _, _, .cons h r, c => by
    simp only [PyData.canLayAll0, Bool.and_eq_true] at c
    exact .cons (Rep.dp h c.1) (Reps.dp r c.2)
end

/-! ### what may be seen -/
def nf : Option HO → Option HO
  | some (.frz _ _) => none
  | o => o
/-- G, and what is new since H, and every tuple of H -/
def plus (G H H' : Hp) : Hp := fun a => match H a with
  | none => nf (H' a)
  | some (.tup xs) => some (.tup xs)
  | some _ => G a
def non : Hp := fun _ => none
open Classical in
noncomputable def hide (O : Addr → Prop) (H : Hp) : Hp := fun a => if O a then none else H a
theorem hide_none {O : Addr → Prop} {H : Hp} {a : Addr} (h : O a) : hide O H a = none := by unfold hide; rw [if_pos h]
theorem hide_at {O : Addr → Prop} {H : Hp} {a : Addr} (h : ¬ O a) : hide O H a = H a := by unfold hide; rw [if_neg h]
theorem hide_some {O : Addr → Prop} {H : Hp} {a : Addr} {o : HO} (h : hide O H a = some o) : ¬ O a ∧ H a = some o := by
  by_cases p : O a
  · rw [hide_none p] at h; cases h
  · rw [hide_at p] at h; exact ⟨p, h⟩
theorem nf_some {x : Option HO} {o : HO} (h : nf x = some o) : x = some o := by
  unfold nf at h
  split at h
  · cases h
  · exact h
theorem nf_eq {x : Option HO} {o : HO} (h : nf x = some o) {y : Option HO} (e : y = some o) : nf y = some o := by
  have := nf_some h
  subst e; subst this; exact h
theorem non_same {H : Hp} : Same non H := fun _ _ h => by cases h
theorem hide_same {O : Addr → Prop} {H : Hp} : Same (hide O H) H := fun _ _ h => (hide_some h).2
theorem hide_le {O O' : Addr → Prop} {H H' : Hp} (e : Same H H') (ho : ∀ a o, H a = some o → O' a → O a) : Same (hide O H) (hide O' H') := fun a o h => by
  obtain ⟨h1, h2⟩ := hide_some h
  rw [hide_at fun p => h1 (ho a o h2 p)]
  exact e a o h2
/-- the cases of what plus shows -/
theorem plus_cases {G H H' : Hp} {a : Addr} {o : HO} (h : plus G H H' a = some o) : (H a = none ∧ nf (H' a) = some o) ∨ (∃ xs, H a = some (.tup xs) ∧ o = .tup xs) ∨ (G a = some o ∧ ∃ u, H a = some u) := by
  unfold plus at h
  split at h
  · exact .inl ⟨by assumption, h⟩
  · exact .inr (.inl ⟨_, by assumption, (Option.some.inj h).symm⟩)
  · exact .inr (.inr ⟨h, _, by assumption⟩)
theorem plus_new {G H H' : Hp} {a : Addr} (h : H a = none) : plus G H H' a = nf (H' a) := by unfold plus; rw [h]
theorem plus_tup {G H H' : Hp} {a : Addr} {xs : List V} (h : H a = some (.tup xs)) : plus G H H' a = some (.tup xs) := by unfold plus; rw [h]
theorem plus_old {G H H' : Hp} {a : Addr} {o : HO} (g : G a = some o) (e : Same G H) : plus G H H' a = some o := by
  have := e a o g
  cases o with
  | tup xs => exact plus_tup this
  | _ => unfold plus; rw [this]; exact g
theorem plus_same {G H H' : Hp} (e : Same G H) (e' : Same H H') : Same (plus G H H') H' := fun a o h => by
  rcases plus_cases h with ⟨h1, h2⟩ | ⟨xs, h1, rfl⟩ | ⟨h1, _⟩
  · exact nf_some h2
  · exact e' _ _ h1
  · exact e' _ _ (e _ _ h1)
/-- the heap grows -/
theorem plus_ext {G H H' H'' : Hp} (e : Same H' H'') : Same (plus G H H') (plus G H H'') := fun a o h => by
  rcases plus_cases h with ⟨h1, h2⟩ | ⟨xs, h1, rfl⟩ | ⟨h1, u, h2⟩
  · rw [plus_new h1]; exact nf_eq h2 (e _ _ (nf_some h2))
  · exact plus_tup h1
  · cases u with
    | tup xs => rw [plus_tup h2] at h ⊢; exact h
    | _ => unfold plus; rw [h2]; exact h1
theorem plus_mono {G G' H H' : Hp} (e : Same G G') : Same (plus G H H') (plus G' H H') := fun a o h => by
  rcases plus_cases h with ⟨h1, h2⟩ | ⟨xs, h1, rfl⟩ | ⟨h1, u, h2⟩
  · rw [plus_new h1]; exact h2
  · exact plus_tup h1
  · cases u with
    | tup xs => rw [plus_tup h2] at h ⊢; exact h
    | _ => unfold plus; rw [h2]; exact e _ _ h1
/-- seen since later is seen since earlier, where G shows no more than the earlier one did -/
theorem plus_back {G0 G H0 H H' : Hp} (h0 : Same H0 H) (hg : Same G (plus G0 H0 H)) (e : Same H H') (g0 : Same G0 H0) : Same (plus G H H') (plus G0 H0 H') := fun a o h => by
  rcases plus_cases h with ⟨h1, h2⟩ | ⟨xs, h1, rfl⟩ | ⟨h1, u, h2⟩
  · have h3 : H0 a = none := by
      cases q : H0 a with
      | none => rfl
      | some u => have := h0 _ _ q; rw [h1] at this; cases this
    rw [plus_new h3]; exact h2
  · cases q : H0 a with
    | none => rw [plus_new q, e _ _ h1]; rfl
    | some u =>
      have := h0 _ _ q
      rw [h1] at this
      cases this
      exact plus_tup q
  · exact plus_ext e _ _ (hg _ _ h1)
theorem tups_plus {G H H' : Hp} (e : Same H H') : tupsOf H' (plus G H H') := fun a xs h => by
  cases q : H a with
  | none => rw [plus_new q, h]; rfl
  | some u =>
    have := e _ _ q
    rw [h] at this
    cases this
    exact plus_tup q
theorem tups_hide {O : Addr → Prop} {H : Hp} (h : ∀ a xs, H a = some (.tup xs) → ¬ O a) : tupsOf H (hide O H) := fun a xs q => by rw [hide_at (h a xs q)]; exact q

/-! ### slots -/
inductive B where
  /-- data that stands still; true: all new since the entry -/
  | sh (n : Bool) (d : PyData)
  /-- a list of one's own -/
  | own (n : Bool) (a : Addr) (ds : List PyData)
  /-- a dict of one's own -/
  | odic (n : Bool) (a : Addr) (ks : List (PyData × PyData))
  /-- a tuple with lists of one's own in it -/
  | tupo (n : Bool) (xs : List (Sum PyData (Addr × List PyData)))
def itOws : List (Sum PyData (Addr × List PyData)) → List Addr
  | [] => []
  | .inl _ :: r => itOws r
  | .inr (a, _) :: r => a :: itOws r
def B.ows : B → List Addr
  | .sh _ _ => []
  | .own _ a _ => [a]
  | .odic _ a _ => [a]
  | .tupo _ xs => itOws xs
abbrev Sl := List (Option B)
def OF (G : Sl) : Addr → Prop := fun a => ∃ (i : Nat) (b : B), G[i]? = some (some b) ∧ a ∈ b.ows
structure C where
  H0 : Hp
  F : Hp
  Bs : Hp
abbrev Md := Option Bool
noncomputable def gz (c : C) (n : Bool) : Hp := if n then non else c.F
/-- none: all; some false: what stands still; some true: what is new and stands still -/
noncomputable def vis (c : C) (O : Addr → Prop) (m : Md) (H : Hp) : Hp := match m with
  | none => H
  | some n => hide O (plus (gz c n) c.H0 H)
def itData : Sum PyData (Addr × List PyData) → PyData
  | .inl d => d
  | .inr (_, ds) => .list ds
/-- what a slot holds, as one may look at it -/
def B.full : B → PyData
  | .sh _ d => d
  | .own _ _ ds => .list ds
  | .odic _ _ ks => .dict ks
  | .tupo _ xs => .tuple (xs.map itData)
def RepIt (K : PySem.W.Frag) (G H : Hp) (v : V) : Sum PyData (Addr × List PyData) → Prop
  | .inl d => Rep K G v d
  | .inr (a, ds) => v = .ref a ∧ ∃ vs, H a = some (.lst vs) ∧ Reps K G vs ds
/-- G: what stands still; H: all -/
def RepB (K : PySem.W.Frag) (G : Bool → Hp) (H : Hp) (v : V) : B → Prop
  | .sh n d => Rep K (G n) v d
  | .own n a ds => v = .ref a ∧ ∃ vs, H a = some (.lst vs) ∧ Reps K (G n) vs ds
  | .odic n a ks => v = .ref a ∧ ∃ kvs, H a = some (.dK kvs) ∧ RepK K (G n) kvs ks
  | .tupo n xs => ∃ t vs, v = .ref t ∧ H t = some (.tup vs) ∧ Paired (RepIt K (G n) H) vs xs
structure Sits (K : PySem.W.Frag) (c : C) (G : Sl) (σ : L2.St) (H : Hp) : Prop where
  f0 : Same c.F c.H0
  h0 : Same c.H0 H
  b0 : Same c.Bs H
  fr : ∀ a, OF G a → c.H0 a = none ∧ c.Bs a = none
  mu : ∀ a, OF G a → ∃ o, H a = some o ∧ ∀ xs, o ≠ .tup xs
  dj : ∀ (i j : Nat) (b b' : B) (a : Addr), G[i]? = some (some b) → G[j]? = some (some b') → a ∈ b.ows → a ∈ b'.ows → i = j
  nd : ∀ (i : Nat) (b : B), G[i]? = some (some b) → b.ows.Nodup
  len : σ.length = G.length
  at_ : ∀ (i : Nat) (b : B), G[i]? = some (some b) → ∃ v, σ[i]? = some (some v) ∧ RepB K (fun n => vis c (OF G) (some n) H) H v b
section
variable {c : C} {G G' : Sl} {σ : L2.St} {H H' : Hp} {m : Md} {O O' : Addr → Prop} {v : V} {d : PyData}
theorem gz_same (e : Same c.F c.H0) (n : Bool) : Same (gz c n) c.H0 := by
  unfold gz
  cases n
  · exact e
  · exact non_same
theorem vis_same (f : Same c.F c.H0) (e : Same c.H0 H) : Same (vis c O m H) H := by
  cases m with
  | none => exact Same.refl H
  | some n => exact hide_same.trans (plus_same (gz_same f n) e)
theorem vis_ext (f : Same c.F c.H0) (h0 : Same c.H0 H) (e : Same H H') (ho : ∀ a o, H a = some o → O' a → O a) : Same (vis c O m H) (vis c O' m H') := by
  cases m with
  | none => exact e
  | some n =>
    refine hide_le (plus_ext e) fun a o h p => ho a o ?_ p
    exact plus_same (gz_same f n) h0 a o h
theorem vis_le (n : Bool) : Same (vis c O (some true) H) (vis c O (some n) H) := by
  cases n
  · exact hide_le (plus_mono non_same) fun _ _ _ p => p
  · exact Same.refl _
/-- data without lists is seen by whoever sees tuples -/
theorem vis_tups (h0 : Same c.H0 H) (hm : ∀ a, O a → ∃ o, H a = some o ∧ ∀ xs, o ≠ .tup xs) : tupsOf H (vis c O m H) := by
  cases m with
  | none => exact fun _ _ h => h
  | some n =>
    intro a xs h
    have := tups_plus (G := gz c n) h0 a xs h
    show hide O _ a = _
    rw [hide_at fun p => ?_]
    · exact this
    · obtain ⟨o, h1, h2⟩ := hm a p
      rw [h] at h1
      exact h2 xs (Option.some.inj h1).symm
theorem RepIt.mono {K1 K2 H1 H2 : Hp} (e : Same K1 K2) : ∀ {x : Sum PyData (Addr × List PyData)}, (∀ a ∈ itOws [x], ∀ xs, H1 a = some (.lst xs) → H2 a = some (.lst xs)) → RepIt K K1 H1 v x → RepIt K K2 H2 v x
  | .inl d, _, h => Rep.mono e h
  | .inr (a, ds), k, ⟨h1, vs, h2, h3⟩ => ⟨h1, vs, k a (by simp [itOws]) vs h2, Reps.mono e h3⟩
theorem RepB.mono {K1 K2 : Bool → Hp} {H1 H2 : Hp} {b : B} (e : ∀ n, Same (K1 n) (K2 n)) (k : Same H1 H2) (h : RepB K K1 H1 v b) : RepB K K2 H2 v b := by
  cases b with
  | sh n d => exact Rep.mono (e n) h
  | own n a ds => obtain ⟨h1, vs, h2, h3⟩ := h; exact ⟨h1, vs, k _ _ h2, Reps.mono (e n) h3⟩
  | odic n a ks => obtain ⟨h1, vs, h2, h3⟩ := h; exact ⟨h1, vs, k _ _ h2, RepK.mono (e n) h3⟩
  | tupo n xs =>
    obtain ⟨t, vs, h1, h2, h3⟩ := h
    exact ⟨t, vs, h1, k _ _ h2, Paired.mapP h3 fun v x r => RepIt.mono (e n) (fun a _ xs q => k _ _ q) r⟩
/-- a look at it -/
theorem RepB.full {W : Bool → Hp} {b : B} (e : ∀ n, Same (W n) H) (h : RepB K W H v b) : Rep K H v b.full := by
  cases b with
  | sh n d => exact Rep.mono (e n) h
  | own n a ds => obtain ⟨rfl, vs, h2, h3⟩ := h; exact .lst (.inl (.inl h2)) (Reps.mono (e n) h3)
  | odic n a ks => obtain ⟨rfl, vs, h2, h3⟩ := h; exact .dic (.inl h2) (RepK.mono (e n) h3)
  | tupo n xs =>
    obtain ⟨t, vs, rfl, h2, h3⟩ := h
    refine .tup h2 ?_
    clear h2
    induction h3 with
    | nil => exact .nil
    | @cons v x vs xs r _ ih =>
      refine .cons ?_ ih
      cases x with
      | inl d => exact Rep.mono (e n) r
      | inr p => obtain ⟨a, ds⟩ := p; obtain ⟨rfl, ws, h4, h5⟩ := r; exact .lst (.inl (.inl h4)) (Reps.mono (e n) h5)
theorem Sits.ext (e : Sits K c G σ H) (s : Same H H') : Sits K c G σ H' where
  f0 := e.f0
  h0 := e.h0.trans s
  b0 := e.b0.trans s
  fr := e.fr
  mu := fun a h => let ⟨o, h1, h2⟩ := e.mu a h; ⟨o, s _ _ h1, h2⟩
  dj := e.dj
  nd := e.nd
  len := e.len
  at_ := fun i b h => by
    obtain ⟨v, h1, h2⟩ := e.at_ i b h
    exact ⟨v, h1, h2.mono (fun n => vis_ext e.f0 e.h0 s fun _ _ _ p => p) s⟩
theorem Sits.vsame (e : Sits K c G σ H) : Same (vis c (OF G) m H) H := vis_same e.f0 e.h0
theorem Sits.vext (e : Sits K c G σ H) (s : Same H H') : Same (vis c (OF G) m H) (vis c (OF G) m H') := vis_ext e.f0 e.h0 s fun _ _ _ p => p
theorem Sits.imm (e : Sits K c G σ H) (h : Rep K H v d) (hi : imm d = true) : Rep K (vis c (OF G) m H) v d := Rep.imm (vis_tups e.h0 e.mu) h hi
/-- another context over the same slots: a later base -/
theorem set_at {G : Sl} {i j : Nat} {x : Option B} {b : B} (h : (G.set i x)[j]? = some (some b)) : (j = i ∧ x = some b) ∨ (j ≠ i ∧ G[j]? = some (some b)) := by
  by_cases e : i = j
  · subst e
    by_cases hl : i < G.length
    · rw [List.getElem?_set_self hl] at h
      exact .inl ⟨rfl, Option.some.inj h⟩
    · rw [List.getElem?_eq_none (by simpa using hl)] at h; cases h
  · rw [List.getElem?_set_ne e] at h
    exact .inr ⟨fun q => e q.symm, h⟩
/-- slot i gets b: its lists and dicts of its own are new, or were the slot's ahead, or were taken out of the slots -/
theorem Sits.put {i : Nat} {b : B} (e : Sits K c G σ H) (s : Same H H') (hi : i < G.length)
    (hb : RepB K (fun n => vis c (OF (G.set i (some b))) (some n) H') H' v b) (hn : b.ows.Nodup)
    (hf : ∀ a ∈ b.ows, (H a = none ∧ ∃ o, H' a = some o ∧ ∀ xs, o ≠ .tup xs)) : Sits K c (G.set i (some b)) (σ.set i (some v)) H' := by
  have sub : ∀ a, OF (G.set i (some b)) a → OF G a ∨ a ∈ b.ows := fun a ⟨j, b', h1, h2⟩ => by
    rcases set_at h1 with ⟨_, h⟩ | ⟨_, h⟩
    · cases h; exact .inr h2
    · exact .inl ⟨j, b', h, h2⟩
  have nn : ∀ {K : Hp} {a : Addr}, Same K H → H a = none → K a = none := fun {K a} k h => by
    cases q : K a with
    | none => rfl
    | some u => have := k _ _ q; rw [h] at this; cases this
  have ho : ∀ a o, H a = some o → OF (G.set i (some b)) a → OF G a := fun a o h p => by
    rcases sub a p with q | q
    · exact q
    · rw [(hf a q).1] at h; cases h
  refine ⟨e.f0, e.h0.trans s, e.b0.trans s, fun a h => ?_, fun a h => ?_, fun j k b1 b2 a h1 h2 h3 h4 => ?_, fun j b' h => ?_, by simp [e.len], fun j b' h => ?_⟩
  · rcases sub a h with q | q
    · exact e.fr a q
    · exact ⟨nn e.h0 (hf a q).1, nn e.b0 (hf a q).1⟩
  · rcases sub a h with q | q
    · obtain ⟨o, h1, h2⟩ := e.mu a q; exact ⟨o, s _ _ h1, h2⟩
    · exact (hf a q).2
  · have old : ∀ {j : Nat} {b' : B}, G[j]? = some (some b') → a ∈ b'.ows → a ∈ b.ows → False := fun {j b'} q r z => by
      obtain ⟨o, h5, _⟩ := e.mu a ⟨j, b', q, r⟩
      rw [(hf a z).1] at h5; cases h5
    rcases set_at h1 with ⟨rfl, q⟩ | ⟨hj, q⟩ <;> rcases set_at h2 with ⟨rfl, q'⟩ | ⟨hk, q'⟩
    · rfl
    · cases q; exact (old q' h4 h3).elim
    · cases q'; exact (old q h3 h4).elim
    · exact e.dj j k b1 b2 a q q' h3 h4
  · rcases set_at h with ⟨_, q⟩ | ⟨_, q⟩
    · cases q; exact hn
    · exact e.nd j b' q
  · rcases set_at h with ⟨rfl, q⟩ | ⟨hj, q⟩
    · cases q
      exact ⟨v, by rw [List.getElem?_set_self (by rw [e.len]; exact hi)], hb⟩
    · obtain ⟨w, h1, h2⟩ := e.at_ j b' q
      exact ⟨w, by rw [List.getElem?_set_ne (fun z => hj z.symm)]; exact h1, h2.mono (fun n => vis_ext e.f0 e.h0 s ho) s⟩
/-- a slot is forgotten -/
theorem Sits.drop {i : Nat} (e : Sits K c G σ H) : Sits K c (G.set i none) σ H := by
  have at' : ∀ {j b}, (G.set i none)[j]? = some (some b) → G[j]? = some (some b) := fun {j b} h => by
    rcases set_at h with ⟨_, q⟩ | ⟨_, q⟩
    · cases q
    · exact q
  have sub : ∀ a, OF (G.set i none) a → OF G a := fun a ⟨j, b', h1, h2⟩ => ⟨j, b', at' h1, h2⟩
  refine ⟨e.f0, e.h0, e.b0, fun a h => e.fr a (sub a h), fun a h => e.mu a (sub a h), fun j k b1 b2 a h1 h2 => e.dj j k b1 b2 a (at' h1) (at' h2), fun j b' h => e.nd j b' (at' h), by simp [e.len], fun j b' h => ?_⟩
  obtain ⟨w, h1, h2⟩ := e.at_ j b' (at' h)
  exact ⟨w, h1, h2.mono (fun n => vis_ext e.f0 e.h0 (Same.refl H) fun a _ _ p => sub a p) (Same.refl H)⟩
/-- less is known: each slot as it was, or forgotten -/
def Les (G G' : Sl) : Prop := G'.length = G.length ∧ ∀ (i : Nat) (b : B), G'[i]? = some (some b) → G[i]? = some (some b)
theorem Sits.less (e : Sits K c G σ H) (l : Les G G') : Sits K c G' σ H := by
  have sub : ∀ a, OF G' a → OF G a := fun a ⟨j, b', h1, h2⟩ => ⟨j, b', l.2 _ _ h1, h2⟩
  refine ⟨e.f0, e.h0, e.b0, fun a h => e.fr a (sub a h), fun a h => e.mu a (sub a h), fun j k b1 b2 a h1 h2 => e.dj j k b1 b2 a (l.2 _ _ h1) (l.2 _ _ h2), fun j b' h => e.nd j b' (l.2 _ _ h), by rw [e.len, l.1], fun j b' h => ?_⟩
  obtain ⟨w, h1, h2⟩ := e.at_ j b' (l.2 _ _ h)
  exact ⟨w, h1, h2.mono (fun n => vis_ext e.f0 e.h0 (Same.refl H) fun a _ _ p => sub a p) (Same.refl H)⟩
/-- a list or dict of one's own is changed in its place -/
theorem Sits.write {i : Nat} {b b' : B} {a : Addr} {o : HO} (e : Sits K c G σ H) (hi : G[i]? = some (some b)) (hw : b'.ows = b.ows) (ha : a ∈ b.ows) (hm : ∀ xs, o ≠ .tup xs)
    (hb : ∀ v, RepB K (fun n => vis c (OF G) (some n) H) H v b → RepB K (fun n => vis c (OF G) (some n) H) (upd H a o) v b') : Sits K c (G.set i (some b')) σ (upd H a o) := by
  have hl : i < G.length := (List.getElem?_eq_some_iff.mp hi).1
  have eq : OF (G.set i (some b')) = OF G := by
    funext x
    refine propext ⟨fun ⟨j, b1, h1, h2⟩ => ?_, fun ⟨j, b1, h1, h2⟩ => ?_⟩
    · rcases set_at h1 with ⟨rfl, q⟩ | ⟨_, q⟩
      · cases q; exact ⟨j, b, hi, hw ▸ h2⟩
      · exact ⟨j, b1, q, h2⟩
    · by_cases z : i = j
      · subst z
        rw [hi] at h1; cases h1
        exact ⟨i, b', by rw [List.getElem?_set_self hl], hw ▸ h2⟩
      · exact ⟨j, b1, by rw [List.getElem?_set_ne z]; exact h1, h2⟩
  have own : OF G a := ⟨i, b, hi, ha⟩
  have hv : ∀ n, vis c (OF G) (some n) (upd H a o) = vis c (OF G) (some n) H := fun n => by
    funext x
    show hide (OF G) _ x = hide (OF G) _ x
    by_cases p : OF G x
    · rw [hide_none p, hide_none p]
    · rw [hide_at p, hide_at p]
      have : upd H a o x = H x := upd_ne fun z => p (z ▸ own)
      unfold plus
      rw [this]
  have st : ∀ {K : Hp}, K a = none → Same K H → Same K (upd H a o) := fun {K} k s x u h => by
    rw [upd_ne (ne_of_none h k)]; exact s _ _ h
  refine ⟨e.f0, st (e.fr a own).1 e.h0, st (e.fr a own).2 e.b0, fun x h => e.fr x (eq ▸ h), fun x h => ?_, fun j k b1 b2 x h1 h2 h3 h4 => ?_, fun j b1 h => ?_, by simp [e.len], fun j b1 h => ?_⟩
  · by_cases z : x = a
    · subst z; exact ⟨o, upd_same, hm⟩
    · obtain ⟨u, h1, h2⟩ := e.mu x (eq ▸ h)
      exact ⟨u, by rw [upd_ne z]; exact h1, h2⟩
  · have bk : ∀ {j : Nat} {b1 : B}, (G.set i (some b'))[j]? = some (some b1) → x ∈ b1.ows → ∃ b2, G[j]? = some (some b2) ∧ x ∈ b2.ows := fun {j b1} q r => by
      rcases set_at q with ⟨rfl, q'⟩ | ⟨_, q'⟩
      · cases q'; exact ⟨b, hi, hw ▸ r⟩
      · exact ⟨b1, q', r⟩
    obtain ⟨c1, q1, r1⟩ := bk h1 h3
    obtain ⟨c2, q2, r2⟩ := bk h2 h4
    exact e.dj j k c1 c2 x q1 q2 r1 r2
  · rcases set_at h with ⟨_, q⟩ | ⟨_, q⟩
    · cases q; rw [hw]; exact e.nd i b hi
    · exact e.nd j b1 q
  · have hv' : (fun n => vis c (OF G) (some n) (upd H a o)) = fun n => vis c (OF G) (some n) H := funext hv
    rw [eq, hv']
    rcases set_at h with ⟨rfl, q⟩ | ⟨hj, q⟩
    · cases q
      obtain ⟨w, h1, h2⟩ := e.at_ j b hi
      refine ⟨w, h1, ?_⟩
      exact hb w h2
    · obtain ⟨w, h1, h2⟩ := e.at_ j b1 q
      refine ⟨w, h1, ?_⟩
      have keep : ∀ x ∈ b1.ows, x ≠ a := fun x hx z => hj (e.dj j i b1 b x q hi hx (z ▸ ha))
      cases b1 with
      | sh n d => exact h2
      | own n x ds =>
        obtain ⟨r1, vs, r2, r3⟩ := h2
        exact ⟨r1, vs, by rw [upd_ne (keep x (by simp [B.ows]))]; exact r2, r3⟩
      | odic n x ks =>
        obtain ⟨r1, vs, r2, r3⟩ := h2
        exact ⟨r1, vs, by rw [upd_ne (keep x (by simp [B.ows]))]; exact r2, r3⟩
      | tupo n xs =>
        obtain ⟨t, vs, r1, r2, r3⟩ := h2
        refine ⟨t, vs, r1, ?_, ?_⟩
        · rw [upd_ne fun z => ?_]
          · exact r2
          · obtain ⟨u, h5, h6⟩ := e.mu a own
            rw [← z, r2] at h5
            exact h6 vs (Option.some.inj h5).symm
        · have : ∀ x ∈ itOws xs, x ≠ a := keep
          clear r2 q h hb keep
          induction r3 with
          | nil => exact .nil
          | @cons v x vs xs r _ ih =>
            refine .cons (RepIt.mono (Same.refl _) (fun y hy ws q => ?_) r) (ih fun y hy => this y ?_)
            · rw [upd_ne (this y ?_)]
              · exact q
              · cases x with
                | inl d => simp [itOws] at hy
                | inr p => obtain ⟨z, ds⟩ := p; simp [itOws] at hy ⊢; exact .inl hy
            · cases x with
              | inl d => exact hy
              | inr p => obtain ⟨z, ds⟩ := p; exact List.mem_cons_of_mem _ hy
end
end
end TB

/-! TB rules: judgements over slots and data, one lemma a construct. -/
namespace TB
open PySem PySem.Spec PyProof.Rows L2
section
variable {K : PySem.W.Frag}

/-! ### judgements -/
def DE (K : PySem.W.Frag) (m : Md) (te : TE) (G : Sl) (d : PyData) : Prop := ∀ (c : C) (σ : L2.St) (H : Hp), Sits K c G σ H → ∀ Q : VK, (∀ v H', Same H H' → Rep K (vis c (OF G) m H') v d → Q v H') → te σ H Q
def DA (K : PySem.W.Frag) (m : Md) (ta : TA) (G : Sl) (ds : List PyData) : Prop := ∀ (c : C) (σ : L2.St) (H : Hp), Sits K c G σ H → ∀ Q : List V → Hp → Prop, (∀ vs H', Same H H' → Reps K (vis c (OF G) m H') vs ds → Q vs H') → ta σ H Q
def DT (K : PySem.W.Frag) (tt : TT) (G : Sl) (b : Bool) : Prop := ∀ (c : C) (σ : L2.St) (H : Hp), Sits K c G σ H → ∀ Q : Bool → Hp → Prop, (∀ H', Same H H' → Q b H') → tt σ H Q
def DO (K : PySem.W.Frag) (to : TO) (G : Sl) (o : Option Int) : Prop := ∀ (c : C) (σ : L2.St) (H : Hp), Sits K c G σ H → ∀ Q : Option Int → Hp → Prop, (∀ H', Same H H' → Q o H') → to σ H Q
/-- what a def hands back, by data -/
inductive R where
  | val (n : Bool) (d : PyData)
  | own (n : Bool) (ds : List PyData)
  | odic (n : Bool) (ks : List (PyData × PyData))
  | tupo (n : Bool) (xs : List (Sum PyData (List PyData)))
def itR : Sum PyData (Addr × List PyData) → Sum PyData (List PyData)
  | .inl d => .inl d
  | .inr (_, ds) => .inr ds
def B.strip : B → R
  | .sh n d => .val n d
  | .own n _ ds => .own n ds
  | .odic n _ ks => .odic n ks
  | .tupo n xs => .tupo n (xs.map itR)
def itP : Sum PyData (List PyData) → PyData
  | .inl d => d
  | .inr ds => .list ds
def R.full : R → PyData
  | .val _ d => d
  | .own _ ds => .list ds
  | .odic _ ks => .dict ks
  | .tupo _ xs => .tuple (xs.map itP)
def R.nw : R → Bool
  | .val n _ => n
  | .own n _ => n
  | .odic n _ => n
  | .tupo n _ => n
theorem full_strip : ∀ b : B, b.strip.full = b.full
  | .sh _ _ => rfl
  | .own _ _ _ => rfl
  | .odic _ _ _ => rfl
  | .tupo _ xs => by
    show PyData.tuple ((xs.map itR).map itP) = PyData.tuple (xs.map itData)
    rw [List.map_map]
    congr 1
    refine List.map_congr_left fun x _ => ?_
    cases x with
    | inl d => rfl
    | inr p => rfl
noncomputable def gq (P : Hp) (n : Bool) : Hp := if n then non else P
/-- v holds r: lists of its own are new since H; what stands still is seen by P, or new -/
def RetR (K : PySem.W.Frag) (P H H' : Hp) (v : V) (r : R) : Prop :=
  ∃ b : B, b.strip = r ∧ b.ows.Nodup ∧ (∀ a ∈ b.ows, H a = none) ∧ RepB K (fun n => hide (fun a => a ∈ b.ows) (plus (gq P n) H H')) H' v b
/-- an expression hands back r -/
def DR (K : PySem.W.Frag) (te : TE) (G : Sl) (r : R) : Prop := ∀ (c : C) (σ : L2.St) (H : Hp), Sits K c G σ H → ∀ Q : VK, (∀ v H', Same H H' → (∃ b : B, b.strip = r ∧ b.ows.Nodup ∧ (∀ a ∈ b.ows, H a = none) ∧
  RepB K (fun n => hide (fun a => a ∈ b.ows) (vis c (OF G) (some n) H')) H' v b) → Q v H') → te σ H Q
structure Post where
  nx : Sl → Prop := fun _ => False
  rt : R → Prop := fun _ => False
  bk : Sl → Prop := fun _ => False
  ct : Sl → Prop := fun _ => False
def DS (K : PySem.W.Frag) (ts : TS) (G : Sl) (P : Post) : Prop := ∀ (c : C) (σ : L2.St) (H : Hp) (D : Ends), Sits K c G σ H →
  (∀ G' σ' H', P.nx G' → Sits K c G' σ' H' → D.nx σ' H') → (∀ r v H', P.rt r → Same c.H0 H' → RetR K c.F c.H0 H' v r → D.rt v H') →
  (∀ G' σ' H', P.bk G' → Sits K c G' σ' H' → D.bk σ' H') → (∀ G' σ' H', P.ct G' → Sits K c G' σ' H' → D.ct σ' H') → ts D σ H

section
variable {m m' : Md} {n : Bool} {te ta tb tx : TE} {tt tu : TT} {G : Sl} {d x y z : PyData} {ds es : List PyData} {i j : Nat} {c : C} {σ : L2.St} {H H' : Hp} {v : V}

/-! ### helpers -/
theorem non_of {K1 K2 : Hp} {a : Addr} (e : Same K1 K2) (h : K2 a = none) : K1 a = none := by
  cases q : K1 a with
  | none => rfl
  | some u => have := e _ _ q; rw [h] at this; cases this
theorem Sits.nof (e : Sits K c G σ H) {a : Addr} (h : H a = none) : ¬ OF G a := fun p => by
  obtain ⟨o, h1, _⟩ := e.mu a p
  rw [h] at h1; cases h1
/-- what is seen, and what is new -/
theorem Sits.plus (e : Sits K c G σ H) (s : Same H H') : Same (plus (vis c (OF G) m H) H H') (vis c (OF G) m H') := by
  cases m with
  | none => exact plus_same (Same.refl H) s
  | some k =>
    intro a o h
    show hide (OF G) _ a = some o
    rcases plus_cases h with ⟨h1, h2⟩ | ⟨xs, h1, rfl⟩ | ⟨h1, _⟩
    · rw [hide_at (e.nof h1), plus_new (non_of e.h0 h1)]; exact h2
    · rw [hide_at fun p => ?_]
      · cases q : c.H0 a with
        | none => rw [plus_new q, s _ _ h1]; rfl
        | some u =>
          have := e.h0 _ _ q
          rw [h1] at this; cases this
          exact plus_tup q
      · obtain ⟨o, h3, h4⟩ := e.mu a p
        rw [h1] at h3; exact h4 xs (Option.some.inj h3).symm
    · exact (vis_ext (m := some k) e.f0 e.h0 s fun _ _ _ p => p) a o h1
theorem Sits.modes (e : Sits K c G σ H) (n : Bool) : Same (vis c (OF G) (some true) H) (vis c (OF G) (some n) H) := vis_le n
/-- a mode may be read where another one holds -/
def okM : Md → Bool → Bool
  | none, _ => true
  | some true, n => n
  | some false, _ => true
theorem vis_ok (e : Sits K c G σ H) (h : okM m n = true) : Same (vis c (OF G) (some n) H) (vis c (OF G) m H) := by
  cases m with
  | none => exact e.vsame
  | some k =>
    cases k
    · cases n
      · exact Same.refl _
      · exact vis_le false
    · cases n
      · cases h
      · exact Same.refl _

/-! ### values -/
theorem de_sh (h : G[i]? = some (some (.sh n d))) (hm : okM m n = true) : DE K m (tVar i) G d := fun c σ H e Q q => by
  obtain ⟨v, h1, h2⟩ := e.at_ i _ h
  exact ⟨v, h1, q v H (Same.refl H) (Rep.mono (vis_ok e hm) h2)⟩
theorem de_full {b : B} (h : G[i]? = some (some b)) : DE K none (tVar i) G b.full := fun c σ H e Q q => by
  obtain ⟨v, h1, h2⟩ := e.at_ i _ h
  exact ⟨v, h1, q v H (Same.refl H) (h2.full fun n => e.vsame)⟩
theorem de_own {a : Addr} (h : G[i]? = some (some (.own n a ds))) : DE K none (tVar i) G (.list ds) := de_full h
theorem de_odic {a : Addr} {ks : List (PyData × PyData)} (h : G[i]? = some (some (.odic n a ks))) : DE K none (tVar i) G (.dict ks) := de_full h
theorem de_imm (h : DE K none te G d) (hi : imm d = true) : DE K m te G d := fun c σ H e Q q => h c σ H e Q fun v H' s r => q v H' s ((e.ext s).imm r hi)
theorem de_pk (h : DE K (some n) te G d) : DE K none te G d := fun c σ H e Q q => h c σ H e Q fun v H' s r => q v H' s (Rep.mono (e.ext s).vsame r)
theorem de_nw (h : DE K (some true) te G d) : DE K m te G d := fun c σ H e Q q => h c σ H e Q fun v H' s r => q v H' s (Rep.mono (vis_ok (e.ext s) (by cases m with | none => rfl | some k => cases k <;> rfl)) r)
theorem de_int {i : Int} : DE K m (tC (.int i)) G (.int i) := fun c σ H e Q q => q _ H (Same.refl H) (.int i)
theorem de_bl {b : Bool} : DE K m (tC (.bl b)) G (.bool b) := fun c σ H e Q q => q _ H (Same.refl H) (.bl b)
theorem de_str {s : Str} : DE K m (tC (.str s)) G (.str s) := fun c σ H e Q q => q _ H (Same.refl H) (.str s)
theorem de_non : DE K m (tC .non) G .none := fun c σ H e Q q => q _ H (Same.refl H) .non
theorem de_to {d' : PyData} (h : DE K m te G d) (e : d = d') : DE K m te G d' := e ▸ h
theorem dt_to {b b' : Bool} (h : DT K tt G b) (e : b = b') : DT K tt G b' := e ▸ h
theorem da_nil : DA K m tNil G [] := fun c σ H e Q q => q _ H (Same.refl H) .nil
theorem da_cons {tr : TA} (h : DE K m te G d) (hr : DA K m tr G ds) : DA K m (tCons te tr) G (d :: ds) := fun c σ H e Q q =>
  h c σ H e _ fun v H1 s1 r1 => hr c σ H1 (e.ext s1) _ fun vs H2 s2 r2 => q _ H2 (s1.trans s2) (.cons (Rep.mono ((e.ext s1).vext s2) r1) r2)
theorem da_pk {t : TA} (h : DA K (some n) t G ds) : DA K none t G ds := fun c σ H e Q q => h c σ H e Q fun v H' s r => q v H' s (Reps.mono (e.ext s).vsame r)

/-! ### operations -/
/-- by data: P sees the operands; the result is seen by P, or new -/
def Opd (K : PySem.W.Frag) (r : R2) (x y z : PyData) : Prop := ∀ (P H : Hp) (v u : V) (Q : VK), Same P H → Rep K P v x → Rep K P u y → (∀ w H', Same H H' → Rep K (plus P H H') w z → Q w H') → r v u H Q
theorem de_op {r : R2} (hr : Opd K r x y z) (ha : DE K m ta G x) (hb : DE K m tb G y) : DE K m (tOp r ta tb) G z := fun c σ H e Q q =>
  ha c σ H e _ fun v H1 s1 r1 => hb c σ H1 (e.ext s1) _ fun u H2 s2 r2 => hr _ H2 v u _ ((e.ext s1).ext s2).vsame (Rep.mono ((e.ext s1).vext s2) r1) r2 fun w H3 s3 r3 =>
    q w H3 ((s1.trans s2).trans s3) (Rep.mono (((e.ext s1).ext s2).plus s3) r3)
/-- a value without lists -/
theorem de_op0 {r : R2} (hr : Opd K r x y z) (hz : imm z = true) (ha : DE K none ta G x) (hb : DE K none tb G y) : DE K m (tOp r ta tb) G z := de_imm (de_op hr ha hb) hz
theorem rep_imm {P H : Hp} {w : V} (h : Rep K non w z) : Rep K (plus P H H') w z := Rep.mono (fun _ _ q => by cases q) h
theorem opd_I0 {g : Int → Int → V} {i j : Int} (hz : Rep K non (g i j) z) : Opd K (rI0 g) (.int i) (.int j) z := fun P H v u Q s r1 r2 q => by
  cases r1; cases r2
  exact ⟨i, j, rfl, rfl, q _ H (Same.refl H) (rep_imm hz)⟩
theorem opd_I {C : Int → Int → Prop} {g : Int → Int → V} {i j : Int} (hc : C i j) (hz : Rep K non (g i j) z) : Opd K (rI C g) (.int i) (.int j) z := fun P H v u Q s r1 r2 q => by
  cases r1; cases r2
  exact ⟨i, j, rfl, rfl, hc, q _ H (Same.refl H) (rep_imm hz)⟩
/-- a new list, a new tuple -/
theorem rep_newL {P H : Hp} {p : Addr} {vs : List V} (hp : H p = none) (h : Reps K P vs ds) (s : Same P H) : Rep K (plus P H (upd H p (.lst vs))) (.ref p) (.list ds) :=
  .lst (.inl (.inl (by rw [plus_new hp, upd_same]; rfl))) (Reps.mono (fun a o q => plus_old q s) h)
theorem rep_newT {P H : Hp} {p : Addr} {vs : List V} (hp : H p = none) (h : Reps K P vs ds) (s : Same P H) : Rep K (plus P H (upd H p (.tup vs))) (.ref p) (.tuple ds) :=
  .tup (by rw [plus_new hp, upd_same]; rfl) (Reps.mono (fun a o q => plus_old q s) h)
theorem same_new {p : Addr} {o : HO} (h : H p = none) : Same H (upd H p o) := fun a u e => by
  rw [upd_ne (ne_of_none e h)]; exact e
theorem rep_old {P H : Hp} {w : V} (h : Rep K P w z) (s : Same P H) : Rep K (plus P H H) w z := Rep.mono (fun a o q => plus_old q s) h

/-! + -/
def rAddI : R2 := rI0 fun i j => .int (i + j)
def rAddS : R2 := fun x y H Q => ∃ i j, x = .str i ∧ y = .str j ∧ i.length + j.length ≤ sizeLine ∧ Q (.str (i ++ j)) H
theorem rd_lst {P H : Hp} {a : Addr} {xs : List V} (s : Same P H) (h : SqL K P a xs) : SqL K H a xs := Same.seq s h
theorem rd_tup {P H : Hp} {a : Addr} {xs : List V} (s : Same P H) (h : P a = some (.tup xs)) : SqT K H a xs := .inl (.inl (s _ _ h))
/-- lists, also locked ones, also the module's -/
def rCatQ (K : PySem.W.Frag) : R2 := fun x y H Q => ∃ l b xs zs, x = .ref l ∧ y = .ref b ∧ SqL K H l xs ∧ SqL K H b zs ∧ xs.length + zs.length ≤ sizeLine ∧ ∀ p, H p = none → Q (.ref p) (upd H p (.lst (xs ++ zs)))
theorem op_catQ {X : Cx} : OpR X (binaryOp .Add) (rCatQ X.K) := by
  intro pins s σ H x y v u Q I rx ry h
  obtain ⟨l, b, xs, zs, rfl, rfl, hH, hB, hz, q⟩ := h
  cases rx
  cases ry
  obtain ⟨its, r, pl, _⟩ := I.list hH
  obtain ⟨its2, r2, pl2, _⟩ := I.list hB
  have hl := r.length
  have hl2 := r2.length
  obtain ⟨⟨cls, dd, data, sl⟩, ho, hc, n, hd⟩ := pl.isList
  obtain ⟨⟨cls2, dd2, data2, sl2⟩, ho2, hc2, n2, hd2⟩ := pl2.isList
  simp only at hc hd hc2 hd2
  subst hc hd hc2 hd2
  have e : its.toArray ++ its2.toArray = (its ++ its2).toArray := by simp
  refine concat_meets ⟨_, ho, rfl⟩ ⟨_, ho2, rfl⟩ noFill_list_add seq_list_add PySem.F.slot_list_add PySem.F.entry_list_add (PySem.F.args_list_add_2 _ _) (list_addW l b its.toArray its2.toArray n n2 dd dd2 sl sl2 (by simp; omega)) ⟨ho, ho2, ?_⟩
  rw [e]
  exact ⟨.ref _, _, I.lnew (t' := s.toks) (r.append r2) (by rw [List.length_append]; omega), rfl, q _ I.fresh⟩
end
section
variable {m m' : Md} {n : Bool} {te ta tb tx : TE} {tt tu : TT} {G : Sl} {d x y z : PyData} {ds es : List PyData} {i j : Nat} {c : C} {σ : L2.St} {H H' : Hp} {v : V}
def rPlusQ (K : PySem.W.Frag) : R2 := fun x y H Q => (rAddI x y H Q ∨ rCatQ K x y H Q) ∨ rCatA K x y H Q ∨ rAddS x y H Q
theorem op_plusQ {X : Cx} : OpR X (binaryOp .Add) (rPlusQ X.K) := OpR.or (OpR.or op_add op_catQ) (OpR.or op_catA op_add_str)
theorem opq_add {i j : Int} : Opd K (rPlusQ K) (.int i) (.int j) (.int (i + j)) := fun P H v u Q s r1 r2 q => .inl (.inl (opd_I0 (g := fun i j => .int (i + j)) (.int _) P H v u Q s r1 r2 q))
theorem opq_catT (hl : ds.length + es.length ≤ 100000) : Opd K (rPlusQ K) (.tuple ds) (.tuple es) (.tuple (ds ++ es)) := fun P H v u Q s r1 r2 q => by
  cases r1 with
  | @tup a xs _ h1 r1 =>
    cases r2 with
    | @tup b ys _ h2 r2 =>
      refine .inr (.inl ⟨a, b, xs, ys, rfl, rfl, rd_tup s h1, rd_tup s h2, (by rw [Reps.length r1, Reps.length r2]; exact Nat.le_trans hl (by decide)), fun hx => ?_, fun hx hy => ?_, fun hx hy p hp => ?_⟩)
      · subst hx; cases r1; exact q _ H (Same.refl H) (rep_old (.tup h2 r2) s)
      · subst hy; cases r2; rw [List.append_nil] at q; exact q _ H (Same.refl H) (rep_old (.tup h1 r1) s)
      · exact q _ _ (same_new hp) (rep_newT hp (r1.append r2) s)
theorem opq_cat (hl : ds.length + es.length ≤ 100000) : Opd K (rPlusQ K) (.list ds) (.list es) (.list (ds ++ es)) := fun P H v u Q s r1 r2 q => by
  cases r1 with
  | @lst a xs _ h1 r1 =>
    cases r2 with
    | @lst b ys _ h2 r2 =>
      exact .inl (.inr ⟨a, b, xs, ys, rfl, rfl, rd_lst s h1, rd_lst s h2, (by rw [Reps.length r1, Reps.length r2]; exact Nat.le_trans hl (by decide)), fun p hp => q _ _ (same_new hp) (rep_newL hp (r1.append r2) s)⟩)
theorem opq_str {a b : Str} (hl : a.length + b.length ≤ 100000) : Opd K (rPlusQ K) (.str a) (.str b) (.str (a ++ b)) := fun P H v u Q s r1 r2 q => by
  cases r1; cases r2
  exact .inr (.inr ⟨a, b, rfl, rfl, Nat.le_trans hl (by decide), q _ H (Same.refl H) (.str _)⟩)
theorem de_add {a b : Int} (ha : DE K none ta G (.int a)) (hb : DE K none tb G (.int b)) : DE K m (tOp (rPlusQ K) ta tb) G (.int (a + b)) := de_op0 opq_add rfl ha hb
theorem de_catT (ha : DE K m ta G (.tuple ds)) (hb : DE K m tb G (.tuple es)) (hl : ds.length + es.length ≤ 100000) : DE K m (tOp (rPlusQ K) ta tb) G (.tuple (ds ++ es)) := de_op (opq_catT hl) ha hb
theorem de_cat (ha : DE K m ta G (.list ds)) (hb : DE K m tb G (.list es)) (hl : ds.length + es.length ≤ 100000) : DE K m (tOp (rPlusQ K) ta tb) G (.list (ds ++ es)) := de_op (opq_cat hl) ha hb
theorem de_catS {a b : Str} (ha : DE K none ta G (.str a)) (hb : DE K none tb G (.str b)) (hl : a.length + b.length ≤ 100000) : DE K m (tOp (rPlusQ K) ta tb) G (.str (a ++ b)) := de_op0 (opq_str hl) rfl ha hb

/-! - // % ** -/
def rSubI : R2 := rI0 fun i j => .int (i - j)
theorem op_subI {X : Cx} : OpR X (binaryOp .Sub) rSubI := op_sub
theorem de_sub {a b : Int} (ha : DE K none ta G (.int a)) (hb : DE K none tb G (.int b)) : DE K m (tOp rSubI ta tb) G (.int (a - b)) := de_op0 (opd_I0 (g := fun i j => .int (i - j)) (.int _)) rfl ha hb
def rMod : R2 := rI (fun _ j => 0 < j) fun i j => .int (i % j)
theorem op_modI {X : Cx} : OpR X (binaryOp .Mod) rMod := op_mod
theorem de_mod {a b : Int} (ha : DE K none ta G (.int a)) (hb : DE K none tb G (.int b)) (h : 0 < b) : DE K m (tOp rMod ta tb) G (.int (a % b)) := de_op0 (opd_I (g := fun i j => .int (i % j)) h (.int _)) rfl ha hb
def rFloor : R2 := rI CDivW fun i j => .int (i / j)
theorem op_floor {X : Cx} : OpR X (binaryOp .FloorDiv) rFloor := op_fdivW
theorem de_floor {a b : Int} (ha : DE K none ta G (.int a)) (hb : DE K none tb G (.int b)) (h : 0 < b) (h2 : b.natAbs.log2 < 9000) : DE K m (tOp rFloor ta tb) G (.int (a / b)) := de_op0 (opd_I (C := CDivW) (g := fun i j => .int (i / j)) ⟨h, h2⟩ (.int _)) rfl ha hb
def rPow : R2 := rI CPow fun i j => .int (i ^ j.toNat)
theorem op_powI {X : Cx} : OpR X (binaryOp .Pow) rPow := op_pow
theorem de_pow {a b : Int} (ha : DE K none ta G (.int a)) (hb : DE K none tb G (.int b)) (h : 0 ≤ b ∧ b ≤ 1000000 ∧ a.natAbs < 2 ^ 64) : DE K m (tOp rPow ta tb) G (.int (a ^ b.toNat)) := de_op0 (opd_I (C := CPow) (g := fun i j => .int (i ^ j.toNat)) h (.int _)) rfl ha hb
/-! * : ints of together at most a hundred million bits; a tuple so many times -/
def CMulX (i j : Int) : Prop := i.natAbs.log2 + j.natAbs.log2 < 100000000
theorem CMulX.ok {i j : Int} (h : CMulX i j) : IntMulOk i j := by
  have b : ∀ x : Int, Builtin.Int.intBits x ≤ x.natAbs.log2 + 1 := fun x => by
    unfold Builtin.Int.intBits
    split <;> omega
  have h1 := b i
  have h2 := b j
  have h3 : i.natAbs.log2 + j.natAbs.log2 < 100000000 := h
  have e : bitsLine = 134217728 := by decide
  unfold IntMulOk
  intro z
  rw [Bool.and_eq_true] at z
  have z2 := z.2
  unfold Builtin.Int.intTooBig at z2
  have z3 := of_decide_eq_true z2
  rw [e] at z3
  omega
def rMulI : R2 := rI CMulX fun i j => .int (i * j)
theorem op_mulI {X : Cx} : OpR X (binaryOp .Mult) rMulI := opI fun _ _ _ _ _ _ _ hc q => PyProof.Rows.mul_int q hc.ok
def rTimes (K : PySem.W.Frag) : R2 := fun x y H Q => rMulI x y H Q ∨ rRepT K x y H Q
theorem op_times {X : Cx} : OpR X (binaryOp .Mult) (rTimes X.K) := OpR.or op_mulI op_repT
theorem de_mul {a b : Int} (ha : DE K none ta G (.int a)) (hb : DE K none tb G (.int b)) (h : CMulX a b) : DE K m (tOp (rTimes K) ta tb) G (.int (a * b)) :=
  de_op0 (fun P H v u Q s r1 r2 q => .inl (opd_I (C := CMulX) (g := fun i j => .int (i * j)) h (.int _) P H v u Q s r1 r2 q)) rfl ha hb
theorem Reps.flat {H : Hp} {vs : List V} {ds : List PyData} (h : Reps K H vs ds) : ∀ k : Nat, Reps K H (List.replicate k vs).flatten (List.replicate k ds).flatten
  | 0 => .nil
  | k + 1 => by rw [List.replicate_succ, List.replicate_succ, List.flatten_cons, List.flatten_cons]; exact h.append (Reps.flat h k)
theorem de_repT {k : Int} (ha : DE K m ta G (.tuple ds)) (hb : DE K m tb G (.int k)) (h0 : ds ≠ []) (h2 : 2 ≤ k) (hk : k ≤ 1000) (hl : ds.length ≤ 1000) : DE K m (tOp (rTimes K) ta tb) G (.tuple (List.replicate k.toNat ds).flatten) :=
  de_op (fun P H v u Q s r1 r2 q => by
    cases r2
    cases r1 with
    | @tup a xs _ h1 r1 => exact .inr ⟨a, k, xs, rfl, rfl, rd_tup s h1, (fun z => by subst z; cases r1; exact h0 rfl), h2, hk, by rw [Reps.length r1]; exact hl, fun p hp => q _ _ (same_new hp) (rep_newT hp (Reps.flat r1 _) s)⟩) ha hb
/-! ### comparisons -/
def rLt : R2 := rI0 fun i j => .bl (decide (i < j))
def rLe : R2 := rI0 fun i j => .bl (decide (i ≤ j))
def rGt : R2 := rI0 fun i j => .bl (decide (j < i))
def rGe : R2 := rI0 fun i j => .bl (decide (j ≤ i))
theorem op_ltI {X : Cx} : OpR X (compareOp .Lt) rLt := op_lt
theorem op_leI {X : Cx} : OpR X (compareOp .LtE) rLe := op_le
theorem op_gtI {X : Cx} : OpR X (compareOp .Gt) rGt := op_gt
theorem op_geI {X : Cx} : OpR X (compareOp .GtE) rGe := op_ge
theorem de_lt {a b : Int} (ha : DE K none ta G (.int a)) (hb : DE K none tb G (.int b)) : DE K m (tOp rLt ta tb) G (.bool (decide (a < b))) := de_op0 (opd_I0 (g := fun i j => .bl (decide (i < j))) (.bl _)) rfl ha hb
theorem de_le {a b : Int} (ha : DE K none ta G (.int a)) (hb : DE K none tb G (.int b)) : DE K m (tOp rLe ta tb) G (.bool (decide (a ≤ b))) := de_op0 (opd_I0 (g := fun i j => .bl (decide (i ≤ j))) (.bl _)) rfl ha hb
theorem de_gt {a b : Int} (ha : DE K none ta G (.int a)) (hb : DE K none tb G (.int b)) : DE K m (tOp rGt ta tb) G (.bool (decide (b < a))) := de_op0 (opd_I0 (g := fun i j => .bl (decide (j < i))) (.bl _)) rfl ha hb
theorem de_ge {a b : Int} (ha : DE K none ta G (.int a)) (hb : DE K none tb G (.int b)) : DE K m (tOp rGe ta tb) G (.bool (decide (b ≤ a))) := de_op0 (opd_I0 (g := fun i j => .bl (decide (j ≤ i))) (.bl _)) rfl ha hb
theorem de_eq (ha : DE K none ta G x) (hb : DE K none tb G y) (hx : SeqAt.shaped x = true) (hy : SeqAt.shaped y = true) : DE K m (tOp (rEqD K) ta tb) G (.bool (PyData.eqv x y)) :=
  de_op0 (fun P H v u Q s r1 r2 q => ⟨x, y, Rep.dp (Rep.mono s r1) (SeqAt.canLay_of_shaped hx), Rep.dp (Rep.mono s r2) (SeqAt.canLay_of_shaped hy), hx, hy, q _ H (Same.refl H) (.bl _)⟩) rfl ha hb
theorem de_ne (ha : DE K none ta G x) (hb : DE K none tb G y) (hx : SeqAt.shaped x = true) (hy : SeqAt.shaped y = true) : DE K m (tOp (rNeD K) ta tb) G (.bool (!PyData.eqv x y)) :=
  de_op0 (fun P H v u Q s r1 r2 q => ⟨x, y, Rep.dp (Rep.mono s r1) (SeqAt.canLay_of_shaped hx), Rep.dp (Rep.mono s r2) (SeqAt.canLay_of_shaped hy), hx, hy, q _ H (Same.refl H) (.bl _)⟩) rfl ha hb
theorem eqv_int {a b : Int} : PyData.eqv (.int a) (.int b) = decide (a = b) := by
  show (a == b) = _
  by_cases h : a = b <;> simp [h]
theorem de_eqI {a b : Int} (ha : DE K none ta G (.int a)) (hb : DE K none tb G (.int b)) : DE K m (tOp (rEqD K) ta tb) G (.bool (decide (a = b))) := de_to (de_eq ha hb rfl rfl) (congrArg _ eqv_int)
theorem de_neI {a b : Int} (ha : DE K none ta G (.int a)) (hb : DE K none tb G (.int b)) : DE K m (tOp (rNeD K) ta tb) G (.bool (!decide (a = b))) := de_to (de_ne ha hb rfl rfl) (by rw [eqv_int])
/-! is, is not: None, True, False on the right -/
def konst : V → Bool
  | .non => true
  | .bl _ => true
  | _ => false
def rIs : R2 := fun x y H Q => konst y = true ∧ Q (.bl (decide (x = y))) H
def rIsNot : R2 := fun x y H Q => konst y = true ∧ Q (.bl (!decide (x = y))) H
theorem konst_is {x y : V} {v u : Value} (rx : RelV x v) (ry : RelV y u) (h : konst y = true) : plainIs v u = true ∧ (v == u) = decide (x = y) := by
  cases y <;> first | (cases h; done) | skip
  · cases ry
    cases x <;> first
      | (obtain ⟨t, rfl⟩ := rx; exact ⟨rfl, rfl⟩)
      | (cases rx; exact ⟨rfl, rfl⟩)
  · rename_i b
    cases ry
    cases x <;> first
      | (obtain ⟨t, rfl⟩ := rx; exact ⟨rfl, rfl⟩)
      | (cases rx; refine ⟨rfl, ?_⟩; first | rfl | (rename_i k; cases k <;> cases b <;> rfl))
theorem op_is {X : Cx} : OpR X (compareOp .Is) rIs := by
  intro pins s σ H x y v u Q I rx ry h
  obtain ⟨k, q⟩ := h
  obtain ⟨h1, h2⟩ := konst_is rx ry k
  exact wpAny_is_plain h1 (fin_bl I q h2.symm)
theorem op_isNot {X : Cx} : OpR X (compareOp .IsNot) rIsNot := by
  intro pins s σ H x y v u Q I rx ry h
  obtain ⟨k, q⟩ := h
  obtain ⟨h1, h2⟩ := konst_is rx ry k
  exact wpAny_isNot_plain h1 (fin_bl I q (by rw [h2]))
def isV : PyData → PyData → Bool
  | .none, .none => true
  | .bool a, .bool b => a == b
  | _, _ => false
def konstD : PyData → Bool
  | .none => true
  | .bool _ => true
  | _ => false
theorem is_iff {P : Hp} {v u : V} (h1 : Rep K P v x) (h2 : Rep K P u y) (h : konstD y = true) : konst u = true ∧ decide (v = u) = isV x y := by
  cases h2 <;> first | (cases h; done) | skip
  · cases h1 <;> exact ⟨rfl, by simp [isV]⟩
  · rename_i b
    cases h1 <;> refine ⟨rfl, ?_⟩ <;> first | (simp [isV]; done) | (rename_i k; cases k <;> cases b <;> rfl)
theorem de_is (ha : DE K none ta G x) (hb : DE K none tb G y) (h : konstD y = true) : DE K m (tOp rIs ta tb) G (.bool (isV x y)) :=
  de_op0 (fun P H v u Q s r1 r2 q => by
    obtain ⟨h1, h2⟩ := is_iff r1 r2 h
    exact ⟨h1, q _ H (Same.refl H) (by rw [h2]; exact .bl _)⟩) rfl ha hb
theorem de_isNot (ha : DE K none ta G x) (hb : DE K none tb G y) (h : konstD y = true) : DE K m (tOp rIsNot ta tb) G (.bool (!isV x y)) :=
  de_op0 (fun P H v u Q s r1 r2 q => by
    obtain ⟨h1, h2⟩ := is_iff r1 r2 h
    exact ⟨h1, q _ H (Same.refl H) (by rw [h2]; exact .bl _)⟩) rfl ha hb
end
end
end TB

/-! TB statements: subscripts, displays, tests, calls, statements, loops, comprehensions. -/
namespace TB
open PySem PySem.Spec PyProof.Rows L2
section
variable {K : PySem.W.Frag}
section
variable {m m' : Md} {n : Bool} {te ta tb tx tc : TE} {tt tu : TT} {G : Sl} {d x y z : PyData} {ds es : List PyData} {i j : Nat} {c : C} {σ : L2.St} {H H' : Hp} {v : V}

/-! ### subscripts, slices -/
def rDGet : R2 := fun x y H Q => ∃ a v, x = .ref a ∧ DGet H a y (some v) ∧ Q v H
theorem ix_dict {X : Cx} (hu : X.A.units + 1 < cLine) : IxR X rDGet := by
  intro value slice pins s σ H x y v u Q I rx ry h hs
  obtain ⟨a, w, rfl, g, q⟩ := h
  cases rx
  have hT := dict_typeIs I g
  unfold subscriptTail
  refine wpAny_bind ?_
  rw [getitemInPython_of_ne hT.not_modules]
  refine wpAny_bind (wpAny_specialOf hT PySem.F.slot_dict_getitem.lookup ?_)
  have fin : wpAny (model X.prog X.w) X.A (subscripted slice false (.ref a) u) (fun r s3 => wpAny (model X.prog X.w) X.A (letTemporaryGo value (.ref a) r >>= fun _ => pure r) (EP X pins σ Q) X.xe s3) X.xe s := by
    rw [hs]
    exact wpAny_operating (wpAny_mono (d_getItem hu I g ry fun w' s3 I3 rw' => (⟨w, H, I3, rw', q⟩ : EP X pins σ Q w' s3)) (fun r s3 h3 => wpAny_bind (wpAny_letTemporaryGo (wpAny_pure h3))) fun _ _ x => x)
  first
    | exact wpAny_pure (wpAny_bind fin)
    | exact wpAny_bind (wpAny_pure (wpAny_bind fin))
    | exact wpAny_bind fin
def rSub (K : PySem.W.Frag) : R2 := fun x y H Q => rIx K x y H Q ∨ rDGet x y H Q
theorem ix_sub {X : Cx} (hu : X.A.units + 1 < cLine) : IxR X (rSub X.K) := IxR.or ix_seq (ix_dict hu)
theorem Reps.atI {H : Hp} {vs : List V} {k : Int} (h : Reps K H vs ds) (e : L2.atI ds k = some d) : ∃ v, L2.atI vs k = some v ∧ Rep K H v d := by
  unfold L2.atI at e ⊢
  rw [h.length]
  cases q : ixN ds.length k with
  | none => rw [q] at e; cases e
  | some j => rw [q] at e; exact h.get e
theorem de_ixT {k : Int} (ha : DE K m ta G (.tuple ds)) (hb : DE K none tb G (.int k)) (h : L2.atI ds k = some d) : DE K m (tOp (rSub K) ta tb) G d :=
  de_op (fun P H v u Q s r1 r2 q => by
    cases r2
    cases r1 with
    | @tup a xs _ h1 r1 =>
      obtain ⟨w, h2, h3⟩ := r1.atI h
      exact .inl (.inr (.inl ⟨a, xs, k, w, rfl, rfl, rd_tup s h1, h2, q w H (Same.refl H) (rep_old h3 s)⟩))) ha (de_imm hb rfl)
theorem de_ixL {k : Int} (ha : DE K m ta G (.list ds)) (hb : DE K none tb G (.int k)) (h : L2.atI ds k = some d) : DE K m (tOp (rSub K) ta tb) G d :=
  de_op (fun P H v u Q s r1 r2 q => by
    cases r2
    cases r1 with
    | @lst a xs _ h1 r1 =>
      obtain ⟨w, h2, h3⟩ := r1.atI h
      exact .inl (.inl ⟨a, xs, k, w, rfl, rfl, rd_lst s h1, h2, q w H (Same.refl H) (rep_old h3 s)⟩)) ha (de_imm hb rfl)
/-- an item of a list of one's own -/
theorem de_ixO {a : Addr} {k : Int} (hg : G[i]? = some (some (.own n a ds))) (hm : okM m n = true) (hb : DE K none tb G (.int k)) (h : L2.atI ds k = some d) : DE K m (tOp (rSub K) (tVar i) tb) G d := fun c σ H e Q q => by
  obtain ⟨w, h1, rfl, vs, h2, h3⟩ := e.at_ i _ hg
  refine ⟨_, h1, hb c σ H e _ fun u H2 s2 r2 => ?_⟩
  cases r2
  obtain ⟨w, h4, h5⟩ := h3.atI h
  exact .inl (.inl ⟨a, vs, k, w, rfl, rfl, .inl (.inl (s2 _ _ h2)), h4, q w H2 s2 (Rep.mono (vis_ok (e.ext s2) hm) (Rep.mono (e.vext (m := some n) s2) h5))⟩)
theorem do_none : DO K tNoPart G none := fun c σ H e Q q => q H (Same.refl H)
theorem do_some {k : Int} (h : DE K none te G (.int k)) : DO K (tPart te) G (some k) := fun c σ H e Q q => h c σ H e _ fun v H1 s r => by
  cases r
  exact ⟨k, rfl, q H1 s⟩
abbrev RSl := V → Option Int → Option Int → Hp → VK → Prop
def rSl (K : PySem.W.Frag) : RSl := fun x lo hi H Q => rSlL K x lo hi H Q ∨ rSlA K x lo hi H Q ∨ rSlS x lo hi H Q
theorem sl_any {X : Cx} : SlR X (rSl X.K) := SlR.or sl_list (SlR.or sl_tupA sl_str)
def cutD (xs : List PyData) (lo hi : Option Int) : List PyData := (xs.drop (HT.sIx xs.length 0 lo)).take (HT.sIx xs.length xs.length hi - HT.sIx xs.length 0 lo)
theorem Reps.cut {H : Hp} {vs : List V} (h : Reps K H vs ds) (lo hi : Option Int) : Reps K H (cutV vs lo hi) (cutD ds lo hi) := by
  unfold cutV cutD
  rw [h.length]
  exact Reps.take _ (Reps.drop _ h)
theorem de_slL {tl th : TO} {lo hi : Option Int} (ha : DE K m ta G (.list ds)) (hl : DO K tl G lo) (hh : DO K th G hi) : DE K m (tSl (rSl K) ta tl th) G (.list (cutD ds lo hi)) := fun c σ H e Q q =>
  ha c σ H e _ fun v H1 s1 r1 => hl c σ H1 (e.ext s1) _ fun H2 s2 => hh c σ H2 ((e.ext s1).ext s2) _ fun H3 s3 => by
    have e1 := e.ext s1
    have e3 := (e1.ext s2).ext s3
    have r3 := Rep.mono ((e1.ext s2).vext s3) (Rep.mono (e1.vext s2) r1)
    cases r3 with
    | @lst a xs _ h1 r =>
      refine .inl ⟨a, xs, rfl, rd_lst e3.vsame h1, fun p hp => q _ _ (((s1.trans s2).trans s3).trans (same_new hp)) ?_⟩
      exact Rep.mono (e3.plus (same_new hp)) (rep_newL hp (r.cut lo hi) e3.vsame)
theorem de_slT {tl th : TO} {lo hi : Option Int} (ha : DE K m ta G (.tuple ds)) (hl : DO K tl G lo) (hh : DO K th G hi) : DE K m (tSl (rSl K) ta tl th) G (.tuple (cutD ds lo hi)) := fun c σ H e Q q =>
  ha c σ H e _ fun v H1 s1 r1 => hl c σ H1 (e.ext s1) _ fun H2 s2 => hh c σ H2 ((e.ext s1).ext s2) _ fun H3 s3 => by
    have e1 := e.ext s1
    have e3 := (e1.ext s2).ext s3
    have r3 := Rep.mono ((e1.ext s2).vext s3) (Rep.mono (e1.vext s2) r1)
    cases r3 with
    | @tup a xs _ h1 r =>
      refine .inr (.inl ⟨a, xs, rfl, rd_tup e3.vsame h1, fun hw => ?_, fun hw p hp => ?_⟩)
      · have hc : cutD ds lo hi = ds := by
          unfold cutD
          rw [← r.length, hw.1, hw.2, List.drop_zero, Nat.sub_zero, r.length, List.take_length]
        rw [hc] at q
        exact q _ H3 ((s1.trans s2).trans s3) (.tup h1 r)
      · exact q _ _ (((s1.trans s2).trans s3).trans (same_new hp)) (Rep.mono (e3.plus (same_new hp)) (rep_newT hp (r.cut lo hi) e3.vsame))

/-! ### displays -/
theorem de_tup {t : TA} (h : DA K m t G ds) (hl : ds.length ≤ 100000) : DE K m (tTup t) G (.tuple ds) := fun c σ H e Q q => h c σ H e _ fun vs H1 s1 r1 =>
  ⟨by rw [r1.length]; exact Nat.le_trans hl (by decide), fun p hp => q _ _ (s1.trans (same_new hp)) (Rep.mono ((e.ext s1).plus (same_new hp)) (rep_newT hp r1 (e.ext s1).vsame))⟩
theorem de_lst {t : TA} (h : DA K m t G ds) (hl : ds.length ≤ 100000) : DE K m (tLst t) G (.list ds) := fun c σ H e Q q => h c σ H e _ fun vs H1 s1 r1 =>
  ⟨by rw [r1.length]; exact Nat.le_trans hl (by decide), fun p hp => q _ _ (s1.trans (same_new hp)) (Rep.mono ((e.ext s1).plus (same_new hp)) (rep_newL hp r1 (e.ext s1).vsame))⟩
theorem de_dnew : DE K m tDNewK G (.dict []) := fun c σ H e Q q p hp => q _ _ (same_new hp) (Rep.mono (e.plus (same_new hp)) (.dic (.inl (by rw [plus_new hp, upd_same]; rfl)) .nil))

/-! ### tests -/
theorem dt_test {b : Bool} (h : DE K none te G (.bool b)) : DT K (tTest te) G b := fun c σ H e Q q => h c σ H e _ fun v H1 s r => by
  cases r
  exact ⟨b, rfl, q H1 s⟩
theorem dt_B {b : Bool} (h : DE K none te G (.bool b)) : DT K (tB te) G b := fun c σ H e Q q => h c σ H e _ fun v H1 s r => by
  cases r
  exact ⟨b, rfl, q H1 s⟩
theorem dt_not {b : Bool} (h : DT K tt G b) : DT K (tNot tt) G (!b) := fun c σ H e Q q => h c σ H e _ fun H1 s => q H1 s
theorem dt_and {a b : Bool} (h1 : DT K tt G a) (h2 : a = true → DT K tu G b) : DT K (tAnd tt tu) G (a && b) := fun c σ H e Q q => h1 c σ H e _ fun H1 s => by
  cases a with
  | true =>
    show tu σ H1 Q
    exact h2 rfl c σ H1 (e.ext s) _ fun H2 s2 => q H2 (s.trans s2)
  | false =>
    show Q false H1
    exact q H1 s
theorem dt_or {a b : Bool} (h1 : DT K tt G a) (h2 : a = false → DT K tu G b) : DT K (tOr tt tu) G (a || b) := fun c σ H e Q q => h1 c σ H e _ fun H1 s => by
  cases a with
  | true =>
    show Q true H1
    exact q H1 s
  | false =>
    show tu σ H1 Q
    exact h2 rfl c σ H1 (e.ext s) _ fun H2 s2 => q H2 (s.trans s2)
theorem de_andV {a b : Bool} (h1 : DE K none ta G (.bool a)) (h2 : a = true → DE K none tb G (.bool b)) : DE K m (tAndV ta tb) G (.bool (a && b)) := de_imm (fun c σ H e Q q => h1 c σ H e _ fun v H1 s r => by
  cases r
  refine ⟨a, rfl, ?_⟩
  cases a with
  | true =>
    show tb σ H1 Q
    exact h2 rfl c σ H1 (e.ext s) _ fun w H2 s2 r2 => q w H2 (s.trans s2) r2
  | false =>
    show Q (.bl false) H1
    exact q _ H1 s (.bl _)) rfl
theorem de_orV {a b : Bool} (h1 : DE K none ta G (.bool a)) (h2 : a = false → DE K none tb G (.bool b)) : DE K m (tOrV ta tb) G (.bool (a || b)) := de_imm (fun c σ H e Q q => h1 c σ H e _ fun v H1 s r => by
  cases r
  refine ⟨a, rfl, ?_⟩
  cases a with
  | true =>
    show Q (.bl true) H1
    exact q _ H1 s (.bl _)
  | false =>
    show tb σ H1 Q
    exact h2 rfl c σ H1 (e.ext s) _ fun w H2 s2 r2 => q w H2 (s.trans s2) r2) rfl
theorem de_notV {a : Bool} (h1 : DE K none ta G (.bool a)) : DE K m (tNotV ta) G (.bool (!a)) := de_imm (fun c σ H e Q q => h1 c σ H e _ fun v H1 s r => by
  cases r
  exact ⟨a, rfl, q _ H1 s (.bl _)⟩) rfl
theorem de_ifE {b : Bool} (h : DT K tt G b) (h1 : b = true → DE K m ta G d) (h2 : b = false → DE K m tb G d) : DE K m (tIf tt ta tb) G d := fun c σ H e Q q => h c σ H e _ fun H1 s => by
  cases b with
  | true =>
    show ta σ H1 Q
    exact h1 rfl c σ H1 (e.ext s) _ fun w H2 s2 r2 => q w H2 (s.trans s2) r2
  | false =>
    show tb σ H1 Q
    exact h2 rfl c σ H1 (e.ext s) _ fun w H2 s2 r2 => q w H2 (s.trans s2) r2
/-- a < b < c on ints: by two comparisons -/
theorem de_chain {r r' : R2} {a b : Bool} (hr : Opd K r x y (.bool a)) (hr' : a = true → Opd K r' y z (.bool b)) (ha : DE K none ta G x) (hb : DE K none tb G y) (hc : a = true → DE K none tc G z) : DE K m (tChain r r' ta tb tc) G (.bool (a && b)) := de_imm (fun c σ H e Q q =>
  ha c σ H e _ fun v H1 s1 r1 => hb c σ H1 (e.ext s1) _ fun u H2 s2 r2 => hr H2 H2 v u _ (Same.refl H2) (Rep.mono s2 r1) r2 fun w H3 s3 r3 => by
    cases r3
    refine ⟨a, rfl, ?_⟩
    cases a with
    | true =>
      show tc σ H3 _
      refine hc rfl c σ H3 (((e.ext s1).ext s2).ext s3) _ fun w H4 s4 r4 => ?_
      refine hr' rfl H4 H4 u w _ (Same.refl H4) (Rep.mono (s3.trans s4) r2) r4 fun w' H5 s5 r5 => ?_
      cases r5
      exact q _ H5 ((((s1.trans s2).trans s3).trans s4).trans s5) (.bl _)
    | false =>
      show Q (.bl false) H3
      exact q _ H3 ((s1.trans s2).trans s3) (.bl _)) rfl
theorem opd_lt {a b : Int} : Opd K rLt (.int a) (.int b) (.bool (decide (a < b))) := opd_I0 (g := fun i j => .bl (decide (i < j))) (.bl _)
theorem opd_le {a b : Int} : Opd K rLe (.int a) (.int b) (.bool (decide (a ≤ b))) := opd_I0 (g := fun i j => .bl (decide (i ≤ j))) (.bl _)

/-! ### calls -/
/-- by data: what a builtin's call hands back -/
def Cld (K : PySem.W.Frag) (r : List V → Hp → VK → Prop) (xs : List PyData) (z : PyData) : Prop := ∀ (P H : Hp) (vs : List V) (Q : VK), Same P H → Reps K P vs xs → (∀ w H', Same H H' → Rep K (plus P H H') w z → Q w H') → r vs H Q
theorem de_cb {r : List V → Hp → VK → Prop} {t : TA} (hr : Cld K r ds z) (ha : DA K m t G ds) : DE K m (tCB r t) G z := fun c σ H e Q q => ha c σ H e _ fun vs H1 s1 r1 =>
  hr _ H1 vs _ (e.ext s1).vsame r1 fun w H2 s2 r2 => q w H2 (s1.trans s2) (Rep.mono ((e.ext s1).plus s2) r2)
theorem de_cb0 {r : List V → Hp → VK → Prop} {t : TA} (hr : Cld K r ds z) (hz : imm z = true) (ha : DA K none t G ds) : DE K m (tCB r t) G z := de_imm (de_cb hr ha) hz
/-- the promise of a def: for each i its arguments by data, when they are good, and what it hands back -/
def spD (K : PySem.W.Frag) {ι : Type} (args : ι → List PyData) (pre : ι → Prop) (res : ι → R → Prop) : Sp := fun vs H Q _ => ∃ (P : Hp) (i : ι), Same P H ∧ Reps K P vs (args i) ∧ pre i ∧ ∀ r v H', res i r → Same H H' → RetR K P H H' v r → Q v H'
theorem spD_len {ι : Type} {args : ι → List PyData} {pre : ι → Prop} {res : ι → R → Prop} {k : Nat} (hk : ∀ i, (args i).length = k) : ∀ vs H Q E, spD K args pre res vs H Q E → vs.length = k := fun vs H Q E ⟨P, i, _, h, _⟩ => by rw [h.length, hk]
theorem ret_full {P : Hp} {r : R} {O : Addr → Prop} (h : ∃ b : B, b.strip = r ∧ b.ows.Nodup ∧ (∀ a ∈ b.ows, H a = none) ∧ RepB K (fun n => hide (fun a => a ∈ b.ows) (plus (gq P n) H H')) H' v b) (s : Same P H) (e : Same H H') : Rep K H' v r.full := by
  obtain ⟨b, rfl, _, _, h⟩ := h
  rw [full_strip]
  refine h.full fun n => hide_same.trans (plus_same ?_ e)
  unfold gq
  cases n
  · exact s
  · exact non_same
/-- a call as r: lists of its own handed on -/
theorem dr_callS {ι : Type} {args : ι → List PyData} {pre : ι → Prop} {res : ι → R → Prop} {t : TA} {E : XK} {r : R} {sp : Sp} (hsp : ∀ vs H Q, spD K args pre res vs H Q E → sp vs H Q E) (k : ι) (ha : DA K m t G (args k)) (hp : pre k) (hr : ∀ r', res k r' → r' = r) (hm : r.nw = true ∨ m = some false) : DR K (tCall sp [] E t) G r := fun c σ H e Q q =>
  ha c σ H e _ fun vs H1 s1 r1 => by
    have e1 := e.ext s1
    refine hsp _ _ _ ⟨vis c (OF G) m H1, k, e1.vsame, by rw [List.append_nil]; exact r1, hp, fun r' v H' h1 s2 h2 => ?_⟩
    have := hr r' h1
    subst this
    obtain ⟨b, hb, hn, hf, h⟩ := h2
    refine q v H' (s1.trans s2) ⟨b, hb, hn, fun a ha => non_of s1 (hf a ha), ?_⟩
    have key : ∀ n, (r'.nw = true → n = true) → Same (hide (fun a => a ∈ b.ows) (plus (gq (vis c (OF G) m H1) n) H1 H')) (hide (fun a => a ∈ b.ows) (vis c (OF G) (some n) H')) := fun n hn => by
      refine hide_le ?_ fun _ _ _ p => p
      cases n with
      | true => exact (plus_mono (G' := vis c (OF G) (some true) H1) non_same).trans (e1.plus s2)
      | false =>
        rcases hm with z | z
        · exact (Bool.noConfusion (hn z))
        · subst z; exact e1.plus (m := some false) s2
    have bn : ∀ n, b.strip.nw = n → RepB K (fun k => hide (fun a => a ∈ b.ows) (plus (gq (vis c (OF G) m H1) k) H1 H')) H' v b → RepB K (fun k => hide (fun a => a ∈ b.ows) (vis c (OF G) (some k) H')) H' v b := fun n hn h => by
      have hk : ∀ k, k = b.strip.nw → (r'.nw = true → k = true) := fun k hk z => by rw [hk, hb, z]
      cases b with
      | sh n d => exact Rep.mono (key n (hk n rfl)) h
      | own n a ds => obtain ⟨h1, vs, h2, h3⟩ := h; exact ⟨h1, vs, h2, Reps.mono (key n (hk n rfl)) h3⟩
      | odic n a ks => obtain ⟨h1, vs, h2, h3⟩ := h; exact ⟨h1, vs, h2, RepK.mono (key n (hk n rfl)) h3⟩
      | tupo n xs =>
        obtain ⟨t, vs, h1, h2, h3⟩ := h
        exact ⟨t, vs, h1, h2, Paired.mapP h3 fun v x r => RepIt.mono (key n (hk n rfl)) (fun a _ xs q => q) r⟩
    exact bn _ rfl h
theorem dr_call {ι : Type} {args : ι → List PyData} {pre : ι → Prop} {res : ι → R → Prop} {t : TA} {E : XK} {r : R} (k : ι) (ha : DA K m t G (args k)) (hp : pre k) (hr : ∀ r', res k r' → r' = r) (hm : r.nw = true ∨ m = some false) : DR K (tCall (spD K args pre res) [] E t) G r := dr_callS (fun _ _ _ h => h) k ha hp hr hm
theorem its_full {G1 H1 W : Hp} (e : Same G1 W) : ∀ {vs : List V} {xs : List (Sum PyData (Addr × List PyData))}, (∀ a ∈ itOws xs, ∀ ws, H1 a = some (.lst ws) → W a = some (.lst ws)) → Paired (RepIt K G1 H1) vs xs → Reps K W vs (xs.map itData)
  | [], [], _, .nil => .nil
  | v :: vs, x :: xs, k, .cons r t => by
    refine .cons ?_ (its_full e (fun a ha => k a ?_) t)
    · cases x with
      | inl d => exact Rep.mono e r
      | inr p =>
        obtain ⟨a, ds⟩ := p
        obtain ⟨rfl, ws, h4, h5⟩ := r
        exact .lst (.inl (.inl (k a (by simp [itOws]) ws h4))) (Reps.mono e h5)
    · cases x with
      | inl d => exact ha
      | inr p => obtain ⟨b, ds⟩ := p; exact List.mem_cons_of_mem _ ha
/-- what is handed back, seen as data that stands still -/
theorem de_dr {r : R} (h : DR K te G r) (hm : okM m r.nw = true) : DE K m te G r.full := fun c σ H e Q q => h c σ H e _ fun v H' s ⟨b, hb, hn, hf, hr⟩ => q v H' s (by
  subst hb
  rw [full_strip]
  have e1 := e.ext s
  have vo := vis_ok e1 hm
  have see : ∀ (a : Addr) (o : HO), a ∈ b.ows → H' a = some o → (∀ ob u, o ≠ .frz ob u) → vis c (OF G) m H' a = some o := fun a o ha ho hz => by
    have hn := hf a ha
    cases m with
    | none => exact ho
    | some k =>
      show hide (OF G) _ a = _
      rw [hide_at (e.nof hn), plus_new (non_of e.h0 hn), ho]
      unfold nf
      split
      · rename_i ob u q; cases q; exact (hz _ _ rfl).elim
      · rfl
  have sub : Same (hide (fun a => a ∈ b.ows) (vis c (OF G) (some b.strip.nw) H')) (vis c (OF G) m H') := hide_same.trans vo
  cases b with
  | sh n d => exact Rep.mono sub hr
  | own n a ds =>
    obtain ⟨rfl, vs, h2, h3⟩ := hr
    exact .lst (.inl (.inl (see a _ (by simp [B.ows]) h2 (by intro _ _ z; cases z)))) (Reps.mono sub h3)
  | odic n a ks =>
    obtain ⟨rfl, vs, h2, h3⟩ := hr
    exact .dic (.inl (see a _ (by simp [B.ows]) h2 (by intro _ _ z; cases z))) (RepK.mono sub h3)
  | tupo n xs =>
    obtain ⟨t, vs, rfl, h2, h3⟩ := hr
    refine .tup (vis_tups e1.h0 e1.mu t vs h2) ?_
    exact its_full sub (fun a ha ws h => see a _ ha h (by intro _ _ z; cases z)) h3)
theorem de_call {ι : Type} {args : ι → List PyData} {pre : ι → Prop} {res : ι → R → Prop} {t : TA} {E : XK} {r : R} (k : ι) (ha : DA K m' t G (args k)) (hp : pre k) (hr : ∀ r', res k r' → r' = r) (hm : r.nw = true ∨ m' = some false) (hm' : okM m r.nw = true) : DE K m (tCall (spD K args pre res) [] E t) G r.full :=
  de_dr (dr_call k ha hp hr hm) hm'
/-- the usual: new, or without lists -/
theorem de_callN {ι : Type} {args : ι → List PyData} {pre : ι → Prop} {res : ι → R → Prop} {t : TA} {E : XK} {r : R} (k : ι) (ha : DA K none t G (args k)) (hp : pre k) (hr : ∀ r', res k r' → r' = r) (hn : r.nw = true) : DE K m (tCall (spD K args pre res) [] E t) G r.full :=
  de_call k ha hp hr (.inl hn) (by rw [hn]; cases m with | none => rfl | some k => cases k <;> rfl)
theorem dr_de (h : DE K (some n) te G d) : DR K te G (.val n d) := fun c σ H e Q q => h c σ H e _ fun v H' s r => q v H' s ⟨.sh n d, rfl, List.nodup_nil, fun _ h => (by simp [B.ows] at h), by
  show Rep K (hide _ _) v d
  exact Rep.mono (fun a o h => by rw [hide_at (by simp [B.ows])]; exact h) r⟩
/-- a new list of one's own: a display, and what else makes one -/
def DN (K : PySem.W.Frag) (n : Bool) (te : TE) (G : Sl) (ds : List PyData) : Prop := ∀ (c : C) (σ : L2.St) (H : Hp), Sits K c G σ H → ∀ Q : VK, (∀ a vs H', H a = none → Same H H' → H' a = some (.lst vs) → Reps K (hide (fun b => b = a) (vis c (OF G) (some n) H')) vs ds → Q (.ref a) H') → te σ H Q
theorem dr_new (h : DN K n te G ds) : DR K te G (.own n ds) := fun c σ H e Q q => h c σ H e _ fun a vs H' hn s ha r => q _ H' s ⟨.own n a ds, rfl, by simp [B.ows], fun b hb => (by simp [B.ows] at hb; rw [hb]; exact hn), rfl, vs, ha, by
  refine Reps.mono (hide_le (Same.refl _) fun b o _ p => ?_) r
  simpa [B.ows] using p⟩
theorem dn_lst {t : TA} (h : DA K (some n) t G ds) (hl : ds.length ≤ 100000) : DN K n (tLst t) G ds := fun c σ H e Q q => h c σ H e _ fun vs H1 s1 r1 =>
  ⟨by rw [r1.length]; exact Nat.le_trans hl (by decide), fun p hp => by
    refine q p vs _ (non_of s1 hp) (s1.trans (same_new hp)) upd_same (Reps.mono (fun a o h => ?_) r1)
    have := (e.ext s1).vext (m := some n) (same_new (o := .lst vs) hp) a o h
    rw [hide_at fun z => ?_]
    · exact this
    · subst z
      have := (e.ext s1).vsame a o h
      rw [hp] at this; cases this⟩
end
end
end TB

/-! TB do: statements, loops, comprehensions, builtins. -/
namespace TB
open PySem PySem.Spec PyProof.Rows L2
section
variable {K : PySem.W.Frag}
section
variable {m m' : Md} {n : Bool} {te ta tb tx tc : TE} {tt tu : TT} {ts tv : TS} {G G' : Sl} {d x y z : PyData} {ds es : List PyData} {i j : Nat} {c : C} {σ : L2.St} {H H' : Hp} {v : V} {P P' : Post}

/-! ### statements -/
theorem ds_next (h : P.nx G) : DS K tNext G P := fun c σ H D e k _ _ _ => k G σ H h e
theorem ds_brk (h : P.bk G) : DS K tBreak G P := fun c σ H D e _ _ k _ => k G σ H h e
theorem ds_cont (h : P.ct G) : DS K tCont G P := fun c σ H D e _ _ _ k => k G σ H h e
theorem ds_seq (h : DS K ts G { P with nx := fun G' => DS K tv G' P }) : DS K (tSeq ts tv) G P := fun c σ H D e k1 k2 k3 k4 =>
  h c σ H { D with nx := tv D } e (fun G' σ' H' p e' => p c σ' H' D e' k1 k2 k3 k4) k2 k3 k4
theorem DS.less (h : DS K ts G' P) (l : Les G G') : DS K ts G P := fun c σ H D e => h c σ H D (e.less l)
theorem DS.imp (h : DS K ts G P) (h1 : ∀ G', P.nx G' → P'.nx G') (h2 : ∀ r, P.rt r → P'.rt r) (h3 : ∀ G', P.bk G' → P'.bk G') (h4 : ∀ G', P.ct G' → P'.ct G') : DS K ts G P' := fun c σ H D e k1 k2 k3 k4 =>
  h c σ H D e (fun G' σ' H' p => k1 G' σ' H' (h1 _ p)) (fun r v H' p => k2 r v H' (h2 _ p)) (fun G' σ' H' p => k3 G' σ' H' (h3 _ p)) (fun G' σ' H' p => k4 G' σ' H' (h4 _ p))
theorem ds_if {b : Bool} (h : DT K tt G b) (h1 : b = true → DS K ts G P) (h2 : b = false → DS K tv G P) : DS K (tIfS tt ts tv) G P := fun c σ H D e k1 k2 k3 k4 => h c σ H e _ fun H1 s => by
  have e1 := e.ext s
  cases b with
  | true =>
    show ts D σ H1
    exact h1 rfl c σ H1 D e1 k1 k2 k3 k4
  | false =>
    show tv D σ H1
    exact h2 rfl c σ H1 D e1 k1 k2 k3 k4
theorem its_own {G1 H1 : Hp} {a : Addr} : ∀ {vs : List V} {xs : List (Sum PyData (Addr × List PyData))}, Paired (RepIt K G1 H1) vs xs → a ∈ itOws xs → ∃ ws, H1 a = some (.lst ws)
  | [], [], .nil, h => by simp [itOws] at h
  | v :: vs, .inl d :: xs, .cons r t, h => its_own t h
  | v :: vs, .inr (b, ds) :: xs, .cons r t, h => by
    obtain ⟨_, ws, h4, _⟩ := r
    rcases List.mem_cons.mp h with q | q
    · rw [q]; exact ⟨_, h4⟩
    · exact its_own t q
/-- a name gets what an expression hands back -/
theorem ds_asg {r : R} (h : DR K te G r) (hi : i < G.length) (k : ∀ b : B, b.strip = r → P.nx (G.set i (some b))) : DS K (tAsg te (gName i)) G P := fun c σ H D e k1 _ _ _ => h c σ H e _ fun v H' s ⟨b, hb, hn, hf, hr⟩ => by
  show D.nx (σ.set i (some v)) H'
  have e1 := e.ext s
  have sub : ∀ n, Same (hide (fun a => a ∈ b.ows) (vis c (OF G) (some n) H')) (vis c (OF (G.set i (some b))) (some n) H') := fun n a o h => by
    obtain ⟨h1, h2⟩ := hide_some h
    obtain ⟨h3, h4⟩ := hide_some h2
    show hide _ _ a = _
    rw [hide_at fun p => ?_]
    · exact h4
    · obtain ⟨j, b', q1, q2⟩ := p
      rcases set_at q1 with ⟨_, q⟩ | ⟨_, q⟩
      · cases q; exact h1 q2
      · exact h3 ⟨j, b', q, q2⟩
  have own : ∀ a ∈ b.ows, ∃ o, H' a = some o ∧ ∀ xs, o ≠ .tup xs := fun a ha => by
    cases b with
    | sh n d => simp [B.ows] at ha
    | own n x ds => simp [B.ows] at ha; obtain ⟨_, vs, h2, _⟩ := hr; rw [ha]; exact ⟨_, h2, fun _ z => by cases z⟩
    | odic n x ks => simp [B.ows] at ha; obtain ⟨_, vs, h2, _⟩ := hr; rw [ha]; exact ⟨_, h2, fun _ z => by cases z⟩
    | tupo n xs =>
      obtain ⟨t, vs, _, _, h3⟩ := hr
      obtain ⟨ws, h4⟩ := its_own h3 ha
      exact ⟨_, h4, fun _ z => by cases z⟩
  refine k1 _ _ _ (k b hb) (e.put s hi (hr.mono sub (Same.refl _)) hn fun a ha => ⟨hf a ha, own a ha⟩)
theorem ds_set (h : DE K (some n) te G d) (hi : i < G.length) (k : P.nx (G.set i (some (.sh n d)))) : DS K (tAsg te (gName i)) G P := ds_asg (dr_de h) hi fun b hb => by
  cases b <;> first | (cases hb; exact k) | cases hb
theorem ds_own (h : DR K te G (.own n ds)) (hi : i < G.length) (k : ∀ a, P.nx (G.set i (some (.own n a ds)))) : DS K (tAsg te (gName i)) G P := ds_asg h hi fun b hb => by
  cases b <;> first | (cases hb; exact k _) | cases hb
theorem ds_expr (h : DE K none te G d) (k : P.nx G) : DS K (tDrop te) G P := fun c σ H D e k1 _ _ _ => h c σ H e _ fun v H' s _ => k1 G σ H' k (e.ext s)
theorem gq_gz {c : C} {n : Bool} : gq c.F n = gz c n := rfl
theorem ds_ret {r : R} (h : DR K te G r) (k : P.rt r) : DS K (tRet te) G P := fun c σ H D e _ k2 _ _ => h c σ H e _ fun v H' s ⟨b, hb, hn, hf, hr⟩ => by
  refine k2 r v H' k (e.h0.trans s) ⟨b, hb, hn, fun a ha => non_of e.h0 (hf a ha), ?_⟩
  exact hr.mono (fun n => hide_le hide_same fun _ _ _ p => p) (Same.refl _)
theorem ds_retD (h : DE K (some n) te G d) (k : P.rt (.val n d)) : DS K (tRet te) G P := ds_ret (dr_de h) k
theorem ds_retN (k : P.rt (.val true .none)) : DS K tRetN G P := fun c σ H D e _ k2 _ _ => k2 _ .non H k e.h0 ⟨.sh true .none, rfl, List.nodup_nil, fun _ h => (by simp [B.ows] at h), .non⟩
/-- return of a name: also what is one's own -/
theorem ds_retV {b : B} (hg : G[i]? = some (some b)) (k : P.rt b.strip) : DS K (tRet (tVar i)) G P := fun c σ H D e _ k2 _ _ => by
  obtain ⟨v, h1, h2⟩ := e.at_ i b hg
  refine ⟨v, h1, k2 _ v H k e.h0 ⟨b, rfl, e.nd i b hg, fun a ha => (e.fr a ⟨i, b, hg, ha⟩).1, ?_⟩⟩
  exact h2.mono (fun n => hide_le (Same.refl _) fun a o _ p => ⟨i, b, hg, p⟩) (Same.refl _)
/-- xs.append(e), xs one's own -/
theorem ds_append {a : Addr} (hg : G[i]? = some (some (.own n a ds))) (h : DE K (some n) te G d) (hl : ds.length < 100000) (k : P.nx (G.set i (some (.own n a (ds ++ [d]))))) : DS K (tDrop (tBM K "list" rAppend (tVar i) (tCons te tNil))) G P := fun c σ H D e k1 _ _ _ => by
  obtain ⟨w, h1, rfl, vs, h2, h3⟩ := e.at_ i _ hg
  refine ⟨_, h1, Or.inl ⟨rfl, vs, .inl (.inl h2)⟩, h c σ H e _ fun u H1 s r => ?_⟩
  have e1 := e.ext s
  refine ⟨a, vs, u, rfl, rfl, s _ _ h2, by rw [h3.length]; exact Nat.lt_of_lt_of_le hl (by decide), k1 _ _ _ k (e1.write hg rfl (by simp [B.ows]) (fun _ z => by cases z) fun v hv => ?_)⟩
  obtain ⟨rfl, ws, h4, h5⟩ := hv
  rw [s _ _ h2] at h4
  cases h4
  exact ⟨rfl, _, upd_same, h5.append (.cons r .nil)⟩
/-- xs[k] = e, xs one's own -/
theorem ds_setItem {a : Addr} {k : Int} {j : Nat} (hg : G[i]? = some (some (.own n a ds))) (h : DE K (some n) te G d) (hk : DE K none tx G (.int k)) (hj : ixN ds.length k = some j) (kk : P.nx (G.set i (some (.own n a (ds.set j d))))) : DS K (tAsg te (gSub (tVar i) tx rSetL)) G P := fun c σ H D e k1 _ _ _ =>
  h c σ H e _ fun u H1 s r => by
    have e1 := e.ext s
    obtain ⟨w, h1, rfl, vs, h2, h3⟩ := e1.at_ i _ hg
    refine ⟨_, h1, hk c σ H1 e1 _ fun q H2 s2 r2 => ?_⟩
    cases r2
    have e2 := e1.ext s2
    refine ⟨a, vs, k, j, rfl, rfl, s2 _ _ h2, by rw [h3.length]; exact hj, k1 _ _ _ kk (e2.write hg rfl (by simp [B.ows]) (fun _ z => by cases z) fun v hv => ?_)⟩
    obtain ⟨rfl, ws, h4, h5⟩ := hv
    rw [s2 _ _ h2] at h4
    cases h4
    exact ⟨rfl, _, upd_same, Reps.set j (Rep.mono (e1.vext s2) r) h5⟩
/-- a, b = e1, e2 -/
theorem ds_par {t : TA} (h : DA K (some n) t G [x, y]) (hi : i < G.length) (hj : j < G.length) (k : P.nx ((G.set i (some (.sh n x))).set j (some (.sh n y)))) : DS K (tPar i j t) G P := fun c σ H D e k1 _ _ _ => h c σ H e _ fun vs H' s r => by
  cases r with
  | @cons v _ _ _ r1 r =>
    cases r with
    | @cons w _ _ _ r2 r =>
      cases r
      have e1 := e.ext s
      have p1 := e.put (b := .sh n x) (v := v) s hi (show Rep K _ v x from Rep.mono (vis_ext e.f0 e1.h0 (Same.refl _) fun a o _ p => by
        obtain ⟨q, b', q1, q2⟩ := p
        rcases set_at q1 with ⟨_, z⟩ | ⟨_, z⟩
        · cases z; simp [B.ows] at q2
        · exact ⟨q, b', z, q2⟩) r1) List.nodup_nil fun a ha => by simp [B.ows] at ha
      have p2 := p1.put (i := j) (b := .sh n y) (v := w) (Same.refl _) (by simpa using hj) (show Rep K _ w y from Rep.mono (vis_ext e.f0 e1.h0 (Same.refl _) fun a o _ p => by
        obtain ⟨q, b', q1, q2⟩ := p
        rcases set_at q1 with ⟨_, z⟩ | ⟨_, z⟩
        · cases z; simp [B.ows] at q2
        · rcases set_at z with ⟨_, z⟩ | ⟨_, z⟩
          · cases z; simp [B.ows] at q2
          · exact ⟨q, b', z, q2⟩) r2) List.nodup_nil fun a ha => by simp [B.ows] at ha
      exact ⟨v, w, rfl, k1 _ _ _ k p2⟩

/-! ### targets -/
/-- a target takes data that is seen at mode n -/
def DG (K : PySem.W.Frag) (g : TG) (n : Bool) (d : PyData) (G : Sl) (N : Sl → Prop) : Prop := ∀ (c : C) (σ : L2.St) (H : Hp) (v : V) (Q : L2.St → Hp → Prop), Sits K c G σ H → Rep K (vis c (OF G) (some n) H) v d → (∀ G' σ', N G' → Sits K c G' σ' H → Q σ' H) → g v σ H Q
def DGs (K : PySem.W.Frag) (g : TGs) (n : Bool) (ds : List PyData) (G : Sl) (N : Sl → Prop) : Prop := ∀ (c : C) (σ : L2.St) (H : Hp) (vs : List V) (Q : L2.St → Hp → Prop), Sits K c G σ H → Reps K (vis c (OF G) (some n) H) vs ds → (∀ G' σ', N G' → Sits K c G' σ' H → Q σ' H) → g vs σ H Q
theorem Sits.putS (e : Sits K c G σ H) (hi : i < G.length) (r : Rep K (vis c (OF G) (some n) H) v d) : Sits K c (G.set i (some (.sh n d))) (σ.set i (some v)) H :=
  e.put (b := .sh n d) (v := v) (Same.refl _) hi (show Rep K _ v d from Rep.mono (vis_ext e.f0 e.h0 (Same.refl _) fun a o _ p => by
    obtain ⟨q, b', q1, q2⟩ := p
    rcases set_at q1 with ⟨_, z⟩ | ⟨_, z⟩
    · cases z; simp [B.ows] at q2
    · exact ⟨q, b', z, q2⟩) r) List.nodup_nil fun a ha => by simp [B.ows] at ha
theorem Sits.putV (e : Sits K c G σ H) : Same (vis c (OF G) m H) (vis c (OF (G.set i (some (.sh n d)))) m H) := vis_ext e.f0 e.h0 (Same.refl _) fun a o _ p => by
    obtain ⟨q, b', q1, q2⟩ := p
    rcases set_at q1 with ⟨_, z⟩ | ⟨_, z⟩
    · cases z; simp [B.ows] at q2
    · exact ⟨q, b', z, q2⟩
theorem dg_name {N : Sl → Prop} (hi : i < G.length) (k : N (G.set i (some (.sh n d)))) : DG K (gName i) n d G N := fun c σ H v Q e r q => q _ _ k (e.putS hi r)
theorem dgs_nil {N : Sl → Prop} (k : N G) : DGs K gNil n [] G N := fun c σ H vs Q e r q => by
  cases r
  exact ⟨rfl, q G σ k e⟩
/-- the names of a written tuple, one after another -/
theorem dgs_name {N : Sl → Prop} {g : TGs} (hi : i < G.length) (k : DGs K g n ds (G.set i (some (.sh n d))) N) : DGs K (gCons (gName i) g) n (d :: ds) G N := fun c σ H vs Q e r q => by
  cases r with
  | @cons v _ vs _ r1 r =>
    exact ⟨v, vs, rfl, k c _ H vs Q (e.putS hi r1) (Reps.mono e.putV r) q⟩
theorem dg_tup {N : Sl → Prop} {g : TGs} {k : Nat} (hl : ds.length = k) (h : DGs K g n ds G N) : DG K (gTup K k g) n (.tuple ds) G N := fun c σ H v Q e r q => by
  cases r with
  | @tup a xs _ h1 r => exact ⟨a, xs, rfl, .inl (.inl (e.vsame _ _ h1)), by rw [r.length]; exact hl, h c σ H xs Q e r q⟩
/-- a tuple within the tuple -/
theorem dgs_tup {N : Sl → Prop} {g h : TGs} {k : Nat} {es : List PyData} (hl : es.length = k) (hd : DGs K g n es G fun G' => DGs K h n ds G' N) (hm : imms ds = true) : DGs K (gCons (gTup K k g) h) n (.tuple es :: ds) G N := fun c σ H vs Q e r q => by
  cases r with
  | @cons v _ vs _ r1 r =>
    refine ⟨v, vs, rfl, ?_⟩
    refine dg_tup hl hd c σ H v _ e r1 fun G' σ' p e' => ?_
    exact p c σ' H vs Q e' (Reps.imm (vis_tups e'.h0 e'.mu) (Reps.mono e.vsame r) hm) q
theorem ds_asgG {g : TG} (h : DE K (some n) te G d) (hg : DG K g n d G P.nx) : DS K (tAsg te g) G P := fun c σ H D e k1 _ _ _ => h c σ H e _ fun v H' s r => hg c σ H' v _ (e.ext s) r fun G' σ' p e' => k1 G' σ' H' p e'

/-! ### what is walked -/
/-- J gives the data ds at mode n, while what F shows stands -/
structure Src (K : PySem.W.Frag) (J : It) (F : Hp) (n : Bool) (c : C) (O : Addr → Prop) (ds : List PyData) : Prop where
  goes : ∀ i H, i < ds.length → Same F H → J.go i H
  stops : ∀ H, Same F H → J.stop ds.length H
  yields : ∀ (i : Nat) (H : Hp) (x : V) (H' : Hp) (d : PyData), ds[i]? = some d → Same F H → J.yld i H x H' → Same H H' ∧
    ∀ (G : Sl) (σ : L2.St) (c' : C), c'.F = c.F → (∀ a o, F a = some o → c'.H0 a = c.H0 a) → c'.Bs = F → Sits K c' G σ H → Rep K (vis c' (OF G) (some n) H') x d
def DI (K : PySem.W.Frag) (n : Bool) (wi : TI) (G : Sl) (ds : List PyData) : Prop := ∀ (c : C) (σ : L2.St) (H : Hp), Sits K c G σ H → ∀ R : It → Hp → Prop,
  (∀ J H', Same H H' → Src K J (hide (OF G) H') n c (OF G) ds → R J H') → wi σ H R
/-- the context with a later base: what stands still now -/
theorem Sits.base (e : Sits K c G σ H) : Sits K { c with Bs := hide (OF G) H } G σ H where
  f0 := e.f0
  h0 := e.h0
  b0 := hide_same
  fr := fun a h => ⟨(e.fr a h).1, hide_none h⟩
  mu := e.mu
  dj := e.dj
  nd := e.nd
  len := e.len
  at_ := fun i b h => by
    obtain ⟨v, h1, h2⟩ := e.at_ i b h
    exact ⟨v, h1, h2.mono (fun n => Same.refl _) (Same.refl _)⟩
theorem Sits.unbase {F : Hp} (e : Sits K { c with Bs := F } G σ H) (s : Same c.Bs F) : Sits K c G σ H where
  f0 := e.f0
  h0 := e.h0
  b0 := s.trans e.b0
  fr := fun a h => ⟨(e.fr a h).1, non_of s (e.fr a h).2⟩
  mu := e.mu
  dj := e.dj
  nd := e.nd
  len := e.len
  at_ := fun i b h => by
    obtain ⟨v, h1, h2⟩ := e.at_ i b h
    exact ⟨v, h1, h2.mono (fun n => Same.refl _) (Same.refl _)⟩
theorem Sits.bsub (e : Sits K c G σ H) : Same c.Bs (hide (OF G) H) := fun a o h => by
  rw [hide_at fun p => ?_]
  · exact e.b0 a o h
  · rw [(e.fr a p).2] at h; cases h
/-- a for: its word by the turn and the slots -/
theorem ds_for {wi : TI} {g : TG} (hI : DI K n wi G ds) (I : Nat → Sl → Prop) (h0 : I 0 G)
    (hs : ∀ (k : Nat) (d : PyData) (Gk : Sl), ds[k]? = some d → I k Gk → DG K g n d Gk fun G' => DS K ts G' { nx := I (k + 1), ct := I (k + 1), bk := P.nx, rt := P.rt })
    (hd : ∀ Gn, I ds.length Gn → P.nx Gn) : DS K (tFor wi g ts) G P := fun c σ H D e k1 k2 k3 k4 => hI c σ H e _ fun J H1 s S => by
  have e1 := e.ext s
  have eb := e1.base
  refine ⟨fun i m σ H => m = ds.length - i ∧ i ≤ ds.length ∧ ∃ Gk, I i Gk ∧ Sits K { c with Bs := hide (OF G) H1 } Gk σ H, ⟨ds.length, by simp, Nat.zero_le _, G, h0, eb⟩, ?_⟩
  rintro i m σ' H' ⟨rfl, hi, Gk, hk, ek⟩
  by_cases hlt : i < ds.length
  · refine .inr ⟨S.goes i H' hlt ek.b0, fun σ2 H2 => ∃ Gk, I (i + 1) Gk ∧ Sits K { c with Bs := hide (OF G) H1 } Gk σ2 H2, fun σ2 H2 q => ⟨ds.length - (i + 1), by omega, rfl, hlt, q⟩, fun x H2 y => ?_⟩
    have hd' : ds[i]? = some ds[i] := List.getElem?_eq_getElem hlt
    obtain ⟨s2, r2⟩ := S.yields i H' x H2 _ hd' ek.b0 y
    have ek2 := ek.ext s2
    refine hs i _ Gk hd' hk _ σ' H2 x _ ek2 (r2 Gk σ' _ rfl (fun _ _ _ => rfl) rfl ek) fun G' σ2 hp e' => ?_
    refine hp _ σ2 H2 _ e' (fun G2 σ3 H3 q e3 => ⟨G2, q, e3⟩) k2 (fun G2 σ3 H3 q e3 => k1 G2 σ3 H3 q (e3.unbase e1.bsub)) fun G2 σ3 H3 q e3 => ⟨G2, q, e3⟩
  · have : i = ds.length := by omega
    subst this
    exact .inl ⟨S.stops H' ek.b0, k1 Gk σ' H' (hd Gk hk) (ek.unbase e1.bsub)⟩
/-- a while: its word by a number that falls -/
theorem ds_while (I : Nat → Sl → Prop) (m0 : Nat) (h0 : I m0 G)
    (hs : ∀ m Gk, I m Gk → ∃ b, DT K tt Gk b ∧ (b = true → DS K ts Gk { nx := fun G' => ∃ m', m' < m ∧ I m' G', ct := fun G' => ∃ m', m' < m ∧ I m' G', bk := P.nx, rt := P.rt }) ∧ (b = false → P.nx Gk)) : DS K (tWhile tt ts) G P := fun c σ H D e k1 k2 k3 k4 => by
  refine ⟨fun m σ H => ∃ Gk, I m Gk ∧ Sits K c Gk σ H, ⟨m0, G, h0, e⟩, ?_⟩
  rintro m σ' H' ⟨Gk, hk, ek⟩
  obtain ⟨b, ht, hb, hn⟩ := hs m Gk hk
  refine ht c σ' H' ek _ fun H1 s => ?_
  cases b with
  | true =>
    show ∃ N : L2.St → Hp → Prop, _ ∧ _
    refine ⟨fun σ2 H2 => ∃ m' G', m' < m ∧ I m' G' ∧ Sits K c G' σ2 H2, fun σ2 H2 ⟨m', G', q1, q2, q3⟩ => ⟨m', q1, G', q2, q3⟩, ?_⟩
    exact hb rfl c σ' H1 _ (ek.ext s) (fun G' σ2 H2 ⟨m', q1, q2⟩ e2 => ⟨m', G', q1, q2, e2⟩) k2 (fun G' σ2 H2 q e2 => k1 G' σ2 H2 q e2) fun G' σ2 H2 ⟨m', q1, q2⟩ e2 => ⟨m', G', q1, q2, e2⟩
  | false =>
    show D.nx σ' H1
    exact k1 Gk σ' H1 (hn rfl) (ek.ext s)
end
end
end TB

/-! TB lc: sources of walks, comprehensions. -/
namespace TB
open PySem PySem.Spec PyProof.Rows L2
section
variable {K : PySem.W.Frag}
section
variable {m m' : Md} {n n' : Bool} {te ta tb tx tc : TE} {tt tu : TT} {ts tv : TS} {G G' : Sl} {d x y z : PyData} {ds es : List PyData} {i j : Nat} {c : C} {σ : L2.St} {H H' : Hp} {v : V} {P P' : Post}
theorem vis_hide (f : Same c.F c.H0) (e : Same c.H0 H) {O : Addr → Prop} : Same (vis c O (some n) H) (hide O H) := hide_le (plus_same (gz_same f n) e) fun _ _ _ p => p
/-- what stood still stands still -/
theorem src_see {O : Addr → Prop} {F Hs : Hp} {c' : C} (f : Same c.F c.H0) (e0 : Same c.H0 Hs) (hF : F = hide O Hs) (s : Same F H) (e : Sits K c' G σ H) (h1 : c'.F = c.F) (h2 : ∀ a o, F a = some o → c'.H0 a = c.H0 a) (h3 : c'.Bs = F) :
    Same (vis c O (some n) Hs) (vis c' (OF G) (some n) H) := fun a o h => by
  have hf : F a = some o := by rw [hF]; exact vis_hide f e0 a o h
  have hn : ¬ OF G a := fun p => by
    have := (e.fr a p).2
    rw [h3, hf] at this; cases this
  have hh := h2 a o hf
  obtain ⟨_, hp⟩ := hide_some h
  show hide (OF G) _ a = some o
  rw [hide_at hn]
  have hH := s a o hf
  rcases plus_cases hp with ⟨q1, q2⟩ | ⟨xs, q1, rfl⟩ | ⟨q1, u, q2⟩
  · rw [plus_new (hh.trans q1)]; exact nf_eq q2 hH
  · exact plus_tup (hh.trans q1)
  · have hg : gz c' n = gz c n := by unfold gz; rw [h1]
    cases u with
    | tup xs => rw [plus_tup q2] at hp; cases hp; exact plus_tup (hh.trans q2)
    | _ => unfold plus; rw [hh, q2, hg]; exact q1
theorem di_list (h : DE K (some n) ta G (.list ds)) : DI K n (iList K ta) G ds := fun c σ H e R k => h c σ H e _ fun v H' s r => by
  cases r with
  | @lst a xs _ h1 r =>
    have e1 := e.ext s
    have hq : ∀ {H2}, Same (hide (OF G) H') H2 → SqL K H2 a xs := fun s2 => SqL.same ((vis_hide e.f0 e1.h0).trans s2) h1
    refine ⟨a, rfl, ⟨xs, SqL.same e1.vsame h1⟩, k _ H' s ⟨fun i H2 hi s2 => ?_, fun H2 s2 => ⟨xs, hq s2, Nat.le_of_eq r.length⟩, fun i H2 x H3 d hd s2 y => ?_⟩⟩
    · have hi2 : i < xs.length := by rw [r.length]; exact hi
      exact ⟨xs, xs[i], hq s2, List.getElem?_eq_getElem hi2⟩
    · obtain ⟨rfl, y2⟩ := y
      refine ⟨Same.refl _, fun G2 σ2 c' q1 q2 q3 e2 => ?_⟩
      obtain ⟨w, w1, w2⟩ := r.get hd
      rw [y2 xs (hq s2)] at w1
      cases w1
      exact Rep.mono (src_see e.f0 e1.h0 rfl s2 e2 q1 q2 q3) w2
theorem di_tup (h : DE K (some n) ta G (.tuple ds)) : DI K n (iTup K ta) G ds := fun c σ H e R k => h c σ H e _ fun v H' s r => by
  cases r with
  | @tup a xs _ h1 r =>
    have e1 := e.ext s
    have hq : ∀ {H2}, Same (hide (OF G) H') H2 → SqT K H2 a xs := fun s2 => .inl (.inl (s2 _ _ (vis_hide e.f0 e1.h0 _ _ h1)))
    refine ⟨a, rfl, ⟨xs, .inl (.inl (e1.vsame _ _ h1))⟩, k _ H' s ⟨fun i H2 hi s2 => ?_, fun H2 s2 => ⟨xs, hq s2, Nat.le_of_eq r.length⟩, fun i H2 x H3 d hd s2 y => ?_⟩⟩
    · have hi2 : i < xs.length := by rw [r.length]; exact hi
      exact ⟨xs, xs[i], hq s2, List.getElem?_eq_getElem hi2⟩
    · obtain ⟨rfl, y2⟩ := y
      refine ⟨Same.refl _, fun G2 σ2 c' q1 q2 q3 e2 => ?_⟩
      obtain ⟨w, w1, w2⟩ := r.get hd
      rw [y2 xs (hq s2)] at w1
      cases w1
      exact Rep.mono (src_see e.f0 e1.h0 rfl s2 e2 q1 q2 q3) w2
/-- a list or a tuple -/
def iSeq (K : PySem.W.Frag) (tl : TE) : TI := fun σ H R => tl σ H fun x H1 => (∃ a, x = .ref a ∧ (∃ xs, SqL K H1 a xs) ∧ R (Itl K a) H1) ∨ ∃ a, x = .ref a ∧ (∃ xs, SqT K H1 a xs) ∧ R (Itt K a) H1
theorem di_listS (h : DE K (some n) ta G (.list ds)) : DI K n (iSeq K ta) G ds := fun c σ H e R k => by
  have h2 := di_list (K := K) h c σ H e R k
  -- the same walk, the left way
  refine h c σ H e _ fun v H' s r => ?_
  cases r with
  | @lst a xs _ h1 r =>
    have e1 := e.ext s
    have hq : ∀ {H2}, Same (hide (OF G) H') H2 → SqL K H2 a xs := fun s2 => SqL.same ((vis_hide e.f0 e1.h0).trans s2) h1
    refine .inl ⟨a, rfl, ⟨xs, SqL.same e1.vsame h1⟩, k _ H' s ⟨fun i H2 hi s2 => ?_, fun H2 s2 => ⟨xs, hq s2, Nat.le_of_eq r.length⟩, fun i H2 x H3 d hd s2 y => ?_⟩⟩
    · have hi2 : i < xs.length := by rw [r.length]; exact hi
      exact ⟨xs, xs[i], hq s2, List.getElem?_eq_getElem hi2⟩
    · obtain ⟨rfl, y2⟩ := y
      refine ⟨Same.refl _, fun G2 σ2 c' q1 q2 q3 e2 => ?_⟩
      obtain ⟨w, w1, w2⟩ := r.get hd
      rw [y2 xs (hq s2)] at w1
      cases w1
      exact Rep.mono (src_see e.f0 e1.h0 rfl s2 e2 q1 q2 q3) w2
theorem di_tupS (h : DE K (some n) ta G (.tuple ds)) : DI K n (iSeq K ta) G ds := fun c σ H e R k => by
  refine h c σ H e _ fun v H' s r => ?_
  cases r with
  | @tup a xs _ h1 r =>
    have e1 := e.ext s
    have hq : ∀ {H2}, Same (hide (OF G) H') H2 → SqT K H2 a xs := fun s2 => .inl (.inl (s2 _ _ (vis_hide e.f0 e1.h0 _ _ h1)))
    refine .inr ⟨a, rfl, ⟨xs, .inl (.inl (e1.vsame _ _ h1))⟩, k _ H' s ⟨fun i H2 hi s2 => ?_, fun H2 s2 => ⟨xs, hq s2, Nat.le_of_eq r.length⟩, fun i H2 x H3 d hd s2 y => ?_⟩⟩
    · have hi2 : i < xs.length := by rw [r.length]; exact hi
      exact ⟨xs, xs[i], hq s2, List.getElem?_eq_getElem hi2⟩
    · obtain ⟨rfl, y2⟩ := y
      refine ⟨Same.refl _, fun G2 σ2 c' q1 q2 q3 e2 => ?_⟩
      obtain ⟨w, w1, w2⟩ := r.get hd
      rw [y2 xs (hq s2)] at w1
      cases w1
      exact Rep.mono (src_see e.f0 e1.h0 rfl s2 e2 q1 q2 q3) w2
theorem pi_seq {X : Cx} {tg l : Expr} {tl : TE} (hl : PE X l tl) : PI X tg l (iSeq X.K tl) := by
  refine ⟨fun pins s σ H R I h => ?_⟩
  refine thn (hl.run pins s σ H _ I h) fun v s1 ⟨x, H1, I1, r1, q1⟩ => ?_
  rcases q1 with ⟨a, e, ⟨xs, hq⟩, q⟩ | ⟨a, e, ⟨xs, hq⟩, q⟩
  · subst e
    cases r1
    obtain ⟨its, rv, p, hz⟩ := I1.list hq
    refine wpAny_pyIter_list p.isList ?_
    refine ⟨s1.heap.objs.size, [s1.heap.objs.size], _, _, H1, rfl, I1.kept (t' := s1.toks) fun b o e => Heap.get?_push_of_some _ e, turn_list a _, ⟨_, Heap.get?_push_size _ rfl, rfl, rfl⟩, fun b hb => ?_, q⟩
    have e : b = s1.heap.objs.size := by simpa using hb
    subst e
    exact I1.fpOk (Nat.le_refl _) (I1.hok.fresh (Nat.le_refl _))
  · subst e
    cases r1
    obtain ⟨its, rv, p, hz⟩ := I1.tuple hq
    refine wpAny_pyIter_tuple (show s1.heap.IsTuple a its.toArray from p) ?_
    refine ⟨s1.heap.objs.size, [s1.heap.objs.size], _, _, H1, rfl, I1.kept (t' := s1.toks) fun b o e => Heap.get?_push_of_some _ e, turn_tuple a _, ⟨_, Heap.get?_push_size _ rfl, rfl, rfl⟩, fun b hb => ?_, q⟩
    have e : b = s1.heap.objs.size := by simpa using hb
    subst e
    exact I1.fpOk (Nat.le_refl _) (I1.hok.fresh (Nat.le_refl _))
/-- ranges -/
def rgD (lo : Int) (k : Nat) : List PyData := (List.range k).map fun i => .int (lo + (i : Nat))
theorem src_range {lo : Int} {k : Nat} {F : Hp} {O : Addr → Prop} : Src K (Itr lo k) F true c O (rgD lo k) :=
  ⟨fun i H hi _ => (show i < k by simpa [rgD] using hi), fun H _ => (show k ≤ (rgD lo k).length by simp [rgD]), fun i H x H' d hd s y => by
    obtain ⟨rfl, rfl⟩ := y
    refine ⟨Same.refl _, fun G σ c' _ _ _ e => ?_⟩
    unfold rgD at hd
    rw [List.getElem?_map] at hd
    cases q : (List.range k)[i]? with
    | none => rw [q] at hd; cases hd
    | some w =>
      rw [q] at hd
      have : w = i := by
        obtain ⟨h1, h2⟩ := List.getElem?_eq_some_iff.mp q
        rw [List.getElem_range] at h2; exact h2.symm
      subst this
      cases hd
      exact .int _⟩
theorem di_range1 {k : Int} (h : DE K none te G (.int k)) (h1 : -(2 ^ 62) ≤ k) (h2 : k < 2 ^ 62) : DI K true (iRng1 (tCons te tNil)) G (rgD 0 k.toNat) := fun c σ H e R q => h c σ H e _ fun v H' s r => by
  cases r
  exact ⟨k, rfl, h1, h2, q _ H' s src_range⟩
theorem di_range2 {lo hi : Int} (h : DE K none ta G (.int lo)) (h' : DE K none tb G (.int hi)) (hb : -(2 ^ 62) ≤ lo ∧ lo < 2 ^ 62 ∧ -(2 ^ 62) ≤ hi ∧ hi < 2 ^ 62) : DI K true (iRng2 (tCons ta (tCons tb tNil))) G (rgD lo (hi - lo).toNat) := fun c σ H e R q => h c σ H e _ fun v H1 s1 r1 => h' c σ H1 (e.ext s1) _ fun u H2 s2 r2 => by
  cases r1; cases r2
  exact ⟨lo, hi, rfl, hb, q _ H2 (s1.trans s2) src_range⟩
/-- pairs: a new tuple a turn -/
theorem pair_see {O : Addr → Prop} {F Hs : Hp} {c' : C} {T : Addr} {xs : List V} (e : Sits K c' G σ H) (hT : H T = none) (h : Reps K (vis c' (OF G) (some n) H) xs ds) : Rep K (vis c' (OF G) (some n) (upd H T (.tup xs))) (.ref T) (.tuple ds) := by
  refine .tup ?_ (Reps.mono (e.vext (same_new hT)) h)
  show hide (OF G) _ T = _
  rw [hide_at (e.nof hT), plus_new (non_of e.h0 hT), upd_same]
  rfl
theorem zip_at {xs ys : List PyData} {i : Nat} {d : PyData} (h : (List.zipWith (fun a b => PyData.tuple [a, b]) xs ys)[i]? = some d) : ∃ a b, xs[i]? = some a ∧ ys[i]? = some b ∧ d = .tuple [a, b] := by
  rw [List.getElem?_zipWith] at h
  cases q : xs[i]? with
  | none => rw [q] at h; cases h
  | some a =>
    cases q' : ys[i]? with
    | none => rw [q, q'] at h; cases h
    | some b => rw [q, q'] at h; exact ⟨a, b, rfl, rfl, (Option.some.inj h).symm⟩
theorem di_zipT (h : DE K (some n) ta G (.tuple ds)) (h' : DE K (some n) tb G (.tuple es)) : DI K n (RZ.iZipA K (tCons ta (tCons tb tNil))) G (List.zipWith (fun a b => .tuple [a, b]) ds es) := fun c σ H e R k => h c σ H e _ fun v H1 s1 r1 => h' c σ H1 (e.ext s1) _ fun u H2 s2 r2 => by
  have e1 := e.ext s1
  have e2 := e1.ext s2
  have r1 := Rep.mono (e1.vext s2) r1
  cases r1 with
  | @tup a xs _ p1 r1 =>
    cases r2 with
    | @tup b ys _ p2 r2 =>
      have l1 := r1.length
      have l2 := r2.length
      have ha : ∀ {H3}, Same (hide (OF G) H2) H3 → SqT K H3 a xs := fun s3 => .inl (.inl (s3 _ _ (vis_hide e.f0 e2.h0 _ _ p1)))
      have hb : ∀ {H3}, Same (hide (OF G) H2) H3 → SqT K H3 b ys := fun s3 => .inl (.inl (s3 _ _ (vis_hide e.f0 e2.h0 _ _ p2)))
      refine ⟨a, b, xs, ys, rfl, .inr ⟨.inl (.inl (e2.vsame _ _ p1)), .inl (.inl (e2.vsame _ _ p2)), k _ H2 (s1.trans s2) ⟨fun i H3 hi s3 => ?_, fun H3 s3 => ⟨xs, ys, ha s3, hb s3, ?_⟩, fun i H3 x H4 d hd s3 y => ?_⟩⟩⟩
      · rw [List.length_zipWith] at hi
        have i1 : i < xs.length := by omega
        have i2 : i < ys.length := by omega
        exact ⟨xs, ys, xs[i], ys[i], ha s3, hb s3, List.getElem?_eq_getElem i1, List.getElem?_eq_getElem i2⟩
      · rw [List.length_zipWith]; omega
      · obtain ⟨T, x1, y1, rfl, hT, rfl, q1, q2⟩ := y
        refine ⟨same_new hT, fun G2 σ2 c' z1 z2 z3 e3 => ?_⟩
        obtain ⟨da, db, k1, k2, rfl⟩ := zip_at hd
        obtain ⟨w1, u1, v1⟩ := r1.get k1
        obtain ⟨w2, u2, v2⟩ := r2.get k2
        rw [q1 xs (ha s3)] at u1; cases u1
        rw [q2 ys (hb s3)] at u2; cases u2
        have see := src_see (n := n) e.f0 e2.h0 rfl s3 e3 z1 z2 z3
        exact pair_see (O := OF G) (F := H2) (Hs := H2) e3 hT (.cons (Rep.mono see v1) (.cons (Rep.mono see v2) .nil))
theorem di_zipL (h : DE K (some n) ta G (.list ds)) (h' : DE K (some n) tb G (.list es)) : DI K n (RZ.iZipA K (tCons ta (tCons tb tNil))) G (List.zipWith (fun a b => .tuple [a, b]) ds es) := fun c σ H e R k => h c σ H e _ fun v H1 s1 r1 => h' c σ H1 (e.ext s1) _ fun u H2 s2 r2 => by
  have e1 := e.ext s1
  have e2 := e1.ext s2
  have r1 := Rep.mono (e1.vext s2) r1
  cases r1 with
  | @lst a xs _ p1 r1 =>
    cases r2 with
    | @lst b ys _ p2 r2 =>
      have l1 := r1.length
      have l2 := r2.length
      have ha : ∀ {H3}, Same (hide (OF G) H2) H3 → SqL K H3 a xs := fun s3 => SqL.same s3 (SqL.same (vis_hide e.f0 e2.h0) p1)
      have hb : ∀ {H3}, Same (hide (OF G) H2) H3 → SqL K H3 b ys := fun s3 => SqL.same s3 (SqL.same (vis_hide e.f0 e2.h0) p2)
      refine ⟨a, b, xs, ys, rfl, .inl ⟨SqL.same e2.vsame p1, SqL.same e2.vsame p2, k _ H2 (s1.trans s2) ⟨fun i H3 hi s3 => ?_, fun H3 s3 => ⟨xs, ys, ha s3, hb s3, ?_⟩, fun i H3 x H4 d hd s3 y => ?_⟩⟩⟩
      · rw [List.length_zipWith] at hi
        have i1 : i < xs.length := by omega
        have i2 : i < ys.length := by omega
        exact ⟨xs, ys, xs[i], ys[i], ha s3, hb s3, List.getElem?_eq_getElem i1, List.getElem?_eq_getElem i2⟩
      · rw [List.length_zipWith]; omega
      · obtain ⟨T, x1, y1, rfl, hT, rfl, q1, q2⟩ := y
        refine ⟨same_new hT, fun G2 σ2 c' z1 z2 z3 e3 => ?_⟩
        obtain ⟨da, db, k1, k2, rfl⟩ := zip_at hd
        obtain ⟨w1, u1, v1⟩ := r1.get k1
        obtain ⟨w2, u2, v2⟩ := r2.get k2
        rw [q1 xs (ha s3)] at u1; cases u1
        rw [q2 ys (hb s3)] at u2; cases u2
        have see := src_see (n := n) e.f0 e2.h0 rfl s3 e3 z1 z2 z3
        exact pair_see (O := OF G) (F := H2) (Hs := H2) e3 hT (.cons (Rep.mono see v1) (.cons (Rep.mono see v2) .nil))

/-! ### comprehensions -/
def wipeG (G : Sl) : List Nat → Sl
  | [] => G
  | v :: vs => (wipeG G vs).set v none
theorem wipeG_at : ∀ {vs : List Nat} {i : Nat} {b : B}, (wipeG G vs)[i]? = some (some b) → G[i]? = some (some b)
  | [], _, _, h => h
  | v :: vs, i, b, h => by
    rcases set_at h with ⟨_, q⟩ | ⟨_, q⟩
    · cases q
    · exact wipeG_at q
theorem wipeG_len : ∀ vs : List Nat, (wipeG G vs).length = G.length
  | [] => rfl
  | v :: vs => by unfold wipeG; rw [List.length_set, wipeG_len vs]
/-- no slot that the block wipes is one's own -/
def NoOwn (G : Sl) (vs : List Nat) : Prop := ∀ a, OF G a → OF (wipeG G vs) a
theorem Sits.wipe (e : Sits K c G σ H) : ∀ vs : List Nat, Sits K c (wipeG G vs) (L2.wipe σ vs) H
  | [] => e
  | v :: vs => by
    have ih := Sits.wipe e vs
    have : Sits K c ((wipeG G vs).set v none) (L2.wipe σ vs) H := ih.drop
    refine { this with len := by simp [wipeG, L2.wipe, ih.len], at_ := fun i b h => ?_ }
    obtain ⟨w, h1, h2⟩ := this.at_ i b h
    refine ⟨w, ?_, h2⟩
    unfold L2.wipe
    rcases set_at h with ⟨_, q⟩ | ⟨hi, q⟩
    · cases q
    · rw [List.getElem?_set_ne (fun z => hi z.symm)]; exact h1
/-- the target stores in the wiped slots alone -/
def GW (g : TG) (vs : List Nat) : Prop := ∀ (v : V) (σ : L2.St) (H : Hp) (Q Q' : L2.St → Hp → Prop), (∀ σ' H', Q σ' H' → L2.wipe σ' vs = L2.wipe σ vs → Q' σ' H') → g v σ H Q → g v σ H Q'
def GWs (g : TGs) (vs : List Nat) : Prop := ∀ (v : List V) (σ : L2.St) (H : Hp) (Q Q' : L2.St → Hp → Prop), (∀ σ' H', Q σ' H' → L2.wipe σ' vs = L2.wipe σ vs → Q' σ' H') → g v σ H Q → g v σ H Q'
theorem wipe_set {x : Option V} : ∀ {vs : List Nat}, i ∈ vs → L2.wipe (σ.set i x) vs = L2.wipe σ vs
  | [], h => by simp at h
  | v :: vs, h => by
    unfold L2.wipe
    by_cases hv : i ∈ vs
    · rw [wipe_set hv]
    · have e : i = v := by
        rcases List.mem_cons.mp h with q | q
        · exact q
        · exact (hv q).elim
      subst e
      have : ∀ {us : List Nat}, i ∉ us → L2.wipe (σ.set i x) us = (L2.wipe σ us).set i x := fun {us} => by
        induction us with
        | nil => intro _; rfl
        | cons u us ih =>
          intro hu
          have h1 : i ≠ u := fun z => hu (by simp [z])
          have h2 : i ∉ us := fun z => hu (by simp [z])
          unfold L2.wipe
          rw [ih h2, List.set_comm _ _ h1]
      rw [this hv, List.set_set]
theorem wipe_idem : ∀ (vs us : List Nat), (∀ v ∈ vs, v ∈ us) → L2.wipe (L2.wipe σ vs) us = L2.wipe σ us
  | [], us, _ => rfl
  | v :: vs, us, h => by
    rw [show L2.wipe σ (v :: vs) = (L2.wipe σ vs).set v none from rfl, wipe_set (h v (by simp))]
    exact wipe_idem vs us fun w hw => h w (by simp [hw])
theorem gw_name {vs : List Nat} (h : i ∈ vs) : GW (gName i) vs := fun v σ H Q Q' k q => k _ _ q (wipe_set h)
theorem gws_nil {vs : List Nat} : GWs gNil vs := fun v σ H Q Q' k q => ⟨q.1, k _ _ q.2 rfl⟩
theorem gws_cons {g : TG} {h : TGs} {vs : List Nat} (h1 : GW g vs) (h2 : GWs h vs) : GWs (gCons g h) vs := fun v σ H Q Q' k ⟨w, r, e, q⟩ =>
  ⟨w, r, e, h1 w σ H _ _ (fun σ1 H1 q1 e1 => h2 r σ1 H1 _ _ (fun σ2 H2 q2 e2 => k _ _ q2 (e2.trans e1)) q1) q⟩
theorem gw_tup {g : TGs} {vs : List Nat} {k : Nat} (h : GWs g vs) : GW (gTup K k g) vs := fun v σ H Q Q' kk ⟨a, xs, h1, h2, h3, q⟩ => ⟨a, xs, h1, h2, h3, h xs σ H Q Q' kk q⟩

/-- the new list of a comprehension: seen by nobody while it grows -/
def withD (c : C) (D : Addr) (acc : List V) (F : Hp) : C := { F := c.F, H0 := upd c.H0 D (.lst acc), Bs := F }
theorem vis_withD {D : Addr} {acc : List V} {F : Hp} {O : Addr → Prop} (hf : c.F D = none) {n : Bool} : vis (withD c D acc F) O (some n) H = fun a => if a = D then none else vis c O (some n) H a := by
  funext a
  show hide O (plus (gz (withD c D acc F) n) (upd c.H0 D (.lst acc)) H) a = _
  by_cases hD : a = D
  · subst hD
    rw [if_pos rfl]
    by_cases p : O a
    · rw [hide_none p]
    · rw [hide_at p]
      unfold plus
      rw [upd_same]
      show gz (withD c a acc F) n a = none
      unfold gz
      cases n
      · exact hf
      · rfl
  · rw [if_neg hD]
    show _ = hide O (plus (gz c n) c.H0 H) a
    by_cases p : O a
    · rw [hide_none p, hide_none p]
    · rw [hide_at p, hide_at p]
      unfold plus
      rw [upd_ne hD]
      rfl
theorem lc_start {vs : List Nat} {D : Addr} (e : Sits K c G σ H) (hD : H D = none) : Sits K (withD c D [] (hide (OF G) H)) (wipeG G vs) (L2.wipe σ vs) (upd H D (.lst [])) := by
  have w := e.wipe vs
  have hf : c.F D = none := non_of (e.f0.trans e.h0) hD
  have h0 : c.H0 D = none := non_of e.h0 hD
  have sub : ∀ a, OF (wipeG G vs) a → OF G a := fun a ⟨i, b, q1, q2⟩ => ⟨i, b, wipeG_at q1, q2⟩
  have ne : ∀ a, OF (wipeG G vs) a → a ≠ D := fun a p z => by
    obtain ⟨o, h1, _⟩ := w.mu a p
    rw [z, hD] at h1; cases h1
  refine ⟨fun a o h => ?_, fun a o h => ?_, fun a o h => ?_, fun a h => ⟨?_, ?_⟩, fun a h => ?_, w.dj, w.nd, w.len, fun i b h => ?_⟩
  · show upd c.H0 D _ a = _
    rw [upd_ne (ne_of_none h hf)]; exact e.f0 a o h
  · by_cases z : a = D
    · subst z
      have h : upd c.H0 a (.lst []) a = some o := h
      rw [upd_same] at h ⊢; exact h
    · have h : upd c.H0 D (.lst []) a = some o := h
      rw [upd_ne z] at h ⊢; exact e.h0 a o h
  · have : H a = some o := hide_same a o h
    rw [upd_ne (ne_of_none this hD)]; exact this
  · show upd c.H0 D _ a = none
    rw [upd_ne (ne a h)]; exact (e.fr a (sub a h)).1
  · exact hide_none (sub a h)
  · obtain ⟨o, h1, h2⟩ := w.mu a h
    exact ⟨o, by rw [upd_ne (ne a h)]; exact h1, h2⟩
  · obtain ⟨v, h1, h2⟩ := w.at_ i b h
    refine ⟨v, h1, h2.mono (fun n a o q => ?_) (same_new hD)⟩
    have q' : vis c (OF (wipeG G vs)) (some n) H a = some o := q
    have hne : a ≠ D := ne_of_none (w.vsame a o q') hD
    show vis (withD c D [] _) _ (some n) _ a = _
    rw [vis_withD hf]
    show (if a = D then none else _) = _
    rw [if_neg hne]
    exact w.vext (same_new hD) a o q'
/-- one item more -/
theorem lc_more {D : Addr} {acc acc' : List V} {F : Hp} (e : Sits K (withD c D acc F) G σ H) (hD : H D = some (.lst acc)) (hf : c.F D = none) (hF : F D = none) :
    Sits K (withD c D acc' F) G σ (upd H D (.lst acc')) ∧ ∀ n, vis (withD c D acc' F) (OF G) (some n) (upd H D (.lst acc')) = vis (withD c D acc F) (OF G) (some n) H := by
  have ne : ∀ a, OF G a → a ≠ D := fun a p z => by
    have := (e.fr a p).1
    have h : upd c.H0 D (.lst acc) a = none := this
    rw [z, upd_same] at h; cases h
  have hv : ∀ n, vis (withD c D acc' F) (OF G) (some n) (upd H D (.lst acc')) = vis (withD c D acc F) (OF G) (some n) H := fun n => by
    rw [vis_withD hf, vis_withD hf]
    funext a
    by_cases z : a = D
    · rw [if_pos z, if_pos z]
    · rw [if_neg z, if_neg z]
      show hide (OF G) (plus _ _ _) a = hide (OF G) (plus _ _ _) a
      by_cases p : OF G a
      · rw [hide_none p, hide_none p]
      · rw [hide_at p, hide_at p]
        unfold plus
        rw [upd_ne z]
  refine ⟨⟨fun a o h => ?_, fun a o h => ?_, fun a o h => ?_, fun a h => ⟨?_, (e.fr a h).2⟩, fun a h => ?_, e.dj, e.nd, e.len, fun i b h => ?_⟩, hv⟩
  · have h1 := e.f0 a o h
    have h1 : upd c.H0 D (.lst acc) a = some o := h1
    have hne : a ≠ D := ne_of_none h hf
    show upd c.H0 D (.lst acc') a = _
    rw [upd_ne hne] at h1 ⊢; exact h1
  · by_cases z : a = D
    · subst z
      have h : upd c.H0 a (.lst acc') a = some o := h
      rw [upd_same] at h ⊢; exact h
    · have h : upd c.H0 D (.lst acc') a = some o := h
      rw [upd_ne z] at h ⊢
      exact e.h0 a o (show upd c.H0 D (.lst acc) a = some o by rw [upd_ne z]; exact h)
  · rw [upd_ne (ne_of_none h hF)]; exact e.b0 a o h
  · have := (e.fr a h).1
    have h' : upd c.H0 D (.lst acc) a = none := this
    show upd c.H0 D (.lst acc') a = none
    rw [upd_ne (ne a h)] at h' ⊢; exact h'
  · obtain ⟨o, h1, h2⟩ := e.mu a h
    exact ⟨o, by rw [upd_ne (ne a h)]; exact h1, h2⟩
  · obtain ⟨v, h1, h2⟩ := e.at_ i b h
    refine ⟨v, h1, ?_⟩
    have hv' : (fun n => vis (withD c D acc' F) (OF G) (some n) (upd H D (.lst acc'))) = fun n => vis (withD c D acc F) (OF G) (some n) H := funext hv
    rw [hv']
    cases b with
    | sh n d => exact h2
    | own n x ds =>
      obtain ⟨r1, ws, r2, r3⟩ := h2
      exact ⟨r1, ws, by rw [upd_ne (ne x ⟨i, _, h, by simp [B.ows]⟩)]; exact r2, r3⟩
    | odic n x ks =>
      obtain ⟨r1, ws, r2, r3⟩ := h2
      exact ⟨r1, ws, by rw [upd_ne (ne x ⟨i, _, h, by simp [B.ows]⟩)]; exact r2, r3⟩
    | tupo n xs =>
      obtain ⟨t, ws, r1, r2, r3⟩ := h2
      refine ⟨t, ws, r1, ?_, ?_⟩
      · rw [upd_ne fun z => ?_]
        · exact r2
        · rw [z, hD] at r2; cases r2
      · have key : ∀ a ∈ itOws xs, a ≠ D := fun a ha => ne a ⟨i, _, h, ha⟩
        clear h h1 hv hv' r2
        induction r3 with
        | nil => exact .nil
        | @cons v x vs xs r _ ih =>
          refine .cons (RepIt.mono (Same.refl _) (fun y hy ws q => ?_) r) (ih fun y hy => key y ?_)
          · rw [upd_ne (key y ?_)]
            · exact q
            · cases x with
              | inl d => simp [itOws] at hy
              | inr p => obtain ⟨z, ds⟩ := p; simp [itOws] at hy ⊢; exact .inl hy
          · cases x with
            | inl d => exact hy
            | inr p => obtain ⟨z, ds⟩ := p; exact List.mem_cons_of_mem _ hy
/-- [f(x) for x in xs if p(x)]: a new list; n: what it holds; n': what is walked -/
theorem dn_lc {α : Type} {wi : TI} {g : TG} {vs : List Nat} (xs : List α) (inj : α → PyData) (p : α → Bool) (f : α → PyData) (hI : DI K n' wi G (xs.map inj)) (hv : NoOwn G vs) (hg : GW g vs) (hl : xs.length ≤ 100000)
    (hb : ∀ x ∈ xs, DG K g n' (inj x) (wipeG G vs) fun G' => (∀ a, OF (wipeG G vs) a → OF G' a) ∧ DT K tt G' (p x) ∧ (p x = true → DE K (some n) te G' (f x))) : DN K n (tLc wi g tt te vs) G ((xs.filter p).map f) := fun c σ H e Q q => hI c σ H e _ fun J H1 s S D hD => by
  have e1 := e.ext s
  have hf : c.F D = none := non_of (e1.f0.trans e1.h0) hD
  have hF : hide (OF G) H1 D = none := non_of hide_same hD
  refine ⟨fun i m H2 => m = xs.length - i ∧ i ≤ xs.length ∧ ∃ acc, Sits K (withD c D acc (hide (OF G) H1)) (wipeG G vs) (L2.wipe σ vs) H2 ∧ H2 D = some (.lst acc) ∧ Same H1 H2 ∧
    Reps K (vis (withD c D acc (hide (OF G) H1)) (OF (wipeG G vs)) (some n) H2) acc (((xs.take i).filter p).map f), ⟨xs.length, by simp, Nat.zero_le _, [], lc_start e1 hD, upd_same, same_new hD, by simpa using .nil⟩, ?_⟩
  rintro i m H2 ⟨rfl, hi, acc, e2, hd, s2, r2⟩
  by_cases hlt : i < xs.length
  · have hx : (xs.map inj)[i]? = some (inj xs[i]) := by rw [List.getElem?_map, List.getElem?_eq_getElem hlt]; rfl
    refine .inr ⟨S.goes i H2 (by simpa using hlt) (hide_same.trans s2), fun H' => ∃ acc, Sits K (withD c D acc (hide (OF G) H1)) (wipeG G vs) (L2.wipe σ vs) H' ∧ H' D = some (.lst acc) ∧ Same H1 H' ∧
      Reps K (vis (withD c D acc (hide (OF G) H1)) (OF (wipeG G vs)) (some n) H') acc (((xs.take (i + 1)).filter p).map f), fun H' w => ⟨xs.length - (i + 1), by omega, rfl, hlt, w⟩, fun x H3 y => ?_⟩
    obtain ⟨s3, rx⟩ := S.yields i H2 x H3 _ hx (hide_same.trans s2) y
    have e3 := e2.ext s3
    have rx' := rx (wipeG G vs) (L2.wipe σ vs) (withD c D acc (hide (OF G) H1)) rfl (fun a o h => by
      show upd c.H0 D _ a = _
      rw [upd_ne (ne_of_none h hF)]) rfl e2
    have tk : (xs.take (i + 1)) = xs.take i ++ [xs[i]] := by rw [List.take_add_one, List.getElem?_eq_getElem hlt]; rfl
    refine hg x (L2.wipe σ vs) H3 _ _ (fun σ2 H4 q1 e4 => ⟨e4.trans (wipe_idem vs vs fun v h => h), q1⟩) ?_
    refine hb xs[i] (List.getElem_mem hlt) _ _ H3 x _ e3 rx' fun G' σ2 ⟨ho, ht, hE⟩ e4 => ?_
    refine ht _ σ2 H3 e4 _ fun H4 s4 => ?_
    have e5 := e4.ext s4
    cases hp : p xs[i] with
    | true =>
      show te σ2 H4 _
      refine hE hp _ σ2 H4 e5 _ fun y H5 s5 ry => ?_
      have s25 : Same H2 H5 := (s3.trans s4).trans s5
      have hd5 := s25 _ _ hd
      obtain ⟨e6, v6⟩ := lc_more (acc' := acc ++ [y]) (e2.ext s25) hd5 hf hF
      refine ⟨acc, hd5, ?_, acc ++ [y], e6, upd_same, fun a o h => ?_, ?_⟩
      · have h1 := r2.length
        have h2 : (((xs.take i).filter p).map f).length ≤ xs.length := by
          rw [List.length_map]
          exact Nat.le_trans (List.length_filter_le _ _) (by rw [List.length_take]; omega)
        exact Nat.lt_of_le_of_lt (by omega : acc.length ≤ 100000) (by decide)
      · rw [upd_ne (ne_of_none h hD)]; exact s25 a o (s2 a o h)
      · rw [tk, List.filter_append, List.map_append, v6]
        refine Reps.append (Reps.mono ((e2.vext (m := some n) s25)) r2) ?_
        have : [xs[i]].filter p = [xs[i]] := by simp [hp]
        rw [this]
        refine .cons (Rep.mono (hide_le (Same.refl _) fun a o _ w => ho a w) ry) .nil
    | false =>
      show ∃ acc, _
      have s24 : Same H2 H4 := s3.trans s4
      refine ⟨acc, e2.ext s24, s24 _ _ hd, s2.trans s24, ?_⟩
      have : [xs[i]].filter p = [] := by simp [hp]
      rw [tk, List.filter_append, this, List.append_nil]
      exact Reps.mono (e2.vext (m := some n) s24) r2
  · have hn : i = xs.length := by omega
    subst hn
    refine .inl ⟨by have := S.stops H2 (hide_same.trans s2); simpa using this, ?_⟩
    rw [List.take_length] at r2
    refine q D acc H2 (non_of s hD) (s.trans s2) hd (Reps.mono (fun a o h => ?_) r2)
    rw [vis_withD hf] at h
    have h : (if a = D then none else vis c (OF (wipeG G vs)) (some n) H2 a) = some o := h
    by_cases z : a = D
    · rw [if_pos z] at h; cases h
    · rw [if_neg z] at h
      rw [hide_at (O := fun b => b = D) z]
      exact hide_le (Same.refl _) (fun a o _ w => hv a w) a o h
theorem dt_yes : DT K tYes G true := fun c σ H e Q q => q H (Same.refl H)
/-- without a test -/
theorem dn_lcM {α : Type} {wi : TI} {g : TG} {vs : List Nat} (xs : List α) (inj : α → PyData) (f : α → PyData) (hI : DI K n' wi G (xs.map inj)) (hv : NoOwn G vs) (hg : GW g vs) (hl : xs.length ≤ 100000)
    (hb : ∀ x ∈ xs, DG K g n' (inj x) (wipeG G vs) fun G' => (∀ a, OF (wipeG G vs) a → OF G' a) ∧ DE K (some n) te G' (f x)) : DN K n (tLc wi g tYes te vs) G (xs.map f) := by
  have := dn_lc (tt := tYes) (n := n) (n' := n') (te := te) xs inj (fun _ => true) f hI hv hg hl fun x hx => fun c σ H v Q e r q => hb x hx c σ H v Q e r fun G' σ' h => q G' σ' ⟨h.1, dt_yes, fun _ => h.2⟩
  rwa [show xs.filter (fun _ => true) = xs from List.filter_eq_self.mpr fun _ _ => rfl] at this
theorem keep_set {G : Sl} {i : Nat} {x : Option B} (h : ∀ b, G[i]? = some (some b) → b.ows = []) : ∀ a, OF G a → OF (G.set i x) a := fun a ⟨j, b, h1, h2⟩ => ⟨j, b, by
  by_cases z : i = j
  · subst z; rw [h b h1] at h2; simp at h2
  · rw [List.getElem?_set_ne z]; exact h1, h2⟩
theorem de_dn (h : DN K n te G ds) (hm : okM m n = true) : DE K m te G (.list ds) := de_dr (dr_new h) hm
end
end
end TB

/-! TB builtins by data. -/
namespace TB
open PySem PySem.Spec PyProof.Rows L2
section
variable {K : PySem.W.Frag}
section
variable {m m' : Md} {n n' : Bool} {te ta tb tx tc : TE} {tt tu : TT} {ts tv : TS} {G G' : Sl} {d x y z : PyData} {ds es : List PyData} {i j : Nat} {c : C} {σ : L2.St} {H H' : Hp} {v : V} {P P' : Post} {t : TA}
/-! len -/
def rLen (K : PySem.W.Frag) : List V → Hp → VK → Prop := fun xs H Q => (∃ x n, xs = [x] ∧ LenV K x H n ∧ Q (.int n) H) ∨ ∃ a kvs, xs = [V.ref a] ∧ H a = some (.dK kvs) ∧ Q (.int kvs.length) H
theorem call_lenA {X : Cx} : CallR X (.builtin "len") (rLen X.K) := CallR.or call_len call_lenD
theorem reps1 {H : Hp} {vs : List V} (h : Reps K H vs [d]) : ∃ v, vs = [v] ∧ Rep K H v d := by
  cases h with
  | cons r t => cases t; exact ⟨_, rfl, r⟩
theorem reps2 {H : Hp} {vs : List V} (h : Reps K H vs [d, x]) : ∃ v w, vs = [v, w] ∧ Rep K H v d ∧ Rep K H w x := by
  cases h with
  | cons r t => obtain ⟨w, rfl, q⟩ := reps1 t; exact ⟨_, w, rfl, r, q⟩
theorem de_lenL (h : DE K none te G (.list ds)) : DE K m (tCB (rLen K) (tCons te tNil)) G (.int (ds.length : Nat)) := de_cb0 (ds := [.list ds]) (fun P H vs Q s r q => by
  obtain ⟨v, rfl, r'⟩ := reps1 r
  clear r
  cases r' with
  | @lst a xs _ h1 r => exact .inl ⟨_, ds.length, rfl, .inl ⟨xs, rd_lst s h1, r.length.symm⟩, q _ H (Same.refl H) (.int _)⟩) rfl (da_cons h da_nil)
theorem de_lenT (h : DE K none te G (.tuple ds)) : DE K m (tCB (rLen K) (tCons te tNil)) G (.int (ds.length : Nat)) := de_cb0 (ds := [.tuple ds]) (fun P H vs Q s r q => by
  obtain ⟨v, rfl, r'⟩ := reps1 r
  clear r
  cases r' with
  | @tup a xs _ h1 r => exact .inl ⟨_, ds.length, rfl, .inr ⟨xs, rd_tup s h1, r.length.symm⟩, q _ H (Same.refl H) (.int _)⟩) rfl (da_cons h da_nil)
theorem de_lenS {s : Str} (h : DE K none te G (.str s)) (hl : s.length ≤ 100000) : DE K m (tCB (rLen K) (tCons te tNil)) G (.int (s.length : Nat)) := de_cb0 (ds := [.str s]) (fun P H vs Q s r q => by
  obtain ⟨v, rfl, r'⟩ := reps1 r
  clear r
  cases r'
  exact .inl ⟨_, _, rfl, ⟨Nat.le_trans hl (by decide), rfl⟩, q _ H (Same.refl H) (.int _)⟩) rfl (da_cons h da_nil)
/-! sum of a list of ints -/
theorem de_sum {ns : List Int} (h : DE K none te G (.list (ns.map .int))) : DE K m (tCB (rSum K) (tCons te tNil)) G (.int ns.sum) := de_cb0 (ds := [.list (ns.map .int)]) (fun P H vs Q s r q => by
  obtain ⟨v, rfl, r'⟩ := reps1 r
  clear r
  cases r' with
  | @lst a xs _ h1 r =>
    have := r.ints
    subst this
    exact ⟨a, ns, rfl, rd_lst s h1, q _ H (Same.refl H) (.int _)⟩) rfl (da_cons h da_nil)
/-! int(x), list(x), tuple(x) -/
def rInt1 : List V → Hp → VK → Prop := fun xs H Q => (∃ i, xs = [.int i] ∧ Q (.int i) H) ∨ ∃ k, xs = [.bl k] ∧ Q (.int (if k then 1 else 0)) H
theorem call_intA {X : Cx} : CallR X (.type "int") rInt1 := call_int1
theorem de_intI {a : Int} (h : DE K none te G (.int a)) : DE K m (tCB rInt1 (tCons te tNil)) G (.int a) := de_cb0 (ds := [.int a]) (fun P H vs Q s r q => by
  obtain ⟨v, rfl, r'⟩ := reps1 r
  clear r
  cases r'
  exact .inl ⟨a, rfl, q _ H (Same.refl H) (.int _)⟩) rfl (da_cons h da_nil)
theorem de_intB {a : Bool} (h : DE K none te G (.bool a)) : DE K m (tCB rInt1 (tCons te tNil)) G (.int (if a then 1 else 0)) := de_cb0 (ds := [.bool a]) (fun P H vs Q s r q => by
  obtain ⟨v, rfl, r'⟩ := reps1 r
  clear r
  cases r'
  exact .inr ⟨a, rfl, q _ H (Same.refl H) (.int _)⟩) rfl (da_cons h da_nil)
def rListOf (K : PySem.W.Frag) : List V → Hp → VK → Prop := fun xs H Q => ∃ p ys, xs = [.ref p] ∧ (SqL K H p ys ∨ SqT K H p ys) ∧ ∀ l, H l = none → Q (.ref l) (upd H l (.lst ys))
theorem call_listA {X : Cx} : CallR X (.type "list") (rListOf X.K) := call_list_of
/-- a new list of the items -/
theorem dn_cbL {r : List V → Hp → VK → Prop} (hr : ∀ (P H : Hp) (vs : List V) (Q : VK), Same P H → Reps K P vs ds → (∀ l ws, H l = none → Reps K P ws es → Q (.ref l) (upd H l (.lst ws))) → r vs H Q) (ha : DA K (some n) t G ds) : DN K n (tCB r t) G es := fun c σ H e Q q => ha c σ H e _ fun vs H1 s1 r1 => by
  have e1 := e.ext s1
  refine hr _ H1 vs _ e1.vsame r1 fun l ws hl rw' => q l ws _ (non_of s1 hl) (s1.trans (same_new hl)) upd_same (Reps.mono (fun a o h => ?_) rw')
  rw [hide_at (O := fun b => b = l) fun z => ?_]
  · exact e1.vext (same_new hl) a o h
  · subst z
    have := e1.vsame a o h
    rw [hl] at this; cases this
theorem dn_list (h : DE K (some n) te G (.list ds)) : DN K n (tCB (rListOf K) (tCons te tNil)) G ds := dn_cbL (ds := [.list ds]) (fun P H vs Q s r q => by
  obtain ⟨v, rfl, r'⟩ := reps1 r
  clear r
  cases r' with
  | @lst a xs _ h1 r => exact ⟨a, xs, rfl, .inl (rd_lst s h1), fun l hl => q l xs hl r⟩) (da_cons h da_nil)
theorem dn_listT (h : DE K (some n) te G (.tuple ds)) : DN K n (tCB (rListOf K) (tCons te tNil)) G ds := dn_cbL (ds := [.tuple ds]) (fun P H vs Q s r q => by
  obtain ⟨v, rfl, r'⟩ := reps1 r
  clear r
  cases r' with
  | @tup a xs _ h1 r => exact ⟨a, xs, rfl, .inr (rd_tup s h1), fun l hl => q l xs hl r⟩) (da_cons h da_nil)
def rTupOf (K : PySem.W.Frag) : List V → Hp → VK → Prop := fun xs H Q => ∃ p ys, xs = [.ref p] ∧ ((SqL K H p ys ∧ ∀ l, H l = none → Q (.ref l) (upd H l (.tup ys))) ∨ (SqT K H p ys ∧ Q (.ref p) H))
theorem call_tupA {X : Cx} : CallR X (.type "tuple") (rTupOf X.K) := call_tuple_of
theorem de_tupL (h : DE K m te G (.list ds)) : DE K m (tCB (rTupOf K) (tCons te tNil)) G (.tuple ds) := de_cb (ds := [.list ds]) (fun P H vs Q s r q => by
  obtain ⟨v, rfl, r'⟩ := reps1 r
  clear r
  cases r' with
  | @lst a xs _ h1 r => exact ⟨a, xs, rfl, .inl ⟨rd_lst s h1, fun l hl => q _ _ (same_new hl) (rep_newT hl r s)⟩⟩) (da_cons h da_nil)
/-! isinstance -/
def tyD : PyData → String
  | .none => "NoneType"
  | .bool _ => "bool"
  | .int _ => "int"
  | .str _ => "str"
  | .list _ => "list"
  | .tuple _ => "tuple"
  | .dict _ => "dict"
theorem rep_ty {P : Hp} (s : Same P H) (h : Rep K P v d) : TyX K H v (.type (tyD d)) := by
  cases h with
  | non => exact .base .non
  | bl b => exact .base (.bl b)
  | int i => exact .base (.int i)
  | str x => exact .base (.str x)
  | lst h r =>
    rcases h with (h | ⟨o, h⟩) | ⟨o, its, n, h, hc, _⟩
    · exact .base (.lst (s _ _ h))
    · exact .base (.frz (s _ _ h))
    · exact .kList h hc
  | tup h r => exact .base (.tup (s _ _ h))
  | dic h r =>
    rcases h with h | ⟨o, h⟩
    · exact .base (.dK (s _ _ h))
    · exact .fDict (s _ _ h)
/-- isinstance(x, T), T a built-in type -/
theorem de_isi {T : String} {b : Bool} (h : DE K none te G d) (hb : kitB (tyD d) T = some b) : DE K m (tCB (rIsi K) (tCons te (tCons (tC (.ty T)) tNil))) G (.bool b) := de_imm (fun c σ H e Q q => h c σ H e _ fun v H1 s r =>
  ⟨v, .ty T, .type (tyD d), .type T, b, rfl, .ty T, rep_ty (Same.refl H1) r, kit_ty hb, q _ H1 s (.bl _)⟩) rfl
end
end
end TB

/-! TB defs: a def of the text, its promise by data. -/
namespace TB
open PySem PySem.Spec PyProof.Rows L2
section
variable {K : PySem.W.Frag}
/-- the def st stands by the name x -/
def Here (K : PySem.W.Frag) (mg : Str → Option Value) (x : Str) (st : Stmt) (ps : List Str) : Prop := ∃ (f : Addr) (fd : FuncData), Fun K x x st f fd ∧ mg x = some (.ref f) ∧ Binds K fd ps []
/-- .. and keeps its promise -/
def DefOk (P : Program) (w : World) (K : PySem.W.Frag) (mg : Str → Option Value) (base : Heap) (k : Nat) (x : Str) (ps : List Str) (sp : Sp) : Prop :=
  ∃ (f : Addr) (fd : FuncData), FnOk P w K mg base CX0 k f fd ps sp ∧ mg x = some (.ref f) ∧ PySem.W.keepIn K (.ref f) = true ∧ Binds K fd ps []
section
variable {P : Program} {w : World} {mg : Str → Option Value} {base : Heap}
def ent (N : List Str) (ds : List PyData) : Sl := ds.map (fun d => some (B.sh false d)) ++ List.replicate (N.length - ds.length) none
theorem reps_slots {H : Hp} {vs : List V} {ds : List PyData} (h : Reps K H vs ds) {i : Nat} {b : B} (q : (ds.map fun d => some (B.sh false d))[i]? = some (some b)) : ∃ v d, vs[i]? = some v ∧ b = .sh false d ∧ Rep K H v d := by
  rw [List.getElem?_map] at q
  cases e : ds[i]? with
  | none => rw [e] at q; cases q
  | some d =>
    rw [e] at q
    cases q
    obtain ⟨v, h1, h2⟩ := h.get e
    exact ⟨v, d, h1, rfl, h2⟩
theorem ent_sits {F H : Hp} {N : List Str} {vs : List V} {ds : List PyData} (hf : Same F H) (h : Reps K F vs ds) : Sits K ⟨H, F, H⟩ (ent N ds) (L2.start N vs) H := by
  have at' : ∀ {i : Nat} {b : B}, (ent N ds)[i]? = some (some b) → (ds.map fun d => some (B.sh false d))[i]? = some (some b) := fun {i b} q => by
    unfold ent at q
    by_cases hi : i < (ds.map fun d => some (B.sh false d)).length
    · rwa [List.getElem?_append_left hi] at q
    · rw [List.getElem?_append_right (by omega)] at q
      have := List.getElem?_eq_some_iff.mp q
      obtain ⟨h1, h2⟩ := this
      rw [List.getElem_replicate] at h2
      cases h2
  have none' : ∀ a, ¬ OF (ent N ds) a := fun a ⟨i, b, q1, q2⟩ => by
    obtain ⟨v, d, _, rfl, _⟩ := reps_slots h (at' q1)
    simp [B.ows] at q2
  refine ⟨hf, Same.refl _, Same.refl _, fun a q => (none' a q).elim, fun a q => (none' a q).elim, fun i j b b' a q1 _ q3 _ => (none' a ⟨i, b, q1, q3⟩).elim, fun i b q => ?_, ?_, fun i b q => ?_⟩
  · obtain ⟨v, d, _, rfl, _⟩ := reps_slots h (at' q)
    exact List.nodup_nil
  · unfold L2.start ent
    simp [h.length]
  · obtain ⟨v, d, h1, rfl, h2⟩ := reps_slots h (at' q)
    refine ⟨v, ?_, Rep.mono (fun a o hh => ?_) h2⟩
    · unfold L2.start
      rw [List.getElem?_append_left (by rw [List.length_map]; exact (List.getElem?_eq_some_iff.mp h1).1), List.getElem?_map, h1]
      rfl
    · show hide _ _ a = _
      rw [hide_at (none' a)]
      exact plus_old hh hf
/-- the whole of a def: its body's transformer keeps the promise -/
theorem mkFn {x : Str} {st : Stmt} {N ps : List Str} {k : Nat} {ts : TS} {ι : Type} {args : ι → List PyData} {pre : ι → Prop} {res : ι → R → Prop} {f : Addr} {fd : FuncData} (F : Fun K x x st f fd) (S : FnScope N ps (defScope st)) (hlen : ∀ i, (args i).length = ps.length)
    (hder : ∀ (f : Addr) (cdv : Value) (A : Around) (outer : List Env) (s : Shared) (H : Hp) (E : XK), Room k (A.deeper (envOfC x (defScope st) s.heap.objs.size f cdv)) → PSs (cxOf CX0 P w K mg base N x (defScope st) f cdv A outer s H E).nox (defBody st) ts)
    (hds : ∀ i, pre i → DS K ts (ent N (args i)) { nx := fun _ => res i (.val true .none), rt := res i }) : FnOk P w K mg base CX0 (k + 1) f fd ps (spD K args pre res) := by
  refine F.ok S (spD_len hlen) (fun cdv A outer s H vs Q E hr hsp => ⟨ts, hder f cdv A outer s H E hr, ?_⟩)
  obtain ⟨F, i, hF, hv, hp, kq⟩ := hsp
  refine hds i hp ⟨H, F, H⟩ _ H _ (ent_sits hF hv) (fun G' σ' H' p e => ?_) (fun r v H' p s h => kq r v H' p s h) (fun _ _ _ p => p.elim) (fun _ _ _ p => p.elim)
  exact kq _ .non H' p e.h0 ⟨.sh true .none, rfl, List.nodup_nil, fun _ h => (by simp [B.ows] at h), .non⟩
/-- .. by a promise of one's own -/
theorem mkFnR {x : Str} {st : Stmt} {N ps : List Str} {k : Nat} {ts : TS} {sp : Sp} {f : Addr} {fd : FuncData} (F : Fun K x x st f fd) (S : FnScope N ps (defScope st)) (hlen : ∀ vs H Q E, sp vs H Q E → vs.length = ps.length)
    (hder : ∀ (f : Addr) (cdv : Value) (A : Around) (outer : List Env) (s : Shared) (H : Hp) (E : XK), Room k (A.deeper (envOfC x (defScope st) s.heap.objs.size f cdv)) → PSs (cxOf CX0 P w K mg base N x (defScope st) f cdv A outer s H E).nox (defBody st) ts)
    (hraw : ∀ vs H Q E, sp vs H Q E → ts { nx := fun _ H' => Q .non H', rt := Q } (L2.start N vs) H) : FnOk P w K mg base CX0 (k + 1) f fd ps sp :=
  F.ok S hlen (fun cdv A outer s H vs Q E hr hsp => ⟨ts, hder f cdv A outer s H E hr, hraw vs H Q E hsp⟩)
theorem mkDefR {x : Str} {st : Stmt} {N ps : List Str} {k : Nat} {ts : TS} {sp : Sp} (h : Here K mg x st ps) (S : FnScope N ps (defScope st)) (hlen : ∀ vs H Q E, sp vs H Q E → vs.length = ps.length)
    (hder : ∀ (f : Addr) (cdv : Value) (A : Around) (outer : List Env) (s : Shared) (H : Hp) (E : XK), Room k (A.deeper (envOfC x (defScope st) s.heap.objs.size f cdv)) → PSs (cxOf CX0 P w K mg base N x (defScope st) f cdv A outer s H E).nox (defBody st) ts)
    (hraw : ∀ vs H Q E, sp vs H Q E → ts { nx := fun _ H' => Q .non H', rt := Q } (L2.start N vs) H) : DefOk P w K mg base (k + 1) x ps sp := by
  obtain ⟨f, fd, F, hm, b⟩ := h
  exact ⟨f, fd, mkFnR F S hlen hder hraw, hm, F.kp, b⟩
/-- the raw form of a promise by data -/
theorem raw_of {N : List Str} {ts : TS} {ι : Type} {args : ι → List PyData} {pre : ι → Prop} {res : ι → R → Prop} (hds : ∀ i, pre i → DS K ts (ent N (args i)) { nx := fun _ => res i (.val true .none), rt := res i }) :
    ∀ vs H Q E, spD K args pre res vs H Q E → ts { nx := fun _ H' => Q .non H', rt := Q } (L2.start N vs) H := fun vs H Q E hsp => by
  obtain ⟨F, i, hF, hv, hp, kq⟩ := hsp
  refine hds i hp ⟨H, F, H⟩ _ H _ (ent_sits hF hv) (fun G' σ' H' p e => ?_) (fun r v H' p s h => kq r v H' p s h) (fun _ _ _ p => p.elim) (fun _ _ _ p => p.elim)
  exact kq _ .non H' p e.h0 ⟨.sh true .none, rfl, List.nodup_nil, fun _ h => (by simp [B.ows] at h), .non⟩
theorem mkDef {x : Str} {st : Stmt} {N ps : List Str} {k : Nat} {ts : TS} {ι : Type} {args : ι → List PyData} {pre : ι → Prop} {res : ι → R → Prop} (h : Here K mg x st ps) (S : FnScope N ps (defScope st)) (hlen : ∀ i, (args i).length = ps.length)
    (hder : ∀ (f : Addr) (cdv : Value) (A : Around) (outer : List Env) (s : Shared) (H : Hp) (E : XK), Room k (A.deeper (envOfC x (defScope st) s.heap.objs.size f cdv)) → PSs (cxOf CX0 P w K mg base N x (defScope st) f cdv A outer s H E).nox (defBody st) ts)
    (hds : ∀ i, pre i → DS K ts (ent N (args i)) { nx := fun _ => res i (.val true .none), rt := res i }) : DefOk P w K mg base (k + 1) x ps (spD K args pre res) := by
  obtain ⟨f, fd, F, hm, b⟩ := h
  exact ⟨f, fd, mkFn F S hlen hder hds, hm, F.kp, b⟩
theorem pe_callD {X : Cx} {k : Nat} {x : Str} {ps : List Str} {sp : Sp} {p pos : Pos} {e : Expr} {es : List Expr} {t : TA} (D : DefOk X.prog X.w X.K X.mg X.base k x ps sp) (hr : Room k X.A) (hg : Gl X x) (ha : PA X (e :: es) t) (hdb : (x == ("__debug__" : Str)) = false := by decide)
    (he : starEach (e :: es) X.env = (false, eval e X.env) :: starEach es X.env := by rfl) (hpl : (backTo pos (starEach es X.env)).any (·.1) = false := by rfl) : PE X (.Call (.Name x p) (e :: es) [] pos) (tCall sp [] E0 t) := by
  obtain ⟨f, fd, F, hm, kp, b⟩ := D
  exact pe_call F hr hg hm kp b .nil pass0 ha hdb he hpl
theorem DefOk.mono {j k : Nat} {x : Str} {ps : List Str} {sp : Sp} (D : DefOk P w K mg base j x ps sp) (h : j ≤ k) : DefOk P w K mg base k x ps sp := by
  obtain ⟨f, fd, F, r⟩ := D
  exact ⟨f, fd, F.mono h, r⟩
end
section
variable {X : Cx}
def rIsiA (K : PySem.W.Frag) : List V → Hp → VK → Prop := fun xs H Q => rIsi K xs H Q ∨ rIsiT K xs H Q
theorem call_isiA : CallR X (.builtin "isinstance") (rIsiA X.K) := CallR.or call_isi call_isiT
theorem pe_globI {x : Str} {i : Int} {pos : Pos} (hg : Gl X x) (hm : ∃ t, X.mg x = some (.int i t)) (hd : (x == ("__debug__" : Str)) = false := by decide) : PE X (.Name x pos) (tC (.int i)) := by
  obtain ⟨t, hm⟩ := hm
  exact pe_glob hg hm ⟨t, rfl⟩ hd
theorem pe_globS {x s : Str} {pos : Pos} (hg : Gl X x) (hm : ∃ t, X.mg x = some (.str s t)) (hd : (x == ("__debug__" : Str)) = false := by decide) : PE X (.Name x pos) (tC (.str s)) := by
  obtain ⟨t, hm⟩ := hm
  exact pe_glob hg hm ⟨t, rfl⟩ hd
theorem pe_ty (T : String) {x : Str} {pos : Pos} (hg : Gl X x) (hm : X.mg x = none) (hv : bootBuiltins x = some (.type T)) (hn : x ≠ "__name__" := by decide) (hd : (x == ("__debug__" : Str)) = false := by decide) : PE X (.Name x pos) (tC (.ty T)) := pe_bltn hg hm hv rfl hn hd
/-! a[i] = v: a list, a dict -/
def rSetD : V → V → V → Hp → (Hp → Prop) → Prop := fun o i v H Q => ∃ a H4, o = .ref a ∧ DPut H a i v H4 ∧ Q H4
theorem set_dict (hu : X.A.units + 1 < cLine) : PSet X rSetD := by
  intro pins s σ H o i v ov iv u Q I ro ri rv h
  obtain ⟨a, H4, rfl, g, q⟩ := h
  cases ro
  exact d_setItem hu I g ri rv fun s' I' => ⟨H4, I', q⟩
def rSetA : V → V → V → Hp → (Hp → Prop) → Prop := fun o i v H Q => rSetL o i v H Q ∨ rSetD o i v H Q
theorem set_any (hu : X.A.units + 1 < cLine) : PSet X rSetA := by
  intro pins s σ H o i v ov iv u Q I ro ri rv h
  rcases h with h | h
  · exact set_list pins s σ H o i v ov iv u Q I ro ri rv h
  · exact set_dict hu pins s σ H o i v ov iv u Q I ro ri rv h
/-! in, not in: lists of data; tuples of flat things; dicts; texts -/
def rInDict (neg : Bool) : R2 := fun y x H Q => ∃ a o, x = .ref a ∧ DGet H a y o ∧ Q (.bl (if neg then !o.isSome else o.isSome)) H
theorem op_inDict (hu : X.A.units + 1 < cLine) : OpR X (compareOp .In) (rInDict false) := by
  intro pins s σ H x y v u Q I rx ry h
  obtain ⟨a, o, rfl, g, q⟩ := h
  cases ry
  exact d_in hu I g rx fun s' I' => ⟨.bl o.isSome, H, I', rfl, q⟩
theorem op_notInDict (hu : X.A.units + 1 < cLine) : OpR X (compareOp .NotIn) (rInDict true) := by
  intro pins s σ H x y v u Q I rx ry h
  obtain ⟨a, o, rfl, g, q⟩ := h
  cases ry
  exact d_notIn hu I g rx fun s' I' => ⟨.bl (!o.isSome), H, I', rfl, q⟩
def rInS : R2 := fun x y H Q => ∃ i j, x = .str i ∧ y = .str j ∧ Q (.bl (!(Builtin.Str.occurrences j i 0 j.length 1).isEmpty)) H
def rNotInS : R2 := fun x y H Q => ∃ i j, x = .str i ∧ y = .str j ∧ Q (.bl (!(!(Builtin.Str.occurrences j i 0 j.length 1).isEmpty))) H
def rInA (K : PySem.W.Frag) : R2 := fun x y H Q => (rInD K x y H Q ∨ rIn K false x y H Q) ∨ rInDict false x y H Q ∨ rInS x y H Q
def rNotInA (K : PySem.W.Frag) : R2 := fun x y H Q => (rNotInD K x y H Q ∨ rIn K true x y H Q) ∨ rInDict true x y H Q ∨ rNotInS x y H Q
theorem op_inA (hu : X.A.units + 64 + 1 < cLine) : OpR X (compareOp .In) (rInA X.K) := OpR.or (OpR.or (op_inD (by omega)) op_in_seq) (OpR.or (op_inDict (by omega)) op_in_str)
theorem op_notInA (hu : X.A.units + 64 + 1 < cLine) : OpR X (compareOp .NotIn) (rNotInA X.K) := OpR.or (OpR.or (op_notInD (by omega)) op_notIn_seq) (OpR.or (op_notInDict (by omega)) op_notin_str)
theorem un65 {A : Around} {k : Nat} (hr : Room k A) : A.units + 64 + 1 < cLine := by have := hr.un; omega
def rNeg : V → Hp → VK → Prop := rU fun i => .int (-i)
theorem un_negI : UnR X (unaryOp .USub) rNeg := un_neg
variable {m : Md} {te : TE} {G : Sl} {d : PyData}
theorem de_neg {a : Int} (h : DE K none te G (.int a)) : DE K m (tUn rNeg te) G (.int (-a)) := de_imm (fun c σ H e Q q => h c σ H e _ fun v H1 s r => by
  cases r
  exact ⟨a, rfl, q _ H1 s (.int _)⟩) rfl
theorem de_isiA {T : String} {b : Bool} (h : DE K none te G d) (hb : kitB (tyD d) T = some b) : DE K m (tCB (rIsiA K) (tCons te (tCons (tC (.ty T)) tNil))) G (.bool b) := de_imm (fun c σ H e Q q => h c σ H e _ fun v H1 s r =>
  .inl ⟨v, .ty T, .type (tyD d), .type T, b, rfl, .ty T, rep_ty (Same.refl H1) r, kit_ty hb, q _ H1 s (.bl _)⟩) rfl
end
theorem ret_true {P H H' : Hp} {v : V} {n : Bool} {b : Bool} (h : RetR K P H H' v (.val n (.bool b))) : v = .bl b := by
  obtain ⟨b', hb, _, _, h⟩ := h
  cases b' <;> first | (cases hb; done) | skip
  cases hb
  have h : Rep K _ v (.bool b) := h
  cases h
  rfl
end
end TB

/-! TB extra: sums, least and greatest of lists and of tuples. -/
namespace TB
open PySem PySem.Spec PyProof.Rows L2
section
variable {prog : Program} {w : World} {A : Around} {E : Value → Shared → Prop} {s : Shared} {l : Addr} {xs : Array (Int × Tok)} {its : List Value} {ns : List Int} {Q : Value → Shared → Prop}
theorem iter_intTup {Q : Value → Shared → Prop} (hl : s.heap.IsTuple l (intItems xs))
    (h : ∀ s2 : Shared, s2 = { s with heap := s.heap.push { cls := .type "tuple_iterator", data := .fields #[.ref l, .int 0 0] } } →
      (s2.heap.IsTupleIter s.heap.objs.size l 0 ∧ s2.heap.IsTuple l (intItems xs)) → (∀ b ∈ [s.heap.objs.size, l], b < s2.heap.objs.size) → l ≠ s.heap.objs.size → Q (.ref s.heap.objs.size) s2) :
    wpAny (model prog w) A (pyIter (.ref l)) Q E s := by
  have hlt : l < s.heap.objs.size := by obtain ⟨_, e, _⟩ := hl; exact Heap.lt_size e
  refine wpAny_pyIter_tuple hl (h _ rfl ⟨⟨_, Heap.get?_push_size _ rfl, rfl, rfl⟩, hl.push _⟩ (fun b hb => ?_) (Nat.ne_of_lt hlt))
  show b < (s.heap.push _).objs.size
  rw [Heap.size_push]
  rcases List.mem_cons.mp hb with rfl | hb
  · exact Nat.lt_succ_self _
  · rcases List.mem_cons.mp hb with rfl | hb
    · exact Nat.lt_succ_of_lt hlt
    · cases hb
theorem old_keptT {h' : Heap} (hk : ∀ b o, b ∉ [s.heap.objs.size] → (s.heap.push { cls := .type "tuple_iterator", data := .fields #[.ref l, .int 0 0] }).get? b = some o → h'.get? b = some o) :
    ∀ b o, s.heap.get? b = some o → h'.get? b = some o := fun b o e => hk b o (fun z => absurd (Heap.lt_size e) ((List.mem_singleton.mp z) ▸ Nat.lt_irrefl _)) (Heap.get?_push_of_some _ e)
theorem sum_rawT (hh : A.handled = none) (hl : s.heap.IsTuple l its.toArray) (hi : IntsAre its ns)
    (h : ∀ h' tk t', (∀ b o, s.heap.get? b = some o → h'.get? b = some o) → Q (.int ns.sum t') { s with heap := h', toks := tk }) : wpAny (model prog w) A (call (.builtin "sum") [.ref l]) Q E s := by
  obtain ⟨xs, e⟩ := hi.allInts.items
  have hn : numsOf (intItems xs).toList = ns := by rw [← e]; exact hi.numsOf
  rw [nums_intItems] at hn
  rw [e] at hl
  refine call_sum_walkG (iter_intTup hl fun s2 e st hfp hlI => ?_)
  subst e
  refine ⟨_, _, _, _, _, _, numAt xs, rfl, Walks.tuple (A := A.in1) hh _ l hlI (intItems xs), st, hfp, (fun _ _ => intItems_at), fun h' tk t' hk => ?_⟩
  have := h h' tk t' (old_keptT hk)
  rw [preSum_eq, List.take_of_length_le (by simp [intItems]), hn]; exact this
theorem min_rawT (hh : A.handled = none) (hl : s.heap.IsTuple l its.toArray) (hi : IntsAre its ns) (hne : 0 < ns.length)
    (h : ∀ h' tk M t', (∀ b o, s.heap.get? b = some o → h'.get? b = some o) → M ∈ ns → (∀ a, a ∈ ns → M ≤ a) → Q (.int M t') { s with heap := h', toks := tk }) : wpAny (model prog w) A (call (.builtin "min") [.ref l]) Q E s := by
  obtain ⟨xs, e⟩ := hi.allInts.items
  have hn : numsOf (intItems xs).toList = ns := by rw [← e]; exact hi.numsOf
  rw [nums_intItems] at hn
  subst hn
  rw [e] at hl
  have hsz : 0 < xs.size := by simpa using hne
  refine call_min_walk (iter_intTup hl fun s2 e st hfp hlI => ?_)
  subst e
  refine ⟨_, _, _, _, _, _, _, rfl, Walks.tuple (A := A.in1) hh _ l hlI (intItems xs), st, hfp, by simpa [intItems] using hsz, CmpOf.ints_lt (numAt xs) (fun _ _ => intItems_at), fun v h' tk hP hk => ?_⟩
  have hv : (intItems xs)[argBest (fun i j => decide (numAt xs i < numAt xs j)) (xs.size - 1)]? = some v := by simpa [intItems] using hP
  obtain ⟨t, rfl⟩ := intItems_at hv
  obtain ⟨h1, h2⟩ := argBest_lt (numAt xs) (xs.size - 1)
  refine h h' tk _ t (old_keptT hk) ?_ fun a ha => ?_
  · rw [numAt_eq]; exact PySem.getD_mem (by rw [List.length_map, Array.length_toList]; omega)
  · obtain ⟨j, hj, rfl⟩ := mem_getD ha
    rw [List.length_map, Array.length_toList] at hj
    rw [← numAt_eq]; exact h2 j (by omega)
end
section
variable {X : Cx} {K : PySem.W.Frag} {m : Md} {te : TE} {G : Sl} {ns : List Int}
def rSumT (K : PySem.W.Frag) : List V → Hp → VK → Prop := fun vs H Q => ∃ (a : Addr) (ns : List Int), vs = [V.ref a] ∧ SqT K H a (ns.map V.int) ∧ Q (.int ns.sum) H
def rMinT (K : PySem.W.Frag) : List V → Hp → VK → Prop := fun vs H Q => ∃ (a : Addr) (ns : List Int), vs = [V.ref a] ∧ SqT K H a (ns.map V.int) ∧ 0 < ns.length ∧ ∀ m, m ∈ ns → (∀ y, y ∈ ns → m ≤ y) → Q (.int m) H
theorem cr_sumT (hc : X.calm = true) : CallR X (.builtin "sum") (rSumT X.K) := by
  intro pins s σ H vs us Q I r h
  obtain ⟨a, ns, rfl, hs, q⟩ := h
  obtain ⟨its, rv, hl, _⟩ := I.tuple hs
  rw [Vals.ref1 r]
  exact sum_rawT (I.ok.hd hc) (show s.heap.IsTuple a its.toArray from hl) rv.ints fun h' tk t' hk => ⟨.int _, H, I.kept hk, ⟨_, rfl⟩, q⟩
theorem cr_minT (hc : X.calm = true) : CallR X (.builtin "min") (rMinT X.K) := by
  intro pins s σ H vs us Q I r h
  obtain ⟨a, ns, rfl, hs, hne, q⟩ := h
  obtain ⟨its, rv, hl, _⟩ := I.tuple hs
  rw [Vals.ref1 r]
  exact min_rawT (I.ok.hd hc) (show s.heap.IsTuple a its.toArray from hl) rv.ints hne fun h' tk m t' hk h1 h2 => ⟨.int _, H, I.kept hk, ⟨_, rfl⟩, q m h1 h2⟩
def rSumA (K : PySem.W.Frag) : List V → Hp → VK → Prop := fun xs H Q => rSum K xs H Q ∨ rSumT K xs H Q
theorem call_sumA (hc : X.calm = true) : CallR X (.builtin "sum") (rSumA X.K) := CallR.or (cr_sum hc) (cr_sumT hc)
theorem de_sumL (h : DE K none te G (.list (ns.map .int))) : DE K m (tCB (rSumA K) (tCons te tNil)) G (.int ns.sum) := de_cb0 (ds := [.list (ns.map .int)]) (fun P H vs Q s r q => by
  obtain ⟨v, rfl, r'⟩ := reps1 r
  clear r
  cases r' with
  | @lst a xs _ h1 r =>
    have := r.ints
    subst this
    exact .inl ⟨a, ns, rfl, rd_lst s h1, q _ H (Same.refl H) (.int _)⟩) rfl (da_cons h da_nil)
theorem de_sumT (h : DE K none te G (.tuple (ns.map .int))) : DE K m (tCB (rSumA K) (tCons te tNil)) G (.int ns.sum) := de_cb0 (ds := [.tuple (ns.map .int)]) (fun P H vs Q s r q => by
  obtain ⟨v, rfl, r'⟩ := reps1 r
  clear r
  cases r' with
  | @tup a xs _ h1 r =>
    have := r.ints
    subst this
    exact .inr ⟨a, ns, rfl, rd_tup s h1, q _ H (Same.refl H) (.int _)⟩) rfl (da_cons h da_nil)
/-- the least of a list, 0 of none -/
def minL : List Int → Int
  | [] => 0
  | x :: xs => xs.foldl min x
theorem foldl_min : ∀ (xs : List Int) (x : Int), (xs.foldl min x ∈ x :: xs) ∧ ∀ y ∈ x :: xs, xs.foldl min x ≤ y
  | [], x => ⟨by simp, fun y h => by simp at h; simp [h]⟩
  | z :: xs, x => by
    obtain ⟨h1, h2⟩ := foldl_min xs (min x z)
    refine ⟨?_, fun y hy => ?_⟩
    · rw [List.foldl_cons]
      rcases List.mem_cons.mp h1 with h | h
      · rw [h]
        rcases Int.le_total x z with q | q
        · rw [Int.min_eq_left q]; simp
        · rw [Int.min_eq_right q]; simp
      · simp [h]
    · rw [List.foldl_cons]
      have hm := h2 (min x z) (by simp)
      rcases List.mem_cons.mp hy with h | h
      · subst h; exact Int.le_trans hm (Int.min_le_left _ _)
      · rcases List.mem_cons.mp h with h | h
        · subst h; exact Int.le_trans hm (Int.min_le_right _ _)
        · exact h2 y (by simp [h])
theorem minL_spec {ns : List Int} (h : 0 < ns.length) : minL ns ∈ ns ∧ ∀ y ∈ ns, minL ns ≤ y := by
  cases ns with
  | nil => simp at h
  | cons x xs => exact foldl_min xs x
theorem minL_uniq {ns : List Int} {m : Int} (h : 0 < ns.length) (h1 : m ∈ ns) (h2 : ∀ y ∈ ns, m ≤ y) : m = minL ns := by
  obtain ⟨a, b⟩ := minL_spec h
  exact Int.le_antisymm (h2 _ a) (b _ h1)
def maxL : List Int → Int
  | [] => 0
  | x :: xs => xs.foldl max x
theorem foldl_max : ∀ (xs : List Int) (x : Int), (xs.foldl max x ∈ x :: xs) ∧ ∀ y ∈ x :: xs, y ≤ xs.foldl max x
  | [], x => ⟨by simp, fun y h => by simp at h; simp [h]⟩
  | z :: xs, x => by
    obtain ⟨h1, h2⟩ := foldl_max xs (max x z)
    refine ⟨?_, fun y hy => ?_⟩
    · rw [List.foldl_cons]
      rcases List.mem_cons.mp h1 with h | h
      · rw [h]
        rcases Int.le_total x z with q | q
        · rw [Int.max_eq_right q]; simp
        · rw [Int.max_eq_left q]; simp
      · simp [h]
    · rw [List.foldl_cons]
      have hm := h2 (max x z) (by simp)
      rcases List.mem_cons.mp hy with h | h
      · subst h; exact Int.le_trans (Int.le_max_left _ _) hm
      · rcases List.mem_cons.mp h with h | h
        · subst h; exact Int.le_trans (Int.le_max_right _ _) hm
        · exact h2 y (by simp [h])
theorem maxL_spec {ns : List Int} (h : 0 < ns.length) : maxL ns ∈ ns ∧ ∀ y ∈ ns, y ≤ maxL ns := by
  cases ns with
  | nil => simp at h
  | cons x xs => exact foldl_max xs x
theorem maxL_uniq {ns : List Int} {m : Int} (h : 0 < ns.length) (h1 : m ∈ ns) (h2 : ∀ y ∈ ns, y ≤ m) : m = maxL ns := by
  obtain ⟨a, b⟩ := maxL_spec h
  exact Int.le_antisymm (b _ h1) (h2 _ a)
/-! min: a list, a tuple, two ints; max: a list, two ints -/
def rMin2 : List V → Hp → VK → Prop := fun xs H Q => ∃ i j, xs = [.int i, .int j] ∧ Q (.int (if j < i then j else i)) H
def rMax2 : List V → Hp → VK → Prop := fun xs H Q => ∃ i j, xs = [.int i, .int j] ∧ Q (.int (if j > i then j else i)) H
def rMinA (K : PySem.W.Frag) : List V → Hp → VK → Prop := fun xs H Q => rMin K xs H Q ∨ rMinT K xs H Q ∨ rMin2 xs H Q
def rMaxA (K : PySem.W.Frag) : List V → Hp → VK → Prop := fun xs H Q => rMax K xs H Q ∨ rMax2 xs H Q
theorem call_minA (hc : X.calm = true) : CallR X (.builtin "min") (rMinA X.K) := CallR.or (cr_min hc) (CallR.or (cr_minT hc) (call_min2 hc))
theorem call_maxA (hc : X.calm = true) : CallR X (.builtin "max") (rMaxA X.K) := CallR.or (cr_max hc) (call_max2 hc)
theorem de_minL (h : DE K none te G (.list (ns.map .int))) (h0 : 0 < ns.length) : DE K m (tCB (rMinA K) (tCons te tNil)) G (.int (minL ns)) := de_cb0 (ds := [.list (ns.map .int)]) (fun P H vs Q s r q => by
  obtain ⟨v, rfl, r'⟩ := reps1 r
  clear r
  cases r' with
  | @lst a xs _ h1 r =>
    have := r.ints
    subst this
    exact .inl ⟨a, ns, rfl, rd_lst s h1, h0, fun m h1 h2 => q _ H (Same.refl H) (by rw [minL_uniq h0 h1 h2]; exact .int _)⟩) rfl (da_cons h da_nil)
theorem de_minT (h : DE K none te G (.tuple (ns.map .int))) (h0 : 0 < ns.length) : DE K m (tCB (rMinA K) (tCons te tNil)) G (.int (minL ns)) := de_cb0 (ds := [.tuple (ns.map .int)]) (fun P H vs Q s r q => by
  obtain ⟨v, rfl, r'⟩ := reps1 r
  clear r
  cases r' with
  | @tup a xs _ h1 r =>
    have := r.ints
    subst this
    exact .inr (.inl ⟨a, ns, rfl, rd_tup s h1, h0, fun m h1 h2 => q _ H (Same.refl H) (by rw [minL_uniq h0 h1 h2]; exact .int _)⟩)) rfl (da_cons h da_nil)
theorem de_maxL (h : DE K none te G (.list (ns.map .int))) (h0 : 0 < ns.length) : DE K m (tCB (rMaxA K) (tCons te tNil)) G (.int (maxL ns)) := de_cb0 (ds := [.list (ns.map .int)]) (fun P H vs Q s r q => by
  obtain ⟨v, rfl, r'⟩ := reps1 r
  clear r
  cases r' with
  | @lst a xs _ h1 r =>
    have := r.ints
    subst this
    exact .inl ⟨a, ns, rfl, rd_lst s h1, h0, fun m h1 h2 => q _ H (Same.refl H) (by rw [maxL_uniq h0 h1 h2]; exact .int _)⟩) rfl (da_cons h da_nil)
theorem de_max2 {ta tb : TE} {a b : Int} (h : DE K none ta G (.int a)) (h' : DE K none tb G (.int b)) : DE K m (tCB (rMaxA K) (tCons ta (tCons tb tNil))) G (.int (max a b)) := de_cb0 (ds := [.int a, .int b]) (fun P H vs Q s r q => by
  obtain ⟨v, u, rfl, r1, r2⟩ := reps2 r
  cases r1; cases r2
  refine .inr ⟨a, b, rfl, q _ H (Same.refl H) ?_⟩
  have : (if b > a then b else a) = max a b := by omega
  rw [this]; exact .int _) rfl (da_cons h (da_cons h' da_nil))
end
section
variable {K : PySem.W.Frag} {n : Bool} {ta : TE} {G : Sl} {ds : List PyData}
/-- reversed(xs), xs a list that stands still -/
theorem di_revL (h : DE K (some n) ta G (.list ds)) : DI K n (RT.iRevA K ta) G ds.reverse := fun c σ H e R k => by
  refine h c σ H e _ fun v H' s r => ?_
  cases r with
  | @lst a xs _ h1 r =>
    have e1 := e.ext s
    have hq : ∀ {H2}, Same (hide (OF G) H') H2 → SqL K H2 a xs := fun s2 => SqL.same ((vis_hide e.f0 e1.h0).trans s2) h1
    have hl := r.length
    refine ⟨a, xs, rfl, .inl ⟨SqL.same e1.vsame h1, k _ H' s ⟨fun i H2 hi s2 => ?_, fun H2 s2 => (show xs.length ≤ ds.reverse.length by rw [List.length_reverse, hl]; exact Nat.le_refl _), fun i H2 x H3 d hd s2 y => ?_⟩⟩⟩
    · rw [List.length_reverse] at hi
      have hi2 : xs.length - 1 - i < xs.length := by omega
      exact ⟨by omega, xs, xs[xs.length - 1 - i], hq s2, List.getElem?_eq_getElem hi2⟩
    · obtain ⟨rfl, y2⟩ := y
      refine ⟨Same.refl _, fun G2 σ2 c' q1 q2 q3 e2 => ?_⟩
      have hi : i < ds.length := by
        have := (List.getElem?_eq_some_iff.mp hd).1
        rwa [List.length_reverse] at this
      rw [List.getElem?_reverse hi] at hd
      obtain ⟨w, w1, w2⟩ := r.get hd
      rw [← hl, y2 xs (hq s2)] at w1
      cases w1
      exact Rep.mono (src_see e.f0 e1.h0 rfl s2 e2 q1 q2 q3) w2
end
end TB

/-! TB num: sizes of ints, powers of ten, items of mapped lists; plain Lean. -/
namespace TB
open PySem PySem.Spec PyProof.Rows L2
section
variable {K : PySem.W.Frag}
/-! sizes -/
def SB : Nat := 1048577
theorem SB_ge : 200 ≤ SB := by decide
theorem cm_of {a b : Int} {n k : Nat} (ha : a.natAbs < 2 ^ n) (hb : b.natAbs < 2 ^ k) (h0 : 0 < n) (h1 : 0 < k) (h : n + k ≤ 90000000) : CMulX a b := by
  have x := PySem.Flt.log2_lt_of h0 ha
  have y := PySem.Flt.log2_lt_of h1 hb
  unfold CMulX
  omega
theorem lt_up {a : Int} {n k : Nat} (h : a.natAbs < 2 ^ n) (hk : n ≤ k) : a.natAbs < 2 ^ k := Nat.lt_of_lt_of_le h (Nat.pow_le_pow_right (by decide) hk)
theorem lt_add {a b : Int} {n : Nat} (ha : a.natAbs < 2 ^ n) (hb : b.natAbs < 2 ^ n) : (a + b).natAbs < 2 ^ (n + 1) := by
  rw [Nat.pow_succ]; omega
theorem lt_sub {a b : Int} {n : Nat} (ha : a.natAbs < 2 ^ n) (hb : b.natAbs < 2 ^ n) : (a - b).natAbs < 2 ^ (n + 1) := by
  rw [Nat.pow_succ]; omega
theorem lt_mul {a b : Int} {n k : Nat} (ha : a.natAbs < 2 ^ n) (hb : b.natAbs < 2 ^ k) : (a * b).natAbs < 2 ^ (n + k) := L2.wide_lt ha hb
/-- two ints of at most 40,000 bits -/
theorem cm_small {a b : Int} (ha : a.natAbs < 2 ^ 40000) (hb : b.natAbs < 2 ^ 40000) : CMulX a b := cm_of ha hb (by decide) (by decide) (by decide)
/-- two ints below 10 ^ 70 -/
def T70 : Int := 10000000000000000000000000000000000000000000000000000000000000000000000
theorem cm_om {a b : Int} (h1 : -10000000000000000000000000000000000000000000000000000000000000000000000 < a) (h2 : a < 10000000000000000000000000000000000000000000000000000000000000000000000)
    (h3 : -10000000000000000000000000000000000000000000000000000000000000000000000 < b) (h4 : b < 10000000000000000000000000000000000000000000000000000000000000000000000) : CMulX a b :=
  cm_of (n := 240) (k := 240) (Nat.lt_of_lt_of_le (show a.natAbs < 10000000000000000000000000000000000000000000000000000000000000000000000 by omega) (by decide)) (Nat.lt_of_lt_of_le (show b.natAbs < 10000000000000000000000000000000000000000000000000000000000000000000000 by omega) (by decide)) (by decide) (by decide) (by decide)
theorem lg_om {b : Int} (h1 : 0 < b) (h2 : b < 10000000000000000000000000000000000000000000000000000000000000000000000) : b.natAbs.log2 < 9000 :=
  Nat.lt_of_lt_of_le (PySem.Flt.log2_lt_of (n := b.natAbs) (k := 240) (by decide) (Nat.lt_of_lt_of_le (show b.natAbs < 10000000000000000000000000000000000000000000000000000000000000000000000 by omega) (by decide))) (by decide)
theorem log2_mono {a b : Nat} (h : a ≤ b) : a.log2 ≤ b.log2 := by
  by_cases ha : a = 0
  · subst ha; simp
  · exact (Nat.le_log2 (by omega)).mpr (Nat.le_trans (Nat.log2_self_le ha) h)
theorem log_lt {a : Int} {n : Nat} (h : a.natAbs < 2 ^ n) (h0 : 0 < n) : a.natAbs.log2 < n := PySem.Flt.log2_lt_of h0 h
/-- sums and products of bounded ints -/
theorem nat_bound {a : Int} {b : Int} {n : Nat} (h0 : 0 ≤ a) (h : a < b) (hb : b ≤ 2 ^ n) : a.natAbs < 2 ^ n := by
  have : (a.natAbs : Int) < ((2 ^ n : Nat) : Int) := by
    rw [Int.natAbs_of_nonneg h0]
    have : ((2 ^ n : Nat) : Int) = 2 ^ n := by simp
    omega
  exact Int.ofNat_lt.mp this
def T40 : Int := 10000000000000000000000000000000000000000
theorem T40_lt : T40 ≤ 2 ^ 133 := by decide
theorem bd40 {a : Int} (h : 0 ≤ a ∧ a < T40) : a.natAbs < 2 ^ 133 := nat_bound h.1 h.2 T40_lt
theorem pos_of_mul {g x : Int} (hg : 0 < g) (h : 0 < g * x) : 0 < x := Int.lt_of_not_ge fun hx => by
  have := Int.mul_le_mul_of_nonneg_left hx (Int.le_of_lt hg)
  rw [Int.mul_zero] at this
  omega
theorem le_mul_pos {g x : Int} (hg : 0 < g) (h : 0 ≤ x) : x ≤ g * x := by
  have := Int.mul_le_mul_of_nonneg_right (show 1 ≤ g by omega) h
  rwa [Int.one_mul] at this
/-! items -/
theorem atI_lit {α : Type} {xs : List α} {j : Nat} {d : α} {k : Int} (e : k = (j : Nat)) (h : xs[j]? = some d) : L2.atI xs k = some d := by rw [e]; exact atI_nat h
theorem atI_map {α β : Type} {f : α → β} {xs : List α} {j : Nat} {x : α} {k : Int} (h : xs[j]? = some x) (e : k = (j : Nat)) : L2.atI (xs.map f) k = some (f x) := atI_lit e (by rw [List.getElem?_map, h]; rfl)
theorem atI_get {α : Type} {xs : List α} {k : Int} (h0 : 0 ≤ k) (h : k < (xs.length : Nat)) : ∃ x, L2.atI xs k = some x ∧ xs[k.toNat]? = some x := by
  have hk : k.toNat < xs.length := by omega
  exact ⟨xs[k.toNat], atI_lit (by omega) (List.getElem?_eq_getElem hk), List.getElem?_eq_getElem hk⟩
section
variable {m : Md} {n : Bool} {G : Sl} {i : Nat} {d : PyData}
theorem de_shI (h : G[i]? = some (some (.sh n d))) (hi : imm d = true) : DE K m (tVar i) G d := de_imm (de_full h) hi
theorem de_pw {k : Nat} {c : Int} (h : (10 : Int) ^ k = c) (hk : k ≤ 1000) : DE K m (tOp rPow (tC (.int 10)) (tC (.int (k : Nat)))) G (.int c) := by
  have := de_pow (K := K) (m := m) (G := G) (a := 10) (b := (k : Nat)) de_int de_int ⟨by omega, by omega, by decide⟩
  rwa [Int.toNat_natCast, h] at this
theorem de_p9 : DE K m (tOp rPow (tC (.int 10)) (tC (.int 9))) G (.int 1000000000) := de_pw (k := 9) (by decide) (by decide)
theorem de_p10 : DE K m (tOp rPow (tC (.int 10)) (tC (.int 10))) G (.int 10000000000) := de_pw (k := 10) (by decide) (by decide)
theorem de_p12 : DE K m (tOp rPow (tC (.int 10)) (tC (.int 12))) G (.int 1000000000000) := de_pw (k := 12) (by decide) (by decide)
theorem de_p15 : DE K m (tOp rPow (tC (.int 10)) (tC (.int 15))) G (.int 1000000000000000) := de_pw (k := 15) (by decide) (by decide)
theorem de_p17 : DE K m (tOp rPow (tC (.int 10)) (tC (.int 17))) G (.int 100000000000000000) := de_pw (k := 17) (by decide) (by decide)
theorem de_p18 : DE K m (tOp rPow (tC (.int 10)) (tC (.int 18))) G (.int 1000000000000000000) := de_pw (k := 18) (by decide) (by decide)
theorem de_p19 : DE K m (tOp rPow (tC (.int 10)) (tC (.int 19))) G (.int 10000000000000000000) := de_pw (k := 19) (by decide) (by decide)
theorem de_p20 : DE K m (tOp rPow (tC (.int 10)) (tC (.int 20))) G (.int 100000000000000000000) := de_pw (k := 20) (by decide) (by decide)
theorem de_p25 : DE K m (tOp rPow (tC (.int 10)) (tC (.int 25))) G (.int 10000000000000000000000000) := de_pw (k := 25) (by decide) (by decide)
theorem de_p28 : DE K m (tOp rPow (tC (.int 10)) (tC (.int 28))) G (.int 10000000000000000000000000000) := de_pw (k := 28) (by decide) (by decide)
theorem de_p30 : DE K m (tOp rPow (tC (.int 10)) (tC (.int 30))) G (.int 1000000000000000000000000000000) := de_pw (k := 30) (by decide) (by decide)
theorem de_p39 : DE K m (tOp rPow (tC (.int 10)) (tC (.int 39))) G (.int 1000000000000000000000000000000000000000) := de_pw (k := 39) (by decide) (by decide)
theorem de_p40 : DE K m (tOp rPow (tC (.int 10)) (tC (.int 40))) G (.int T40) := de_pw (k := 40) (by decide) (by decide)
theorem de_p59 : DE K m (tOp rPow (tC (.int 10)) (tC (.int 59))) G (.int 100000000000000000000000000000000000000000000000000000000000) := de_pw (k := 59) (by decide) (by decide)
end
section
variable {ts tv : TS} {G : Sl} {P : Post}
theorem ds_setE {te : TE} {n : Bool} {i : Nat} {d d' : PyData} (h : DE K (some n) te G d) (e : d = d') (hi : i < G.length) (k : P.nx (G.set i (some (.sh n d')))) : DS K (tAsg te (gName i)) G P := ds_set (e ▸ h) hi k
theorem ds_retE {te : TE} {n : Bool} {d d' : PyData} (h : DE K (some n) te G d) (e : d = d') (k : P.rt (.val n d')) : DS K (tRet te) G P := ds_retD (e ▸ h) k
theorem de_trans {te : TE} {m : Md} {d d' : PyData} (h : DE K m te G d) (e : d = d') : DE K m te G d' := e ▸ h
/-- xs[k] = e, xs one's own -/
theorem ds_setItemA {te tx : TE} {n : Bool} {i : Nat} {d : PyData} {ds : List PyData} {a : Addr} {k : Int} {j : Nat} (hg : G[i]? = some (some (.own n a ds))) (h : DE K (some n) te G d) (hk : DE K none tx G (.int k)) (hj : ixN ds.length k = some j) (kk : P.nx (G.set i (some (.own n a (ds.set j d))))) : DS K (tAsg te (gSub (tVar i) tx rSetA)) G P := fun c σ H D e k1 _ _ _ =>
  h c σ H e _ fun u H1 s r => by
    have e1 := e.ext s
    obtain ⟨w, h1, rfl, vs, h2, h3⟩ := e1.at_ i _ hg
    refine ⟨_, h1, hk c σ H1 e1 _ fun q H2 s2 r2 => ?_⟩
    cases r2
    have e2 := e1.ext s2
    refine .inl ⟨a, vs, k, j, rfl, rfl, s2 _ _ h2, by rw [h3.length]; exact hj, k1 _ _ _ kk (e2.write hg rfl (by simp [B.ows]) (fun _ z => by cases z) fun v hv => ?_)⟩
    obtain ⟨rfl, ws, h4, h5⟩ := hv
    rw [s2 _ _ h2] at h4
    cases h4
    exact ⟨rfl, _, upd_same, Reps.set j (Rep.mono (e1.vext s2) r) h5⟩
/-- what holds between two statements -/
theorem ds_cut (M : Sl → Prop) (h : DS K ts G { P with nx := M }) (k : ∀ G', M G' → DS K tv G' P) : DS K (tSeq ts tv) G P := ds_seq (h.imp (fun G' p => k G' p) (fun _ p => p) (fun _ p => p) (fun _ p => p))
end
section
variable {m : Md} {G : Sl} {d : PyData} {ds : List PyData} {i : Nat} {v : V} {r : R2} {ta tb te : TE} {q : List V → Hp → VK → Prop} {t : TA} {tt : TT} {b : Bool}
theorem gd_var (h : DE K m (tVar i) G d) : DE K m (tVar i) G d := h
theorem gd_c (h : DE K m (tC v) G d) : DE K m (tC v) G d := h
theorem gd_op (h : DE K m (tOp r ta tb) G d) : DE K m (tOp r ta tb) G d := h
theorem gd_cb (h : DE K m (tCB q t) G d) : DE K m (tCB q t) G d := h
theorem gd_de (h : DE K m te G d) : DE K m te G d := h
theorem gd_da (h : DA K m t G ds) : DA K m t G ds := h
theorem gd_dt (h : DT K tt G b) : DT K tt G b := h
end
section
variable {m : Md} {n : Bool} {te ta tb : TE} {tt : TT} {ts : TS} {g : TG} {G : Sl} {P : Post} {i j : Nat} {d : PyData}
theorem rgD_at {lo : Int} {q k : Nat} {d : PyData} (h : (rgD lo q)[k]? = some d) : k < q ∧ d = .int (lo + (k : Nat)) := by
  unfold rgD at h
  rw [List.getElem?_map] at h
  cases e : (List.range q)[k]? with
  | none => rw [e] at h; cases h
  | some w =>
    rw [e] at h
    obtain ⟨h1, h2⟩ := List.getElem?_eq_some_iff.mp e
    rw [List.getElem_range] at h2
    subst h2
    cases h
    exact ⟨by simpa using h1, rfl⟩
/-- for x in range(q), x a name -/
theorem ds_forR {z : Int} {q : Nat} (h : DE K none te G (.int z)) (hz : z = (q : Nat)) (hq : q ≤ 100000) (I : Nat → Sl → Prop) (h0 : I 0 G) (hl : ∀ k Gk, I k Gk → i < Gk.length)
    (hs : ∀ (k : Nat) (Gk : Sl), k < q → I k Gk → DS K ts (Gk.set i (some (.sh true (.int (k : Nat))))) { nx := I (k + 1), ct := I (k + 1), bk := P.nx, rt := P.rt }) (hd : ∀ Gn, I q Gn → P.nx Gn) : DS K (tFor (iRng1 (tCons te tNil)) (gName i) ts) G P := by
  have hr := di_range1 (K := K) h (by omega) (by omega)
  have ht : z.toNat = q := by omega
  rw [ht] at hr
  refine ds_for (n := true) hr I h0 (fun k d Gk hd' hk => ?_) (fun Gn hn => hd Gn (by simpa [rgD] using hn))
  obtain ⟨h1, rfl⟩ := rgD_at hd'
  refine dg_name (hl k Gk hk) ?_
  rw [Int.zero_add]
  exact hs k Gk h1 hk
/-- the block's slot is none of one's own -/
theorem noOwn1 (h : ∀ b, G[j]? = some (some b) → b.ows = []) : NoOwn G [j] := fun a hh => keep_set h a hh
/-- [e for x in range(q)] -/
theorem dn_lcR {z : Int} {q : Nat} (f : Nat → PyData) (h : DE K none ta G (.int z)) (hz : z = (q : Nat)) (hq : q ≤ 100000) (hj : j < G.length) (ho : ∀ b, G[j]? = some (some b) → b.ows = [])
    (hb : ∀ k < q, DE K (some n) te (G.set j (some (.sh true (.int (k : Nat))))) (f k)) : DN K n (tLc (iRng1 (tCons ta tNil)) (gName j) tYes te [j]) G ((List.range q).map f) := by
  have hr := di_range1 (K := K) h (by omega) (by omega)
  have ht : z.toNat = q := by omega
  rw [ht] at hr
  refine dn_lcM (n' := true) (List.range q) (fun k => .int (0 + (k : Nat))) f hr (noOwn1 ho) (gw_name (by simp)) (by simpa using hq) fun k hk => ?_
  have hk : k < q := List.mem_range.mp hk
  refine dg_name (by simpa [wipeG] using hj) ⟨keep_set fun b hb => ?_, ?_⟩
  · rcases set_at hb with ⟨_, q⟩ | ⟨q, _⟩
    · cases q
    · exact (q rfl).elim
  · rw [Int.zero_add, show wipeG G [j] = G.set j none from rfl, List.set_set]
    exact hb k hk
/-- [e for x in xs], xs a list or a tuple of f-data -/
theorem dn_lcX {α : Type} {n' : Bool} {wi : TI} (xs : List α) (inj : α → PyData) (f : α → PyData) (h : DI K n' wi G (xs.map inj)) (hq : xs.length ≤ 100000) (hj : j < G.length) (ho : ∀ b, G[j]? = some (some b) → b.ows = [])
    (hb : ∀ x ∈ xs, DE K (some n) te (G.set j (some (.sh n' (inj x)))) (f x)) : DN K n (tLc wi (gName j) tYes te [j]) G (xs.map f) := by
  refine dn_lcM (n' := n') xs inj f h (noOwn1 ho) (gw_name (by simp)) hq fun k hk => ?_
  refine dg_name (by simpa [wipeG] using hj) ⟨keep_set fun b hb => ?_, ?_⟩
  · rcases set_at hb with ⟨_, q⟩ | ⟨q, _⟩
    · cases q
    · exact (q rfl).elim
  · rw [show wipeG G [j] = G.set j none from rfl, List.set_set]
    exact hb k hk
/-- .. if a test -/
theorem dn_lcXi {α : Type} {n' : Bool} {wi : TI} (xs : List α) (inj : α → PyData) (p : α → Bool) (f : α → PyData) (h : DI K n' wi G (xs.map inj)) (hq : xs.length ≤ 100000) (hj : j < G.length) (ho : ∀ b, G[j]? = some (some b) → b.ows = [])
    (ht : ∀ x ∈ xs, DT K tt (G.set j (some (.sh n' (inj x)))) (p x)) (hb : ∀ x ∈ xs, p x = true → DE K (some n) te (G.set j (some (.sh n' (inj x)))) (f x)) : DN K n (tLc wi (gName j) tt te [j]) G ((xs.filter p).map f) := by
  refine dn_lc (n' := n') xs inj p f h (noOwn1 ho) (gw_name (by simp)) hq fun k hk => ?_
  refine dg_name (by simpa [wipeG] using hj) ⟨keep_set fun b hb => ?_, ?_, fun hp => ?_⟩
  · rcases set_at hb with ⟨_, q⟩ | ⟨q, _⟩
    · cases q
    · exact (q rfl).elim
  · rw [show wipeG G [j] = G.set j none from rfl, List.set_set]
    exact ht k hk
  · rw [show wipeG G [j] = G.set j none from rfl, List.set_set]
    exact hb k hk hp
theorem ds_ownE {ds ds' : List PyData} (h : DN K n te G ds) (e : ds = ds') (hi : i < G.length) (k : ∀ a, P.nx (G.set i (some (.own n a ds')))) : DS K (tAsg te (gName i)) G P := ds_own (dr_new (e ▸ h)) hi k
theorem ds_appE {a : Addr} {ds ds' : List PyData} (hg : G[i]? = some (some (.own n a ds))) (h : DE K (some n) te G d) (hl : ds.length < 100000) (e : ds ++ [d] = ds') (k : P.nx (G.set i (some (.own n a ds')))) : DS K (tDrop (tBM K "list" rAppend (tVar i) (tCons te tNil))) G P := ds_append hg h hl (e ▸ k)
end
/-- a script: at most 63 ints, none of more than 2^20 bits -/
structure Scr (ns : List Int) : Prop where
  len : ns.length ≤ 63
  sz : ∀ n ∈ ns, n.natAbs < 2 ^ SB
theorem Scr.of {ns : List Int} (h : ns.length ≤ 63) (hb : ∀ n ∈ ns, Builtin.Int.intBits n ≤ 1048576) : Scr ns := ⟨h, fun n hn => by
  have := hb n hn
  unfold Builtin.Int.intBits at this
  by_cases h0 : n = 0
  · subst h0
    exact Nat.pow_pos (by decide)
  · split at this
    · rename_i q; exact (h0 (by simpa using q)).elim
    · have hl : n.natAbs.log2 < SB := by unfold SB; omega
      exact (Nat.log2_lt (by omega)).mp hl⟩
end
end TB

/-! TB exc: defs that refuse; try. -/
namespace TB
open PySem PySem.Spec PyProof.Rows L2
section
variable {K : PySem.W.Frag} {m : Md} {te : TE} {tt : TT} {ts tv : TS} {G : Sl} {P : Post} {C : Addr} {E : XK} {i : Nat}
/-- an own class of errors, over ValueError, without words of its own -/
structure ExF (K : PySem.W.Frag) (mg : Str → Option Value) (nm : Str) (C : Addr) : Prop where
  g : mg nm = some (.ref C)
  x : PySem.W.excIn K C [.type "ValueError", .type "Exception", .type "BaseException", .type "object"] "ValueError.__new__" = true
  k : PySem.W.keepIn K (.ref C) = true
  b : PySem.W.subIn K (.ref C) (.type "BaseException") = some true
  t : PySem.W.typeIn K (.ref C) = some (.type "type")
theorem passC {X : Cx} : Passes (L2.CX X.prog X.w) X E0 := fun _ _ _ _ _ _ _ ⟨_, _, _, _, _, _, _, _, _, _, _, _, h⟩ => h.elim
def tRaise (C : Addr) (E : XK) : TS := fun _ _ H => E (.ref C) none H
theorem ps_refuse {X : Cx} {x msg : Str} {j : Nat} {p p2 pos pos2 : Pos} (T : ExF X.K X.mg x C) (hc : X.calm = true) (tk : L2.Takes X (fun cls d _ H => E cls d H)) (hg : Gl X x) (hd : (x == ("__debug__" : Str)) = false := by decide) :
    PS X (.Raise (some (.Call (.Name x p) [.Constant (.str msg) j p2] [] pos)) none pos2) (tRaise C E) :=
  L2.ps_raise hc tk (L2.pmk_own PySem.F.excBase_ValueError T.x T.g T.k (raises_own T.b T.t) hg hd)
/-- a def that may refuse -/
def DefOkX (P : Program) (w : World) (K : PySem.W.Frag) (mg : Str → Option Value) (base : Heap) (k : Nat) (x : Str) (ps : List Str) (sp : Sp) : Prop :=
  ∃ (f : Addr) (fd : FuncData), FnOk P w K mg base (L2.CX P w) k f fd ps sp ∧ mg x = some (.ref f) ∧ PySem.W.keepIn K (.ref f) = true ∧ Binds K fd ps []
theorem pe_callX {X : Cx} {k : Nat} {x : Str} {ps : List Str} {sp : Sp} {p pos : Pos} {e : Expr} {es : List Expr} {t : TA} (D : DefOkX X.prog X.w X.K X.mg X.base k x ps sp) (hr : Room k X.A) (hg : Gl X x) (hx : Passes (L2.CX X.prog X.w) X E) (ha : PA X (e :: es) t) (hdb : (x == ("__debug__" : Str)) = false := by decide)
    (he : starEach (e :: es) X.env = (false, eval e X.env) :: starEach es X.env := by rfl) (hpl : (backTo pos (starEach es X.env)).any (·.1) = false := by rfl) : PE X (.Call (.Name x p) (e :: es) [] pos) (tCall sp [] E t) := by
  obtain ⟨f, fd, F, hm, kp, b⟩ := D
  exact pe_call F hr hg hm kp b .nil hx ha hdb he hpl
theorem pe_callXS {X : Cx} {W : WX} {k : Nat} {x : Str} {ps : List Str} {sp : Sp} {p pos : Pos} {e : Expr} {es : List Expr} {t : TA} (D : DefOkX X.prog X.w X.K X.mg X.base k x ps sp) (hr : Room k X.A) (hg : Gl X x) (tk : L2.Takes X W) (ha : PA X (e :: es) t) (hdb : (x == ("__debug__" : Str)) = false := by decide)
    (he : starEach (e :: es) X.env = (false, eval e X.env) :: starEach es X.env := by rfl) (hpl : (backTo pos (starEach es X.env)).any (·.1) = false := by rfl) : PE X (.Call (.Name x p) (e :: es) [] pos) (tCallS sp (WE W) t) := by
  obtain ⟨f, fd, F, hm, kp, b⟩ := D
  exact pe_callS F hr hg hm kp b (fun σ => passAt tk σ) ha hdb he hpl
section
variable {Pg : Program} {w : World} {mg : Str → Option Value} {base : Heap}
theorem mkDefX {x : Str} {st : Stmt} {N ps : List Str} {k : Nat} {ts : XK → TS} {sp : Sp} (h : Here K mg x st ps) (S : FnScope N ps (defScope st)) (hlen : ∀ vs H Q E, sp vs H Q E → vs.length = ps.length)
    (hder : ∀ (f : Addr) (cdv : Value) (A : Around) (outer : List Env) (s : Shared) (H : Hp) (E : XK), Room k (A.deeper (envOfC x (defScope st) s.heap.objs.size f cdv)) → PSs (cxOf (L2.CX Pg w) Pg w K mg base N x (defScope st) f cdv A outer s H E) (defBody st) (ts E))
    (hraw : ∀ vs H Q E, sp vs H Q E → ts E { nx := fun _ H' => Q .non H', rt := Q } (L2.start N vs) H) : DefOkX Pg w K mg base (k + 1) x ps sp := by
  obtain ⟨f, fd, F, hm, b⟩ := h
  exact ⟨f, fd, F.okX S hlen (fun cdv A outer s H vs Q E hr hsp => ⟨ts E, hder f cdv A outer s H E hr, hraw vs H Q E hsp⟩), hm, F.kp, b⟩
end
/-- what is refused, by data -/
def badOf (K : PySem.W.Frag) {ι : Type} (args : ι → List PyData) (bad : ι → Prop) (C : Addr) : Sp := fun vs H _ E => ∃ (P : Hp) (i : ι), Same P H ∧ Reps K P vs (args i) ∧ bad i ∧ ∀ H', Same H H' → E (.ref C) none H'
def spX (K : PySem.W.Frag) (C : Addr) {ι : Type} (args : ι → List PyData) (pre : ι → Prop) (res : ι → R → Prop) (bad : ι → Prop) : Sp := fun vs H Q E => spD K args pre res vs H Q E ∨ badOf K args bad C vs H Q E
theorem spX_len {ι : Type} {args : ι → List PyData} {pre bad : ι → Prop} {res : ι → R → Prop} {k : Nat} (hk : ∀ i, (args i).length = k) : ∀ vs H Q E, spX K C args pre res bad vs H Q E → vs.length = k := fun vs H Q E h => by
  rcases h with h | ⟨P, i, _, h, _⟩
  · exact spD_len hk vs H Q E h
  · rw [h.length, hk]
/-- it is refused -/
def DXe (K : PySem.W.Frag) (te : TE) (G : Sl) (E : XK) (C : Addr) : Prop := ∀ (c : TB.C) (σ : L2.St) (H : Hp), Sits K c G σ H → ∀ Q : VK, (∀ H', Same c.H0 H' → E (.ref C) none H') → te σ H Q
def DX (K : PySem.W.Frag) (ts : TS) (G : Sl) (E : XK) (C : Addr) : Prop := ∀ (c : TB.C) (σ : L2.St) (H : Hp) (D : Ends), Sits K c G σ H → (∀ H', Same c.H0 H' → E (.ref C) none H') → ts D σ H
theorem dx_raise : DX K (tRaise C E) G E C := fun c σ H D e k => k H e.h0
theorem dx_drop (h : DXe K te G E C) : DX K (tDrop te) G E C := fun c σ H D e k => h c σ H e _ k
theorem dx_ret (h : DXe K te G E C) : DX K (tRet te) G E C := fun c σ H D e k => h c σ H e _ k
theorem dx_seq1 (h : DX K ts G E C) : DX K (tSeq ts tv) G E C := fun c σ H D e k => h c σ H _ e k
theorem dx_seq2 (h : DS K ts G { nx := fun G' => DX K tv G' E C, rt := fun _ => False, bk := fun _ => False, ct := fun _ => False }) : DX K (tSeq ts tv) G E C := fun c σ H D e k =>
  h c σ H _ e (fun G' σ' H' p e' => p c σ' H' D e' k) (fun _ _ _ p => p.elim) (fun _ _ _ p => p.elim) (fun _ _ _ p => p.elim)
theorem dx_if {b : Bool} (h : DT K tt G b) (h1 : b = true → DX K ts G E C) (h2 : b = false → DX K tv G E C) : DX K (tIfS tt ts tv) G E C := fun c σ H D e k => h c σ H e _ fun H1 s => by
  cases b with
  | true =>
    show ts D σ H1
    exact h1 rfl c σ H1 D (e.ext s) k
  | false =>
    show tv D σ H1
    exact h2 rfl c σ H1 D (e.ext s) k
section
variable {ι : Type} {args : ι → List PyData} {pre bad : ι → Prop} {res : ι → R → Prop} {t : TA}
theorem dxe_call (k : ι) (ha : DA K none t G (args k)) (hb : bad k) : DXe K (tCall (spX K C args pre res bad) [] E t) G E C := fun c σ H e Q q => ha c σ H e _ fun vs H1 s1 r1 => by
  have e1 := e.ext s1
  exact .inr ⟨vis c (OF G) none H1, k, e1.vsame, by rw [List.append_nil]; exact r1, hb, fun H' s => q H' (e1.h0.trans s)⟩
theorem de_callX {r : R} (k : ι) (ha : DA K none t G (args k)) (hp : pre k) (hr : ∀ r', res k r' → r' = r) (hn : r.nw = true) : DE K m (tCall (spX K C args pre res bad) [] E t) G r.full :=
  de_dr (dr_callS (args := args) (pre := pre) (res := res) (fun _ _ _ h => .inl h) k ha hp hr (.inl hn)) (by rw [hn]; cases m with | none => rfl | some k => cases k <;> rfl)
theorem raw_bad {N : List Str} {ts : XK → TS} (hbad : ∀ i, bad i → ∀ E, DX K (ts E) (ent N (args i)) E C) : ∀ vs H Q E, badOf K args bad C vs H Q E → ts E { nx := fun _ H' => Q .non H', rt := Q } (L2.start N vs) H := fun vs H Q E ⟨F, i, hF, hv, hp, k⟩ =>
  hbad i hp E ⟨H, F, H⟩ _ H _ (ent_sits hF hv) k
theorem raw_X {N : List Str} {ts : XK → TS} (hds : ∀ E i, pre i → DS K (ts E) (ent N (args i)) { nx := fun _ => res i (.val true .none), rt := res i }) (hbad : ∀ i, bad i → ∀ E, DX K (ts E) (ent N (args i)) E C) :
    ∀ vs H Q E, spX K C args pre res bad vs H Q E → ts E { nx := fun _ H' => Q .non H', rt := Q } (L2.start N vs) H := fun vs H Q E h => by
  rcases h with h | h
  · exact raw_of (hds E) vs H Q E h
  · exact raw_bad hbad vs H Q E h
/-! try: a call that is refused -/
def tTry1 (K : PySem.W.Frag) (cv : Value) (tb : WX → TS) (ts : TS) : TS := fun D σ H => tb (wOnly K cv (fun _ _ _ => ts) (fun _ _ _ _ => False) D) D σ H
theorem ds_try1 {cv : Value} (hm : PySem.W.exmOne K (.ref C) cv = some true) (k : ι) (ha : DA K none t G (args k)) (hb : bad k) (hs : DS K ts G P) : DS K (tTry1 K cv (fun W => tDrop (tCallS (spX K C args pre res bad) (WE W) t)) ts) G P := fun c σ H D e k1 k2 k3 k4 => ha c σ H e _ fun vs H1 s1 r1 => by
  have e1 := e.ext s1
  exact .inr ⟨vis c (OF G) none H1, k, e1.vsame, r1, hb, fun H' s => ⟨true, hm, fun _ a _ => hs c σ H' D (e1.ext s) k1 k2 k3 k4, fun q => nomatch q⟩⟩
def tTry2 (K : PySem.W.Frag) (cv : Value) (i : Nat) (tb : WX → TS) (ts : Addr → Value → Option Addr → TS) : TS := fun D σ H => tb (wAs K cv i ts (fun _ _ _ _ => False) D) D σ H
/-- return e and isinstance(error, T) -/
def tSuiteIs (K : PySem.W.Frag) (C : Addr) (j i : Nat) (T : String) : Addr → Value → Option Addr → TS := fun a cls d D σ H => cls = .ref C ∧ d = none ∧ tRet (tAndV (tVar j) (tCB (rIsE K C a) (tCons (tVar i) (tCons (tC (.ty T)) tNil)))) D σ H
theorem pss_given {X : Cx} {ss : List Stmt} {t : TS} {p q : Prop} (h : p → q → PSs X ss t) : PSs X ss (fun D σ H => p ∧ q ∧ t D σ H) := ⟨fun pins s σ H D I x => (h x.1 x.2.1).run pins s σ H D I x.2.2⟩
theorem ds_try2 {cv : Value} {T : String} {n : Bool} {j : Nat} (hm : PySem.W.exmOne K (.ref C) cv = some true) (hk : PySem.W.kitOne K (.ref C) (.type T) = some true) (k : ι) (ha : DA K none t G (args k)) (hb : bad k) (hi : i < G.length) (hij : i ≠ j) (hg : G[j]? = some (some (.sh n (.bool true)))) (hr : P.rt (.val true (.bool true))) :
    DS K (tTry2 K cv i (fun W => tDrop (tCallS (spX K C args pre res bad) (WE W) t)) (tSuiteIs K C j i T)) G P := fun c σ H D e k1 k2 k3 k4 => ha c σ H e _ fun vs H1 s1 r1 => by
  have e1 := e.ext s1
  refine .inr ⟨vis c (OF G) none H1, k, e1.vsame, r1, hb, fun H' s => ⟨true, hm, fun _ a _ => ?_, fun q => nomatch q⟩⟩
  have e2 := e1.ext s
  obtain ⟨v, h1, h2⟩ := e2.at_ j _ hg
  have h2 : Rep K _ v (.bool true) := h2
  cases h2
  refine ⟨rfl, rfl, .bl true, ?_, true, rfl, ?_⟩
  · rw [List.getElem?_set_ne hij]; exact h1
  · rw [if_pos rfl]
    refine ⟨.ref a, ?_, .ty T, .type T, true, rfl, fun u h => h, hk, ?_⟩
    · rw [List.getElem?_set_self (by have := e2.len; omega)]
    · exact k2 (.val true (.bool true)) (.bl true) H' hr e2.h0 ⟨.sh true (.bool true), rfl, List.nodup_nil, fun _ h => (by simp [B.ows] at h), .bl true⟩
end
end
end TB

namespace TB
open PySem PySem.Spec PyProof.Rows L2
section
variable {K : PySem.W.Frag} {m : Md} {ta tb tc : TE} {G : Sl}
theorem de_leC {a b c : Int} (ha : DE K none ta G (.int a)) (hb : DE K none tb G (.int b)) (hc : DE K none tc G (.int c)) : DE K m (tChain rLe rLe ta tb tc) G (.bool (decide (a ≤ b) && decide (b ≤ c))) := de_chain opd_le (fun _ => opd_le) ha hb (fun _ => hc)
theorem de_leLtC {a b c : Int} (ha : DE K none ta G (.int a)) (hb : DE K none tb G (.int b)) (hc : DE K none tc G (.int c)) : DE K m (tChain rLe rLt ta tb tc) G (.bool (decide (a ≤ b) && decide (b < c))) := de_chain opd_le (fun _ => opd_lt) ha hb (fun _ => hc)
end
local macro_rules | `(tactic| fail "side") => `(tactic| ((fail_if_success with_reducible apply gd_de); (fail_if_success with_reducible apply gd_da); (fail_if_success with_reducible apply gd_dt); first | with_reducible assumption | rfl | exact Nat.le_of_ble_eq_true rfl | decide | omega | exact cm_om (by omega) (by omega) (by omega) (by omega) | exact lg_om (by omega) (by omega) | assumption))
local macro_rules | `(tactic| fail "g") => `(tactic| first
  | ((with_reducible apply gd_da); first
    | with_reducible exact da_nil
    | ((with_reducible apply da_cons) <;> fail "g"))
  | ((with_reducible apply gd_var); first
    | ((with_reducible apply de_sh) <;> rfl)
    | ((with_reducible apply de_shI) <;> first | rfl | assumption)
    | ((with_reducible apply de_own); rfl))
  | ((with_reducible apply gd_c); first
    | with_reducible exact de_int
    | with_reducible exact de_bl
    | with_reducible exact de_non
    | with_reducible exact de_str)
  | ((with_reducible apply gd_op); first
    | ((with_reducible apply de_add) <;> fail "g")
    | ((with_reducible apply de_sub) <;> fail "g")
    | ((with_reducible apply de_mul) <;> fail "g")
    | ((with_reducible apply de_mod) <;> fail "g")
    | ((with_reducible apply de_floor) <;> fail "g")
    | with_reducible exact de_p9
    | with_reducible exact de_p12
    | with_reducible exact de_p15
    | with_reducible exact de_p18
    | with_reducible exact de_p20
    | with_reducible exact de_p25
    | with_reducible exact de_p30
    | with_reducible exact de_p40
    | ((with_reducible apply de_lt) <;> fail "g")
    | ((with_reducible apply de_le) <;> fail "g")
    | ((with_reducible apply de_gt) <;> fail "g")
    | ((with_reducible apply de_ge) <;> fail "g")
    | ((with_reducible apply de_eqI) <;> fail "g")
    | ((with_reducible apply de_neI) <;> fail "g")
    | ((with_reducible apply de_eq) <;> fail "g")
    | ((with_reducible apply de_ne) <;> fail "g")
    | ((with_reducible apply de_is) <;> fail "g")
    | ((with_reducible apply de_isNot) <;> fail "g")
    | ((with_reducible apply de_ixT) <;> fail "g")
    | ((with_reducible apply de_ixL) <;> fail "g"))
  | ((with_reducible apply gd_cb); first
    | ((with_reducible apply de_lenL) <;> fail "g")
    | ((with_reducible apply de_lenT) <;> fail "g")
    | ((with_reducible apply de_isiA) <;> fail "g")
    | ((with_reducible apply de_intI) <;> fail "g")
    | ((with_reducible apply de_intB) <;> fail "g")
    | ((with_reducible apply de_sumL) <;> fail "g")
    | ((with_reducible apply de_sumT) <;> fail "g")
    | ((with_reducible apply de_minL) <;> fail "g")
    | ((with_reducible apply de_minT) <;> fail "g")
    | ((with_reducible apply de_maxL) <;> fail "g")
    | ((with_reducible apply de_max2) <;> fail "g")
    | ((with_reducible apply de_tupL) <;> fail "g"))
  | ((with_reducible apply gd_dt); first
    | ((with_reducible apply dt_test) <;> fail "g")
    | ((with_reducible apply dt_B) <;> fail "g")
    | ((with_reducible apply dt_not) <;> fail "g")
    | ((with_reducible apply dt_and) <;> fail "g")
    | ((with_reducible apply dt_or) <;> fail "g"))
  | ((with_reducible apply gd_de); first
    | ((with_reducible apply de_tup) <;> fail "g")
    | ((with_reducible apply de_lst) <;> fail "g")
    | with_reducible exact de_dnew
    | ((with_reducible apply de_leC) <;> fail "g")
    | ((with_reducible apply de_leLtC) <;> fail "g")
    | ((with_reducible apply de_andV) <;> fail "g")
    | ((with_reducible apply de_orV) <;> fail "g")
    | ((with_reducible apply de_notV) <;> fail "g")
    | ((with_reducible apply de_neg) <;> fail "g"))
  | (intro _; fail "g")
  | fail "call"
  | fail "side")

def isI : PyData → Bool
  | .int _ => true
  | _ => false
def isIB : PyData → Bool
  | .int _ => true
  | .bool _ => true
  | _ => false
def isBl : PyData → Bool
  | .bool _ => true
  | _ => false

/-! ### _law_int -/
def sp_l_int (K : PySem.W.Frag) : Sp := spD K (ι := PyData) (fun d => [d]) (fun _ => True) (fun d r => r = .val true (.bool (isI d)))
/- 0 _law_found -/
def N_l_int : List Str := ["_law_found"]
def t_l_int (K : PySem.W.Frag) : TS :=
  tRet (tAndV (tCB (rIsiA K) (tCons (tVar 0) (tCons (tC (.ty "int")) (tNil)))) (tNotV (tCB (rIsiA K) (tCons (tVar 0) (tCons (tC (.ty "bool")) (tNil))))))
theorem ds_l_int {K : PySem.W.Frag} (d : PyData) (_ : True) : DS K (t_l_int K) (ent ["_law_found"] [d]) { nx := fun _ => R.val true .none = R.val true (.bool (isI d)), rt := fun r => r = .val true (.bool (isI d)) } := by
  show DS K (tRet _) [some (.sh false d)] _
  refine ds_retD (n := true) (d := .bool (isI d)) ?_ rfl
  have hb : kitB (tyD d) "int" = some (isIB d) := by cases d <;> rfl
  have hc : kitB (tyD d) "bool" = some (isBl d) := by cases d <;> rfl
  refine de_to (by fail "g") ?_
  cases d <;> rfl
theorem call_l_int {K : PySem.W.Frag} {m : Md} {G : Sl} {t : TA} {d : PyData} (h : DA K none t G [d]) : DE K m (tCall (sp_l_int K) [] E0 t) G (.bool (isI d)) := de_callN (r := .val true (.bool (isI d))) (ι := PyData) d h trivial (fun r hr => hr) rfl
local macro_rules | `(tactic| fail "call") => `(tactic| ((with_reducible apply call_l_int) <;> fail "g"))

/-! ### _law_cell -/
def cellN (ns : List Int) (k : Nat) : Int :=
  if h : k < ns.length then (ns[k] + 104729) * 2718281828459045235360287471352662497757 % T40
  else
    let z := (k : Int) * k * 7919 + 5 + (if h : 0 < ns.length then (ns[(k * 7) % ns.length]'(Nat.mod_lt _ h)) % T40 * 48271 else 0)
    z * z % 2147483629 * 2718281828459045235360287471352662497757 % T40
theorem cellN_bd (ns : List Int) (k : Nat) : 0 ≤ cellN ns k ∧ cellN ns k < T40 := by
  unfold cellN
  split
  · exact ⟨Int.emod_nonneg _ (by decide), Int.emod_lt_of_pos _ (by decide)⟩
  · exact ⟨Int.emod_nonneg _ (by decide), Int.emod_lt_of_pos _ (by decide)⟩
def sp_l_cell (K : PySem.W.Frag) : Sp := spD K (ι := List Int × Nat) (fun p => [.list (p.1.map .int), .int (p.2 : Nat)]) (fun p => Scr p.1 ∧ p.2 ≤ 1000) (fun p r => r = .val true (.int (cellN p.1 p.2)))
/- 0 _law_script, 1 _law_k, 2 _law_number -/
def N_l_cell : List Str := ["_law_script", "_law_k", "_law_number"]
def t_l_cell (K : PySem.W.Frag) : TS :=
  tSeq (tIfS (tTest (tOp rLt (tVar 1) (tCB (rLen K) (tCons (tVar 0) (tNil))))) (tRet (tOp rMod (tOp (rTimes K) (tOp (rPlusQ K) (tOp (rSub K) (tVar 0) (tVar 1)) (tC (.int 104729))) (tC (.int 2718281828459045235360287471352662497757))) (tOp rPow (tC (.int 10)) (tC (.int 40))))) (tNext))
    (tSeq (tAsg (tOp (rPlusQ K) (tOp (rTimes K) (tOp (rTimes K) (tVar 1) (tVar 1)) (tC (.int 7919))) (tC (.int 5))) (gName 2))
    (tSeq (tIfS (tTest (tOp rGt (tCB (rLen K) (tCons (tVar 0) (tNil))) (tC (.int 0)))) (tAsg (tOp (rPlusQ K) (tVar 2) (tOp (rTimes K) (tOp rMod (tOp (rSub K) (tVar 0) (tOp rMod (tOp (rTimes K) (tVar 1) (tC (.int 7))) (tCB (rLen K) (tCons (tVar 0) (tNil))))) (tOp rPow (tC (.int 10)) (tC (.int 40)))) (tC (.int 48271)))) (gName 2)) (tNext))
    (tRet (tOp rMod (tOp (rTimes K) (tOp rMod (tOp (rTimes K) (tVar 2) (tVar 2)) (tC (.int 2147483629))) (tC (.int 2718281828459045235360287471352662497757))) (tOp rPow (tC (.int 10)) (tC (.int 40)))))))
theorem ds_l_cell {K : PySem.W.Frag} (p : List Int × Nat) (h : Scr p.1 ∧ p.2 ≤ 1000) : DS K (t_l_cell K) (ent ["_law_script", "_law_k", "_law_number"] [.list (p.1.map .int), .int (p.2 : Nat)]) { nx := fun _ => R.val true .none = R.val true (.int (cellN p.1 p.2)), rt := fun r => r = .val true (.int (cellN p.1 p.2)) } := by
  obtain ⟨ns, k⟩ := p
  obtain ⟨⟨h1, h2⟩, h3⟩ := h
  have h3 : k ≤ 1000 := h3
  have pos40 : (0 : Int) < T40 := by decide
  show DS K (t_l_cell K) [some (.sh false (.list (ns.map .int))), some (.sh false (.int (k : Nat))), none] _
  unfold t_l_cell
  refine ds_seq (ds_if (b := decide (((k : Nat) : Int) < ((ns.map PyData.int).length : Nat))) (by fail "g") (fun hb => ?_) (fun hb => ?_))
  · have hb := of_decide_eq_true hb
    rw [List.length_map] at hb
    have hk : k < ns.length := by omega
    have hat : L2.atI (ns.map PyData.int) ((k : Nat) : Int) = some (.int ns[k]) := atI_map (List.getElem?_eq_getElem hk) rfl
    have hm : CMulX (ns[k] + 104729) 2718281828459045235360287471352662497757 := cm_of (n := SB + 1) (k := 200) (lt_add (h2 _ (List.getElem_mem hk)) (lt_up (n := 20) (by decide) (by decide))) (by decide) (by decide) (by decide) (by decide)
    refine ds_retD (n := true) (d := .int ((ns[k] + 104729) * 2718281828459045235360287471352662497757 % T40)) (by fail "g") ?_
    unfold cellN
    rw [dif_pos hk]
  · have hb := of_decide_eq_false hb
    rw [List.length_map] at hb
    have hk : ¬ k < ns.length := by omega
    refine ds_next ?_
    have b1 : ((k : Nat) : Int).natAbs < 2 ^ 100 := Nat.lt_of_le_of_lt (show ((k : Nat) : Int).natAbs ≤ 1000 by omega) (by decide)
    have m1 : CMulX ((k : Nat) : Int) ((k : Nat) : Int) := cm_small (lt_up b1 (by decide)) (lt_up b1 (by decide))
    have m2 : CMulX (((k : Nat) : Int) * ((k : Nat) : Int)) 7919 := cm_small (lt_up (lt_mul b1 b1) (by decide)) (lt_up (n := 20) (by decide) (by decide))
    refine ds_seq (ds_set (n := true) (d := .int ((k : Int) * k * 7919 + 5)) (by fail "g") (Nat.lt_of_sub_eq_succ rfl) ?_)
    show DS K _ [some (.sh false (.list (ns.map .int))), some (.sh false (.int (k : Nat))), some (.sh true (.int ((k : Int) * k * 7919 + 5)))] _
    have b2 : ((k : Int) * k * 7919 + 5).natAbs < 2 ^ 260 := lt_up (lt_add (n := 220) (lt_mul (lt_mul b1 b1) (k := 20) (by decide)) (lt_up (n := 3) (by decide) (by decide))) (by decide)
    have fin : ∀ z : Int, z = (if h : 0 < ns.length then (ns[(k * 7) % ns.length]'(Nat.mod_lt _ h)) % T40 * 48271 else 0) → z.natAbs < 2 ^ 260 →
        DS K (tRet (tOp rMod (tOp (rTimes K) (tOp rMod (tOp (rTimes K) (tVar 2) (tVar 2)) (tC (.int 2147483629))) (tC (.int 2718281828459045235360287471352662497757))) (tOp rPow (tC (.int 10)) (tC (.int 40))))) [some (.sh false (.list (ns.map .int))), some (.sh false (.int (k : Nat))), some (.sh true (.int ((k : Int) * k * 7919 + 5 + z)))] { nx := fun _ => R.val true .none = R.val true (.int (cellN ns k)), rt := fun r => r = .val true (.int (cellN ns k)) } := fun z hz bz => by
      have b3 := lt_add b2 bz
      have m3 : CMulX ((k : Int) * k * 7919 + 5 + z) ((k : Int) * k * 7919 + 5 + z) := cm_small (lt_up b3 (by decide)) (lt_up b3 (by decide))
      have m4 : CMulX (((k : Int) * k * 7919 + 5 + z) * ((k : Int) * k * 7919 + 5 + z) % 2147483629) 2718281828459045235360287471352662497757 :=
        cm_small (lt_up (nat_bound (n := 40) (Int.emod_nonneg _ (by decide)) (Int.emod_lt_of_pos _ (by decide)) (by decide)) (by decide)) (lt_up (n := 200) (by decide) (by decide))
      refine ds_retD (n := true) (d := .int (((k : Int) * k * 7919 + 5 + z) * ((k : Int) * k * 7919 + 5 + z) % 2147483629 * 2718281828459045235360287471352662497757 % T40)) (by fail "g") ?_
      unfold cellN
      rw [dif_neg hk, hz]
    refine ds_seq (ds_if (b := decide ((0 : Int) < ((ns.map PyData.int).length : Nat))) (by fail "g") (fun hb => ?_) (fun hb => ?_))
    · have hb := of_decide_eq_true hb
      have hl : (0 : Int) < ((ns.map PyData.int).length : Nat) := hb
      rw [List.length_map] at hb
      have hp : 0 < ns.length := by omega
      have m5 : CMulX ((k : Nat) : Int) 7 := cm_small (lt_up b1 (by decide)) (lt_up (n := 3) (by decide) (by decide))
      have hat : L2.atI (ns.map PyData.int) (((k : Nat) : Int) * 7 % ((ns.map PyData.int).length : Nat)) = some (.int (ns[(k * 7) % ns.length]'(Nat.mod_lt _ hp))) :=
        atI_map (List.getElem?_eq_getElem (Nat.mod_lt _ hp)) (by rw [List.length_map]; simp)
      have bz := bd40 ⟨Int.emod_nonneg (ns[(k * 7) % ns.length]'(Nat.mod_lt _ hp)) (show T40 ≠ 0 by decide), Int.emod_lt_of_pos _ pos40⟩
      have m6 : CMulX ((ns[(k * 7) % ns.length]'(Nat.mod_lt _ hp)) % T40) 48271 := cm_small (lt_up bz (by decide)) (lt_up (n := 20) (by decide) (by decide))
      refine ds_set (n := true) (d := .int ((k : Int) * k * 7919 + 5 + (ns[(k * 7) % ns.length]'(Nat.mod_lt _ hp)) % T40 * 48271)) (by fail "g") (Nat.lt_of_sub_eq_succ rfl) ?_
      exact fin _ (by rw [dif_pos hp]) (lt_up (lt_mul bz (k := 20) (by decide)) (by decide))
    · have hb := of_decide_eq_false hb
      rw [List.length_map] at hb
      have hp : ¬ 0 < ns.length := by omega
      refine ds_next ?_
      have := fin 0 (by rw [dif_neg hp]) (by decide)
      rwa [Int.add_zero] at this
theorem call_l_cell {K : PySem.W.Frag} {m : Md} {G : Sl} {t : TA} {ns : List Int} {k : Nat} (h : DA K none t G [.list (ns.map .int), .int (k : Nat)]) (hs : Scr ns) (hk : k ≤ 1000) : DE K m (tCall (sp_l_cell K) [] E0 t) G (.int (cellN ns k)) := de_callN (r := .val true (.int (cellN ns k))) (ι := List Int × Nat) (ns, k) h ⟨hs, hk⟩ (fun r hr => hr) rfl
/-- .. its number written, or reckoned -/
theorem call_l_cellZ {K : PySem.W.Frag} {m : Md} {G : Sl} {t : TA} {ns : List Int} {z : Int} (h : DA K none t G [.list (ns.map .int), .int z]) (hs : Scr ns) (h0 : 0 ≤ z) (hk : z ≤ 1000) : DE K m (tCall (sp_l_cell K) [] E0 t) G (.int (cellN ns z.toNat)) := call_l_cell (by rw [Int.toNat_of_nonneg h0]; exact h) hs (by omega)
local macro_rules | `(tactic| fail "call") => `(tactic| ((with_reducible apply call_l_cellZ) <;> fail "g"))

/-! ### _law_next, _law_shape -/
def nextI (c : Int) : Int := (c * 6364136223846793007 + 1442695040888963407) % T40
def iterN : Nat → Int → Int
  | 0, c => c
  | k + 1, c => nextI (iterN k c)
theorem T40_pos : (0 : Int) < T40 := by decide
theorem T40_eq : T40 = 10000000000000000000000000000000000000000 := rfl
theorem nextI_bd (c : Int) : 0 ≤ nextI c ∧ nextI c < T40 := ⟨Int.emod_nonneg _ (by decide), Int.emod_lt_of_pos _ T40_pos⟩
def Bd40 (c : Int) : Prop := 0 ≤ c ∧ c < T40
theorem iterN_bd {c : Int} (h : Bd40 c) : ∀ k, Bd40 (iterN k c)
  | 0 => h
  | k + 1 => nextI_bd _
def sp_l_next (K : PySem.W.Frag) : Sp := spD K (ι := Int) (fun c => [.int c]) Bd40 (fun c r => r = .val true (.int (nextI c)))
/- 0 _law_cell_here -/
def N_l_next : List Str := ["_law_cell_here"]
def t_l_next (K : PySem.W.Frag) : TS :=
  tRet (tOp rMod (tOp (rPlusQ K) (tOp (rTimes K) (tVar 0) (tC (.int 6364136223846793007))) (tC (.int 1442695040888963407))) (tOp rPow (tC (.int 10)) (tC (.int 40))))
theorem ds_l_next {K : PySem.W.Frag} (c : Int) (h : Bd40 c) : DS K (t_l_next K) (ent N_l_next [.int c]) { nx := fun _ => R.val true .none = R.val true (.int (nextI c)), rt := fun r => r = .val true (.int (nextI c)) } := by
  obtain ⟨h1, h2⟩ := h
  rw [T40_eq] at h2
  have p := T40_pos
  show DS K (tRet _) [some (.sh false (.int c))] _
  exact ds_retE (n := true) (d' := .int (nextI c)) (by fail "g") (by rfl) rfl
theorem call_l_next {K : PySem.W.Frag} {m : Md} {G : Sl} {t : TA} {c : Int} (h : DA K none t G [.int c]) (hc : Bd40 c) : DE K m (tCall (sp_l_next K) [] E0 t) G (.int (nextI c)) := de_callN (r := .val true (.int (nextI c))) (ι := Int) c h hc (fun r hr => hr) rfl
local macro_rules | `(tactic| fail "call") => `(tactic| ((with_reducible apply call_l_next) <;> fail "g"))
def shapeRaw (c : Int) (w : Nat) : List Int := (List.range w).map fun k => iterN (k + 1) c / 1000000000000000 % 4
def shapeN (c : Int) (w : Nat) : List Int := if (shapeRaw c w).sum = 0 then (shapeRaw c w).set 0 1 else shapeRaw c w
theorem shapeRaw_at {c : Int} {w : Nat} : ∀ x ∈ shapeRaw c w, 0 ≤ x ∧ x ≤ 3 := fun x hx => by
  obtain ⟨k, _, rfl⟩ := List.mem_map.mp hx
  have := Int.emod_nonneg (iterN (k + 1) c / 1000000000000000) (show (4 : Int) ≠ 0 by decide)
  have := Int.emod_lt_of_pos (iterN (k + 1) c / 1000000000000000) (show (0 : Int) < 4 by decide)
  omega
theorem shapeN_len {c : Int} {w : Nat} : (shapeN c w).length = w := by
  unfold shapeN shapeRaw
  split <;> simp
theorem shapeN_at {c : Int} {w : Nat} : ∀ x ∈ shapeN c w, 0 ≤ x ∧ x ≤ 3 := fun x hx => by
  unfold shapeN at hx
  split at hx
  · rcases List.mem_or_eq_of_mem_set hx with h | h
    · exact shapeRaw_at x h
    · omega
  · exact shapeRaw_at x hx
theorem sum_nonneg : ∀ {l : List Int}, (∀ x ∈ l, 0 ≤ x) → 0 ≤ l.sum
  | [], _ => by simp
  | x :: l, h => by
    rw [List.sum_cons]
    have := h x (by simp)
    have := sum_nonneg (l := l) fun y hy => h y (by simp [hy])
    omega
theorem sum_fix {l : List Int} (h : ∀ x ∈ l, 0 ≤ x) (hl : 0 < l.length) : 0 < (if l.sum = 0 then l.set 0 1 else l).sum := by
  have h0 := sum_nonneg h
  split
  · cases l with
    | nil => simp at hl
    | cons x r =>
      rw [List.set_cons_zero, List.sum_cons]
      have := sum_nonneg (l := r) fun y hy => h y (by simp [hy])
      omega
  · omega
def sp_l_shape (K : PySem.W.Frag) : Sp := spD K (ι := Int × Nat) (fun p => [.int p.1, .int (p.2 : Nat)]) (fun p => Bd40 p.1 ∧ 1 ≤ p.2 ∧ p.2 ≤ 6) (fun p r => r = .own true ((shapeN p.1 p.2).map .int))
/- 0 _law_cell_here, 1 _law_wares, 2 _law_shape_here, 3 _law_k -/
def N_l_shape : List Str := ["_law_cell_here", "_law_wares", "_law_shape_here", "_law_k"]
def t_l_shape (K : PySem.W.Frag) : TS :=
  tSeq (tAsg (tLst (tNil)) (gName 2))
    (tSeq (tFor (iRng1 (tCons (tVar 1) (tNil))) (gName 3) (tSeq (tAsg (tCall (sp_l_next K) [] E0 (tCons (tVar 0) (tNil))) (gName 0))
    (tDrop (tBM K "list" rAppend (tVar 2) (tCons (tOp rMod (tOp rFloor (tVar 0) (tOp rPow (tC (.int 10)) (tC (.int 15)))) (tC (.int 4))) (tNil))))))
    (tSeq (tIfS (tTest (tOp (rEqD K) (tCB (rSumA K) (tCons (tVar 2) (tNil))) (tC (.int 0)))) (tAsg (tC (.int 1)) (gSub (tVar 2) (tC (.int 0)) rSetA)) (tNext))
    (tRet (tVar 2))))
theorem ds_l_shape {K : PySem.W.Frag} (p : Int × Nat) (h : Bd40 p.1 ∧ 1 ≤ p.2 ∧ p.2 ≤ 6) : DS K (t_l_shape K) (ent N_l_shape [.int p.1, .int (p.2 : Nat)]) { nx := fun _ => R.val true .none = R.own true ((shapeN p.1 p.2).map .int), rt := fun r => r = .own true ((shapeN p.1 p.2).map .int) } := by
  obtain ⟨c, w⟩ := p
  obtain ⟨hc, hw1, hw6⟩ := h
  have hc : Bd40 c := hc
  have hw1 : 1 ≤ w := hw1
  have hw6 : w ≤ 6 := hw6
  show DS K (t_l_shape K) [some (.sh false (.int c)), some (.sh false (.int (w : Nat))), none, none] _
  unfold t_l_shape
  refine ds_seq (ds_ownE (n := true) (ds' := (([] : List Int).map .int)) (dn_lst da_nil (by decide)) (by rfl) (Nat.lt_of_sub_eq_succ rfl) fun a => ?_)
  refine ds_cut (fun G => ∃ x y, G = [x, some (.sh false (.int (w : Nat))), some (.own true a ((shapeRaw c w).map .int)), y]) ?_ ?_
  · refine ds_forR (q := w) (by fail "g") rfl (by omega) (fun k G => ∃ b y, G = [some (.sh b (.int (iterN k c))), some (.sh false (.int (w : Nat))), some (.own true a ((shapeRaw c k).map .int)), y]) ⟨false, none, rfl⟩ ?_ ?_ ?_
    · rintro k G ⟨b, y, rfl⟩; exact (Nat.lt_of_sub_eq_succ rfl)
    · rintro k G hk ⟨b, y, rfl⟩
      have hb := iterN_bd hc k
      refine ds_seq (ds_setE (n := true) (d' := .int (iterN (k + 1) c)) (by fail "g") (by rfl) (Nat.lt_of_sub_eq_succ rfl) ?_)
      refine ds_appE (n := true) (d := .int (iterN (k + 1) c / 1000000000000000 % 4)) (by rfl) (by fail "g") (by simp [shapeRaw]; omega) (ds' := (shapeRaw c (k + 1)).map .int) ?_ ⟨true, _, rfl⟩
      unfold shapeRaw
      rw [List.range_succ, List.map_append, List.map_append]
      rfl
    · rintro G ⟨b, y, rfl⟩; exact ⟨_, _, rfl⟩
  · rintro G ⟨x, y, rfl⟩
    have hl : 0 < (shapeRaw c w).length := by unfold shapeRaw; simp; omega
    refine ds_cut (fun G => G = [x, some (.sh false (.int (w : Nat))), some (.own true a ((shapeN c w).map .int)), y]) ?_ ?_
    · refine ds_if (b := decide ((shapeRaw c w).sum = 0)) (by fail "g") (fun hb => ?_) (fun hb => ?_)
      · have hb := of_decide_eq_true hb
        refine ds_setItemA (n := true) (j := 0) (d := .int 1) (ds := (shapeRaw c w).map .int) (by rfl) (by fail "g") (by fail "g") (by unfold ixN; rw [List.length_map, if_pos (by decide), if_pos (by omega)]; rfl) ?_
        show [x, _, some (B.own true a (((shapeRaw c w).map PyData.int).set 0 (.int 1))), y] = _
        unfold shapeN
        rw [if_pos hb, List.map_set]
      · have hb := of_decide_eq_false hb
        refine ds_next ?_
        unfold shapeN
        rw [if_neg hb]
    · rintro G rfl
      exact ds_retV (b := .own true a ((shapeN c w).map .int)) (by rfl) rfl
theorem dr_l_shape {K : PySem.W.Frag} {G : Sl} {t : TA} {c : Int} {w : Nat} (h : DA K none t G [.int c, .int (w : Nat)]) (hc : Bd40 c) (h1 : 1 ≤ w) (h6 : w ≤ 6) : DR K (tCall (sp_l_shape K) [] E0 t) G (.own true ((shapeN c w).map .int)) := dr_call (ι := Int × Nat) (c, w) h ⟨hc, h1, h6⟩ (fun r hr => hr) (.inl rfl)
theorem call_l_shapeZ {K : PySem.W.Frag} {m : Md} {G : Sl} {t : TA} {c z : Int} (h : DA K none t G [.int c, .int z]) (hc : Bd40 c) (h1 : 1 ≤ z) (h6 : z ≤ 6) : DE K m (tCall (sp_l_shape K) [] E0 t) G (.list ((shapeN c z.toNat).map .int)) := de_dr (dr_l_shape (w := z.toNat) (by rw [Int.toNat_of_nonneg (by omega)]; exact h) hc (by omega) (by omega)) (by cases m with | none => rfl | some k => cases k <;> rfl)
local macro_rules | `(tactic| fail "call") => `(tactic| ((with_reducible apply call_l_shapeZ) <;> fail "g"))
/-! ### _law_best -/
def bestN (ps sh : List Int) (j : Nat) : Int := if (List.range ps.length).any (fun k => decide ((1 + sh.getD j 0) * ps.getD k 0 < (1 + sh.getD k 0) * ps.getD j 0)) then 0 else 1
theorem bestN_bd (ps sh : List Int) (j : Nat) : 0 ≤ bestN ps sh j ∧ bestN ps sh j ≤ 1 := by unfold bestN; split <;> omega
structure PS (ps sh : List Int) : Prop where
  len : sh.length = ps.length
  l6 : ps.length ≤ 6
  p : ∀ x ∈ ps, 1 ≤ x ∧ x ≤ 1000000000
  s : ∀ x ∈ sh, 0 ≤ x ∧ x ≤ 3
theorem getD_mem' {l : List Int} {k : Nat} (h : k < l.length) : l.getD k 0 ∈ l := by
  rw [List.getD_eq_getElem?_getD, List.getElem?_eq_getElem h]; exact List.getElem_mem h
theorem at_getD {l : List Int} {k : Nat} {z : Int} (h : k < l.length) (e : z = (k : Nat)) : L2.atI (l.map PyData.int) z = some (.int (l.getD k 0)) := atI_map (x := l.getD k 0) (by rw [List.getD_eq_getElem?_getD, List.getElem?_eq_getElem h]; rfl) e
def sp_l_best (K : PySem.W.Frag) : Sp := spD K (ι := List Int × List Int × Nat) (fun p => [.list (p.1.map .int), .list (p.2.1.map .int), .int (p.2.2 : Nat)]) (fun p => PS p.1 p.2.1 ∧ p.2.2 < p.1.length) (fun p r => r = .val true (.int (bestN p.1 p.2.1 p.2.2)))
/- 0 _law_prices, 1 _law_shape_here, 2 _law_j, 3 _law_k -/
def N_l_best : List Str := ["_law_prices", "_law_shape_here", "_law_j", "_law_k"]
def t_l_best (K : PySem.W.Frag) : TS :=
  tSeq (tFor (iRng1 (tCons (tCB (rLen K) (tCons (tVar 0) (tNil))) (tNil))) (gName 3) (tIfS (tTest (tOp rGt (tOp (rTimes K) (tOp (rPlusQ K) (tC (.int 1)) (tOp (rSub K) (tVar 1) (tVar 3))) (tOp (rSub K) (tVar 0) (tVar 2))) (tOp (rTimes K) (tOp (rPlusQ K) (tC (.int 1)) (tOp (rSub K) (tVar 1) (tVar 2))) (tOp (rSub K) (tVar 0) (tVar 3))))) (tRet (tC (.int 0))) (tNext)))
    (tRet (tC (.int 1)))
theorem ds_l_best {K : PySem.W.Frag} (p : List Int × List Int × Nat) (h : PS p.1 p.2.1 ∧ p.2.2 < p.1.length) : DS K (t_l_best K) (ent N_l_best [.list (p.1.map .int), .list (p.2.1.map .int), .int (p.2.2 : Nat)]) { nx := fun _ => R.val true .none = R.val true (.int (bestN p.1 p.2.1 p.2.2)), rt := fun r => r = .val true (.int (bestN p.1 p.2.1 p.2.2)) } := by
  obtain ⟨ps, sh, j⟩ := p
  obtain ⟨H, hj⟩ := h
  have H : PS ps sh := H
  have hj : j < ps.length := hj
  show DS K (t_l_best K) [some (.sh false (.list (ps.map .int))), some (.sh false (.list (sh.map .int))), some (.sh false (.int (j : Nat))), none] _
  unfold t_l_best
  have l6 := H.l6
  refine ds_seq (ds_forR (q := ps.length) (by fail "g") (by simp) (by omega) (fun k G => (∃ y, G = [some (.sh false (.list (ps.map .int))), some (.sh false (.list (sh.map .int))), some (.sh false (.int (j : Nat))), y]) ∧ (List.range k).any (fun k => decide ((1 + sh.getD j 0) * ps.getD k 0 < (1 + sh.getD k 0) * ps.getD j 0)) = false) ⟨⟨none, rfl⟩, rfl⟩ ?_ ?_ ?_)
  · rintro k G ⟨⟨y, rfl⟩, _⟩; exact (Nat.lt_of_sub_eq_succ rfl)
  · rintro k G hk ⟨⟨y, rfl⟩, ha⟩
    have hk' : k < sh.length := by rw [H.len]; exact hk
    have hj' : j < sh.length := by rw [H.len]; exact hj
    have a1 : L2.atI (sh.map PyData.int) ((k : Nat) : Int) = some (.int (sh.getD k 0)) := at_getD hk' rfl
    have a2 : L2.atI (ps.map PyData.int) ((k : Nat) : Int) = some (.int (ps.getD k 0)) := at_getD hk rfl
    have a3 : L2.atI (sh.map PyData.int) ((j : Nat) : Int) = some (.int (sh.getD j 0)) := at_getD hj' rfl
    have a4 : L2.atI (ps.map PyData.int) ((j : Nat) : Int) = some (.int (ps.getD j 0)) := at_getD hj rfl
    obtain ⟨p1, p2⟩ := H.p _ (getD_mem' hk)
    obtain ⟨p3, p4⟩ := H.p _ (getD_mem' hj)
    obtain ⟨s1, s2⟩ := H.s _ (getD_mem' hk')
    obtain ⟨s3, s4⟩ := H.s _ (getD_mem' hj')
    refine ds_if (b := decide ((1 + sh.getD j 0) * ps.getD k 0 < (1 + sh.getD k 0) * ps.getD j 0)) (by fail "g") (fun hb => ?_) (fun hb => ds_next ?_)
    · refine ds_retE (n := true) (d' := .int 0) (by fail "g") (by rfl) ?_
      show _ = _
      unfold bestN
      rw [if_pos (List.any_eq_true.mpr ⟨k, List.mem_range.mpr hk, hb⟩)]
    · refine ⟨⟨_, rfl⟩, ?_⟩
      rw [List.range_succ, List.any_append, ha]
      simpa using hb
  · rintro G ⟨⟨y, rfl⟩, ha⟩
    refine ds_retE (n := true) (d' := .int 1) (by fail "g") (by rfl) ?_
    show _ = _
    unfold bestN
    rw [if_neg (by rw [ha]; decide)]
theorem call_l_best {K : PySem.W.Frag} {m : Md} {G : Sl} {t : TA} {ps sh : List Int} {j : Nat} (h : DA K none t G [.list (ps.map .int), .list (sh.map .int), .int (j : Nat)]) (H : PS ps sh) (hj : j < ps.length) : DE K m (tCall (sp_l_best K) [] E0 t) G (.int (bestN ps sh j)) := de_callN (r := .val true (.int (bestN ps sh j))) (ι := List Int × List Int × Nat) (ps, sh, j) h ⟨H, hj⟩ (fun r hr => hr) rfl
local macro_rules | `(tactic| fail "call") => `(tactic| ((with_reducible apply call_l_best) <;> fail "g"))

/-! ### _law_bought -/
def boughtN (way : Int) (ps as sh : List Int) (times : Int) : List Int :=
  if way = 3 then (List.range ps.length).map fun k => times * sh.getD k 0
  else if way = 4 then (List.range ps.length).map fun k => times * sh.getD k 0 * 12 / ps.getD k 0
  else if way = 5 then (List.range ps.length).map fun k => (1 + as.getD k 0) * bestN ps sh k
  else if way = 6 then (List.range ps.length).map fun k => (1 + as.getD k 0) * (if decide (ps.getD k 0 = minL ps) = true then 1 else 0)
  else if way = 7 then ps.map fun p => 9 - p
  else as
structure Buy (way : Int) (ps as sh : List Int) (times : Int) : Prop where
  ps' : PS ps sh
  l1 : 1 ≤ ps.length
  la : as.length = ps.length
  a : ∀ x ∈ as, 0 ≤ x ∧ x ≤ 1000000000
  t : 1 ≤ times ∧ times ≤ 5
  w7 : way = 7 → ∀ x ∈ ps, x ≤ 9
theorem boughtN_len {way : Int} {ps as sh : List Int} {times : Int} (h : Buy way ps as sh times) : (boughtN way ps as sh times).length = ps.length := by
  unfold boughtN
  split
  · simp
  split
  · simp
  split
  · simp
  split
  · simp
  split
  · simp
  · exact h.la
theorem map_range_at {n : Nat} {f : Nat → Int} {P : Int → Prop} (h : ∀ k < n, P (f k)) : ∀ x ∈ (List.range n).map f, P x := fun x hx => by
  obtain ⟨k, hk, rfl⟩ := List.mem_map.mp hx
  exact h k (List.mem_range.mp hk)
theorem mul_le {a b c d : Int} (ha : 0 ≤ a) (hb : 0 ≤ b) (h1 : a ≤ c) (h2 : b ≤ d) : 0 ≤ a * b ∧ a * b ≤ c * d := ⟨Int.mul_nonneg ha hb, Int.mul_le_mul h1 h2 hb (by omega)⟩
theorem boughtN_at {way : Int} {ps as sh : List Int} {times : Int} (h : Buy way ps as sh times) : ∀ x ∈ boughtN way ps as sh times, 0 ≤ x ∧ x ≤ 1000000001 := by
  obtain ⟨H, l1, la, ha, ht, h7⟩ := h
  have s : ∀ k < ps.length, 0 ≤ sh.getD k 0 ∧ sh.getD k 0 ≤ 3 := fun k hk => H.s _ (getD_mem' (by rw [H.len]; exact hk))
  have a : ∀ k < ps.length, 0 ≤ as.getD k 0 ∧ as.getD k 0 ≤ 1000000000 := fun k hk => ha _ (getD_mem' (by rw [la]; exact hk))
  have p : ∀ k < ps.length, 1 ≤ ps.getD k 0 ∧ ps.getD k 0 ≤ 1000000000 := fun k hk => H.p _ (getD_mem' hk)
  unfold boughtN
  split
  · refine map_range_at fun k hk => ?_
    have := mul_le (show 0 ≤ times by omega) (s k hk).1 ht.2 (s k hk).2
    omega
  split
  · refine map_range_at fun k hk => ?_
    have h1 := mul_le (show 0 ≤ times by omega) (s k hk).1 ht.2 (s k hk).2
    have h2 := p k hk
    have h3 := Int.ediv_nonneg (show 0 ≤ times * sh.getD k 0 * 12 by omega) (show 0 ≤ ps.getD k 0 by omega)
    have h4 := Int.ediv_le_self (ps.getD k 0) (show 0 ≤ times * sh.getD k 0 * 12 by omega)
    omega
  split
  · refine map_range_at fun k hk => ?_
    have := mul_le (show 0 ≤ 1 + as.getD k 0 by have := a k hk; omega) (bestN_bd ps sh k).1 (show 1 + as.getD k 0 ≤ 1000000001 by have := a k hk; omega) (bestN_bd ps sh k).2
    omega
  split
  · refine map_range_at fun k hk => ?_
    have := a k hk
    split <;> omega
  split
  · rename_i h
    intro x hx
    obtain ⟨y, hy, rfl⟩ := List.mem_map.mp hx
    have := h7 h y hy
    have := H.p y hy
    omega
  · intro x hx
    have := ha x hx
    omega
def args_bought (p : Int × List Int × List Int × List Int × Int) : List PyData := [.int p.1, .list (p.2.1.map .int), .list (p.2.2.1.map .int), .list (p.2.2.2.1.map .int), .int p.2.2.2.2]
def Own (way : Int) : Prop := 3 ≤ way ∧ way ≤ 7
def pre_bought (p : Int × List Int × List Int × List Int × Int) : Prop := Buy p.1 p.2.1 p.2.2.1 p.2.2.2.1 p.2.2.2.2 ∧ Own p.1
def res_bought (p : Int × List Int × List Int × List Int × Int) (r : R) : Prop := r = .own true ((boughtN p.1 p.2.1 p.2.2.1 p.2.2.2.1 p.2.2.2.2).map .int)
def sp_l_bought (K : PySem.W.Frag) : Sp := fun vs H Q E => spD K args_bought pre_bought res_bought vs H Q E ∨ ∃ way ps as sh times v, Reps K H vs [.int way, ps, as, sh, times] ∧ ¬ Own way ∧ vs[2]? = some v ∧ ∀ H', Same H H' → Q v H'
/- 0 _law_way, 1 _law_prices, 2 _law_amounts, 3 _law_shape_here, 4 _law_times, 5 _law_k, 6 _law_price_here -/
def N_l_bought : List Str := ["_law_way", "_law_prices", "_law_amounts", "_law_shape_here", "_law_times", "_law_k", "_law_price_here"]
def t_l_bought (K : PySem.W.Frag) : TS :=
  tSeq (tIfS (tTest (tOp (rEqD K) (tVar 0) (tC (.int 3)))) (tRet (tLc (iRng1 (tCons (tCB (rLen K) (tCons (tVar 1) (tNil))) (tNil))) (gName 5) (tYes) (tOp (rTimes K) (tVar 4) (tOp (rSub K) (tVar 3) (tVar 5))) [5])) (tNext))
    (tSeq (tIfS (tTest (tOp (rEqD K) (tVar 0) (tC (.int 4)))) (tRet (tLc (iRng1 (tCons (tCB (rLen K) (tCons (tVar 1) (tNil))) (tNil))) (gName 5) (tYes) (tOp rFloor (tOp (rTimes K) (tOp (rTimes K) (tVar 4) (tOp (rSub K) (tVar 3) (tVar 5))) (tC (.int 12))) (tOp (rSub K) (tVar 1) (tVar 5))) [5])) (tNext))
    (tSeq (tIfS (tTest (tOp (rEqD K) (tVar 0) (tC (.int 5)))) (tRet (tLc (iRng1 (tCons (tCB (rLen K) (tCons (tVar 1) (tNil))) (tNil))) (gName 5) (tYes) (tOp (rTimes K) (tOp (rPlusQ K) (tC (.int 1)) (tOp (rSub K) (tVar 2) (tVar 5))) (tCall (sp_l_best K) [] E0 (tCons (tVar 1) (tCons (tVar 3) (tCons (tVar 5) (tNil)))))) [5])) (tNext))
    (tSeq (tIfS (tTest (tOp (rEqD K) (tVar 0) (tC (.int 6)))) (tRet (tLc (iRng1 (tCons (tCB (rLen K) (tCons (tVar 1) (tNil))) (tNil))) (gName 5) (tYes) (tOp (rTimes K) (tOp (rPlusQ K) (tC (.int 1)) (tOp (rSub K) (tVar 2) (tVar 5))) (tCB rInt1 (tCons (tOp (rEqD K) (tOp (rSub K) (tVar 1) (tVar 5)) (tCB (rMinA K) (tCons (tVar 1) (tNil)))) (tNil)))) [5])) (tNext))
    (tSeq (tIfS (tTest (tOp (rEqD K) (tVar 0) (tC (.int 7)))) (tRet (tLc (iSeq K (tVar 1)) (gName 6) (tYes) (tOp rSubI (tC (.int 9)) (tVar 6)) [6])) (tNext))
    (tRet (tVar 2))))))
theorem ds_l_bought {K : PySem.W.Frag} (p : Int × List Int × List Int × List Int × Int) (h : pre_bought p) : DS K (t_l_bought K) (ent N_l_bought (args_bought p)) { nx := fun _ => res_bought p (.val true .none), rt := res_bought p } := by
  obtain ⟨way, ps, as, sh, times⟩ := p
  obtain ⟨B, o1, o2⟩ := h
  have B : Buy way ps as sh times := B
  have o1 : 3 ≤ way := o1
  have o2 : way ≤ 7 := o2
  show DS K (t_l_bought K) [some (.sh false (.int way)), some (.sh false (.list (ps.map .int))), some (.sh false (.list (as.map .int))), some (.sh false (.list (sh.map .int))), some (.sh false (.int times)), none, none] { nx := _, rt := fun r => r = .own true ((boughtN way ps as sh times).map .int) }
  unfold t_l_bought
  have l6 := B.ps'.l6
  have t1 := B.t.1
  have t2 := B.t.2
  have le1 : ((ps.map PyData.int).length : Int) = (ps.length : Nat) := by simp
  refine ds_seq (ds_if (b := decide (way = 3)) (by fail "g") (fun hb => ?_) (fun hb => ds_next ?_))
  · have hb := of_decide_eq_true hb
    subst hb
    refine ds_ret (dr_new (n := true) (dn_lcR (q := ps.length) (fun k => .int (times * sh.getD k 0)) (by fail "g") le1 (by omega) (Nat.lt_of_sub_eq_succ rfl) (fun b hb => by cases hb) fun k hk => ?_)) ?_
    · have hk' : k < sh.length := by rw [B.ps'.len]; exact hk
      have a1 : L2.atI (sh.map PyData.int) ((k : Nat) : Int) = some (.int (sh.getD k 0)) := at_getD hk' rfl
      obtain ⟨s1, s2⟩ := B.ps'.s _ (getD_mem' hk')
      fail "g"
    · show R.own _ _ = R.own _ _
      unfold boughtN
      rw [if_pos rfl, List.map_map]
      rfl
  have n3 := of_decide_eq_false hb
  refine ds_seq (ds_if (b := decide (way = 4)) (by fail "g") (fun hb => ?_) (fun hb => ds_next ?_))
  · have hb := of_decide_eq_true hb
    subst hb
    refine ds_ret (dr_new (n := true) (dn_lcR (q := ps.length) (fun k => .int (times * sh.getD k 0 * 12 / ps.getD k 0)) (by fail "g") le1 (by omega) (Nat.lt_of_sub_eq_succ rfl) (fun b hb => by cases hb) fun k hk => ?_)) ?_
    · have hk' : k < sh.length := by rw [B.ps'.len]; exact hk
      have a1 : L2.atI (sh.map PyData.int) ((k : Nat) : Int) = some (.int (sh.getD k 0)) := at_getD hk' rfl
      have a2 : L2.atI (ps.map PyData.int) ((k : Nat) : Int) = some (.int (ps.getD k 0)) := at_getD hk rfl
      obtain ⟨s1, s2⟩ := B.ps'.s _ (getD_mem' hk')
      obtain ⟨p1, p2⟩ := B.ps'.p _ (getD_mem' hk)
      have := mul_le (show 0 ≤ times by omega) s1 t2 s2
      obtain ⟨m1, m2⟩ := this
      fail "g"
    · show R.own _ _ = R.own _ _
      unfold boughtN
      rw [if_neg (by omega), if_pos rfl, List.map_map]
      rfl
  have n4 := of_decide_eq_false hb
  refine ds_seq (ds_if (b := decide (way = 5)) (by fail "g") (fun hb => ?_) (fun hb => ds_next ?_))
  · have hb := of_decide_eq_true hb
    subst hb
    refine ds_ret (dr_new (n := true) (dn_lcR (q := ps.length) (fun k => .int ((1 + as.getD k 0) * bestN ps sh k)) (by fail "g") le1 (by omega) (Nat.lt_of_sub_eq_succ rfl) (fun b hb => by cases hb) fun k hk => ?_)) ?_
    · have hk' : k < as.length := by rw [B.la]; exact hk
      have a1 : L2.atI (as.map PyData.int) ((k : Nat) : Int) = some (.int (as.getD k 0)) := at_getD hk' rfl
      obtain ⟨s1, s2⟩ := B.a _ (getD_mem' hk')
      obtain ⟨m1, m2⟩ := bestN_bd ps sh k
      have H := B.ps'
      fail "g"
    · show R.own _ _ = R.own _ _
      unfold boughtN
      rw [if_neg (by omega), if_neg (by omega), if_pos rfl, List.map_map]
      rfl
  have n5 := of_decide_eq_false hb
  refine ds_seq (ds_if (b := decide (way = 6)) (by fail "g") (fun hb => ?_) (fun hb => ds_next ?_))
  · have hb := of_decide_eq_true hb
    subst hb
    refine ds_ret (dr_new (n := true) (dn_lcR (q := ps.length) (fun k => .int ((1 + as.getD k 0) * (if decide (ps.getD k 0 = minL ps) = true then 1 else 0))) (by fail "g") le1 (by omega) (Nat.lt_of_sub_eq_succ rfl) (fun b hb => by cases hb) fun k hk => ?_)) ?_
    · have hk' : k < as.length := by rw [B.la]; exact hk
      have a1 : L2.atI (as.map PyData.int) ((k : Nat) : Int) = some (.int (as.getD k 0)) := at_getD hk' rfl
      have a2 : L2.atI (ps.map PyData.int) ((k : Nat) : Int) = some (.int (ps.getD k 0)) := at_getD hk rfl
      obtain ⟨s1, s2⟩ := B.a _ (getD_mem' hk')
      have l1 := B.l1
      have m1 : CMulX (1 + as.getD k 0) (if decide (ps.getD k 0 = minL ps) = true then 1 else 0) := cm_om (by omega) (by omega) (by split <;> omega) (by split <;> omega)
      fail "g"
    · show R.own _ _ = R.own _ _
      unfold boughtN
      rw [if_neg (by omega), if_neg (by omega), if_neg (by omega), if_pos rfl, List.map_map]
      rfl
  have n6 := of_decide_eq_false hb
  have e7 : way = 7 := by omega
  subst e7
  refine ds_seq (ds_if (b := true) (dt_to (by fail "g") (by rfl)) (fun _ => ?_) (fun hb => by cases hb))
  refine ds_ret (dr_new (n := true) (dn_lcX (n' := false) ps .int (fun p => .int (9 - p)) (di_listS (by fail "g")) (by omega) (Nat.lt_of_sub_eq_succ rfl) (fun b hb => by cases hb) fun k hk => ?_)) ?_
  · fail "g"
  · show R.own _ _ = R.own _ _
    unfold boughtN
    rw [if_neg (by omega), if_neg (by omega), if_neg (by omega), if_neg (by omega), if_pos rfl, List.map_map]
    rfl
theorem len_l_bought {K : PySem.W.Frag} : ∀ vs H Q E, sp_l_bought K vs H Q E → vs.length = 5 := fun vs H Q E h => by
  rcases h with h | ⟨_, _, _, _, _, _, h, _⟩
  · exact spD_len (args := args_bought) (k := 5) (fun _ => rfl) vs H Q E h
  · exact h.length
theorem raw_if {K : PySem.W.Frag} {c : C} {G : Sl} {σ : L2.St} {H : Hp} {D : Ends} {tt : TT} {ts tv : TS} (e : Sits K c G σ H) (h : DT K tt G false) (k : ∀ H1, Same H H1 → Sits K c G σ H1 → tv D σ H1) : tSeq (tIfS tt ts tNext) tv D σ H :=
  h c σ H e _ fun H1 s => by
    show (if false = true then _ else _)
    rw [if_neg Bool.false_ne_true]
    exact k H1 s (e.ext s)
theorem raw_l_bought {K : PySem.W.Frag} : ∀ vs H Q E, sp_l_bought K vs H Q E → t_l_bought K { nx := fun _ H' => Q .non H', rt := Q } (L2.start N_l_bought vs) H := fun vs H Q E h => by
  rcases h with h | ⟨way, ps, as, sh, times, v, hr, ho, hv, k⟩
  · exact raw_of ds_l_bought vs H Q E h
  · have e : Sits K ⟨H, H, H⟩ (ent N_l_bought [.int way, ps, as, sh, times]) (L2.start N_l_bought vs) H := ent_sits (Same.refl H) hr
    have e : Sits K ⟨H, H, H⟩ [some (.sh false (.int way)), some (.sh false ps), some (.sh false as), some (.sh false sh), some (.sh false times), none, none] (L2.start N_l_bought vs) H := e
    have T : ∀ z : Int, 3 ≤ z → z ≤ 7 → DT K (tTest (tOp (rEqD K) (tVar 0) (tC (.int z)))) [some (.sh false (.int way)), some (.sh false ps), some (.sh false as), some (.sh false sh), some (.sh false times), none, none] false := fun z h1 h2 =>
      dt_to (by fail "g") (decide_eq_false (fun hz => ho ⟨by omega, by omega⟩))
    unfold t_l_bought
    refine raw_if e (T 3 (by decide) (by decide)) fun H1 s1 e1 => raw_if e1 (T 4 (by decide) (by decide)) fun H2 s2 e2 => raw_if e2 (T 5 (by decide) (by decide)) fun H3 s3 e3 => raw_if e3 (T 6 (by decide) (by decide)) fun H4 s4 e4 => raw_if e4 (T 7 (by decide) (by decide)) fun H5 s5 e5 => ?_
    refine ⟨v, ?_, k H5 ((((s1.trans s2).trans s3).trans s4).trans s5)⟩
    have hl := hr.length
    match vs, hl with
    | [_, _, _, _, _], _ =>
      cases hv
      rfl
/-- amounts = bought(..): another list, or the very list -/
theorem ds_bought {K : PySem.W.Frag} {G : Sl} {P : Post} {tx : TE} {way times : Int} {ps as sh : List Int} {a p : Addr} {n1 n2 : Bool} (h1 : G[1]? = some (some (.sh n1 (.int way)))) (h3 : G[3]? = some (some (.own true p (ps.map .int)))) (h4 : G[4]? = some (some (.own true a (as.map .int)))) (h2 : G[2]? = some (some (.sh n2 (.list (sh.map .int)))))
    (hx : DE K none tx G (.int times)) (hB : Buy way ps as sh times) (hi : 4 < G.length) (k : ∀ a', P.nx (G.set 4 (some (.own true a' ((boughtN way ps as sh times).map .int))))) :
    DS K (tAsg (tCall (sp_l_bought K) [] E0 (tCons (tVar 1) (tCons (tVar 3) (tCons (tVar 4) (tCons (tVar 2) (tCons tx tNil)))))) (gName 4)) G P := by
  have hA : DA K none (tCons (tVar 1) (tCons (tVar 3) (tCons (tVar 4) (tCons (tVar 2) (tCons tx tNil))))) G [.int way, .list (ps.map .int), .list (as.map .int), .list (sh.map .int), .int times] :=
    da_cons (de_full h1) (da_cons (de_own h3) (da_cons (de_own h4) (da_cons (de_full h2) (da_cons hx da_nil))))
  by_cases ho : Own way
  · exact ds_own (dr_callS (args := args_bought) (pre := pre_bought) (res := res_bought) (sp := sp_l_bought K) (fun _ _ _ h => .inl h) (way, ps, as, sh, times) hA ⟨hB, ho⟩ (fun r hr => hr) (.inl rfl)) hi k
  · intro c σ H D e k1 k2 k3 k4
    obtain ⟨v1, e1, r1⟩ := e.at_ 1 _ h1
    obtain ⟨v3, e3, r3⟩ := e.at_ 3 _ h3
    obtain ⟨v4, e4, r4⟩ := e.at_ 4 _ h4
    obtain ⟨v2, e2, r2⟩ := e.at_ 2 _ h2
    have w1 := r1.full fun n => e.vsame (m := some n)
    have w3 := r3.full fun n => e.vsame (m := some n)
    have w4 := r4.full fun n => e.vsame (m := some n)
    have w2 := r2.full fun n => e.vsame (m := some n)
    refine ⟨v1, e1, v3, e3, v4, e4, v2, e2, hx c σ H e _ fun v H' s r => .inr ⟨way, _, _, _, _, v4, .cons (w1.mono s) (.cons (w3.mono s) (.cons (w4.mono s) (.cons (w2.mono s) (.cons r .nil)))), ho, rfl, fun H2 s2 => ?_⟩⟩
    show D.nx (σ.set 4 (some v4)) H2
    have es : σ.set 4 (some v4) = σ := by
      refine List.ext_getElem? fun i => ?_
      by_cases hi : 4 = i
      · subst hi; rw [List.getElem?_set_self (List.getElem?_eq_some_iff.mp e4).1, e4]
      · rw [List.getElem?_set_ne hi]
    have eg : G.set 4 (some (.own true a ((boughtN way ps as sh times).map .int))) = G := by
      have hb : boughtN way ps as sh times = as := by
        unfold boughtN
        unfold Own at ho
        rw [if_neg (by omega), if_neg (by omega), if_neg (by omega), if_neg (by omega), if_neg (by omega)]
      rw [hb]
      refine List.ext_getElem? fun i => ?_
      by_cases hi : 4 = i
      · subst hi; rw [List.getElem?_set_self (List.getElem?_eq_some_iff.mp h4).1, h4]
      · rw [List.getElem?_set_ne hi]
    have := k a
    rw [eg] at this
    rw [es]
    exact k1 G σ H2 this (e.ext (s.trans s2))
/-! ### _law_price -/
def priceN (way high : Int) : Int :=
  if way = 0 then 1 + high % 3 else if way = 1 then 1 + high % 5 else if way = 2 then 1 + high % 1000000000
  else if way = 4 then ([1, 2, 3, 4, 6, 12] : List Int).getD (high % 6).toNat 0 else 1 + high % 8
theorem pick6 {k : Int} (h0 : 0 ≤ k) (h : k < 6) : L2.atI [PyData.int 1, PyData.int 2, PyData.int 3, PyData.int 4, PyData.int 6, PyData.int 12] k = some (.int (([1, 2, 3, 4, 6, 12] : List Int).getD k.toNat 0)) := by
  have : k = 0 ∨ k = 1 ∨ k = 2 ∨ k = 3 ∨ k = 4 ∨ k = 5 := by omega
  rcases this with h | h | h | h | h | h <;> subst h <;> rfl
theorem pick6_bd {k : Int} (h0 : 0 ≤ k) (h : k < 6) : 1 ≤ ([1, 2, 3, 4, 6, 12] : List Int).getD k.toNat 0 ∧ ([1, 2, 3, 4, 6, 12] : List Int).getD k.toNat 0 ≤ 12 := by
  have : k = 0 ∨ k = 1 ∨ k = 2 ∨ k = 3 ∨ k = 4 ∨ k = 5 := by omega
  rcases this with h | h | h | h | h | h <;> subst h <;> decide
theorem priceN_bd {way high : Int} : 1 ≤ priceN way high ∧ priceN way high ≤ 1000000000 ∧ (way = 7 → priceN way high ≤ 9) := by
  have h6 := pick6_bd (Int.emod_nonneg high (show (6 : Int) ≠ 0 by decide)) (Int.emod_lt_of_pos high (by decide))
  have h1 := Int.emod_nonneg high (show (1000000000 : Int) ≠ 0 by decide)
  have h2 := Int.emod_lt_of_pos high (show (0 : Int) < 1000000000 by decide)
  unfold priceN
  split
  · omega
  split
  · omega
  split
  · omega
  split
  · omega
  · omega
def sp_l_price (K : PySem.W.Frag) : Sp := spD K (ι := Int × Int) (fun p => [.int p.1, .int p.2]) (fun _ => True) (fun p r => r = .val true (.int (priceN p.1 p.2)))
/- 0 _law_way, 1 _law_high -/
def N_l_price : List Str := ["_law_way", "_law_high"]
def t_l_price (K : PySem.W.Frag) : TS :=
  tSeq (tIfS (tTest (tOp (rEqD K) (tVar 0) (tC (.int 0)))) (tRet (tOp (rPlusQ K) (tC (.int 1)) (tOp rMod (tVar 1) (tC (.int 3))))) (tNext))
    (tSeq (tIfS (tTest (tOp (rEqD K) (tVar 0) (tC (.int 1)))) (tRet (tOp (rPlusQ K) (tC (.int 1)) (tOp rMod (tVar 1) (tC (.int 5))))) (tNext))
    (tSeq (tIfS (tTest (tOp (rEqD K) (tVar 0) (tC (.int 2)))) (tRet (tOp (rPlusQ K) (tC (.int 1)) (tOp rMod (tVar 1) (tOp rPow (tC (.int 10)) (tC (.int 9)))))) (tNext))
    (tSeq (tIfS (tTest (tOp (rEqD K) (tVar 0) (tC (.int 4)))) (tRet (tOp (rSub K) (tLst (tCons (tC (.int 1)) (tCons (tC (.int 2)) (tCons (tC (.int 3)) (tCons (tC (.int 4)) (tCons (tC (.int 6)) (tCons (tC (.int 12)) (tNil)))))))) (tOp rMod (tVar 1) (tC (.int 6))))) (tNext))
    (tRet (tOp (rPlusQ K) (tC (.int 1)) (tOp rMod (tVar 1) (tC (.int 8))))))))
theorem ds_l_price {K : PySem.W.Frag} (p : Int × Int) (_ : True) : DS K (t_l_price K) (ent N_l_price [.int p.1, .int p.2]) { nx := fun _ => R.val true .none = R.val true (.int (priceN p.1 p.2)), rt := fun r => r = .val true (.int (priceN p.1 p.2)) } := by
  obtain ⟨way, high⟩ := p
  show DS K (t_l_price K) [some (.sh false (.int way)), some (.sh false (.int high))] { nx := _, rt := fun r => r = .val true (.int (priceN way high)) }
  unfold t_l_price
  have h6 := pick6 (Int.emod_nonneg high (show (6 : Int) ≠ 0 by decide)) (Int.emod_lt_of_pos high (by decide))
  refine ds_seq (ds_if (b := decide (way = 0)) (by fail "g") (fun hb => ?_) (fun hb => ds_next ?_))
  · exact ds_retE (n := true) (by fail "g") (by rfl) (by unfold priceN; rw [if_pos (of_decide_eq_true hb)])
  have n0 := of_decide_eq_false hb
  refine ds_seq (ds_if (b := decide (way = 1)) (by fail "g") (fun hb => ?_) (fun hb => ds_next ?_))
  · exact ds_retE (n := true) (by fail "g") (by rfl) (by unfold priceN; rw [if_neg n0, if_pos (of_decide_eq_true hb)])
  have n1 := of_decide_eq_false hb
  refine ds_seq (ds_if (b := decide (way = 2)) (by fail "g") (fun hb => ?_) (fun hb => ds_next ?_))
  · exact ds_retE (n := true) (by fail "g") (by rfl) (by unfold priceN; rw [if_neg n0, if_neg n1, if_pos (of_decide_eq_true hb)])
  have n2 := of_decide_eq_false hb
  refine ds_seq (ds_if (b := decide (way = 4)) (by fail "g") (fun hb => ?_) (fun hb => ds_next ?_))
  · exact ds_retE (n := true) (by fail "g") (by rfl) (by unfold priceN; rw [if_neg n0, if_neg n1, if_neg n2, if_pos (of_decide_eq_true hb)])
  have n4 := of_decide_eq_false hb
  exact ds_retE (n := true) (by fail "g") (by rfl) (by unfold priceN; rw [if_neg n0, if_neg n1, if_neg n2, if_neg n4])
theorem call_l_price {K : PySem.W.Frag} {m : Md} {G : Sl} {t : TA} {way high : Int} (h : DA K none t G [.int way, .int high]) : DE K m (tCall (sp_l_price K) [] E0 t) G (.int (priceN way high)) := de_callN (r := .val true (.int (priceN way high))) (ι := Int × Int) (way, high) h trivial (fun r hr => hr) rfl
local macro_rules | `(tactic| fail "call") => `(tactic| ((with_reducible apply call_l_price) <;> fail "g"))

/-! ### _law_day -/
theorem pick2 {x y : Int} {b : Bool} : L2.atI [PyData.int x, PyData.int y] (if b = true then 1 else 0) = some (.int (if b = true then y else x)) := by cases b <;> rfl
def highN (c : Int) (k : Nat) : Int := iterN (k + 1) c / 1000000000000000
def dps0 (c way : Int) (w : Nat) : List Int := (List.range w).map fun k => priceN way (highN c k)
def das0 (c way : Int) (w : Nat) : List Int := (List.range w).map fun k => if decide (way = 2) = true then highN c k / 1000000000 % 1000000000 else highN c k / 420 % 4
def datN (c : Int) (w : Nat) : Int := iterN w c / 10000000000000000000000000 % (w : Nat)
def dps8 (c : Int) (w : Nat) : List Int := (List.range w).map fun k => if decide (((k : Nat) : Int) = (datN c w + 1) % (w : Nat)) = true then 2 + iterN w c % 2 else 9
def dps1 (c way : Int) (w : Nat) : List Int := if way = 8 then (dps8 c w).set (datN c w).toNat 3 else dps0 c way w
def das1 (c way : Int) (w : Nat) : List Int := if way = 8 then (List.range w).map fun k => if decide (((k : Nat) : Int) = datN c w) = true then 1 else 0 else das0 c way w
def dtN (c : Int) (w : Nat) : Int := 1 + iterN w c / 1000000000000000000000000000000 % 5
def das2 (c way : Int) (sh : List Int) : List Int := boughtN way (dps1 c way sh.length) (das1 c way sh.length) sh (dtN c sh.length)
def das3 (c way : Int) (sh : List Int) : List Int := if (das2 c way sh).sum = 0 then (das2 c way sh).set 0 1 else das2 c way sh
abbrev Day := List Int × List Int
def dayN (c way : Int) (sh : List Int) : Day := (dps1 c way sh.length, das3 c way sh)
def dayD (d : Day) : PyData := .tuple [.tuple (d.1.map .int), .tuple (d.2.map .int)]
def bookD (b : List Day) : PyData := .tuple (b.map dayD)
theorem imm_ints {l : List Int} : imm (.tuple (l.map .int)) = true := imm_map fun _ _ => rfl
theorem imm_dayD (d : Day) : imm (dayD d) = true := imm_tup fun x hx => by
  rcases List.mem_cons.mp hx with h | h
  · subst h; exact imm_ints
  · rcases List.mem_cons.mp h with h | h
    · subst h; exact imm_ints
    · cases h
theorem imm_bookD (b : List Day) : imm (bookD b) = true := imm_map fun d _ => imm_dayD d
structure GoodDay (w : Nat) (d : Day) : Prop where
  l1 : d.1.length = w
  l2 : d.2.length = w
  p : ∀ x ∈ d.1, 1 ≤ x ∧ x ≤ 1000000000
  a : ∀ x ∈ d.2, 0 ≤ x ∧ x ≤ 1000000000000000000
  s : 0 < d.2.sum
structure Shp (sh : List Int) : Prop where
  l1 : 1 ≤ sh.length
  l6 : sh.length ≤ 6
  s : ∀ x ∈ sh, 0 ≤ x ∧ x ≤ 3
theorem dps1_len {c way : Int} {w : Nat} : (dps1 c way w).length = w := by unfold dps1 dps8 dps0; split <;> simp
theorem das1_len {c way : Int} {w : Nat} : (das1 c way w).length = w := by unfold das1 das0; split <;> simp
theorem set_all {P : Int → Prop} {l : List Int} {j : Nat} {v : Int} (h : ∀ x ∈ l, P x) (hv : P v) : ∀ x ∈ l.set j v, P x := fun x hx => by
  rcases List.mem_or_eq_of_mem_set hx with q | q
  · exact h x q
  · subst q; exact hv
theorem dps1_at {c way : Int} {w : Nat} : (∀ x ∈ dps1 c way w, 1 ≤ x ∧ x ≤ 1000000000) ∧ (way = 7 → ∀ x ∈ dps1 c way w, x ≤ 9) := by
  unfold dps1
  split
  · refine ⟨set_all (map_range_at fun k hk => ?_) (by decide), fun h => by omega⟩
    have := Int.emod_nonneg (iterN w c) (show (2 : Int) ≠ 0 by decide)
    have := Int.emod_lt_of_pos (iterN w c) (show (0 : Int) < 2 by decide)
    split <;> omega
  · exact ⟨map_range_at fun k hk => ⟨priceN_bd.1, priceN_bd.2.1⟩, fun h => map_range_at fun k hk => priceN_bd.2.2 h⟩
theorem das1_at {c way : Int} {w : Nat} : ∀ x ∈ das1 c way w, 0 ≤ x ∧ x ≤ 1000000000 := by
  unfold das1
  split
  · refine map_range_at fun k hk => ?_
    split <;> omega
  · refine map_range_at fun k hk => ?_
    have := Int.emod_nonneg (highN c k / 1000000000) (show (1000000000 : Int) ≠ 0 by decide)
    have := Int.emod_lt_of_pos (highN c k / 1000000000) (show (0 : Int) < 1000000000 by decide)
    have := Int.emod_nonneg (highN c k / 420) (show (4 : Int) ≠ 0 by decide)
    have := Int.emod_lt_of_pos (highN c k / 420) (show (0 : Int) < 4 by decide)
    split <;> omega
theorem day_buy {c way : Int} {sh : List Int} (h : Shp sh) : Buy way (dps1 c way sh.length) (das1 c way sh.length) sh (dtN c sh.length) where
  ps' := ⟨dps1_len.symm, by rw [dps1_len]; exact h.l6, dps1_at.1, h.s⟩
  l1 := by rw [dps1_len]; exact h.l1
  la := by rw [dps1_len, das1_len]
  a := das1_at
  t := by
    have := Int.emod_nonneg (iterN sh.length c / 1000000000000000000000000000000) (show (5 : Int) ≠ 0 by decide)
    have := Int.emod_lt_of_pos (iterN sh.length c / 1000000000000000000000000000000) (show (0 : Int) < 5 by decide)
    unfold dtN
    omega
  w7 := dps1_at.2
theorem dayN_good {c way : Int} {sh : List Int} (h : Shp sh) : GoodDay sh.length (dayN c way sh) ∧ ∀ x ∈ (dayN c way sh).2, x ≤ 1000000001 := by
  have B := day_buy (c := c) (way := way) h
  have hl : (das2 c way sh).length = sh.length := (boughtN_len B).trans dps1_len
  have ha : ∀ x ∈ das2 c way sh, 0 ≤ x ∧ x ≤ 1000000001 := boughtN_at B
  have h3 : ∀ x ∈ das3 c way sh, 0 ≤ x ∧ x ≤ 1000000001 := by
    unfold das3
    split
    · exact set_all ha (by decide)
    · exact ha
  refine ⟨⟨dps1_len, ?_, dps1_at.1, fun x hx => ?_, ?_⟩, fun x hx => (h3 x hx).2⟩
  · show (das3 c way sh).length = _
    unfold das3
    split <;> simp [hl]
  · have := h3 x hx; omega
  · exact sum_fix (fun x hx => (ha x hx).1) (by rw [hl]; exact h.l1)
def sp_l_day (K : PySem.W.Frag) : Sp := spD K (ι := Int × Int × List Int) (fun p => [.int p.1, .int p.2.1, .list (p.2.2.map .int)]) (fun p => Bd40 p.1 ∧ Shp p.2.2) (fun p r => r = .val true (dayD (dayN p.1 p.2.1 p.2.2)))
/- 0 _law_cell_here, 1 _law_way, 2 _law_shape_here, 3 _law_prices, 4 _law_amounts, 5 _law_k, 6 _law_high, 7 _law_at -/
def N_l_day : List Str := ["_law_cell_here", "_law_way", "_law_shape_here", "_law_prices", "_law_amounts", "_law_k", "_law_high", "_law_at"]
def t_l_day (K : PySem.W.Frag) : TS :=
  tSeq (tAsg (tLst (tNil)) (gName 3))
    (tSeq (tAsg (tLst (tNil)) (gName 4))
    (tSeq (tFor (iRng1 (tCons (tCB (rLen K) (tCons (tVar 2) (tNil))) (tNil))) (gName 5) (tSeq (tAsg (tCall (sp_l_next K) [] E0 (tCons (tVar 0) (tNil))) (gName 0))
    (tSeq (tAsg (tOp rFloor (tVar 0) (tOp rPow (tC (.int 10)) (tC (.int 15)))) (gName 6))
    (tSeq (tDrop (tBM K "list" rAppend (tVar 3) (tCons (tCall (sp_l_price K) [] E0 (tCons (tVar 1) (tCons (tVar 6) (tNil)))) (tNil))))
    (tDrop (tBM K "list" rAppend (tVar 4) (tCons (tOp (rSub K) (tLst (tCons (tOp rMod (tOp rFloor (tVar 6) (tC (.int 420))) (tC (.int 4))) (tCons (tOp rMod (tOp rFloor (tVar 6) (tOp rPow (tC (.int 10)) (tC (.int 9)))) (tOp rPow (tC (.int 10)) (tC (.int 9)))) (tNil)))) (tCB rInt1 (tCons (tOp (rEqD K) (tVar 1) (tC (.int 2))) (tNil)))) (tNil))))))))
    (tSeq (tIfS (tTest (tOp (rEqD K) (tVar 1) (tC (.int 8)))) (tSeq (tAsg (tOp rMod (tOp rFloor (tVar 0) (tOp rPow (tC (.int 10)) (tC (.int 25)))) (tCB (rLen K) (tCons (tVar 3) (tNil)))) (gName 7))
    (tSeq (tAsg (tLc (iRng1 (tCons (tCB (rLen K) (tCons (tVar 2) (tNil))) (tNil))) (gName 5) (tYes) (tOp (rSub K) (tLst (tCons (tC (.int 9)) (tCons (tOp (rPlusQ K) (tC (.int 2)) (tOp rMod (tVar 0) (tC (.int 2)))) (tNil)))) (tCB rInt1 (tCons (tOp (rEqD K) (tVar 5) (tOp rMod (tOp (rPlusQ K) (tVar 7) (tC (.int 1))) (tCB (rLen K) (tCons (tVar 2) (tNil))))) (tNil)))) [5]) (gName 3))
    (tSeq (tAsg (tC (.int 3)) (gSub (tVar 3) (tVar 7) rSetA))
    (tAsg (tLc (iRng1 (tCons (tCB (rLen K) (tCons (tVar 2) (tNil))) (tNil))) (gName 5) (tYes) (tCB rInt1 (tCons (tOp (rEqD K) (tVar 5) (tVar 7)) (tNil))) [5]) (gName 4))))) (tNext))
    (tSeq (tAsg (tCall (sp_l_bought K) [] E0 (tCons (tVar 1) (tCons (tVar 3) (tCons (tVar 4) (tCons (tVar 2) (tCons (tOp (rPlusQ K) (tC (.int 1)) (tOp rMod (tOp rFloor (tVar 0) (tOp rPow (tC (.int 10)) (tC (.int 30)))) (tC (.int 5)))) (tNil))))))) (gName 4))
    (tSeq (tIfS (tTest (tOp (rEqD K) (tCB (rSumA K) (tCons (tVar 4) (tNil))) (tC (.int 0)))) (tAsg (tC (.int 1)) (gSub (tVar 4) (tC (.int 0)) rSetA)) (tNext))
    (tRet (tTup (tCons (tCB (rTupOf K) (tCons (tVar 3) (tNil))) (tCons (tCB (rTupOf K) (tCons (tVar 4) (tNil))) (tNil))))))))))
theorem ds_l_day {K : PySem.W.Frag} (p : Int × Int × List Int) (h : Bd40 p.1 ∧ Shp p.2.2) : DS K (t_l_day K) (ent N_l_day [.int p.1, .int p.2.1, .list (p.2.2.map .int)]) { nx := fun _ => R.val true .none = R.val true (dayD (dayN p.1 p.2.1 p.2.2)), rt := fun r => r = .val true (dayD (dayN p.1 p.2.1 p.2.2)) } := by
  obtain ⟨c, way, sh⟩ := p
  obtain ⟨hc, S⟩ := h
  have hc : Bd40 c := hc
  have S : Shp sh := S
  show DS K (t_l_day K) [some (.sh false (.int c)), some (.sh false (.int way)), some (.sh false (.list (sh.map .int))), none, none, none, none, none] { nx := _, rt := fun r => r = .val true (dayD (dayN c way sh)) }
  unfold t_l_day
  have l1 := S.l1
  have l6 := S.l6
  have le1 : ((sh.map PyData.int).length : Int) = (sh.length : Nat) := by simp
  refine ds_seq (ds_ownE (n := true) (ds' := (([] : List Int).map .int)) (dn_lst da_nil (by decide)) (by rfl) (Nat.lt_of_sub_eq_succ rfl) fun a => ?_)
  refine ds_seq (ds_ownE (n := true) (ds' := (([] : List Int).map .int)) (dn_lst da_nil (by decide)) (by rfl) (Nat.lt_of_sub_eq_succ rfl) fun a2 => ?_)
  refine ds_cut (fun G => ∃ b y z, (∀ b', y = some b' → B.ows b' = []) ∧ G = [some (.sh b (.int (iterN sh.length c))), some (.sh false (.int way)), some (.sh false (.list (sh.map .int))), some (.own true a ((dps0 c way sh.length).map .int)), some (.own true a2 ((das0 c way sh.length).map .int)), y, z, none]) ?_ ?_
  · refine ds_forR (q := sh.length) (by fail "g") le1 (by omega) (fun k G => ∃ b y z, (∀ b', y = some b' → B.ows b' = []) ∧ G = [some (.sh b (.int (iterN k c))), some (.sh false (.int way)), some (.sh false (.list (sh.map .int))), some (.own true a ((dps0 c way k).map .int)), some (.own true a2 ((das0 c way k).map .int)), y, z, none]) ⟨false, none, none, (fun _ h => by cases h), rfl⟩ ?_ ?_ ?_
    · rintro k G ⟨b, y, z, hy, rfl⟩; exact (Nat.lt_of_sub_eq_succ rfl)
    · rintro k G hk ⟨b, y, z, hy, rfl⟩
      have hb := iterN_bd hc k
      have hb2 := iterN_bd hc (k + 1)
      obtain ⟨hb3, hb4⟩ := hb2
      refine ds_seq (ds_setE (n := true) (d' := .int (iterN (k + 1) c)) (by fail "g") (by rfl) (Nat.lt_of_sub_eq_succ rfl) ?_)
      refine ds_seq (ds_setE (n := true) (d' := .int (highN c k)) (by fail "g") (by rfl) (Nat.lt_of_sub_eq_succ rfl) ?_)
      refine ds_seq (ds_appE (n := true) (d := .int (priceN way (highN c k))) (by rfl) (by fail "g") (by simp [dps0]; omega) (ds' := (dps0 c way (k + 1)).map .int) ?_ ?_)
      · unfold dps0
        rw [List.range_succ, List.map_append, List.map_append]
        rfl
      have p2 := pick2 (x := highN c k / 420 % 4) (y := highN c k / 1000000000 % 1000000000) (b := decide (way = 2))
      refine ds_appE (n := true) (d := .int (if decide (way = 2) = true then highN c k / 1000000000 % 1000000000 else highN c k / 420 % 4)) (by rfl) (by fail "g") (by simp [das0]; omega) (ds' := (das0 c way (k + 1)).map .int) ?_ ⟨true, _, _, (fun b' h => by cases h; rfl), rfl⟩
      unfold das0
      rw [List.range_succ, List.map_append, List.map_append]
      rfl
    · rintro G ⟨b, y, z, hy, rfl⟩; exact ⟨_, _, _, hy, rfl⟩
  · rintro G ⟨b, y, z, hy, rfl⟩
    have hcb := iterN_bd hc sh.length
    obtain ⟨hb3, hb4⟩ := hcb
    refine ds_cut (fun G => ∃ a a2 y z u, G = [some (.sh b (.int (iterN sh.length c))), some (.sh false (.int way)), some (.sh false (.list (sh.map .int))), some (.own true a ((dps1 c way sh.length).map .int)), some (.own true a2 ((das1 c way sh.length).map .int)), y, z, u]) ?_ ?_
    · refine ds_if (b := decide (way = 8)) (by fail "g") (fun hb => ?_) (fun hb => ?_)
      · have hb := of_decide_eq_true hb
        have m1 : 0 ≤ datN c sh.length := Int.emod_nonneg _ (by omega)
        have m2 : datN c sh.length < (sh.length : Nat) := Int.emod_lt_of_pos _ (by omega)
        have le2 : (((dps0 c way sh.length).map PyData.int).length : Int) = (sh.length : Nat) := by simp [dps0]
        have lp : 0 < (((dps0 c way sh.length).map PyData.int).length : Int) := by rw [le2]; omega
        have lp2 : 0 < ((sh.map PyData.int).length : Int) := by rw [le1]; omega
        refine ds_seq (ds_setE (n := true) (d' := .int (datN c sh.length)) (by fail "g") (by rw [le2]; rfl) (Nat.lt_of_sub_eq_succ rfl) ?_)
        refine ds_seq (ds_ownE (n := true) (ds' := (dps8 c sh.length).map .int) (dn_lcR (q := sh.length) (fun k => .int (if decide (((k : Nat) : Int) = (datN c sh.length + 1) % (sh.length : Nat)) = true then 2 + iterN sh.length c % 2 else 9)) (by fail "g") le1 (by omega) (Nat.lt_of_sub_eq_succ rfl) ?_ fun k hk => ?_) ?_ (Nat.lt_of_sub_eq_succ rfl) fun a3 => ?_)
        · exact fun b hb => hy b (Option.some.inj hb)
        · have p2 := pick2 (x := 9) (y := 2 + iterN sh.length c % 2) (b := decide (((k : Nat) : Int) = (datN c sh.length + 1) % (sh.length : Nat)))
          rw [← le1] at p2 ⊢
          fail "g"
        · unfold dps8; rw [List.map_map]; rfl
        refine ds_seq (ds_setItemA (n := true) (j := (datN c sh.length).toNat) (d := .int 3) (ds := (dps8 c sh.length).map .int) (by rfl) (by fail "g") (by fail "g") (by unfold ixN; rw [List.length_map, if_pos (by omega), if_pos (by unfold dps8; rw [List.length_map, List.length_range]; omega)]) ?_)
        refine ds_ownE (n := true) (ds' := (das1 c way sh.length).map .int) (dn_lcR (q := sh.length) (fun k => .int (if decide (((k : Nat) : Int) = datN c sh.length) = true then 1 else 0)) (by fail "g") le1 (by omega) (Nat.lt_of_sub_eq_succ rfl) ?_ fun k hk => ?_) ?_ (Nat.lt_of_sub_eq_succ rfl) fun a4 => ?_
        · exact fun b hb => hy b (Option.some.inj hb)
        · fail "g"
        · unfold das1; rw [if_pos hb, List.map_map]; rfl
        · refine ⟨a3, a4, y, z, some (.sh true (.int (datN c sh.length))), ?_⟩
          unfold dps1
          rw [if_pos hb, List.map_set]
          rfl
      · have hb := of_decide_eq_false hb
        refine ds_next ⟨a, a2, y, z, none, ?_⟩
        unfold dps1 das1
        rw [if_neg hb, if_neg hb]
    · rintro G ⟨a, a2, y, z, u, rfl⟩
      have B := day_buy (c := c) (way := way) S
      refine ds_seq (ds_bought (times := dtN c sh.length) (as := das1 c way sh.length) (ps := dps1 c way sh.length) (sh := sh) (way := way) (by rfl) (by rfl) (by rfl) (by rfl) (de_trans (by fail "g") (by rfl)) B (Nat.lt_of_sub_eq_succ rfl) fun a3 => ?_)
      refine ds_cut (fun G => G = [some (.sh b (.int (iterN sh.length c))), some (.sh false (.int way)), some (.sh false (.list (sh.map .int))), some (.own true a ((dps1 c way sh.length).map .int)), some (.own true a3 ((das3 c way sh).map .int)), y, z, u]) ?_ ?_
      · show DS K _ [some (.sh b (.int (iterN sh.length c))), some (.sh false (.int way)), some (.sh false (.list (sh.map .int))), some (.own true a ((dps1 c way sh.length).map .int)), some (.own true a3 ((das2 c way sh).map .int)), y, z, u] _
        refine ds_if (b := decide ((das2 c way sh).sum = 0)) (by fail "g") (fun hb => ?_) (fun hb => ?_)
        · have hb := of_decide_eq_true hb
          have hl : (das2 c way sh).length = sh.length := (boughtN_len B).trans dps1_len
          refine ds_setItemA (n := true) (j := 0) (d := .int 1) (ds := (das2 c way sh).map .int) (by rfl) (by fail "g") (by fail "g") (by unfold ixN; rw [List.length_map, if_pos (by decide), if_pos (by omega)]; rfl) ?_
          unfold das3
          rw [if_pos hb, List.map_set]
          rfl
        · have hb := of_decide_eq_false hb
          refine ds_next ?_
          unfold das3
          rw [if_neg hb]
      · rintro G rfl
        exact ds_retD (n := true) (d := dayD (dayN c way sh)) (de_imm (by unfold dayD dayN; fail "g") (imm_dayD _)) rfl
theorem call_l_day {K : PySem.W.Frag} {m : Md} {G : Sl} {t : TA} {c way : Int} {sh : List Int} (h : DA K none t G [.int c, .int way, .list (sh.map .int)]) (hc : Bd40 c) (hs : Shp sh) : DE K m (tCall (sp_l_day K) [] E0 t) G (dayD (dayN c way sh)) := de_callN (r := .val true (dayD (dayN c way sh))) (ι := Int × Int × List Int) (c, way, sh) h ⟨hc, hs⟩ (fun r hr => hr) rfl
local macro_rules | `(tactic| fail "call") => `(tactic| ((with_reducible apply call_l_day) <;> fail "g"))

/-! ### _law_book -/
def wayN (c : Int) : Int := ([0, 1, 0, 2, 8, 3, 4, 5, 6, 7] : List Int).getD (c / 8 % 10).toNat 0
theorem pick10 {k : Int} (h0 : 0 ≤ k) (h : k < 10) : L2.atI [PyData.int 0, .int 1, .int 0, .int 2, .int 8, .int 3, .int 4, .int 5, .int 6, .int 7] k = some (.int (([0, 1, 0, 2, 8, 3, 4, 5, 6, 7] : List Int).getD k.toNat 0)) := by
  have : k = 0 ∨ k = 1 ∨ k = 2 ∨ k = 3 ∨ k = 4 ∨ k = 5 ∨ k = 6 ∨ k = 7 ∨ k = 8 ∨ k = 9 := by omega
  rcases this with h | h | h | h | h | h | h | h | h | h <;> subst h <;> rfl
def bshN (c wares : Int) : List Int := shapeN c (1 + c % wares).toNat
def bqN (c most : Int) : Nat := (1 + c / 80 % most).toNat
def bdays (ns : List Int) (start most wares : Int) : List Day := (List.range (bqN (cellN ns start.toNat) most)).map fun k => dayN (cellN ns (start + 1 + (k : Nat)).toNat) (wayN (cellN ns start.toNat)) (bshN (cellN ns start.toNat) wares)
def bumpN (d : Day) (j : Nat) : Day := (d.1, d.2.set j (d.2.getD j 0 + 1))
def bkN (c most : Int) : Int := c / 4000 % ((bqN c most : Nat) : Int)
def bjN (c wares : Int) : Int := c / 40000 % (((bshN c wares).length : Nat) : Int)
def bookN (ns : List Int) (start most wares : Int) : List Day :=
  if cellN ns start.toNat / 1000 % 4 = 0 then
    (bdays ns start most wares).set (bkN (cellN ns start.toNat) most).toNat (bumpN ((bdays ns start most wares).getD (bkN (cellN ns start.toNat) most).toNat ([], [])) (bjN (cellN ns start.toNat) wares).toNat)
  else bdays ns start most wares
structure GoodBook (w : Nat) (b : List Day) : Prop where
  l1 : 1 ≤ b.length
  l8 : b.length ≤ 8
  w1 : 1 ≤ w
  w6 : w ≤ 6
  d : ∀ x ∈ b, GoodDay w x
theorem bsh_shp {c wares : Int} (h1 : 1 ≤ wares) (h6 : wares ≤ 6) : Shp (bshN c wares) := by
  have := Int.emod_nonneg c (show wares ≠ 0 by omega)
  have := Int.emod_lt_of_pos c (show 0 < wares by omega)
  exact ⟨by unfold bshN; rw [shapeN_len]; omega, by unfold bshN; rw [shapeN_len]; omega, shapeN_at⟩
theorem bq_bd {c most : Int} (h1 : 1 ≤ most) (h8 : most ≤ 8) : 1 ≤ bqN c most ∧ bqN c most ≤ 8 ∧ ((bqN c most : Nat) : Int) = 1 + c / 80 % most := by
  have := Int.emod_nonneg (c / 80) (show most ≠ 0 by omega)
  have := Int.emod_lt_of_pos (c / 80) (show 0 < most by omega)
  unfold bqN
  omega
theorem sum_set : ∀ {l : List Int} {j : Nat}, j < l.length → (l.set j (l.getD j 0 + 1)).sum = l.sum + 1
  | x :: l, 0, _ => by simp; omega
  | x :: l, j + 1, h => by
    have := sum_set (l := l) (j := j) (by simpa using h)
    simp only [List.set_cons_succ, List.sum_cons, List.getD_cons_succ]
    omega
theorem getD_memX {α : Type} {l : List α} {k : Nat} {z : α} (h : k < l.length) : l.getD k z ∈ l := by
  rw [List.getD_eq_getElem?_getD, List.getElem?_eq_getElem h]; exact List.getElem_mem h
theorem bump_good {w : Nat} {d : Day} {j : Nat} (h : GoodDay w d) (hj : j < w) (hb : ∀ x ∈ d.2, x ≤ 1000000001) : GoodDay w (bumpN d j) where
  l1 := h.l1
  l2 := by unfold bumpN; simp [h.l2]
  p := h.p
  a := set_all h.a (by
    have h1 := h.a _ (getD_mem' (l := d.2) (k := j) (by rw [h.l2]; exact hj))
    have h2 := hb _ (getD_mem' (l := d.2) (k := j) (by rw [h.l2]; exact hj))
    omega)
  s := by
    have := sum_set (l := d.2) (j := j) (by rw [h.l2]; exact hj)
    have := h.s
    show 0 < (d.2.set j (d.2.getD j 0 + 1)).sum
    omega
theorem bdays_good {ns : List Int} {start most wares : Int} (h1 : 1 ≤ wares) (h6 : wares ≤ 6) : ∀ d ∈ bdays ns start most wares, GoodDay (bshN (cellN ns start.toNat) wares).length d ∧ ∀ x ∈ d.2, x ≤ 1000000001 := fun d hd => by
  obtain ⟨k, _, rfl⟩ := List.mem_map.mp hd
  exact dayN_good (bsh_shp h1 h6)
theorem bdays_len {ns : List Int} {start most wares : Int} : (bdays ns start most wares).length = bqN (cellN ns start.toNat) most := by unfold bdays; simp
theorem bk_bd {c most : Int} (h1 : 1 ≤ most) (h8 : most ≤ 8) : 0 ≤ bkN c most ∧ bkN c most < ((bqN c most : Nat) : Int) := by
  have := bq_bd (c := c) h1 h8
  exact ⟨Int.emod_nonneg _ (by omega), Int.emod_lt_of_pos _ (by omega)⟩
theorem bj_bd {c wares : Int} (h1 : 1 ≤ wares) (h6 : wares ≤ 6) : 0 ≤ bjN c wares ∧ bjN c wares < (((bshN c wares).length : Nat) : Int) := by
  have := (bsh_shp (c := c) h1 h6).l1
  exact ⟨Int.emod_nonneg _ (by omega), Int.emod_lt_of_pos _ (by omega)⟩
theorem bookN_good {ns : List Int} {start most wares : Int} (m1 : 1 ≤ most) (m8 : most ≤ 8) (h1 : 1 ≤ wares) (h6 : wares ≤ 6) : GoodBook (bshN (cellN ns start.toNat) wares).length (bookN ns start most wares) := by
  have S := bsh_shp (c := cellN ns start.toNat) h1 h6
  have Q := bq_bd (c := cellN ns start.toNat) m1 m8
  have D := bdays_good (ns := ns) (start := start) (most := most) h1 h6
  have L := bdays_len (ns := ns) (start := start) (most := most) (wares := wares)
  have BK := bk_bd (c := cellN ns start.toNat) m1 m8
  have BJ := bj_bd (c := cellN ns start.toNat) h1 h6
  have hl : (bookN ns start most wares).length = bqN (cellN ns start.toNat) most := by unfold bookN; split <;> simp [L]
  refine ⟨by omega, by omega, S.l1, S.l6, fun x hx => ?_⟩
  unfold bookN at hx
  split at hx
  · rcases List.mem_or_eq_of_mem_set hx with q | q
    · exact (D x q).1
    · subst q
      have := D _ (getD_memX (l := bdays ns start most wares) (k := (bkN (cellN ns start.toNat) most).toNat) (z := ([], [])) (by rw [L]; omega))
      exact bump_good this.1 (by omega) this.2
  · exact (D x hx).1
theorem at_getX {α : Type} {f : α → PyData} {l : List α} {k : Nat} {z : Int} {x : α} (h : k < l.length) (e : z = (k : Nat)) : L2.atI (l.map f) z = some (f (l.getD k x)) := atI_map (x := l.getD k x) (by rw [List.getD_eq_getElem?_getD, List.getElem?_eq_getElem h]; rfl) e
theorem cut_bump {as : List Int} {j : Nat} {z : Int} (h : j < as.length) (e : z = (j : Nat)) : cutD (as.map PyData.int) none (some z) ++ [.int (as.getD j 0 + 1)] ++ cutD (as.map PyData.int) (some (z + 1)) none = (as.set j (as.getD j 0 + 1)).map .int := by
  subst e
  have e1 : ((j : Nat) : Int) + 1 = ((j + 1 : Nat) : Int) := by omega
  unfold cutD
  rw [e1, HT.sIx_nat, HT.sIx_nat, HT.sIx_none, HT.sIx_none, List.length_map, List.drop_zero, Nat.sub_zero, Nat.min_eq_left (by omega), Nat.min_eq_left (by omega), List.set_eq_take_append_cons_drop, if_pos h, List.map_append, List.map_cons, List.map_take, List.map_drop]
  rw [List.take_of_length_le (l := (as.map PyData.int).drop (j + 1)) (by simp)]
  simp
theorem cutD_len {xs : List PyData} {lo hi : Option Int} : (cutD xs lo hi).length ≤ xs.length := by
  unfold cutD
  rw [List.length_take, List.length_drop]
  omega
structure BookPre (p : List Int × Int × Int × Int) : Prop where
  s : Scr p.1
  s0 : 0 ≤ p.2.1
  s1 : p.2.1 ≤ 500
  m1 : 1 ≤ p.2.2.1
  m8 : p.2.2.1 ≤ 8
  w1 : 1 ≤ p.2.2.2
  w6 : p.2.2.2 ≤ 6
def sp_l_book (K : PySem.W.Frag) : Sp := spD K (ι := List Int × Int × Int × Int) (fun p => [.list (p.1.map .int), .int p.2.1, .int p.2.2.1, .int p.2.2.2]) BookPre (fun p r => r = .val true (bookD (bookN p.1 p.2.1 p.2.2.1 p.2.2.2)))
/- 0 _law_script, 1 _law_start, 2 _law_most, 3 _law_wares, 4 _law_cell_here, 5 _law_way, 6 _law_shape_here, 7 _law_book_here, 8 _law_k, 9 _law_j, 10 _law_amounts -/
def N_l_book : List Str := ["_law_script", "_law_start", "_law_most", "_law_wares", "_law_cell_here", "_law_way", "_law_shape_here", "_law_book_here", "_law_k", "_law_j", "_law_amounts"]
def t_l_book (K : PySem.W.Frag) : TS :=
  tSeq (tAsg (tCall (sp_l_cell K) [] E0 (tCons (tVar 0) (tCons (tVar 1) (tNil)))) (gName 4))
    (tSeq (tAsg (tOp (rSub K) (tLst (tCons (tC (.int 0)) (tCons (tC (.int 1)) (tCons (tC (.int 0)) (tCons (tC (.int 2)) (tCons (tC (.int 8)) (tCons (tC (.int 3)) (tCons (tC (.int 4)) (tCons (tC (.int 5)) (tCons (tC (.int 6)) (tCons (tC (.int 7)) (tNil)))))))))))) (tOp rMod (tOp rFloor (tVar 4) (tC (.int 8))) (tC (.int 10)))) (gName 5))
    (tSeq (tAsg (tCall (sp_l_shape K) [] E0 (tCons (tVar 4) (tCons (tOp (rPlusQ K) (tC (.int 1)) (tOp rMod (tVar 4) (tVar 3))) (tNil)))) (gName 6))
    (tSeq (tAsg (tLc (iRng1 (tCons (tOp (rPlusQ K) (tC (.int 1)) (tOp rMod (tOp rFloor (tVar 4) (tC (.int 80))) (tVar 2))) (tNil))) (gName 8) (tYes) (tCall (sp_l_day K) [] E0 (tCons (tCall (sp_l_cell K) [] E0 (tCons (tVar 0) (tCons (tOp (rPlusQ K) (tOp (rPlusQ K) (tVar 1) (tC (.int 1))) (tVar 8)) (tNil)))) (tCons (tVar 5) (tCons (tVar 6) (tNil))))) [8]) (gName 7))
    (tSeq (tIfS (tTest (tOp (rEqD K) (tOp rMod (tOp rFloor (tVar 4) (tC (.int 1000))) (tC (.int 4))) (tC (.int 0)))) (tSeq (tAsg (tOp rMod (tOp rFloor (tVar 4) (tC (.int 4000))) (tCB (rLen K) (tCons (tVar 7) (tNil)))) (gName 8))
    (tSeq (tAsg (tOp rMod (tOp rFloor (tVar 4) (tC (.int 40000))) (tCB (rLen K) (tCons (tVar 6) (tNil)))) (gName 9))
    (tSeq (tAsg (tOp (rPlusQ K) (tOp (rPlusQ K) (tSl (rSl K) (tOp (rSub K) (tOp (rSub K) (tVar 7) (tVar 8)) (tC (.int 1))) (tNoPart) (tPart (tVar 9))) (tTup (tCons (tOp (rPlusQ K) (tOp (rSub K) (tOp (rSub K) (tOp (rSub K) (tVar 7) (tVar 8)) (tC (.int 1))) (tVar 9)) (tC (.int 1))) (tNil)))) (tSl (rSl K) (tOp (rSub K) (tOp (rSub K) (tVar 7) (tVar 8)) (tC (.int 1))) (tPart (tOp (rPlusQ K) (tVar 9) (tC (.int 1)))) (tNoPart))) (gName 10))
    (tAsg (tTup (tCons (tOp (rSub K) (tOp (rSub K) (tVar 7) (tVar 8)) (tC (.int 0))) (tCons (tVar 10) (tNil)))) (gSub (tVar 7) (tVar 8) rSetA))))) (tNext))
    (tRet (tCB (rTupOf K) (tCons (tVar 7) (tNil))))))))
theorem ds_l_book {K : PySem.W.Frag} (p : List Int × Int × Int × Int) (h : BookPre p) : DS K (t_l_book K) (ent N_l_book [.list (p.1.map .int), .int p.2.1, .int p.2.2.1, .int p.2.2.2]) { nx := fun _ => R.val true .none = R.val true (bookD (bookN p.1 p.2.1 p.2.2.1 p.2.2.2)), rt := fun r => r = .val true (bookD (bookN p.1 p.2.1 p.2.2.1 p.2.2.2)) } := by
  obtain ⟨ns, start, most, wares⟩ := p
  obtain ⟨hs, s0, s1, m1, m8, w1, w6⟩ := h
  have hs : Scr ns := hs
  have s0 : 0 ≤ start := s0
  have s1 : start ≤ 500 := s1
  have m1 : 1 ≤ most := m1
  have m8 : most ≤ 8 := m8
  have w1 : 1 ≤ wares := w1
  have w6 : wares ≤ 6 := w6
  show DS K (t_l_book K) [some (.sh false (.list (ns.map .int))), some (.sh false (.int start)), some (.sh false (.int most)), some (.sh false (.int wares)), none, none, none, none, none, none, none] { nx := _, rt := fun r => r = .val true (bookD (bookN ns start most wares)) }
  unfold t_l_book
  refine ds_seq (ds_setE (n := true) (d' := .int (cellN ns start.toNat)) (by fail "g") (by rfl) (Nat.lt_of_sub_eq_succ rfl) ?_)
  have hc := cellN_bd ns start.toNat
  have S := bsh_shp (c := cellN ns start.toNat) w1 w6
  have Q := bq_bd (c := cellN ns start.toNat) m1 m8
  have D := bdays_good (ns := ns) (start := start) (most := most) w1 w6
  have L := bdays_len (ns := ns) (start := start) (most := most) (wares := wares)
  have BK := bk_bd (c := cellN ns start.toNat) m1 m8
  have BJ := bj_bd (c := cellN ns start.toNat) w1 w6
  have e0 : bookN ns start most wares = bookN ns start most wares := rfl
  have p10 := pick10 (Int.emod_nonneg (cellN ns start.toNat / 8) (show (10 : Int) ≠ 0 by decide)) (Int.emod_lt_of_pos (cellN ns start.toNat / 8) (by decide))
  have r1 := Int.emod_nonneg (cellN ns start.toNat) (show wares ≠ 0 by omega)
  have r2 := Int.emod_lt_of_pos (cellN ns start.toNat) (show 0 < wares by omega)
  refine ds_seq (ds_setE (n := true) (d' := .int (wayN (cellN ns start.toNat))) (by fail "g") (by rfl) (Nat.lt_of_sub_eq_succ rfl) ?_)
  refine ds_seq (ds_own (n := true) (ds := (bshN (cellN ns start.toNat) wares).map .int) (by
    have := dr_l_shape (K := K) (G := [some (.sh false (.list (ns.map .int))), some (.sh false (.int start)), some (.sh false (.int most)), some (.sh false (.int wares)), some (.sh true (.int (cellN ns start.toNat))), some (.sh true (.int (wayN (cellN ns start.toNat)))), none, none, none, none, none]) (t := tCons (tVar 4) (tCons (tOp (rPlusQ K) (tC (.int 1)) (tOp rMod (tVar 4) (tVar 3))) tNil)) (c := cellN ns start.toNat) (w := (1 + cellN ns start.toNat % wares).toNat) (by rw [Int.toNat_of_nonneg (by omega)]; fail "g") hc (by omega) (by omega)
    exact this) (Nat.lt_of_sub_eq_succ rfl) fun a => ?_)
  refine ds_seq (ds_ownE (n := true) (ds' := (bdays ns start most wares).map dayD) (dn_lcR (q := bqN (cellN ns start.toNat) most) (fun k => dayD (dayN (cellN ns (start + 1 + (k : Nat)).toNat) (wayN (cellN ns start.toNat)) (bshN (cellN ns start.toNat) wares))) (by fail "g") Q.2.2.symm (by omega) (Nat.lt_of_sub_eq_succ rfl) (fun b hb => by cases hb) fun k hk => ?_) ?_ (Nat.lt_of_sub_eq_succ rfl) fun a2 => ?_)
  · have hck := cellN_bd ns (start + 1 + (k : Nat)).toNat
    have hck : Bd40 (cellN ns (start + 1 + (k : Nat)).toNat) := hck
    fail "g"
  · unfold bdays; rw [List.map_map]; rfl
  refine ds_cut (fun G => ∃ a x y z, G = [some (.sh false (.list (ns.map .int))), some (.sh false (.int start)), some (.sh false (.int most)), some (.sh false (.int wares)), some (.sh true (.int (cellN ns start.toNat))), some (.sh true (.int (wayN (cellN ns start.toNat)))), some (.own true a ((bshN (cellN ns start.toNat) wares).map .int)), some (.own true a2 ((bookN ns start most wares).map dayD)), x, y, z]) ?_ ?_
  · refine ds_if (b := decide (cellN ns start.toNat / 1000 % 4 = 0)) (by fail "g") (fun hb => ?_) (fun hb => ?_)
    · have hb := of_decide_eq_true hb
      have le2 : (((bdays ns start most wares).map dayD).length : Int) = ((bqN (cellN ns start.toNat) most : Nat) : Int) := by rw [List.length_map, L]
      have le1 : (((bshN (cellN ns start.toNat) wares).map PyData.int).length : Int) = (((bshN (cellN ns start.toNat) wares).length : Nat) : Int) := by rw [List.length_map]
      have lp2 : 0 < (((bdays ns start most wares).map dayD).length : Int) := by omega
      have lp1 : 0 < (((bshN (cellN ns start.toNat) wares).map PyData.int).length : Int) := by have := S.l1; omega
      refine ds_seq (ds_setE (n := true) (d' := .int (bkN (cellN ns start.toNat) most)) (by fail "g") (by rw [le2]; rfl) (Nat.lt_of_sub_eq_succ rfl) ?_)
      refine ds_seq (ds_setE (n := true) (d' := .int (bjN (cellN ns start.toNat) wares)) (by fail "g") (by rw [le1]; rfl) (Nat.lt_of_sub_eq_succ rfl) ?_)
      obtain ⟨kn, hkn⟩ : ∃ kn : Nat, bkN (cellN ns start.toNat) most = (kn : Nat) := ⟨_, (Int.toNat_of_nonneg BK.1).symm⟩
      obtain ⟨jn, hjn⟩ : ∃ jn : Nat, bjN (cellN ns start.toNat) wares = (jn : Nat) := ⟨_, (Int.toNat_of_nonneg BJ.1).symm⟩
      have hkl : kn < (bdays ns start most wares).length := by omega
      obtain ⟨g1, g2⟩ := D _ (getD_memX (z := ([], [])) hkl)
      have hjl : jn < ((bdays ns start most wares).getD kn ([], [])).2.length := by rw [g1.l2]; omega
      have a1 : L2.atI ((bdays ns start most wares).map dayD) (bkN (cellN ns start.toNat) most) = some (.tuple [.tuple (((bdays ns start most wares).getD kn ([], [])).1.map .int), .tuple (((bdays ns start most wares).getD kn ([], [])).2.map .int)]) := at_getX (f := dayD) hkl hkn
      have at2 : L2.atI (((bdays ns start most wares).getD kn ([], [])).2.map PyData.int) (bjN (cellN ns start.toNat) wares) = some (.int (((bdays ns start most wares).getD kn ([], [])).2.getD jn 0)) := at_getX hjl hjn
      have i1 : ∀ x y : PyData, L2.atI [x, y] 1 = some y := fun _ _ => rfl
      have i0 : ∀ x y : PyData, L2.atI [x, y] 0 = some x := fun _ _ => rfl
      refine ds_seq (ds_setE (n := true) (d := .tuple ((((bdays ns start most wares).getD kn ([], [])).2.set jn (((bdays ns start most wares).getD kn ([], [])).2.getD jn 0 + 1)).map .int)) (d' := .tuple ((((bdays ns start most wares).getD kn ([], [])).2.set jn (((bdays ns start most wares).getD kn ([], [])).2.getD jn 0 + 1)).map .int)) ?_ rfl (Nat.lt_of_sub_eq_succ rfl) ?_)
      · rw [← cut_bump hjl hjn]
        refine de_imm (m := some true) ?_ ?_
        · have da1 : ∀ {G : Sl}, G[7]? = some (some (B.own true a2 ((bdays ns start most wares).map dayD))) → G[8]? = some (some (.sh true (.int (bkN (cellN ns start.toNat) most)))) → DE K none (tOp (rSub K) (tOp (rSub K) (tVar 7) (tVar 8)) (tC (.int 1))) G (.tuple (((bdays ns start most wares).getD kn ([], [])).2.map .int)) := fun h7 h8 => de_ixT (de_ixL (de_own h7) (de_full h8) a1) de_int (i1 _ _)
          have c6 : ((((bdays ns start most wares).getD kn ([], [])).2.map PyData.int).length) ≤ 6 := by rw [List.length_map, g1.l2]; exact S.l6
          exact de_catT (de_catT (de_slT (da1 rfl rfl) do_none (do_some (by fail "g"))) (de_tup (da_cons (de_add (de_ixT (da1 rfl rfl) (by fail "g") at2) (by fail "g")) da_nil) (by simp)) (Nat.le_trans (Nat.add_le_add (Nat.le_trans cutD_len c6) (Nat.le_refl 1)) (by decide))) (de_slT (da1 rfl rfl) (do_some (by fail "g")) do_none) (by
            rw [List.length_append]
            exact Nat.le_trans (Nat.add_le_add (Nat.add_le_add (Nat.le_trans cutD_len c6) (Nat.le_refl 1)) (Nat.le_trans cutD_len c6)) (by decide))
        · rw [cut_bump hjl hjn]; exact imm_ints
      · refine ds_setItemA (n := true) (j := kn) (d := dayD (bumpN ((bdays ns start most wares).getD kn ([], [])) jn)) (ds := (bdays ns start most wares).map dayD) (by rfl) (de_imm ?_ (imm_dayD _)) (by fail "g") (by unfold ixN; rw [List.length_map, if_pos (by omega), if_pos (by omega)]; rw [hkn]; rfl) ?_
        · unfold dayD bumpN
          exact de_tup (da_cons (de_ixT (de_ixL (by fail "g") (by fail "g") a1) (by fail "g") (i0 _ _)) (da_cons (by fail "g") da_nil)) (by simp)
        · refine ⟨a, some (.sh true (.int (bkN (cellN ns start.toNat) most))), some (.sh true (.int (bjN (cellN ns start.toNat) wares))), some (.sh true (.tuple ((((bdays ns start most wares).getD kn ([], [])).2.set jn (((bdays ns start most wares).getD kn ([], [])).2.getD jn 0 + 1)).map .int))), ?_⟩
          have em : (bookN ns start most wares).map dayD = ((bdays ns start most wares).map dayD).set kn (dayD (bumpN ((bdays ns start most wares).getD kn ([], [])) jn)) := by
            unfold bookN
            rw [if_pos hb, hkn, hjn, Int.toNat_natCast, Int.toNat_natCast, List.map_set]
          rw [em]
          rfl
    · have hb := of_decide_eq_false hb
      refine ds_next ⟨a, none, none, none, ?_⟩
      unfold bookN
      rw [if_neg hb]
      rfl
  · rintro G ⟨a, x, y, z, rfl⟩
    exact ds_retD (n := true) (d := bookD (bookN ns start most wares)) (de_imm (by unfold bookD; fail "g") (imm_bookD _)) rfl
theorem call_l_book {K : PySem.W.Frag} {m : Md} {G : Sl} {t : TA} {ns : List Int} {start most wares : Int} (h : DA K none t G [.list (ns.map .int), .int start, .int most, .int wares]) (hs : Scr ns) (s0 : 0 ≤ start) (s1 : start ≤ 500) (m1 : 1 ≤ most) (m8 : most ≤ 8) (w1 : 1 ≤ wares) (w6 : wares ≤ 6) : DE K m (tCall (sp_l_book K) [] E0 t) G (bookD (bookN ns start most wares)) := de_callN (r := .val true (bookD (bookN ns start most wares))) (ι := List Int × Int × Int × Int) (ns, start, most, wares) h ⟨hs, s0, s1, m1, m8, w1, w6⟩ (fun r hr => hr) rfl
local macro_rules | `(tactic| fail "call") => `(tactic| ((with_reducible apply call_l_book) <;> fail "g"))

section
variable {K : PySem.W.Frag} {n : Bool} {te : TE} {G : Sl}
theorem noB {i k : Nat} {x : Option B} (h : ∀ b, G[i]? = some (some b) → B.ows b = []) (hx : ∀ b, x = some b → B.ows b = []) : ∀ b, (G.set k x)[i]? = some (some b) → B.ows b = [] := fun b hb => by
  rcases set_at hb with ⟨_, q⟩ | ⟨_, q⟩
  · exact hx b q
  · exact h b q
/-- [e for x, y in xs] -/
theorem dn_lcT2 {α : Type} {n' : Bool} {wi : TI} {i j : Nat} (xs : List α) (x y : α → PyData) (f : α → PyData) (h : DI K n' wi G (xs.map fun a => .tuple [x a, y a])) (hq : xs.length ≤ 100000) (hi : i < G.length) (hj : j < G.length)
    (oi : ∀ b, G[i]? = some (some b) → B.ows b = []) (oj : ∀ b, G[j]? = some (some b) → B.ows b = [])
    (hb : ∀ a ∈ xs, DE K (some n) te ((((G.set j none).set i none).set i (some (.sh n' (x a)))).set j (some (.sh n' (y a)))) (f a)) : DN K n (tLc wi (gTup K 2 (gCons (gName i) (gCons (gName j) gNil))) tYes te [i, j]) G (xs.map f) := by
  have nn : ∀ b : B, (none : Option B) = some b → B.ows b = [] := fun _ h => by cases h
  have ss : ∀ (d : PyData) (b : B), some (B.sh n' d) = some b → B.ows b = [] := fun _ _ h => by cases h; rfl
  refine dn_lcM (n' := n') xs (fun a => .tuple [x a, y a]) f h (fun a ha => keep_set (noB oi nn) a (keep_set oj a ha)) (gw_tup (gws_cons (gw_name (by simp)) (gws_cons (gw_name (by simp)) gws_nil))) hq fun a ha => ?_
  refine dg_tup rfl (dgs_name (by simpa [wipeG] using hi) (dgs_name (by simpa [wipeG] using hj) (dgs_nil ⟨fun c hc => ?_, hb a ha⟩)))
  exact keep_set (noB (noB (noB oj nn) nn) (ss _)) c (keep_set (noB (noB oi nn) nn) c hc)
theorem zip_inj : ∀ (xs ys : List Int), List.zipWith (fun a b => PyData.tuple [a, b]) (xs.map .int) (ys.map .int) = (xs.zip ys).map fun p => .tuple [.int p.1, .int p.2]
  | [], _ => by simp
  | _ :: _, [] => by simp
  | x :: xs, y :: ys => by simp [zip_inj xs ys]
end

/-! ### known, paid, cost, purse -/
def dotN (ps as : List Int) : Int := ((ps.zip as).map fun p => p.1 * p.2).sum
def atB (b : List Day) (i : Nat) : Day := b.getD i ([], [])
def costN (b : List Day) (i j : Nat) : Int := dotN (atB b i).1 (atB b j).2
theorem dotN_nonneg {ps as : List Int} (hp : ∀ x ∈ ps, 0 ≤ x) (ha : ∀ x ∈ as, 0 ≤ x) : 0 ≤ dotN ps as := sum_nonneg fun x hx => by
  obtain ⟨⟨a, b⟩, h, rfl⟩ := List.mem_map.mp hx
  exact Int.mul_nonneg (hp a (List.of_mem_zip h).1) (ha b (List.of_mem_zip h).2)
theorem sum_le {m : Int} : ∀ {l : List Int}, (∀ x ∈ l, x ≤ m) → l.sum ≤ l.length * m
  | [], _ => by simp
  | x :: l, h => by
    have h1 := h x (by simp)
    have h2 := sum_le (l := l) fun y hy => h y (by simp [hy])
    have h3 : (((x :: l).length : Nat) : Int) * m = l.length * m + m := by
      rw [List.length_cons, Int.natCast_add, Int.add_mul]
      omega
    rw [List.sum_cons, h3]
    omega
theorem dotN_le {ps as : List Int} (h6 : ps.length ≤ 6) (hp : ∀ x ∈ ps, 0 ≤ x ∧ x ≤ 1000000000) (ha : ∀ x ∈ as, 0 ≤ x ∧ x ≤ 1000000000000000000) : dotN ps as ≤ 6000000000000000000000000000 := by
  have h := sum_le (m := 1000000000000000000000000000) (l := (ps.zip as).map fun p => p.1 * p.2) fun x hx => by
    obtain ⟨⟨a, b⟩, h, rfl⟩ := List.mem_map.mp hx
    obtain ⟨a0, a1⟩ := hp a (List.of_mem_zip h).1
    obtain ⟨b0, b1⟩ := ha b (List.of_mem_zip h).2
    have := mul_le a0 b0 a1 b1
    exact this.2
  have hl : ((ps.zip as).map fun p => p.1 * p.2).length ≤ 6 := by rw [List.length_map, List.length_zip]; omega
  have : ((((ps.zip as).map fun p => p.1 * p.2).length : Nat) : Int) * 1000000000000000000000000000 ≤ 6 * 1000000000000000000000000000 := Int.mul_le_mul_of_nonneg_right (by omega) (by decide)
  unfold dotN
  omega
theorem GoodBook.at_ {w : Nat} {b : List Day} (B : GoodBook w b) {i : Nat} (h : i < b.length) : GoodDay w (atB b i) := B.d _ (getD_memX h)
theorem costN_bd {w : Nat} {b : List Day} (B : GoodBook w b) {i j : Nat} (hi : i < b.length) (hj : j < b.length) : 0 ≤ costN b i j ∧ costN b i j ≤ 6000000000000000000000000000 := by
  have D := B.at_ hi
  have E := B.at_ hj
  refine ⟨dotN_nonneg (fun x hx => ?_) (fun x hx => (E.a x hx).1), dotN_le (by rw [D.l1]; exact B.w6) (fun x hx => ?_) E.a⟩
  · have := D.p x hx; omega
  · have := D.p x hx; omega
theorem at_day {b : List Day} {z : Int} (h0 : 0 ≤ z) (h : z < (b.length : Nat)) : L2.atI (b.map dayD) z = some (.tuple [.tuple ((atB b z.toNat).1.map .int), .tuple ((atB b z.toNat).2.map .int)]) := at_getX (f := dayD) (k := z.toNat) (by omega) (by omega)
theorem tup0 {x y : PyData} : L2.atI [x, y] 0 = some x := rfl
theorem tup1 {x y : PyData} : L2.atI [x, y] 1 = some y := rfl
structure PA6 (ps as : List Int) : Prop where
  l6 : ps.length ≤ 6
  p : ∀ x ∈ ps, 0 ≤ x ∧ x ≤ 1000000000
  a : ∀ x ∈ as, 0 ≤ x ∧ x ≤ 1000000000000000000
theorem PA6.of {w : Nat} {b : List Day} (B : GoodBook w b) {i j : Nat} (hi : i < b.length) (hj : j < b.length) : PA6 (atB b i).1 (atB b j).2 := by
  have D := B.at_ hi
  have E := B.at_ hj
  exact ⟨by rw [D.l1]; exact B.w6, fun x hx => by have := D.p x hx; omega, E.a⟩
theorem zip_len6 {ps as : List Int} (h : PA6 ps as) : (ps.zip as).length ≤ 100000 := by
  have := h.l6
  rw [List.length_zip]; omega
/-- sum([p * a for p, a in zip(..)]) -/
theorem de_dot {K : PySem.W.Frag} {m : Md} {ta tb : TE} {G : Sl} {i j : Nat} {ps as : List Int} (H : PA6 ps as) (ha : DE K (some false) ta G (.tuple (ps.map .int))) (hb : DE K (some false) tb G (.tuple (as.map .int))) (hi : i < G.length) (hj : j < G.length) (hij : i ≠ j)
    (oi : ∀ b, G[i]? = some (some b) → B.ows b = []) (oj : ∀ b, G[j]? = some (some b) → B.ows b = []) :
    DE K m (tCB (rSumA K) (tCons (tLc (RZ.iZipA K (tCons ta (tCons tb tNil))) (gTup K 2 (gCons (gName i) (gCons (gName j) gNil))) tYes (tOp (rTimes K) (tVar i) (tVar j)) [i, j]) tNil)) G (.int (dotN ps as)) := by
  refine de_sumL (ns := (ps.zip as).map fun p => p.1 * p.2) ?_
  refine de_trans (de_dn (n := true) (dn_lcT2 (n' := false) (ps.zip as) (fun p => .int p.1) (fun p => .int p.2) (fun p => .int (p.1 * p.2)) (by have := di_zipT ha hb; rwa [zip_inj] at this) (zip_len6 H) hi hj oi oj fun p hp => ?_) rfl) (by rw [List.map_map]; rfl)
  obtain ⟨h1, h2⟩ := List.of_mem_zip (a := p.1) (b := p.2) hp
  have p1 := H.p _ h1
  have p2 := H.a _ h2
  refine de_mul (de_full (b := .sh false (.int p.1)) ?_) (de_full (b := .sh false (.int p.2)) ?_) (cm_om (by omega) (by omega) (by omega) (by omega))
  · rw [List.getElem?_set_ne (Ne.symm hij), List.getElem?_set_self (by simpa using hi)]
  · rw [List.getElem?_set_self (by simpa using hj)]

structure Kls (K : PySem.W.Frag) (C CT : Addr) : Prop where
  m1 : PySem.W.exmOne K (.ref C) (.ref C) = some true
  m2 : PySem.W.exmOne K (.ref C) (.ref CT) = some true
  ki : PySem.W.kitOne K (.ref C) (.type "ValueError") = some true
def sp_p_paid (K : PySem.W.Frag) : Sp := spD K (ι := List Int × List Int) (fun p => [.tuple (p.1.map .int), .tuple (p.2.map .int)]) (fun p => PA6 p.1 p.2) (fun p r => r = .val true (.int (dotN p.1 p.2)))
/- 0 prices, 1 amounts, 2 price, 3 amount -/
def N_p_paid : List Str := ["prices", "amounts", "price", "amount"]
def t_p_paid (K : PySem.W.Frag) : TS :=
  tRet (tCB (rSumA K) (tCons (tLc (RZ.iZipA K (tCons (tVar 0) (tCons (tVar 1) (tNil)))) (gTup K 2 (gCons (gName 2) (gCons (gName 3) (gNil)))) (tYes) (tOp (rTimes K) (tVar 2) (tVar 3)) [2, 3]) (tNil)))
theorem ds_p_paid {K : PySem.W.Frag} (p : List Int × List Int) (H : PA6 p.1 p.2) : DS K (t_p_paid K) (ent N_p_paid [.tuple (p.1.map .int), .tuple (p.2.map .int)]) { nx := fun _ => R.val true .none = R.val true (.int (dotN p.1 p.2)), rt := fun r => r = .val true (.int (dotN p.1 p.2)) } := by
  obtain ⟨ps, as⟩ := p
  show DS K (t_p_paid K) [some (.sh false (.tuple (ps.map .int))), some (.sh false (.tuple (as.map .int))), none, none] _
  exact ds_retD (n := true) (d := .int (dotN ps as)) (de_dot H (by fail "g") (by fail "g") (Nat.lt_of_sub_eq_succ rfl) (Nat.lt_of_sub_eq_succ rfl) (by decide) (fun _ h => by cases h) (fun _ h => by cases h)) rfl
theorem call_p_paid {K : PySem.W.Frag} {m : Md} {G : Sl} {t : TA} {ps as : List Int} (h : DA K none t G [.tuple (ps.map .int), .tuple (as.map .int)]) (H : PA6 ps as) : DE K m (tCall (sp_p_paid K) [] E0 t) G (.int (dotN ps as)) := de_callN (r := .val true (.int (dotN ps as))) (ι := List Int × List Int) (ps, as) h H (fun r hr => hr) rfl
structure InB (w : Nat) (b : List Day) (i j : Int) : Prop where
  B : GoodBook w b
  i0 : 0 ≤ i
  i1 : i < (b.length : Nat)
  j0 : 0 ≤ j
  j1 : j < (b.length : Nat)
def NoD (b : List Day) (z : Int) : Prop := z < 0 ∨ (b.length : Nat) ≤ z
def sp_p_known (K : PySem.W.Frag) (C : Addr) : Sp := spX K C (ι := List Day × Int) (fun p => [bookD p.1, .int p.2]) (fun p => 0 ≤ p.2 ∧ p.2 < (p.1.length : Nat)) (fun _ r => r = .val true .none) (fun p => NoD p.1 p.2)
/- 0 book, 1 day -/
def N_p_known : List Str := ["book", "day"]
def t_p_known (K : PySem.W.Frag) (c_NoDay : Addr) (E : XK) : TS :=
  tIfS (tNot (tTest (tChain rLe rLt (tC (.int 0)) (tVar 1) (tCB (rLen K) (tCons (tVar 0) (tNil)))))) (tRaise c_NoDay E) (tNext)
theorem ds_p_known {K : PySem.W.Frag} {C : Addr} (E : XK) (p : List Day × Int) (h : 0 ≤ p.2 ∧ p.2 < (p.1.length : Nat)) : DS K (t_p_known K C E) (ent N_p_known [bookD p.1, .int p.2]) { nx := fun _ => R.val true .none = R.val true .none, rt := fun r => r = .val true .none } := by
  obtain ⟨b, z⟩ := p
  obtain ⟨h0, h1⟩ := h
  have h0 : 0 ≤ z := h0
  have h1 : z < (b.length : Nat) := h1
  have ll : (b.map dayD).length = b.length := List.length_map _
  show DS K (t_p_known K C E) [some (.sh false (.tuple (b.map dayD))), some (.sh false (.int z))] _
  refine ds_if (b := false) (dt_to (by fail "g") ?_) (fun hb => by cases hb) (fun _ => ds_next rfl)
  rw [ll]; simp [h0, h1]
theorem dx_p_known {K : PySem.W.Frag} {C : Addr} (p : List Day × Int) (h : NoD p.1 p.2) (E : XK) : DX K (t_p_known K C E) (ent N_p_known [bookD p.1, .int p.2]) E C := by
  obtain ⟨b, z⟩ := p
  have h : z < 0 ∨ (b.length : Nat) ≤ z := h
  have ll : (b.map dayD).length = b.length := List.length_map _
  show DX K (t_p_known K C E) [some (.sh false (.tuple (b.map dayD))), some (.sh false (.int z))] E C
  refine dx_if (b := true) (dt_to (by fail "g") ?_) (fun _ => dx_raise) (fun hb => by cases hb)
  rw [ll]
  rcases h with h | h
  · have : decide (0 ≤ z) = false := decide_eq_false (by omega)
    simp [this]
  · have : decide (z < (b.length : Nat)) = false := decide_eq_false (by omega)
    simp [this]
theorem len_p_known {K : PySem.W.Frag} {C : Addr} : ∀ vs H Q E, sp_p_known K C vs H Q E → vs.length = 2 := spX_len (fun _ => rfl)
theorem raw_p_known {K : PySem.W.Frag} {C : Addr} : ∀ vs H Q E, sp_p_known K C vs H Q E → t_p_known K C E { nx := fun _ H' => Q .non H', rt := Q } (L2.start N_p_known vs) H := raw_X ds_p_known dx_p_known
theorem call_p_known {K : PySem.W.Frag} {m : Md} {G : Sl} {t : TA} {C : Addr} {E : XK} {b : List Day} {z : Int} (h : DA K none t G [bookD b, .int z]) (h0 : 0 ≤ z) (h1 : z < (b.length : Nat)) : DE K m (tCall (sp_p_known K C) [] E t) G .none := de_callX (r := .val true .none) (ι := List Day × Int) (b, z) h ⟨h0, h1⟩ (fun r hr => hr) rfl
theorem bad_p_known {K : PySem.W.Frag} {G : Sl} {t : TA} {C : Addr} {E : XK} {b : List Day} {z : Int} (h : DA K none t G [bookD b, .int z]) (hb : NoD b z) : DXe K (tCall (sp_p_known K C) [] E t) G E C := dxe_call (ι := List Day × Int) (b, z) h hb
def BadIJ (b : List Day) (i j : Int) : Prop := NoD b i ∨ (0 ≤ i ∧ i < (b.length : Nat) ∧ NoD b j)
def sp_p_cost (K : PySem.W.Frag) (C : Addr) : Sp := spX K C (ι := Nat × List Day × Int × Int) (fun p => [bookD p.2.1, .int p.2.2.1, .int p.2.2.2]) (fun p => InB p.1 p.2.1 p.2.2.1 p.2.2.2) (fun p r => r = .val true (.int (costN p.2.1 p.2.2.1.toNat p.2.2.2.toNat))) (fun p => BadIJ p.2.1 p.2.2.1 p.2.2.2)
/- 0 book, 1 day, 2 other -/
def N_p_cost : List Str := ["book", "day", "other"]
def t_p_cost (K : PySem.W.Frag) (c_NoDay : Addr) (E : XK) : TS :=
  tSeq (tDrop (tCall (sp_p_known K c_NoDay) [] E (tCons (tVar 0) (tCons (tVar 1) (tNil)))))
    (tSeq (tDrop (tCall (sp_p_known K c_NoDay) [] E (tCons (tVar 0) (tCons (tVar 2) (tNil)))))
    (tRet (tCall (sp_p_paid K) [] E0 (tCons (tOp (rSub K) (tOp (rSub K) (tVar 0) (tVar 1)) (tC (.int 0))) (tCons (tOp (rSub K) (tOp (rSub K) (tVar 0) (tVar 2)) (tC (.int 1))) (tNil))))))
theorem ds_p_cost {K : PySem.W.Frag} {C : Addr} (E : XK) (p : Nat × List Day × Int × Int) (h : InB p.1 p.2.1 p.2.2.1 p.2.2.2) : DS K (t_p_cost K C E) (ent N_p_cost [bookD p.2.1, .int p.2.2.1, .int p.2.2.2]) { nx := fun _ => R.val true .none = R.val true (.int (costN p.2.1 p.2.2.1.toNat p.2.2.2.toNat)), rt := fun r => r = .val true (.int (costN p.2.1 p.2.2.1.toNat p.2.2.2.toNat)) } := by
  obtain ⟨w, b, i, j⟩ := p
  obtain ⟨BB, i0, i1, j0, j1⟩ := h
  have BB : GoodBook w b := BB
  have i0 : 0 ≤ i := i0
  have i1 : i < (b.length : Nat) := i1
  have j0 : 0 ≤ j := j0
  have j1 : j < (b.length : Nat) := j1
  show DS K (t_p_cost K C E) [some (.sh false (bookD b)), some (.sh false (.int i)), some (.sh false (.int j))] _
  unfold t_p_cost
  refine ds_seq (ds_expr (call_p_known (b := b) (by fail "g") i0 i1) ?_)
  refine ds_seq (ds_expr (call_p_known (b := b) (by fail "g") j0 j1) ?_)
  exact ds_retD (n := true) (d := .int (costN b i.toNat j.toNat)) (call_p_paid (da_cons (de_ixT (de_ixT (ds := b.map dayD) (de_trans (d := bookD b) (by fail "g") rfl) (by fail "g") (at_day i0 i1)) (by fail "g") tup0) (da_cons (de_ixT (de_ixT (ds := b.map dayD) (de_trans (d := bookD b) (by fail "g") rfl) (by fail "g") (at_day j0 j1)) (by fail "g") tup1) da_nil)) (PA6.of BB (by omega) (by omega))) rfl
theorem dx_p_cost {K : PySem.W.Frag} {C : Addr} (p : Nat × List Day × Int × Int) (h : BadIJ p.2.1 p.2.2.1 p.2.2.2) (E : XK) : DX K (t_p_cost K C E) (ent N_p_cost [bookD p.2.1, .int p.2.2.1, .int p.2.2.2]) E C := by
  obtain ⟨w, b, i, j⟩ := p
  have h : BadIJ b i j := h
  show DX K (t_p_cost K C E) [some (.sh false (bookD b)), some (.sh false (.int i)), some (.sh false (.int j))] E C
  unfold t_p_cost
  rcases h with h | ⟨h0, h1, h⟩
  · exact dx_seq1 (dx_drop (bad_p_known (b := b) (by fail "g") h))
  · exact dx_seq2 (ds_expr (call_p_known (b := b) (by fail "g") h0 h1) (dx_seq1 (dx_drop (bad_p_known (b := b) (by fail "g") h))))
theorem len_p_cost {K : PySem.W.Frag} {C : Addr} : ∀ vs H Q E, sp_p_cost K C vs H Q E → vs.length = 3 := spX_len (fun _ => rfl)
theorem raw_p_cost {K : PySem.W.Frag} {C : Addr} : ∀ vs H Q E, sp_p_cost K C vs H Q E → t_p_cost K C E { nx := fun _ H' => Q .non H', rt := Q } (L2.start N_p_cost vs) H := raw_X ds_p_cost dx_p_cost
theorem call_p_cost {K : PySem.W.Frag} {m : Md} {G : Sl} {t : TA} {C : Addr} {E : XK} {w : Nat} {b : List Day} {i j : Int} (h : DA K none t G [bookD b, .int i, .int j]) (B : GoodBook w b) (i0 : 0 ≤ i) (i1 : i < (b.length : Nat)) (j0 : 0 ≤ j) (j1 : j < (b.length : Nat)) : DE K m (tCall (sp_p_cost K C) [] E t) G (.int (costN b i.toNat j.toNat)) := de_callX (r := .val true (.int (costN b i.toNat j.toNat))) (ι := Nat × List Day × Int × Int) (w, b, i, j) h ⟨B, i0, i1, j0, j1⟩ (fun r hr => hr) rfl
theorem bad_p_cost {K : PySem.W.Frag} {G : Sl} {t : TA} {C : Addr} {E : XK} {b : List Day} {i j : Int} (h : DA K none t G [bookD b, .int i, .int j]) (hb : BadIJ b i j) : DXe K (tCall (sp_p_cost K C) [] E t) G E C := dxe_call (ι := Nat × List Day × Int × Int) (0, b, i, j) h hb
def sp_p_purse (K : PySem.W.Frag) (C : Addr) : Sp := spX K C (ι := Nat × List Day × Int) (fun p => [bookD p.2.1, .int p.2.2]) (fun p => InB p.1 p.2.1 p.2.2 p.2.2) (fun p r => r = .val true (.int (costN p.2.1 p.2.2.toNat p.2.2.toNat))) (fun p => NoD p.2.1 p.2.2)
/- 0 book, 1 day -/
def N_p_purse : List Str := ["book", "day"]
def t_p_purse (K : PySem.W.Frag) (c_NoDay : Addr) (E : XK) : TS :=
  tRet (tCall (sp_p_cost K c_NoDay) [] E (tCons (tVar 0) (tCons (tVar 1) (tCons (tVar 1) (tNil)))))
theorem ds_p_purse {K : PySem.W.Frag} {C : Addr} (E : XK) (p : Nat × List Day × Int) (h : InB p.1 p.2.1 p.2.2 p.2.2) : DS K (t_p_purse K C E) (ent N_p_purse [bookD p.2.1, .int p.2.2]) { nx := fun _ => R.val true .none = R.val true (.int (costN p.2.1 p.2.2.toNat p.2.2.toNat)), rt := fun r => r = .val true (.int (costN p.2.1 p.2.2.toNat p.2.2.toNat)) } := by
  obtain ⟨w, b, i⟩ := p
  obtain ⟨BB, i0, i1, _, _⟩ := h
  show DS K (t_p_purse K C E) [some (.sh false (bookD b)), some (.sh false (.int i))] _
  exact ds_retD (n := true) (d := .int (costN b i.toNat i.toNat)) (call_p_cost (by fail "g") BB i0 i1 i0 i1) rfl
theorem dx_p_purse {K : PySem.W.Frag} {C : Addr} (p : Nat × List Day × Int) (h : NoD p.2.1 p.2.2) (E : XK) : DX K (t_p_purse K C E) (ent N_p_purse [bookD p.2.1, .int p.2.2]) E C := by
  obtain ⟨w, b, i⟩ := p
  have h : NoD b i := h
  show DX K (t_p_purse K C E) [some (.sh false (bookD b)), some (.sh false (.int i))] E C
  exact dx_ret (bad_p_cost (b := b) (i := i) (j := i) (by fail "g") (.inl h))
theorem len_p_purse {K : PySem.W.Frag} {C : Addr} : ∀ vs H Q E, sp_p_purse K C vs H Q E → vs.length = 2 := spX_len (fun _ => rfl)
theorem raw_p_purse {K : PySem.W.Frag} {C : Addr} : ∀ vs H Q E, sp_p_purse K C vs H Q E → t_p_purse K C E { nx := fun _ H' => Q .non H', rt := Q } (L2.start N_p_purse vs) H := raw_X ds_p_purse dx_p_purse
theorem call_p_purse {K : PySem.W.Frag} {m : Md} {G : Sl} {t : TA} {C : Addr} {E : XK} {w : Nat} {b : List Day} {i : Int} (h : DA K none t G [bookD b, .int i]) (B : GoodBook w b) (i0 : 0 ≤ i) (i1 : i < (b.length : Nat)) : DE K m (tCall (sp_p_purse K C) [] E t) G (.int (costN b i.toNat i.toNat)) := de_callX (r := .val true (.int (costN b i.toNat i.toNat))) (ι := Nat × List Day × Int) (w, b, i) h ⟨B, i0, i1, i0, i1⟩ (fun r hr => hr) rfl
theorem bad_p_purse {K : PySem.W.Frag} {G : Sl} {t : TA} {C : Addr} {E : XK} {b : List Day} {i : Int} (h : DA K none t G [bookD b, .int i]) (hb : NoD b i) : DXe K (tCall (sp_p_purse K C) [] E t) G E C := dxe_call (ι := Nat × List Day × Int) (0, b, i) h hb

/-! ### _law_asked, _law_refused -/
structure Askd (w b : Int) (bk : List Day) (i j : Int) : Prop where
  a : w = 0 → BadIJ bk i j
  b : w ≠ 0 → NoD bk i
def sp_l_asked (K : PySem.W.Frag) (C : Addr) : Sp := spX K C (ι := Int × List Day × Int × Int) (fun p => [.int p.1, bookD p.2.1, .int p.2.2.1, .int p.2.2.2]) (fun _ => False) (fun _ _ => False) (fun p => Askd p.1 0 p.2.1 p.2.2.1 p.2.2.2)
/- 0 _law_way, 1 _law_book_here, 2 _law_day_here, 3 _law_other -/
def N_l_asked : List Str := ["_law_way", "_law_book_here", "_law_day_here", "_law_other"]
def t_l_asked (K : PySem.W.Frag) (c_NoDay : Addr) (E : XK) : TS :=
  tSeq (tIfS (tTest (tOp (rEqD K) (tVar 0) (tC (.int 0)))) (tRet (tCall (sp_p_cost K c_NoDay) [] E (tCons (tVar 1) (tCons (tVar 2) (tCons (tVar 3) (tNil)))))) (tNext))
    (tRet (tCall (sp_p_purse K c_NoDay) [] E (tCons (tVar 1) (tCons (tVar 2) (tNil)))))
theorem dx_l_asked {K : PySem.W.Frag} {C : Addr} (p : Int × List Day × Int × Int) (h : Askd p.1 0 p.2.1 p.2.2.1 p.2.2.2) (E : XK) : DX K (t_l_asked K C E) (ent N_l_asked [.int p.1, bookD p.2.1, .int p.2.2.1, .int p.2.2.2]) E C := by
  obtain ⟨w, b, i, j⟩ := p
  have h : Askd w 0 b i j := h
  show DX K (t_l_asked K C E) [some (.sh false (.int w)), some (.sh false (bookD b)), some (.sh false (.int i)), some (.sh false (.int j))] E C
  unfold t_l_asked
  by_cases hw : w = 0
  · exact dx_seq1 (dx_if (b := true) (dt_to (by fail "g") (decide_eq_true hw)) (fun _ => dx_ret (bad_p_cost (b := b) (i := i) (j := j) (by fail "g") (h.a hw))) (fun hb => by cases hb))
  · exact dx_seq2 (ds_if (b := false) (dt_to (by fail "g") (decide_eq_false hw)) (fun hb => by cases hb) (fun _ => ds_next (dx_ret (bad_p_purse (b := b) (i := i) (by fail "g") (h.b hw)))))
theorem len_l_asked {K : PySem.W.Frag} {C : Addr} : ∀ vs H Q E, sp_l_asked K C vs H Q E → vs.length = 4 := spX_len (fun _ => rfl)
theorem raw_l_asked {K : PySem.W.Frag} {C : Addr} : ∀ vs H Q E, sp_l_asked K C vs H Q E → t_l_asked K C E { nx := fun _ H' => Q .non H', rt := Q } (L2.start N_l_asked vs) H := raw_X (fun _ _ h => h.elim) dx_l_asked
def sp_l_refused (K : PySem.W.Frag) : Sp := spD K (ι := Int × List Day × Int × Int) (fun p => [.int p.1, bookD p.2.1, .int p.2.2.1, .int p.2.2.2]) (fun p => Askd p.1 0 p.2.1 p.2.2.1 p.2.2.2) (fun _ r => r = .val true (.bool true))
/- 0 _law_way, 1 _law_book_here, 2 _law_day_here, 3 _law_other, 4 _law_caught, 5 error -/
def N_l_refused : List Str := ["_law_way", "_law_book_here", "_law_day_here", "_law_other", "_law_caught", "error"]
def t_l_refused (K : PySem.W.Frag) (c_NoDay : Addr) (c_TasteError : Addr) : TS :=
  tSeq (tAsg (tC (.bl false)) (gName 4))
    (tSeq (tTry1 K (.ref c_NoDay) (fun W => tDrop (tCallS (sp_l_asked K c_NoDay) (WE W) (tCons (tVar 0) (tCons (tVar 1) (tCons (tVar 2) (tCons (tVar 3) (tNil))))))) (tAsg (tC (.bl true)) (gName 4)))
    (tSeq (tTry2 K (.ref c_TasteError) 5 (fun W => tDrop (tCallS (sp_l_asked K c_NoDay) (WE W) (tCons (tVar 0) (tCons (tVar 1) (tCons (tVar 2) (tCons (tVar 3) (tNil))))))) (tSuiteIs K c_NoDay 4 5 "ValueError"))
    (tRet (tC (.bl false)))))
theorem ds_l_refused {K : PySem.W.Frag} {C CT : Addr} (KL : Kls K C CT) (p : Int × List Day × Int × Int) (h : Askd p.1 0 p.2.1 p.2.2.1 p.2.2.2) : DS K (t_l_refused K C CT) (ent N_l_refused [.int p.1, bookD p.2.1, .int p.2.2.1, .int p.2.2.2]) { nx := fun _ => R.val true .none = R.val true (.bool true), rt := fun r => r = .val true (.bool true) } := by
  obtain ⟨w, b, i, j⟩ := p
  have h : Askd w 0 b i j := h
  show DS K (t_l_refused K C CT) [some (.sh false (.int w)), some (.sh false (bookD b)), some (.sh false (.int i)), some (.sh false (.int j)), none, none] { nx := _, rt := fun r => r = .val true (.bool true) }
  unfold t_l_refused
  refine ds_seq (ds_setE (n := true) (d' := .bool false) (by fail "g") rfl (Nat.lt_of_sub_eq_succ rfl) ?_)
  refine ds_seq (ds_try1 KL.m1 (ι := Int × List Day × Int × Int) (w, b, i, j) (by fail "g") h (ds_setE (n := true) (d' := .bool true) (by fail "g") rfl (Nat.lt_of_sub_eq_succ rfl) ?_))
  exact ds_seq (ds_try2 (n := true) KL.m2 KL.ki (ι := Int × List Day × Int × Int) (w, b, i, j) (by fail "g") h (Nat.lt_of_sub_eq_succ rfl) (by decide) rfl rfl)
theorem call_l_refused {K : PySem.W.Frag} {m : Md} {G : Sl} {t : TA} {w : Int} {b : List Day} {i j : Int} (h : DA K none t G [.int w, bookD b, .int i, .int j]) (ha : Askd w 0 b i j) : DE K m (tCall (sp_l_refused K) [] E0 t) G (.bool true) := de_callN (r := .val true (.bool true)) (ι := Int × List Day × Int × Int) (w, b, i, j) h ha (fun r hr => hr) rfl

/-! ### _law_cost -/
def sp_l_cost (K : PySem.W.Frag) : Sp := spD K (ι := Nat × List Day × Int × Int) (fun p => [bookD p.2.1, .int p.2.2.1, .int p.2.2.2]) (fun p => InB p.1 p.2.1 p.2.2.1 p.2.2.2) (fun p r => r = .val true (.int (costN p.2.1 p.2.2.1.toNat p.2.2.2.toNat)))
/- 0 _law_book_here, 1 _law_day_here, 2 _law_other, 3 _law_price_here, 4 _law_amount -/
def N_l_cost : List Str := ["_law_book_here", "_law_day_here", "_law_other", "_law_price_here", "_law_amount"]
def t_l_cost (K : PySem.W.Frag) : TS :=
  tRet (tCB (rSumA K) (tCons (tLc (RZ.iZipA K (tCons (tOp (rSub K) (tOp (rSub K) (tVar 0) (tVar 1)) (tC (.int 0))) (tCons (tOp (rSub K) (tOp (rSub K) (tVar 0) (tVar 2)) (tC (.int 1))) (tNil)))) (gTup K 2 (gCons (gName 3) (gCons (gName 4) (gNil)))) (tYes) (tOp (rTimes K) (tVar 3) (tVar 4)) [3, 4]) (tNil)))
theorem ds_l_cost {K : PySem.W.Frag} (p : Nat × List Day × Int × Int) (h : InB p.1 p.2.1 p.2.2.1 p.2.2.2) : DS K (t_l_cost K) (ent N_l_cost [bookD p.2.1, .int p.2.2.1, .int p.2.2.2]) { nx := fun _ => R.val true .none = R.val true (.int (costN p.2.1 p.2.2.1.toNat p.2.2.2.toNat)), rt := fun r => r = .val true (.int (costN p.2.1 p.2.2.1.toNat p.2.2.2.toNat)) } := by
  obtain ⟨w, b, i, j⟩ := p
  obtain ⟨BB, i0, i1, j0, j1⟩ := h
  have BB : GoodBook w b := BB
  have i0 : 0 ≤ i := i0
  have i1 : i < (b.length : Nat) := i1
  have j0 : 0 ≤ j := j0
  have j1 : j < (b.length : Nat) := j1
  show DS K (t_l_cost K) [some (.sh false (bookD b)), some (.sh false (.int i)), some (.sh false (.int j)), none, none] _
  exact ds_retD (n := true) (d := .int (costN b i.toNat j.toNat)) (de_dot (PA6.of BB (by omega) (by omega)) (de_ixT (de_ixT (ds := b.map dayD) (de_trans (d := bookD b) (by fail "g") rfl) (by fail "g") (at_day i0 i1)) (by fail "g") tup0) (de_ixT (de_ixT (ds := b.map dayD) (de_trans (d := bookD b) (by fail "g") rfl) (by fail "g") (at_day j0 j1)) (by fail "g") tup1) (Nat.lt_of_sub_eq_succ rfl) (Nat.lt_of_sub_eq_succ rfl) (by decide) (fun _ h => by cases h) (fun _ h => by cases h)) rfl
theorem call_l_cost {K : PySem.W.Frag} {m : Md} {G : Sl} {t : TA} {w : Nat} {b : List Day} {i j : Int} (h : DA K none t G [bookD b, .int i, .int j]) (B : GoodBook w b) (i0 : 0 ≤ i) (i1 : i < (b.length : Nat)) (j0 : 0 ≤ j) (j1 : j < (b.length : Nat)) : DE K m (tCall (sp_l_cost K) [] E0 t) G (.int (costN b i.toNat j.toNat)) := de_callN (r := .val true (.int (costN b i.toNat j.toNat))) (ι := Nat × List Day × Int × Int) (w, b, i, j) h ⟨B, i0, i1, j0, j1⟩ (fun r hr => hr) rfl

local macro_rules | `(tactic| fail "call") => `(tactic| first | ((with_reducible apply call_l_cost) <;> fail "g") | ((with_reducible apply call_l_int) <;> fail "g"))
/-! ### the law -/
theorem pkx3 {x y z k : Int} (h0 : 0 ≤ k) (h : k < 3) : L2.atI [PyData.int x, .int y, .int z] k = some (.int (([x, y, z] : List Int).getD k.toNat 0)) := by
  have : k = 0 ∨ k = 1 ∨ k = 2 := by omega
  rcases this with h | h | h <;> subst h <;> rfl
def farN (c : Int) : Int := ([0, c / 64 % 9, c / 64] : List Int).getD (c / 64 % 3).toNat 0
theorem farN_nn {c : Int} (h : 0 ≤ c) : 0 ≤ farN c := by
  have k0 := Int.emod_nonneg (c / 64) (show (3 : Int) ≠ 0 by decide)
  have k1 := Int.emod_lt_of_pos (c / 64) (show (0 : Int) < 3 by decide)
  have k2 := Int.emod_nonneg (c / 64) (show (9 : Int) ≠ 0 by decide)
  have k3 : 0 ≤ c / 64 := Int.ediv_nonneg h (by decide)
  unfold farN
  have : c / 64 % 3 = 0 ∨ c / 64 % 3 = 1 ∨ c / 64 % 3 = 2 := by omega
  rcases this with h | h | h <;> rw [h]
  · exact Int.le_refl 0
  · exact k2
  · exact k3
def sp_law (K : PySem.W.Frag) : Sp := spD K (ι := List Int) (fun ns => [.list (ns.map .int)]) Scr (fun _ r => r = .val true (.bool true))
/- 0 _law_script, 1 _law_book_here, 2 _law_cell_here, 3 _law_day_here, 4 _law_other, 5 _law_one, 6 _law_another, 7 _law_found, 8 _law_far, 9 _law_bad -/
def N_law : List Str := ["_law_script", "_law_book_here", "_law_cell_here", "_law_day_here", "_law_other", "_law_one", "_law_another", "_law_found", "_law_far", "_law_bad"]
def t_law (K : PySem.W.Frag) (c_NoDay : Addr) : TS :=
  tSeq (tAsg (tCall (sp_l_book K) [] E0 (tCons (tVar 0) (tCons (tC (.int 1)) (tCons (tC (.int 8)) (tCons (tC (.int 4)) (tNil)))))) (gName 1))
    (tSeq (tAsg (tCall (sp_l_cell K) [] E0 (tCons (tVar 0) (tCons (tC (.int 0)) (tNil)))) (gName 2))
    (tSeq (tAsg (tOp rMod (tVar 2) (tCB (rLen K) (tCons (tVar 1) (tNil)))) (gName 3))
    (tSeq (tAsg (tOp rMod (tOp rFloor (tVar 2) (tC (.int 8))) (tCB (rLen K) (tCons (tVar 1) (tNil)))) (gName 4))
    (tSeq (tFor (iSeq K (tLst (tCons (tTup (tCons (tVar 3) (tCons (tVar 4) (tNil)))) (tCons (tTup (tCons (tVar 4) (tCons (tVar 3) (tNil)))) (tCons (tTup (tCons (tVar 3) (tCons (tVar 3) (tNil)))) (tNil)))))) (gTup K 2 (gCons (gName 5) (gCons (gName 6) (gNil)))) (tSeq (tAsg (tCall (sp_p_cost K c_NoDay) [] E0 (tCons (tVar 1) (tCons (tVar 5) (tCons (tVar 6) (tNil))))) (gName 7))
    (tIfS (tOr (tNot (tB (tCall (sp_l_int K) [] E0 (tCons (tVar 7) (tNil))))) (tTest (tOp (rNeD K) (tVar 7) (tCall (sp_l_cost K) [] E0 (tCons (tVar 1) (tCons (tVar 5) (tCons (tVar 6) (tNil)))))))) (tRet (tC (.bl false))) (tNext))))
    (tSeq (tFor (iRng1 (tCons (tCB (rLen K) (tCons (tVar 1) (tNil))) (tNil))) (gName 5) (tSeq (tAsg (tCall (sp_p_purse K c_NoDay) [] E0 (tCons (tVar 1) (tCons (tVar 5) (tNil)))) (gName 7))
    (tIfS (tOr (tNot (tB (tCall (sp_l_int K) [] E0 (tCons (tVar 7) (tNil))))) (tTest (tOp (rNeD K) (tVar 7) (tCall (sp_l_cost K) [] E0 (tCons (tVar 1) (tCons (tVar 5) (tCons (tVar 5) (tNil)))))))) (tRet (tC (.bl false))) (tNext))))
    (tSeq (tAsg (tOp (rSub K) (tLst (tCons (tC (.int 0)) (tCons (tOp rMod (tOp rFloor (tVar 2) (tC (.int 64))) (tC (.int 9))) (tCons (tOp rFloor (tVar 2) (tC (.int 64))) (tNil))))) (tOp rMod (tOp rFloor (tVar 2) (tC (.int 64))) (tC (.int 3)))) (gName 8))
    (tSeq (tFor (iSeq K (tLst (tCons (tOp (rPlusQ K) (tCB (rLen K) (tCons (tVar 1) (tNil))) (tVar 8)) (tCons (tOp rSubI (tUn rNeg (tC (.int 1))) (tVar 8)) (tNil))))) (gName 9) (tSeq (tIfS (tOr (tNot (tB (tCall (sp_l_refused K) [] E0 (tCons (tC (.int 0)) (tCons (tVar 1) (tCons (tVar 9) (tCons (tVar 3) (tNil)))))))) (tNot (tB (tCall (sp_l_refused K) [] E0 (tCons (tC (.int 0)) (tCons (tVar 1) (tCons (tVar 3) (tCons (tVar 9) (tNil))))))))) (tRet (tC (.bl false))) (tNext))
    (tIfS (tOr (tNot (tB (tCall (sp_l_refused K) [] E0 (tCons (tC (.int 0)) (tCons (tVar 1) (tCons (tVar 9) (tCons (tVar 9) (tNil)))))))) (tNot (tB (tCall (sp_l_refused K) [] E0 (tCons (tC (.int 1)) (tCons (tVar 1) (tCons (tVar 9) (tCons (tVar 9) (tNil))))))))) (tRet (tC (.bl false))) (tNext))))
    (tRet (tOp (rEqD K) (tCall (sp_p_cost K c_NoDay) [] E0 (tCons (tVar 1) (tCons (tVar 3) (tCons (tVar 4) (tNil))))) (tCall (sp_l_cost K) [] E0 (tCons (tVar 1) (tCons (tVar 3) (tCons (tVar 4) (tNil))))))))))))))
theorem ds_law {K : PySem.W.Frag} {C : Addr} (ns : List Int) (hs : Scr ns) : DS K (t_law K C) (ent N_law [.list (ns.map .int)]) { nx := fun _ => R.val true .none = R.val true (.bool true), rt := fun r => r = .val true (.bool true) } := by
  show DS K (t_law K C) [some (.sh false (.list (ns.map .int))), none, none, none, none, none, none, none, none, none] { nx := _, rt := fun r => r = .val true (.bool true) }
  unfold t_law
  obtain ⟨w, hw⟩ : ∃ w, GoodBook w (bookN ns 1 8 4) := ⟨_, bookN_good (ns := ns) (start := 1) (most := 8) (wares := 4) (by decide) (by decide) (by decide) (by decide)⟩
  refine ds_seq (ds_setE (n := true) (d' := bookD (bookN ns 1 8 4)) (by fail "g") (by rfl) (Nat.lt_of_sub_eq_succ rfl) ?_)
  generalize bookN ns 1 8 4 = b at hw
  have l1 := hw.l1
  have l8 := hw.l8
  have ll : (b.map dayD).length = b.length := List.length_map _
  have lp : 0 < ((b.map dayD).length : Int) := by omega
  have hc := cellN_bd ns 0
  obtain ⟨hc0, hc1⟩ := hc
  refine ds_seq (ds_setE (n := true) (d' := .int (cellN ns 0)) (by fail "g") (by rfl) (Nat.lt_of_sub_eq_succ rfl) ?_)
  generalize cellN ns 0 = c at hc0 hc1
  have d0 : 0 ≤ c % ((b.length : Nat) : Int) := Int.emod_nonneg _ (by omega)
  have d1 : c % ((b.length : Nat) : Int) < (b.length : Nat) := Int.emod_lt_of_pos _ (by omega)
  have o0 : 0 ≤ c / 8 % ((b.length : Nat) : Int) := Int.emod_nonneg _ (by omega)
  have o1 : c / 8 % ((b.length : Nat) : Int) < (b.length : Nat) := Int.emod_lt_of_pos _ (by omega)
  refine ds_seq (ds_setE (n := true) (d' := .int (c % ((b.length : Nat) : Int))) (by fail "g") (by rw [ll]) (Nat.lt_of_sub_eq_succ rfl) ?_)
  refine ds_seq (ds_setE (n := true) (d' := .int (c / 8 % ((b.length : Nat) : Int))) (by fail "g") (by rw [ll]) (Nat.lt_of_sub_eq_succ rfl) ?_)
  generalize c % ((b.length : Nat) : Int) = day at d0 d1
  generalize c / 8 % ((b.length : Nat) : Int) = oth at o0 o1
  refine ds_cut (fun G => ∃ x y z u v, G = [some (.sh false (.list (ns.map .int))), some (.sh true (bookD b)), some (.sh true (.int c)), some (.sh true (.int day)), some (.sh true (.int oth)), x, y, z, u, v]) ?_ ?_
  · refine ds_for (n := true) (di_listS (ds := [.tuple [.int day, .int oth], .tuple [.int oth, .int day], .tuple [.int day, .int day]]) (by fail "g")) (fun _ G => ∃ x y z u v, G = [some (.sh false (.list (ns.map .int))), some (.sh true (bookD b)), some (.sh true (.int c)), some (.sh true (.int day)), some (.sh true (.int oth)), x, y, z, u, v]) ⟨_, _, _, _, _, rfl⟩ ?_ (fun G h => h)
    rintro k d G hd ⟨x, y, z, u, v, rfl⟩
    obtain ⟨p, q, rfl, p0, p1, q0, q1⟩ : ∃ p q : Int, d = .tuple [.int p, .int q] ∧ 0 ≤ p ∧ p < (b.length : Nat) ∧ 0 ≤ q ∧ q < (b.length : Nat) := by
      have := List.mem_of_getElem? hd
      rcases List.mem_cons.mp this with h | h
      · exact ⟨_, _, h, d0, d1, o0, o1⟩
      rcases List.mem_cons.mp h with h | h
      · exact ⟨_, _, h, o0, o1, d0, d1⟩
      rcases List.mem_cons.mp h with h | h
      · exact ⟨_, _, h, d0, d1, d0, d1⟩
      · cases h
    refine dg_tup rfl (dgs_name (Nat.lt_of_sub_eq_succ rfl) (dgs_name (Nat.lt_of_sub_eq_succ rfl) (dgs_nil ?_)))
    refine ds_seq (ds_setE (n := true) (d' := .int (costN b p.toNat q.toNat)) (call_p_cost (by fail "g") hw p0 p1 q0 q1) rfl (Nat.lt_of_sub_eq_succ rfl) ?_)
    refine ds_if (b := false) (dt_to (dt_or (dt_not (dt_B (call_l_int (by fail "g")))) (fun _ => dt_test (de_neI (by fail "g") (call_l_cost (b := b) (by fail "g") hw p0 p1 q0 q1)))) ?_) (fun hb => by cases hb) (fun _ => ds_next ⟨_, _, _, _, _, rfl⟩)
    simp [isI]
  · rintro G ⟨x, y, z, u, v, rfl⟩
    refine ds_cut (fun G => ∃ x y z u v, G = [some (.sh false (.list (ns.map .int))), some (.sh true (bookD b)), some (.sh true (.int c)), some (.sh true (.int day)), some (.sh true (.int oth)), x, y, z, u, v]) ?_ ?_
    · refine ds_forR (q := b.length) (by fail "g") (by rw [ll]) (by omega) (fun _ G => ∃ x y z u v, G = [some (.sh false (.list (ns.map .int))), some (.sh true (bookD b)), some (.sh true (.int c)), some (.sh true (.int day)), some (.sh true (.int oth)), x, y, z, u, v]) ⟨_, _, _, _, _, rfl⟩ ?_ ?_ (fun G h => h)
      · rintro k G ⟨x, y, z, u, v, rfl⟩; exact (Nat.lt_of_sub_eq_succ rfl)
      · rintro k G hk ⟨x, y, z, u, v, rfl⟩
        have p0 : (0 : Int) ≤ (k : Nat) := by omega
        have p1 : ((k : Nat) : Int) < (b.length : Nat) := by omega
        refine ds_seq (ds_setE (n := true) (d' := .int (costN b ((k : Nat) : Int).toNat ((k : Nat) : Int).toNat)) (call_p_purse (by fail "g") hw p0 p1) rfl (Nat.lt_of_sub_eq_succ rfl) ?_)
        refine ds_if (b := false) (dt_to (dt_or (dt_not (dt_B (call_l_int (by fail "g")))) (fun _ => dt_test (de_neI (by fail "g") (call_l_cost (b := b) (by fail "g") hw p0 p1 p0 p1)))) ?_) (fun hb => by cases hb) (fun _ => ds_next ⟨_, _, _, _, _, rfl⟩)
        simp [isI]
    · rintro G ⟨x, y, z, u, v, rfl⟩
      have p3 := pkx3 (x := 0) (y := c / 64 % 9) (z := c / 64) (Int.emod_nonneg (c / 64) (show (3 : Int) ≠ 0 by decide)) (Int.emod_lt_of_pos (c / 64) (by decide))
      have fn := farN_nn hc0
      refine ds_seq (ds_setE (n := true) (d' := .int (farN c)) (by fail "g") (by rfl) (Nat.lt_of_sub_eq_succ rfl) ?_)
      refine ds_cut (fun G => ∃ x y z u v, G = [some (.sh false (.list (ns.map .int))), some (.sh true (bookD b)), some (.sh true (.int c)), some (.sh true (.int day)), some (.sh true (.int oth)), x, y, z, u, v]) ?_ ?_
      · refine ds_for (n := true) (di_listS (ds := [.int (((b.map dayD).length : Nat) + farN c), .int (-1 - farN c)]) (by fail "g")) (fun _ G => ∃ x y z u v, G = [some (.sh false (.list (ns.map .int))), some (.sh true (bookD b)), some (.sh true (.int c)), some (.sh true (.int day)), some (.sh true (.int oth)), x, y, z, u, v]) ⟨_, _, _, _, _, rfl⟩ ?_ (fun G h => h)
        rintro k d G hd ⟨x, y, z, u, v, rfl⟩
        obtain ⟨p, rfl, hp⟩ : ∃ p : Int, d = .int p ∧ NoD b p := by
          have := List.mem_of_getElem? hd
          rcases List.mem_cons.mp this with h | h
          · exact ⟨_, h, .inr (by rw [ll]; omega)⟩
          rcases List.mem_cons.mp h with h | h
          · exact ⟨_, h, .inl (by omega)⟩
          · cases h
        refine dg_name (Nat.lt_of_sub_eq_succ rfl) ?_
        have r1 : ∀ j, Askd 0 0 b p j := fun j => ⟨fun _ => .inl hp, fun h => absurd rfl h⟩
        have r2 : Askd 0 0 b day p := ⟨fun _ => .inr ⟨d0, d1, hp⟩, fun h => absurd rfl h⟩
        have r3 : Askd 1 0 b p p := ⟨fun h => absurd h (by decide), fun _ => hp⟩
        refine ds_seq (ds_if (b := false) (dt_to (dt_or (dt_not (dt_B (call_l_refused (b := b) (by fail "g") (r1 day)))) (fun _ => dt_not (dt_B (call_l_refused (b := b) (by fail "g") r2)))) rfl) (fun hb => by cases hb) (fun _ => ds_next ?_))
        exact ds_if (b := false) (dt_to (dt_or (dt_not (dt_B (call_l_refused (b := b) (by fail "g") (r1 p)))) (fun _ => dt_not (dt_B (call_l_refused (b := b) (by fail "g") r3)))) rfl) (fun hb => by cases hb) (fun _ => ds_next ⟨_, _, _, _, _, rfl⟩)
      · rintro G ⟨x, y, z, u, v, rfl⟩
        exact ds_retE (n := true) (d' := .bool true) (de_eqI (call_p_cost (b := b) (by fail "g") hw d0 d1 o0 o1) (call_l_cost (b := b) (by fail "g") hw d0 d1 o0 o1)) (by simp) rfl

/-! ### the text -/
def top (i : Nat) : Stmt := PySem.Challenge.pw_tastesbook_k04_costs.main.body.getD i (.Pass ⟨0, 0, 0, 0⟩)
abbrev s_p_known : Stmt := top 4
abbrev s_p_paid : Stmt := top 5
abbrev s_p_cost : Stmt := top 6
abbrev s_p_purse : Stmt := top 7
abbrev s_l_cell : Stmt := top 9
abbrev s_l_int : Stmt := top 10
abbrev s_l_next : Stmt := top 11
abbrev s_l_shape : Stmt := top 12
abbrev s_l_best : Stmt := top 13
abbrev s_l_bought : Stmt := top 14
abbrev s_l_price : Stmt := top 15
abbrev s_l_day : Stmt := top 16
abbrev s_l_book : Stmt := top 17
abbrev s_l_cost : Stmt := top 18
abbrev s_l_asked : Stmt := top 19
abbrev s_l_refused : Stmt := top 20
abbrev s_law : Stmt := top 21
structure Blt (mg : Str → Option Value) : Prop where
  b_ValueError : mg "ValueError" = none
  b_bool : mg "bool" = none
  b_int : mg "int" = none
  b_isinstance : mg "isinstance" = none
  b_len : mg "len" = none
  b_min : mg "min" = none
  b_range : mg "range" = none
  b_sum : mg "sum" = none
  b_tuple : mg "tuple" = none
  b_zip : mg "zip" = none
section
variable {P : Program} {w : World} {K : PySem.W.Frag} {mg : Str → Option Value} {base : Heap} {c_NoDay c_TasteError : Addr}
theorem sc_p_known : FnScope N_p_known ["book", "day"] (defScope s_p_known) := ⟨rfl, rfl, rfl, by decide +kernel, rfl, by decide +kernel, by decide +kernel⟩
theorem ok_p_known (h : Here K mg "known" s_p_known ["book", "day"]) (B : Blt mg) (T_NoDay : ExF K mg "NoDay" c_NoDay) :
    DefOkX P w K mg base 1 "known" ["book", "day"] (sp_p_known K c_NoDay) :=
  mkDefX h sc_p_known len_p_known (fun f cdv A outer s H E hr => (pss_one (ps_if (pt_not (pt_chain op_leI op_ltI pe_int (pv 1) (pe_callB call_lenA (by rfl) B.b_len (by decide +kernel) (pa_cons (pv 0) pa_nil)))) (pss_one (ps_refuse T_NoDay rfl (takes_of rfl rfl rfl rfl) (by rfl))) pss_nil))) raw_p_known
theorem bd_p_known (kV doc pm : Value) (an : Option Addr) (cdv ct : Value) (us : List Value) (hl : us.length = 2) : bindArgs (PySem.W.fnOf "known" "known" (defArgs s_p_known) (defBody s_p_known) (defScope s_p_known) .none kV doc pm an cdv ct) ⟨us, []⟩ = pure ((["book", "day"] : List Str).zip us) :=
  match us, hl with | [_, _], _ => rfl
theorem sc_p_paid : FnScope N_p_paid ["prices", "amounts"] (defScope s_p_paid) := ⟨rfl, rfl, rfl, by decide +kernel, rfl, by decide +kernel, by decide +kernel⟩
theorem ok_p_paid (h : Here K mg "paid" s_p_paid ["prices", "amounts"]) (B : Blt mg) :
    DefOk P w K mg base 1 "paid" ["prices", "amounts"] (sp_p_paid K) :=
  mkDef h sc_p_paid (fun _ => rfl) (fun f cdv A outer s H E hr => (pss_one (ps_ret (pe_callB (call_sumA rfl) (by rfl) B.b_sum (by decide +kernel) (pa_cons (pe_lc (own := [("price", 2), ("amount", 3)]) rfl (sc_p_paid).nd (RZ.pi_zipA (by rfl) B.b_zip (pa_cons (pv 0) (pa_cons (pv 1) pa_nil))) (blkOk_by (own := [("price", 2), ("amount", 3)]) (N := N_p_paid) (sc := defScope s_p_paid) (by decide +kernel)) (fun _ _ _ _ _ => (pg_tup (by rfl) (pgs_cons (pg_name (i := 2) (sc_p_paid).nd rfl (Or.inl rfl)) (pgs_cons (pg_name (i := 3) (sc_p_paid).nd rfl (Or.inl rfl)) pgs_nil)))) (fun _ _ _ _ _ => pts_nil) (fun _ _ _ _ _ => (pe_op op_times (pv 2) (pv 3)))) pa_nil))))) ds_p_paid
theorem bd_p_paid (kV doc pm : Value) (an : Option Addr) (cdv ct : Value) (us : List Value) (hl : us.length = 2) : bindArgs (PySem.W.fnOf "paid" "paid" (defArgs s_p_paid) (defBody s_p_paid) (defScope s_p_paid) .none kV doc pm an cdv ct) ⟨us, []⟩ = pure ((["prices", "amounts"] : List Str).zip us) :=
  match us, hl with | [_, _], _ => rfl
theorem sc_p_cost : FnScope N_p_cost ["book", "day", "other"] (defScope s_p_cost) := ⟨rfl, rfl, rfl, by decide +kernel, rfl, by decide +kernel, by decide +kernel⟩
theorem ok_p_cost (h : Here K mg "cost" s_p_cost ["book", "day", "other"])
    (D_p_known : DefOkX P w K mg base 1 "known" ["book", "day"] (sp_p_known K c_NoDay))
    (D_p_paid : DefOk P w K mg base 1 "paid" ["prices", "amounts"] (sp_p_paid K)) :
    DefOkX P w K mg base 2 "cost" ["book", "day", "other"] (sp_p_cost K c_NoDay) :=
  mkDefX h sc_p_cost len_p_cost (fun f cdv A outer s H E hr => (pss_cons (ps_expr (pe_callX D_p_known (hr.mono (by decide)) (by rfl) (passes_call (takes_of rfl rfl rfl rfl) (fun _ _ _ _ h => h)) (pa_cons (pv 0) (pa_cons (pv 1) pa_nil))))
    (pss_cons (ps_expr (pe_callX D_p_known (hr.mono (by decide)) (by rfl) (passes_call (takes_of rfl rfl rfl rfl) (fun _ _ _ _ h => h)) (pa_cons (pv 0) (pa_cons (pv 2) pa_nil))))
    (pss_one (ps_ret (pe_callD D_p_paid (hr.mono (by decide)) (by rfl) (pa_cons (pe_ix (ix_sub (hu_of hr)) (pe_ix (ix_sub (hu_of hr)) (pv 0) (pv 1) (fun _ _ => rfl)) pe_int (fun _ _ => rfl)) (pa_cons (pe_ix (ix_sub (hu_of hr)) (pe_ix (ix_sub (hu_of hr)) (pv 0) (pv 2) (fun _ _ => rfl)) pe_int (fun _ _ => rfl)) pa_nil)))))))) raw_p_cost
theorem bd_p_cost (kV doc pm : Value) (an : Option Addr) (cdv ct : Value) (us : List Value) (hl : us.length = 3) : bindArgs (PySem.W.fnOf "cost" "cost" (defArgs s_p_cost) (defBody s_p_cost) (defScope s_p_cost) .none kV doc pm an cdv ct) ⟨us, []⟩ = pure ((["book", "day", "other"] : List Str).zip us) :=
  match us, hl with | [_, _, _], _ => rfl
theorem sc_p_purse : FnScope N_p_purse ["book", "day"] (defScope s_p_purse) := ⟨rfl, rfl, rfl, by decide +kernel, rfl, by decide +kernel, by decide +kernel⟩
theorem ok_p_purse (h : Here K mg "purse" s_p_purse ["book", "day"])
    (D_p_cost : DefOkX P w K mg base 2 "cost" ["book", "day", "other"] (sp_p_cost K c_NoDay)) :
    DefOkX P w K mg base 3 "purse" ["book", "day"] (sp_p_purse K c_NoDay) :=
  mkDefX h sc_p_purse len_p_purse (fun f cdv A outer s H E hr => (pss_one (ps_ret (pe_callX D_p_cost (hr.mono (by decide)) (by rfl) (passes_call (takes_of rfl rfl rfl rfl) (fun _ _ _ _ h => h)) (pa_cons (pv 0) (pa_cons (pv 1) (pa_cons (pv 1) pa_nil))))))) raw_p_purse
theorem bd_p_purse (kV doc pm : Value) (an : Option Addr) (cdv ct : Value) (us : List Value) (hl : us.length = 2) : bindArgs (PySem.W.fnOf "purse" "purse" (defArgs s_p_purse) (defBody s_p_purse) (defScope s_p_purse) .none kV doc pm an cdv ct) ⟨us, []⟩ = pure ((["book", "day"] : List Str).zip us) :=
  match us, hl with | [_, _], _ => rfl
theorem sc_l_cell : FnScope N_l_cell ["_law_script", "_law_k"] (defScope s_l_cell) := ⟨rfl, rfl, rfl, by decide +kernel, rfl, by decide +kernel, by decide +kernel⟩
theorem ok_l_cell (h : Here K mg "_law_cell" s_l_cell ["_law_script", "_law_k"]) (B : Blt mg) :
    DefOk P w K mg base 1 "_law_cell" ["_law_script", "_law_k"] (sp_l_cell K) :=
  mkDef h sc_l_cell (fun _ => rfl) (fun f cdv A outer s H E hr => (pss_cons (ps_if (pt_cmpR op_ltI (pv 1) (pe_callB call_lenA (by rfl) B.b_len (by decide +kernel) (pa_cons (pv 0) pa_nil)) (nomark _)) (pss_one (ps_ret (pe_op op_modI (pe_op op_times (pe_op op_plusQ (pe_ix (ix_sub (hu_of hr)) (pv 0) (pv 1) (fun _ _ => rfl)) pe_int) pe_int) (pe_op op_powI pe_int pe_int)))) pss_nil)
    (pss_cons (ps_set (i := 2) (sc_l_cell).nd rfl (Or.inl rfl) (pe_op op_plusQ (pe_op op_times (pe_op op_times (pv 1) (pv 1)) pe_int) pe_int))
    (pss_cons (ps_if (pt_cmpR op_gtI (pe_callB call_lenA (by rfl) B.b_len (by decide +kernel) (pa_cons (pv 0) pa_nil)) pe_int (nomark _)) (pss_one (ps_set (i := 2) (sc_l_cell).nd rfl (Or.inl rfl) (pe_op op_plusQ (pv 2) (pe_op op_times (pe_op op_modI (pe_ix (ix_sub (hu_of hr)) (pv 0) (pe_op op_modI (pe_op op_times (pv 1) pe_int) (pe_callB call_lenA (by rfl) B.b_len (by decide +kernel) (pa_cons (pv 0) pa_nil))) (fun _ _ => rfl)) (pe_op op_powI pe_int pe_int)) pe_int)))) pss_nil)
    (pss_one (ps_ret (pe_op op_modI (pe_op op_times (pe_op op_modI (pe_op op_times (pv 2) (pv 2)) pe_int) pe_int) (pe_op op_powI pe_int pe_int)))))))) ds_l_cell
theorem bd_l_cell (kV doc pm : Value) (an : Option Addr) (cdv ct : Value) (us : List Value) (hl : us.length = 2) : bindArgs (PySem.W.fnOf "_law_cell" "_law_cell" (defArgs s_l_cell) (defBody s_l_cell) (defScope s_l_cell) .none kV doc pm an cdv ct) ⟨us, []⟩ = pure ((["_law_script", "_law_k"] : List Str).zip us) :=
  match us, hl with | [_, _], _ => rfl
theorem sc_l_int : FnScope N_l_int ["_law_found"] (defScope s_l_int) := ⟨rfl, rfl, rfl, by decide +kernel, rfl, by decide +kernel, by decide +kernel⟩
theorem ok_l_int (h : Here K mg "_law_int" s_l_int ["_law_found"]) (B : Blt mg) :
    DefOk P w K mg base 1 "_law_int" ["_law_found"] (sp_l_int K) :=
  mkDef h sc_l_int (fun _ => rfl) (fun f cdv A outer s H E hr => (pss_one (ps_ret (pe_and (pe_callB call_isiA (by rfl) B.b_isinstance (by decide +kernel) (pa_cons (pv 0) (pa_cons (pe_ty "int" (by rfl) B.b_int (by decide +kernel)) pa_nil))) (pe_one (pe_not (pe_callB call_isiA (by rfl) B.b_isinstance (by decide +kernel) (pa_cons (pv 0) (pa_cons (pe_ty "bool" (by rfl) B.b_bool (by decide +kernel)) pa_nil))))))))) ds_l_int
theorem bd_l_int (kV doc pm : Value) (an : Option Addr) (cdv ct : Value) (us : List Value) (hl : us.length = 1) : bindArgs (PySem.W.fnOf "_law_int" "_law_int" (defArgs s_l_int) (defBody s_l_int) (defScope s_l_int) .none kV doc pm an cdv ct) ⟨us, []⟩ = pure ((["_law_found"] : List Str).zip us) :=
  match us, hl with | [_], _ => rfl
theorem sc_l_next : FnScope N_l_next ["_law_cell_here"] (defScope s_l_next) := ⟨rfl, rfl, rfl, by decide +kernel, rfl, by decide +kernel, by decide +kernel⟩
theorem ok_l_next (h : Here K mg "_law_next" s_l_next ["_law_cell_here"]) :
    DefOk P w K mg base 1 "_law_next" ["_law_cell_here"] (sp_l_next K) :=
  mkDef h sc_l_next (fun _ => rfl) (fun f cdv A outer s H E hr => (pss_one (ps_ret (pe_op op_modI (pe_op op_plusQ (pe_op op_times (pv 0) pe_int) pe_int) (pe_op op_powI pe_int pe_int))))) ds_l_next
theorem bd_l_next (kV doc pm : Value) (an : Option Addr) (cdv ct : Value) (us : List Value) (hl : us.length = 1) : bindArgs (PySem.W.fnOf "_law_next" "_law_next" (defArgs s_l_next) (defBody s_l_next) (defScope s_l_next) .none kV doc pm an cdv ct) ⟨us, []⟩ = pure ((["_law_cell_here"] : List Str).zip us) :=
  match us, hl with | [_], _ => rfl
theorem sc_l_shape : FnScope N_l_shape ["_law_cell_here", "_law_wares"] (defScope s_l_shape) := ⟨rfl, rfl, rfl, by decide +kernel, rfl, by decide +kernel, by decide +kernel⟩
theorem ok_l_shape (h : Here K mg "_law_shape" s_l_shape ["_law_cell_here", "_law_wares"]) (B : Blt mg)
    (D_l_next : DefOk P w K mg base 1 "_law_next" ["_law_cell_here"] (sp_l_next K)) :
    DefOk P w K mg base 2 "_law_shape" ["_law_cell_here", "_law_wares"] (sp_l_shape K) :=
  mkDef h sc_l_shape (fun _ => rfl) (fun f cdv A outer s H E hr => (pss_cons (ps_set (i := 2) (sc_l_shape).nd rfl (Or.inl rfl) (pe_lst pa_nil))
    (pss_cons (ps_for PassesOwn.never rfl (pi_range1 (by rfl) B.b_range (pa_cons (pv 1) pa_nil)) (pg_name (i := 3) (sc_l_shape).nd rfl (Or.inl rfl)) (pss_cons (ps_set (i := 0) (sc_l_shape).nd rfl (Or.inl rfl) (pe_callD D_l_next (hr.mono (by decide)) (by rfl) (pa_cons (pv 0) pa_nil)))
    (pss_one (ps_expr (pe_bm PySem.F.plainAttrs_list PySem.F.slot_list_append PySem.F.type_list_append mt_append (pv 2) (pa_cons (pe_op op_modI (pe_op op_floor (pv 0) (pe_op op_powI pe_int pe_int)) pe_int) pa_nil))))))
    (pss_cons (ps_if (pt_cmpR (op_eqD hr.units) (pe_callB (call_sumA rfl) (by rfl) B.b_sum (by decide +kernel) (pa_cons (pv 2) pa_nil)) pe_int (nomark _)) (pss_one (ps_asg pe_int (pg_sub (pv 2) pe_int (set_any (hu_of hr))))) pss_nil)
    (pss_one (ps_ret (pv 2))))))) ds_l_shape
theorem bd_l_shape (kV doc pm : Value) (an : Option Addr) (cdv ct : Value) (us : List Value) (hl : us.length = 2) : bindArgs (PySem.W.fnOf "_law_shape" "_law_shape" (defArgs s_l_shape) (defBody s_l_shape) (defScope s_l_shape) .none kV doc pm an cdv ct) ⟨us, []⟩ = pure ((["_law_cell_here", "_law_wares"] : List Str).zip us) :=
  match us, hl with | [_, _], _ => rfl
theorem sc_l_best : FnScope N_l_best ["_law_prices", "_law_shape_here", "_law_j"] (defScope s_l_best) := ⟨rfl, rfl, rfl, by decide +kernel, rfl, by decide +kernel, by decide +kernel⟩
theorem ok_l_best (h : Here K mg "_law_best" s_l_best ["_law_prices", "_law_shape_here", "_law_j"]) (B : Blt mg) :
    DefOk P w K mg base 1 "_law_best" ["_law_prices", "_law_shape_here", "_law_j"] (sp_l_best K) :=
  mkDef h sc_l_best (fun _ => rfl) (fun f cdv A outer s H E hr => (pss_cons (ps_for PassesOwn.never rfl (pi_range1 (by rfl) B.b_range (pa_cons (pe_callB call_lenA (by rfl) B.b_len (by decide +kernel) (pa_cons (pv 0) pa_nil)) pa_nil)) (pg_name (i := 3) (sc_l_best).nd rfl (Or.inl rfl)) (pss_one (ps_if (pt_cmpR op_gtI (pe_op op_times (pe_op op_plusQ pe_int (pe_ix (ix_sub (hu_of hr)) (pv 1) (pv 3) (fun _ _ => rfl))) (pe_ix (ix_sub (hu_of hr)) (pv 0) (pv 2) (fun _ _ => rfl))) (pe_op op_times (pe_op op_plusQ pe_int (pe_ix (ix_sub (hu_of hr)) (pv 1) (pv 2) (fun _ _ => rfl))) (pe_ix (ix_sub (hu_of hr)) (pv 0) (pv 3) (fun _ _ => rfl))) (nomark _)) (pss_one (ps_ret pe_int)) pss_nil)))
    (pss_one (ps_ret pe_int)))) ds_l_best
theorem bd_l_best (kV doc pm : Value) (an : Option Addr) (cdv ct : Value) (us : List Value) (hl : us.length = 3) : bindArgs (PySem.W.fnOf "_law_best" "_law_best" (defArgs s_l_best) (defBody s_l_best) (defScope s_l_best) .none kV doc pm an cdv ct) ⟨us, []⟩ = pure ((["_law_prices", "_law_shape_here", "_law_j"] : List Str).zip us) :=
  match us, hl with | [_, _, _], _ => rfl
theorem sc_l_bought : FnScope N_l_bought ["_law_way", "_law_prices", "_law_amounts", "_law_shape_here", "_law_times"] (defScope s_l_bought) := ⟨rfl, rfl, rfl, by decide +kernel, rfl, by decide +kernel, by decide +kernel⟩
theorem ok_l_bought (h : Here K mg "_law_bought" s_l_bought ["_law_way", "_law_prices", "_law_amounts", "_law_shape_here", "_law_times"]) (B : Blt mg)
    (D_l_best : DefOk P w K mg base 1 "_law_best" ["_law_prices", "_law_shape_here", "_law_j"] (sp_l_best K)) :
    DefOk P w K mg base 2 "_law_bought" ["_law_way", "_law_prices", "_law_amounts", "_law_shape_here", "_law_times"] (sp_l_bought K) :=
  mkDefR h sc_l_bought len_l_bought (fun f cdv A outer s H E hr => (pss_cons (ps_if (pt_cmpR (op_eqD hr.units) (pv 0) pe_int (nomark _)) (pss_one (ps_ret (pe_lc (own := [("_law_k", 5)]) rfl (sc_l_bought).nd (pi_range1 (by rfl) B.b_range (pa_cons (pe_callB call_lenA (by rfl) B.b_len (by decide +kernel) (pa_cons (pv 1) pa_nil)) pa_nil)) (blkOk_by (own := [("_law_k", 5)]) (N := N_l_bought) (sc := defScope s_l_bought) (by decide +kernel)) (fun _ _ _ _ _ => (pg_name (i := 5) (sc_l_bought).nd rfl (Or.inl rfl))) (fun _ _ _ _ _ => pts_nil) (fun _ _ _ _ _ => (pe_op op_times (pv 4) (pe_ix (ix_sub (hu_of hr)) (pv 3) (pv 5) (fun _ _ => rfl))))))) pss_nil)
    (pss_cons (ps_if (pt_cmpR (op_eqD hr.units) (pv 0) pe_int (nomark _)) (pss_one (ps_ret (pe_lc (own := [("_law_k", 5)]) rfl (sc_l_bought).nd (pi_range1 (by rfl) B.b_range (pa_cons (pe_callB call_lenA (by rfl) B.b_len (by decide +kernel) (pa_cons (pv 1) pa_nil)) pa_nil)) (blkOk_by (own := [("_law_k", 5)]) (N := N_l_bought) (sc := defScope s_l_bought) (by decide +kernel)) (fun _ _ _ _ _ => (pg_name (i := 5) (sc_l_bought).nd rfl (Or.inl rfl))) (fun _ _ _ _ _ => pts_nil) (fun _ _ _ _ _ => (pe_op op_floor (pe_op op_times (pe_op op_times (pv 4) (pe_ix (ix_sub (hu_of hr)) (pv 3) (pv 5) (fun _ _ => rfl))) pe_int) (pe_ix (ix_sub (hu_of hr)) (pv 1) (pv 5) (fun _ _ => rfl))))))) pss_nil)
    (pss_cons (ps_if (pt_cmpR (op_eqD hr.units) (pv 0) pe_int (nomark _)) (pss_one (ps_ret (pe_lc (own := [("_law_k", 5)]) rfl (sc_l_bought).nd (pi_range1 (by rfl) B.b_range (pa_cons (pe_callB call_lenA (by rfl) B.b_len (by decide +kernel) (pa_cons (pv 1) pa_nil)) pa_nil)) (blkOk_by (own := [("_law_k", 5)]) (N := N_l_bought) (sc := defScope s_l_bought) (by decide +kernel)) (fun _ _ _ _ _ => (pg_name (i := 5) (sc_l_bought).nd rfl (Or.inl rfl))) (fun _ _ _ _ _ => pts_nil) (fun _ _ _ _ _ => (pe_op op_times (pe_op op_plusQ pe_int (pe_ix (ix_sub (hu_of hr)) (pv 2) (pv 5) (fun _ _ => rfl))) (pe_callD D_l_best (hr.mono (by decide)) (by rfl) (pa_cons (pv 1) (pa_cons (pv 3) (pa_cons (pv 5) pa_nil))))))))) pss_nil)
    (pss_cons (ps_if (pt_cmpR (op_eqD hr.units) (pv 0) pe_int (nomark _)) (pss_one (ps_ret (pe_lc (own := [("_law_k", 5)]) rfl (sc_l_bought).nd (pi_range1 (by rfl) B.b_range (pa_cons (pe_callB call_lenA (by rfl) B.b_len (by decide +kernel) (pa_cons (pv 1) pa_nil)) pa_nil)) (blkOk_by (own := [("_law_k", 5)]) (N := N_l_bought) (sc := defScope s_l_bought) (by decide +kernel)) (fun _ _ _ _ _ => (pg_name (i := 5) (sc_l_bought).nd rfl (Or.inl rfl))) (fun _ _ _ _ _ => pts_nil) (fun _ _ _ _ _ => (pe_op op_times (pe_op op_plusQ pe_int (pe_ix (ix_sub (hu_of hr)) (pv 2) (pv 5) (fun _ _ => rfl))) (pe_callTy call_intA (by rfl) B.b_int (by decide +kernel) (pa_cons (pe_cmpR (op_eqD hr.units) (pe_ix (ix_sub (hu_of hr)) (pv 1) (pv 5) (fun _ _ => rfl)) (pe_callB (call_minA rfl) (by rfl) B.b_min (by decide +kernel) (pa_cons (pv 1) pa_nil)) (nomark _)) pa_nil))))))) pss_nil)
    (pss_cons (ps_if (pt_cmpR (op_eqD hr.units) (pv 0) pe_int (nomark _)) (pss_one (ps_ret (pe_lc (own := [("_law_price_here", 6)]) rfl (sc_l_bought).nd (pi_seq (pv 1)) (blkOk_by (own := [("_law_price_here", 6)]) (N := N_l_bought) (sc := defScope s_l_bought) (by decide +kernel)) (fun _ _ _ _ _ => (pg_name (i := 6) (sc_l_bought).nd rfl (Or.inl rfl))) (fun _ _ _ _ _ => pts_nil) (fun _ _ _ _ _ => (pe_op op_subI pe_int (pv 6)))))) pss_nil)
    (pss_one (ps_ret (pv 2))))))))) raw_l_bought
theorem bd_l_bought (kV doc pm : Value) (an : Option Addr) (cdv ct : Value) (us : List Value) (hl : us.length = 5) : bindArgs (PySem.W.fnOf "_law_bought" "_law_bought" (defArgs s_l_bought) (defBody s_l_bought) (defScope s_l_bought) .none kV doc pm an cdv ct) ⟨us, []⟩ = pure ((["_law_way", "_law_prices", "_law_amounts", "_law_shape_here", "_law_times"] : List Str).zip us) :=
  match us, hl with | [_, _, _, _, _], _ => rfl
theorem sc_l_price : FnScope N_l_price ["_law_way", "_law_high"] (defScope s_l_price) := ⟨rfl, rfl, rfl, by decide +kernel, rfl, by decide +kernel, by decide +kernel⟩
theorem ok_l_price (h : Here K mg "_law_price" s_l_price ["_law_way", "_law_high"]) :
    DefOk P w K mg base 1 "_law_price" ["_law_way", "_law_high"] (sp_l_price K) :=
  mkDef h sc_l_price (fun _ => rfl) (fun f cdv A outer s H E hr => (pss_cons (ps_if (pt_cmpR (op_eqD hr.units) (pv 0) pe_int (nomark _)) (pss_one (ps_ret (pe_op op_plusQ pe_int (pe_op op_modI (pv 1) pe_int)))) pss_nil)
    (pss_cons (ps_if (pt_cmpR (op_eqD hr.units) (pv 0) pe_int (nomark _)) (pss_one (ps_ret (pe_op op_plusQ pe_int (pe_op op_modI (pv 1) pe_int)))) pss_nil)
    (pss_cons (ps_if (pt_cmpR (op_eqD hr.units) (pv 0) pe_int (nomark _)) (pss_one (ps_ret (pe_op op_plusQ pe_int (pe_op op_modI (pv 1) (pe_op op_powI pe_int pe_int))))) pss_nil)
    (pss_cons (ps_if (pt_cmpR (op_eqD hr.units) (pv 0) pe_int (nomark _)) (pss_one (ps_ret (pe_ix (ix_sub (hu_of hr)) (pe_lst (pa_cons pe_int (pa_cons pe_int (pa_cons pe_int (pa_cons pe_int (pa_cons pe_int (pa_cons pe_int pa_nil))))))) (pe_op op_modI (pv 1) pe_int) (fun _ _ => rfl)))) pss_nil)
    (pss_one (ps_ret (pe_op op_plusQ pe_int (pe_op op_modI (pv 1) pe_int))))))))) ds_l_price
theorem bd_l_price (kV doc pm : Value) (an : Option Addr) (cdv ct : Value) (us : List Value) (hl : us.length = 2) : bindArgs (PySem.W.fnOf "_law_price" "_law_price" (defArgs s_l_price) (defBody s_l_price) (defScope s_l_price) .none kV doc pm an cdv ct) ⟨us, []⟩ = pure ((["_law_way", "_law_high"] : List Str).zip us) :=
  match us, hl with | [_, _], _ => rfl
theorem sc_l_day : FnScope N_l_day ["_law_cell_here", "_law_way", "_law_shape_here"] (defScope s_l_day) := ⟨rfl, rfl, rfl, by decide +kernel, rfl, by decide +kernel, by decide +kernel⟩
theorem ok_l_day (h : Here K mg "_law_day" s_l_day ["_law_cell_here", "_law_way", "_law_shape_here"]) (B : Blt mg)
    (D_l_next : DefOk P w K mg base 1 "_law_next" ["_law_cell_here"] (sp_l_next K))
    (D_l_price : DefOk P w K mg base 1 "_law_price" ["_law_way", "_law_high"] (sp_l_price K))
    (D_l_bought : DefOk P w K mg base 2 "_law_bought" ["_law_way", "_law_prices", "_law_amounts", "_law_shape_here", "_law_times"] (sp_l_bought K)) :
    DefOk P w K mg base 3 "_law_day" ["_law_cell_here", "_law_way", "_law_shape_here"] (sp_l_day K) :=
  mkDef h sc_l_day (fun _ => rfl) (fun f cdv A outer s H E hr => (pss_cons (ps_set (i := 3) (sc_l_day).nd rfl (Or.inl rfl) (pe_lst pa_nil))
    (pss_cons (ps_set (i := 4) (sc_l_day).nd rfl (Or.inl rfl) (pe_lst pa_nil))
    (pss_cons (ps_for PassesOwn.never rfl (pi_range1 (by rfl) B.b_range (pa_cons (pe_callB call_lenA (by rfl) B.b_len (by decide +kernel) (pa_cons (pv 2) pa_nil)) pa_nil)) (pg_name (i := 5) (sc_l_day).nd rfl (Or.inl rfl)) (pss_cons (ps_set (i := 0) (sc_l_day).nd rfl (Or.inr rfl) (pe_callD D_l_next (hr.mono (by decide)) (by rfl) (pa_cons (pv 0) pa_nil)))
    (pss_cons (ps_set (i := 6) (sc_l_day).nd rfl (Or.inl rfl) (pe_op op_floor (pv 0) (pe_op op_powI pe_int pe_int)))
    (pss_cons (ps_expr (pe_bm PySem.F.plainAttrs_list PySem.F.slot_list_append PySem.F.type_list_append mt_append (pv 3) (pa_cons (pe_callD D_l_price (hr.mono (by decide)) (by rfl) (pa_cons (pv 1) (pa_cons (pv 6) pa_nil))) pa_nil)))
    (pss_one (ps_expr (pe_bm PySem.F.plainAttrs_list PySem.F.slot_list_append PySem.F.type_list_append mt_append (pv 4) (pa_cons (pe_ix (ix_sub (hu_of hr)) (pe_lst (pa_cons (pe_op op_modI (pe_op op_floor (pv 6) pe_int) pe_int) (pa_cons (pe_op op_modI (pe_op op_floor (pv 6) (pe_op op_powI pe_int pe_int)) (pe_op op_powI pe_int pe_int)) pa_nil))) (pe_callTy call_intA (by rfl) B.b_int (by decide +kernel) (pa_cons (pe_cmpR (op_eqD hr.units) (pv 1) pe_int (nomark _)) pa_nil)) (fun _ _ => rfl)) pa_nil))))))))
    (pss_cons (ps_if (pt_cmpR (op_eqD hr.units) (pv 1) pe_int (nomark _)) (pss_cons (ps_set (i := 7) (sc_l_day).nd rfl (Or.inr rfl) (pe_op op_modI (pe_op op_floor (pv 0) (pe_op op_powI pe_int pe_int)) (pe_callB call_lenA (by rfl) B.b_len (by decide +kernel) (pa_cons (pv 3) pa_nil))))
    (pss_cons (ps_setLc (i := 3) (own := [("_law_k", 5)]) rfl (sc_l_day).nd rfl rfl (sw_true rfl rfl rfl (by decide +kernel)) (pi_range1 (by rfl) B.b_range (pa_cons (pe_callB call_lenA (by rfl) B.b_len (by decide +kernel) (pa_cons (pv 2) pa_nil)) pa_nil)) (blkOk_by (own := [("_law_k", 5)]) (N := N_l_day) (sc := defScope s_l_day) (by decide +kernel)) (fun _ _ _ _ _ => (pg_name (i := 5) (sc_l_day).nd rfl (Or.inl rfl))) (fun _ _ _ _ _ => pts_nil) (fun _ _ _ _ _ => (pe_ix (ix_sub (hu_of hr)) (pe_lst (pa_cons pe_int (pa_cons (pe_op op_plusQ pe_int (pe_op op_modI (pv 0) pe_int)) pa_nil))) (pe_callTy call_intA (by rfl) B.b_int (by decide +kernel) (pa_cons (pe_cmpR (op_eqD hr.units) (pv 5) (pe_op op_modI (pe_op op_plusQ (pv 7) pe_int) (pe_callB call_lenA (by rfl) B.b_len (by decide +kernel) (pa_cons (pv 2) pa_nil))) (nomark _)) pa_nil)) (fun _ _ => rfl))))
    (pss_cons (ps_asg pe_int (pg_sub (pv 3) (pv 7) (set_any (hu_of hr))))
    (pss_one (ps_setLc (i := 4) (own := [("_law_k", 5)]) rfl (sc_l_day).nd rfl rfl (sw_true rfl rfl rfl (by decide +kernel)) (pi_range1 (by rfl) B.b_range (pa_cons (pe_callB call_lenA (by rfl) B.b_len (by decide +kernel) (pa_cons (pv 2) pa_nil)) pa_nil)) (blkOk_by (own := [("_law_k", 5)]) (N := N_l_day) (sc := defScope s_l_day) (by decide +kernel)) (fun _ _ _ _ _ => (pg_name (i := 5) (sc_l_day).nd rfl (Or.inl rfl))) (fun _ _ _ _ _ => pts_nil) (fun _ _ _ _ _ => (pe_callTy call_intA (by rfl) B.b_int (by decide +kernel) (pa_cons (pe_cmpR (op_eqD hr.units) (pv 5) (pv 7) (nomark _)) pa_nil)))))))) pss_nil)
    (pss_cons (ps_set (i := 4) (sc_l_day).nd rfl (Or.inl rfl) (pe_callD D_l_bought (hr.mono (by decide)) (by rfl) (pa_cons (pv 1) (pa_cons (pv 3) (pa_cons (pv 4) (pa_cons (pv 2) (pa_cons (pe_op op_plusQ pe_int (pe_op op_modI (pe_op op_floor (pv 0) (pe_op op_powI pe_int pe_int)) pe_int)) pa_nil)))))))
    (pss_cons (ps_if (pt_cmpR (op_eqD hr.units) (pe_callB (call_sumA rfl) (by rfl) B.b_sum (by decide +kernel) (pa_cons (pv 4) pa_nil)) pe_int (nomark _)) (pss_one (ps_asg pe_int (pg_sub (pv 4) pe_int (set_any (hu_of hr))))) pss_nil)
    (pss_one (ps_ret (pe_tup (pa_cons (pe_callTy call_tupA (by rfl) B.b_tuple (by decide +kernel) (pa_cons (pv 3) pa_nil)) (pa_cons (pe_callTy call_tupA (by rfl) B.b_tuple (by decide +kernel) (pa_cons (pv 4) pa_nil)) pa_nil)))))))))))) ds_l_day
theorem bd_l_day (kV doc pm : Value) (an : Option Addr) (cdv ct : Value) (us : List Value) (hl : us.length = 3) : bindArgs (PySem.W.fnOf "_law_day" "_law_day" (defArgs s_l_day) (defBody s_l_day) (defScope s_l_day) .none kV doc pm an cdv ct) ⟨us, []⟩ = pure ((["_law_cell_here", "_law_way", "_law_shape_here"] : List Str).zip us) :=
  match us, hl with | [_, _, _], _ => rfl
theorem sc_l_book : FnScope N_l_book ["_law_script", "_law_start", "_law_most", "_law_wares"] (defScope s_l_book) := ⟨rfl, rfl, rfl, by decide +kernel, rfl, by decide +kernel, by decide +kernel⟩
theorem ok_l_book (h : Here K mg "_law_book" s_l_book ["_law_script", "_law_start", "_law_most", "_law_wares"]) (B : Blt mg)
    (D_l_cell : DefOk P w K mg base 1 "_law_cell" ["_law_script", "_law_k"] (sp_l_cell K))
    (D_l_shape : DefOk P w K mg base 2 "_law_shape" ["_law_cell_here", "_law_wares"] (sp_l_shape K))
    (D_l_day : DefOk P w K mg base 3 "_law_day" ["_law_cell_here", "_law_way", "_law_shape_here"] (sp_l_day K)) :
    DefOk P w K mg base 4 "_law_book" ["_law_script", "_law_start", "_law_most", "_law_wares"] (sp_l_book K) :=
  mkDef h sc_l_book (fun _ => rfl) (fun f cdv A outer s H E hr => (pss_cons (ps_set (i := 4) (sc_l_book).nd rfl (Or.inl rfl) (pe_callD D_l_cell (hr.mono (by decide)) (by rfl) (pa_cons (pv 0) (pa_cons (pv 1) pa_nil))))
    (pss_cons (ps_set (i := 5) (sc_l_book).nd rfl (Or.inr rfl) (pe_ix (ix_sub (hu_of hr)) (pe_lst (pa_cons pe_int (pa_cons pe_int (pa_cons pe_int (pa_cons pe_int (pa_cons pe_int (pa_cons pe_int (pa_cons pe_int (pa_cons pe_int (pa_cons pe_int (pa_cons pe_int pa_nil))))))))))) (pe_op op_modI (pe_op op_floor (pv 4) pe_int) pe_int) (fun _ _ => rfl)))
    (pss_cons (ps_set (i := 6) (sc_l_book).nd rfl (Or.inr rfl) (pe_callD D_l_shape (hr.mono (by decide)) (by rfl) (pa_cons (pv 4) (pa_cons (pe_op op_plusQ pe_int (pe_op op_modI (pv 4) (pv 3))) pa_nil))))
    (pss_cons (ps_setLc (i := 7) (own := [("_law_k", 8)]) rfl (sc_l_book).nd rfl rfl (sw_true rfl rfl rfl (by decide +kernel)) (pi_range1 (by rfl) B.b_range (pa_cons (pe_op op_plusQ pe_int (pe_op op_modI (pe_op op_floor (pv 4) pe_int) (pv 2))) pa_nil)) (blkOk_by (own := [("_law_k", 8)]) (N := N_l_book) (sc := defScope s_l_book) (by decide +kernel)) (fun _ _ _ _ _ => (pg_name (i := 8) (sc_l_book).nd rfl (Or.inl rfl))) (fun _ _ _ _ _ => pts_nil) (fun _ _ _ _ _ => (pe_callD D_l_day (hr.mono (by decide)) (by rfl) (pa_cons (pe_callD D_l_cell (hr.mono (by decide)) (by rfl) (pa_cons (pv 0) (pa_cons (pe_op op_plusQ (pe_op op_plusQ (pv 1) pe_int) (pv 8)) pa_nil))) (pa_cons (pv 5) (pa_cons (pv 6) pa_nil))))))
    (pss_cons (ps_if (pt_cmpR (op_eqD hr.units) (pe_op op_modI (pe_op op_floor (pv 4) pe_int) pe_int) pe_int (nomark _)) (pss_cons (ps_set (i := 8) (sc_l_book).nd rfl (Or.inl rfl) (pe_op op_modI (pe_op op_floor (pv 4) pe_int) (pe_callB call_lenA (by rfl) B.b_len (by decide +kernel) (pa_cons (pv 7) pa_nil))))
    (pss_cons (ps_set (i := 9) (sc_l_book).nd rfl (Or.inl rfl) (pe_op op_modI (pe_op op_floor (pv 4) pe_int) (pe_callB call_lenA (by rfl) B.b_len (by decide +kernel) (pa_cons (pv 6) pa_nil))))
    (pss_cons (ps_set (i := 10) (sc_l_book).nd rfl (Or.inl rfl) (pe_op op_plusQ (pe_op op_plusQ (pe_slice sl_any (pe_ix (ix_sub (hu_of hr)) (pe_ix (ix_sub (hu_of hr)) (pv 7) (pv 8) (fun _ _ => rfl)) pe_int (fun _ _ => rfl)) po_none (po_some (pv 9))) (pe_tup (pa_cons (pe_op op_plusQ (pe_ix (ix_sub (hu_of hr)) (pe_ix (ix_sub (hu_of hr)) (pe_ix (ix_sub (hu_of hr)) (pv 7) (pv 8) (fun _ _ => rfl)) pe_int (fun _ _ => rfl)) (pv 9) (fun _ _ => rfl)) pe_int) pa_nil))) (pe_slice sl_any (pe_ix (ix_sub (hu_of hr)) (pe_ix (ix_sub (hu_of hr)) (pv 7) (pv 8) (fun _ _ => rfl)) pe_int (fun _ _ => rfl)) (po_some (pe_op op_plusQ (pv 9) pe_int)) po_none)))
    (pss_one (ps_asg (pe_tup (pa_cons (pe_ix (ix_sub (hu_of hr)) (pe_ix (ix_sub (hu_of hr)) (pv 7) (pv 8) (fun _ _ => rfl)) pe_int (fun _ _ => rfl)) (pa_cons (pv 10) pa_nil))) (pg_sub (pv 7) (pv 8) (set_any (hu_of hr)))))))) pss_nil)
    (pss_one (ps_ret (pe_callTy call_tupA (by rfl) B.b_tuple (by decide +kernel) (pa_cons (pv 7) pa_nil)))))))))) ds_l_book
theorem bd_l_book (kV doc pm : Value) (an : Option Addr) (cdv ct : Value) (us : List Value) (hl : us.length = 4) : bindArgs (PySem.W.fnOf "_law_book" "_law_book" (defArgs s_l_book) (defBody s_l_book) (defScope s_l_book) .none kV doc pm an cdv ct) ⟨us, []⟩ = pure ((["_law_script", "_law_start", "_law_most", "_law_wares"] : List Str).zip us) :=
  match us, hl with | [_, _, _, _], _ => rfl
theorem sc_l_cost : FnScope N_l_cost ["_law_book_here", "_law_day_here", "_law_other"] (defScope s_l_cost) := ⟨rfl, rfl, rfl, by decide +kernel, rfl, by decide +kernel, by decide +kernel⟩
theorem ok_l_cost (h : Here K mg "_law_cost" s_l_cost ["_law_book_here", "_law_day_here", "_law_other"]) (B : Blt mg) :
    DefOk P w K mg base 1 "_law_cost" ["_law_book_here", "_law_day_here", "_law_other"] (sp_l_cost K) :=
  mkDef h sc_l_cost (fun _ => rfl) (fun f cdv A outer s H E hr => (pss_one (ps_ret (pe_callB (call_sumA rfl) (by rfl) B.b_sum (by decide +kernel) (pa_cons (pe_lc (own := [("_law_price_here", 3), ("_law_amount", 4)]) rfl (sc_l_cost).nd (RZ.pi_zipA (by rfl) B.b_zip (pa_cons (pe_ix (ix_sub (hu_of hr)) (pe_ix (ix_sub (hu_of hr)) (pv 0) (pv 1) (fun _ _ => rfl)) pe_int (fun _ _ => rfl)) (pa_cons (pe_ix (ix_sub (hu_of hr)) (pe_ix (ix_sub (hu_of hr)) (pv 0) (pv 2) (fun _ _ => rfl)) pe_int (fun _ _ => rfl)) pa_nil))) (blkOk_by (own := [("_law_price_here", 3), ("_law_amount", 4)]) (N := N_l_cost) (sc := defScope s_l_cost) (by decide +kernel)) (fun _ _ _ _ _ => (pg_tup (by rfl) (pgs_cons (pg_name (i := 3) (sc_l_cost).nd rfl (Or.inl rfl)) (pgs_cons (pg_name (i := 4) (sc_l_cost).nd rfl (Or.inl rfl)) pgs_nil)))) (fun _ _ _ _ _ => pts_nil) (fun _ _ _ _ _ => (pe_op op_times (pv 3) (pv 4)))) pa_nil))))) ds_l_cost
theorem bd_l_cost (kV doc pm : Value) (an : Option Addr) (cdv ct : Value) (us : List Value) (hl : us.length = 3) : bindArgs (PySem.W.fnOf "_law_cost" "_law_cost" (defArgs s_l_cost) (defBody s_l_cost) (defScope s_l_cost) .none kV doc pm an cdv ct) ⟨us, []⟩ = pure ((["_law_book_here", "_law_day_here", "_law_other"] : List Str).zip us) :=
  match us, hl with | [_, _, _], _ => rfl
theorem sc_l_asked : FnScope N_l_asked ["_law_way", "_law_book_here", "_law_day_here", "_law_other"] (defScope s_l_asked) := ⟨rfl, rfl, rfl, by decide +kernel, rfl, by decide +kernel, by decide +kernel⟩
theorem ok_l_asked (h : Here K mg "_law_asked" s_l_asked ["_law_way", "_law_book_here", "_law_day_here", "_law_other"])
    (D_p_cost : DefOkX P w K mg base 2 "cost" ["book", "day", "other"] (sp_p_cost K c_NoDay))
    (D_p_purse : DefOkX P w K mg base 3 "purse" ["book", "day"] (sp_p_purse K c_NoDay)) :
    DefOkX P w K mg base 4 "_law_asked" ["_law_way", "_law_book_here", "_law_day_here", "_law_other"] (sp_l_asked K c_NoDay) :=
  mkDefX h sc_l_asked len_l_asked (fun f cdv A outer s H E hr => (pss_cons (ps_if (pt_cmpR (op_eqD hr.units) (pv 0) pe_int (nomark _)) (pss_one (ps_ret (pe_callX D_p_cost (hr.mono (by decide)) (by rfl) (passes_call (takes_of rfl rfl rfl rfl) (fun _ _ _ _ h => h)) (pa_cons (pv 1) (pa_cons (pv 2) (pa_cons (pv 3) pa_nil)))))) pss_nil)
    (pss_one (ps_ret (pe_callX D_p_purse (hr.mono (by decide)) (by rfl) (passes_call (takes_of rfl rfl rfl rfl) (fun _ _ _ _ h => h)) (pa_cons (pv 1) (pa_cons (pv 2) pa_nil))))))) raw_l_asked
theorem bd_l_asked (kV doc pm : Value) (an : Option Addr) (cdv ct : Value) (us : List Value) (hl : us.length = 4) : bindArgs (PySem.W.fnOf "_law_asked" "_law_asked" (defArgs s_l_asked) (defBody s_l_asked) (defScope s_l_asked) .none kV doc pm an cdv ct) ⟨us, []⟩ = pure ((["_law_way", "_law_book_here", "_law_day_here", "_law_other"] : List Str).zip us) :=
  match us, hl with | [_, _, _, _], _ => rfl
theorem sc_l_refused : FnScope N_l_refused ["_law_way", "_law_book_here", "_law_day_here", "_law_other"] (defScope s_l_refused) := ⟨rfl, rfl, rfl, by decide +kernel, rfl, by decide +kernel, by decide +kernel⟩
theorem ok_l_refused (h : Here K mg "_law_refused" s_l_refused ["_law_way", "_law_book_here", "_law_day_here", "_law_other"]) (B : Blt mg) (T_NoDay : ExF K mg "NoDay" c_NoDay) (G_TasteError : mg "TasteError" = some (.ref c_TasteError)) (XC : ExcC K c_NoDay) (KL : Kls K c_NoDay c_TasteError)
    (D_l_asked : DefOkX P w K mg base 4 "_law_asked" ["_law_way", "_law_book_here", "_law_day_here", "_law_other"] (sp_l_asked K c_NoDay)) :
    DefOk P w K mg base 5 "_law_refused" ["_law_way", "_law_book_here", "_law_day_here", "_law_other"] (sp_l_refused K) :=
  mkDef h sc_l_refused (fun _ => rfl) (fun f cdv A outer s H E hr => (pss_cons (ps_set (i := 4) (sc_l_refused).nd rfl (Or.inl rfl) pe_bl)
    (pss_cons (ps_try_only rfl rfl ⟨by rfl, by decide, .inl T_NoDay.g⟩ takes0 (fun W pn xe tk _ => (pss_one (ps_expr (pe_callXS D_l_asked (hr.mono (by decide)) (by rfl) tk (pa_cons (pv 0) (pa_cons (pv 1) (pa_cons (pv 2) (pa_cons (pv 3) pa_nil)))))))) (fun a oe cls d pn _ _ => (pss_one (ps_set (i := 4) (sc_l_refused).nd rfl (Or.inl rfl) pe_bl))))
    (pss_cons (ps_try_as rfl rfl (sc_l_refused).nd rfl rfl ⟨by rfl, by decide, .inl G_TasteError⟩ takes0 (fun W pn xe tk _ => (pss_one (ps_expr (pe_callXS D_l_asked (hr.mono (by decide)) (by rfl) tk (pa_cons (pv 0) (pa_cons (pv 1) (pa_cons (pv 2) (pa_cons (pv 3) pa_nil)))))))) (fun a oe cls d pn hz hf => pss_given (fun e1 e2 => by subst e1; subst e2; exact (pss_one (ps_ret (pe_and (pv 4) (pe_one (pe_callB (call_isE XC hz hf) (by rfl) B.b_isinstance (by decide +kernel) (pa_cons (pv 5) (pa_cons (pe_ty "ValueError" (by rfl) B.b_ValueError (by decide +kernel)) pa_nil))))))))))
    (pss_one (ps_ret pe_bl)))))) (ds_l_refused KL)
theorem bd_l_refused (kV doc pm : Value) (an : Option Addr) (cdv ct : Value) (us : List Value) (hl : us.length = 4) : bindArgs (PySem.W.fnOf "_law_refused" "_law_refused" (defArgs s_l_refused) (defBody s_l_refused) (defScope s_l_refused) .none kV doc pm an cdv ct) ⟨us, []⟩ = pure ((["_law_way", "_law_book_here", "_law_day_here", "_law_other"] : List Str).zip us) :=
  match us, hl with | [_, _, _, _], _ => rfl
theorem sc_law : FnScope N_law ["_law_script"] (defScope s_law) := ⟨rfl, rfl, rfl, by decide +kernel, rfl, by decide +kernel, by decide +kernel⟩
theorem fn_law {f : Addr} {fd : FuncData} (F : Fun K "law" "law" s_law f fd) (B : Blt mg)
    (D_l_book : DefOk P w K mg base 4 "_law_book" ["_law_script", "_law_start", "_law_most", "_law_wares"] (sp_l_book K))
    (D_l_cell : DefOk P w K mg base 1 "_law_cell" ["_law_script", "_law_k"] (sp_l_cell K))
    (D_p_cost : DefOkX P w K mg base 2 "cost" ["book", "day", "other"] (sp_p_cost K c_NoDay))
    (D_l_int : DefOk P w K mg base 1 "_law_int" ["_law_found"] (sp_l_int K))
    (D_l_cost : DefOk P w K mg base 1 "_law_cost" ["_law_book_here", "_law_day_here", "_law_other"] (sp_l_cost K))
    (D_p_purse : DefOkX P w K mg base 3 "purse" ["book", "day"] (sp_p_purse K c_NoDay))
    (D_l_refused : DefOk P w K mg base 5 "_law_refused" ["_law_way", "_law_book_here", "_law_day_here", "_law_other"] (sp_l_refused K)) :
    FnOk P w K mg base CX0 6 f fd ["_law_script"] (sp_law K) :=
  mkFn F sc_law (fun _ => rfl) (fun f cdv A outer s H E hr => (pss_cons (ps_set (i := 1) (sc_law).nd rfl (Or.inl rfl) (pe_callD D_l_book (hr.mono (by decide)) (by rfl) (pa_cons (pv 0) (pa_cons pe_int (pa_cons pe_int (pa_cons pe_int pa_nil))))))
    (pss_cons (ps_set (i := 2) (sc_law).nd rfl (Or.inl rfl) (pe_callD D_l_cell (hr.mono (by decide)) (by rfl) (pa_cons (pv 0) (pa_cons pe_int pa_nil))))
    (pss_cons (ps_set (i := 3) (sc_law).nd rfl (Or.inl rfl) (pe_op op_modI (pv 2) (pe_callB call_lenA (by rfl) B.b_len (by decide +kernel) (pa_cons (pv 1) pa_nil))))
    (pss_cons (ps_set (i := 4) (sc_law).nd rfl (Or.inl rfl) (pe_op op_modI (pe_op op_floor (pv 2) pe_int) (pe_callB call_lenA (by rfl) B.b_len (by decide +kernel) (pa_cons (pv 1) pa_nil))))
    (pss_cons (ps_for PassesOwn.never rfl (pi_seq (pe_lst (pa_cons (pe_tup (pa_cons (pv 3) (pa_cons (pv 4) pa_nil))) (pa_cons (pe_tup (pa_cons (pv 4) (pa_cons (pv 3) pa_nil))) (pa_cons (pe_tup (pa_cons (pv 3) (pa_cons (pv 3) pa_nil))) pa_nil))))) (pg_tup (by rfl) (pgs_cons (pg_name (i := 5) (sc_law).nd rfl (Or.inl rfl)) (pgs_cons (pg_name (i := 6) (sc_law).nd rfl (Or.inl rfl)) pgs_nil))) (pss_cons (ps_set (i := 7) (sc_law).nd rfl (Or.inl rfl) (pe_callX D_p_cost (hr.mono (by decide)) (by rfl) passC (pa_cons (pv 1) (pa_cons (pv 5) (pa_cons (pv 6) pa_nil)))))
    (pss_one (ps_if (PW.pt (pw_or (pt_not (pt_val (pe_callD D_l_int (hr.mono (by decide)) (by rfl) (pa_cons (pv 7) pa_nil)))) (pw_or1 (pt_cmpR (op_neD hr.units) (pv 7) (pe_callD D_l_cost (hr.mono (by decide)) (by rfl) (pa_cons (pv 1) (pa_cons (pv 5) (pa_cons (pv 6) pa_nil)))) (nomark _))))) (pss_one (ps_ret pe_bl)) pss_nil))))
    (pss_cons (ps_for PassesOwn.never rfl (pi_range1 (by rfl) B.b_range (pa_cons (pe_callB call_lenA (by rfl) B.b_len (by decide +kernel) (pa_cons (pv 1) pa_nil)) pa_nil)) (pg_name (i := 5) (sc_law).nd rfl (Or.inl rfl)) (pss_cons (ps_set (i := 7) (sc_law).nd rfl (Or.inl rfl) (pe_callX D_p_purse (hr.mono (by decide)) (by rfl) passC (pa_cons (pv 1) (pa_cons (pv 5) pa_nil))))
    (pss_one (ps_if (PW.pt (pw_or (pt_not (pt_val (pe_callD D_l_int (hr.mono (by decide)) (by rfl) (pa_cons (pv 7) pa_nil)))) (pw_or1 (pt_cmpR (op_neD hr.units) (pv 7) (pe_callD D_l_cost (hr.mono (by decide)) (by rfl) (pa_cons (pv 1) (pa_cons (pv 5) (pa_cons (pv 5) pa_nil)))) (nomark _))))) (pss_one (ps_ret pe_bl)) pss_nil))))
    (pss_cons (ps_set (i := 8) (sc_law).nd rfl (Or.inl rfl) (pe_ix (ix_sub (hu_of hr)) (pe_lst (pa_cons pe_int (pa_cons (pe_op op_modI (pe_op op_floor (pv 2) pe_int) pe_int) (pa_cons (pe_op op_floor (pv 2) pe_int) pa_nil)))) (pe_op op_modI (pe_op op_floor (pv 2) pe_int) pe_int) (fun _ _ => rfl)))
    (pss_cons (ps_for PassesOwn.never rfl (pi_seq (pe_lst (pa_cons (pe_op op_plusQ (pe_callB call_lenA (by rfl) B.b_len (by decide +kernel) (pa_cons (pv 1) pa_nil)) (pv 8)) (pa_cons (pe_op op_subI (pe_un un_negI pe_int) (pv 8)) pa_nil)))) (pg_name (i := 9) (sc_law).nd rfl (Or.inl rfl)) (pss_cons (ps_if (PW.pt (pw_or (pt_not (pt_val (pe_callD D_l_refused (hr.mono (by decide)) (by rfl) (pa_cons pe_int (pa_cons (pv 1) (pa_cons (pv 9) (pa_cons (pv 3) pa_nil))))))) (pw_or1 (pt_not (pt_val (pe_callD D_l_refused (hr.mono (by decide)) (by rfl) (pa_cons pe_int (pa_cons (pv 1) (pa_cons (pv 3) (pa_cons (pv 9) pa_nil)))))))))) (pss_one (ps_ret pe_bl)) pss_nil)
    (pss_one (ps_if (PW.pt (pw_or (pt_not (pt_val (pe_callD D_l_refused (hr.mono (by decide)) (by rfl) (pa_cons pe_int (pa_cons (pv 1) (pa_cons (pv 9) (pa_cons (pv 9) pa_nil))))))) (pw_or1 (pt_not (pt_val (pe_callD D_l_refused (hr.mono (by decide)) (by rfl) (pa_cons pe_int (pa_cons (pv 1) (pa_cons (pv 9) (pa_cons (pv 9) pa_nil)))))))))) (pss_one (ps_ret pe_bl)) pss_nil))))
    (pss_one (ps_ret (pe_cmpR (op_eqD hr.units) (pe_callX D_p_cost (hr.mono (by decide)) (by rfl) passC (pa_cons (pv 1) (pa_cons (pv 3) (pa_cons (pv 4) pa_nil)))) (pe_callD D_l_cost (hr.mono (by decide)) (by rfl) (pa_cons (pv 1) (pa_cons (pv 3) (pa_cons (pv 4) pa_nil)))) (nomark _))))))))))))) ds_law
theorem bd_law (kV doc pm : Value) (an : Option Addr) (cdv ct : Value) (us : List Value) (hl : us.length = 1) : bindArgs (PySem.W.fnOf "law" "law" (defArgs s_law) (defBody s_law) (defScope s_law) .none kV doc pm an cdv ct) ⟨us, []⟩ = pure ((["_law_script"] : List Str).zip us) :=
  match us, hl with | [_], _ => rfl
end
theorem here_of {K : PySem.W.Frag} {mg : Str → Option Value} {h : Heap} {x : Str} {st : Stmt} {ps : List Str} {f : Addr} {oc : Value} {od an : Option Addr} {sl : Array (Option Value)} {kV dc pm cd ct : Value} (X : K.In h) (G : h.Ns mainGlobals mg)
    (a : PySem.W.nsIn K mainGlobals x = some (some (.ref f))) (l : K.lookup f = some ⟨oc, od, .func (PySem.W.fnOf x x (defArgs st) (defBody st) (defScope st) .none kV dc pm an cd ct), sl⟩) (c : PySem.W.codeIn K cd x = true) (k : PySem.W.keepIn K (.ref f) = true)
    (hb : ∀ (kV doc pm : Value) (an : Option Addr) (cdv ct : Value) (us : List Value), us.length = ps.length → bindArgs (PySem.W.fnOf x x (defArgs st) (defBody st) (defScope st) .none kV doc pm an cdv ct) ⟨us, []⟩ = pure (ps.zip us)) : Here K mg x st ps :=
  ⟨f, _, fun_mk l c k, PySem.W.mg_of X G a, (fun_mk l c k).binds hb⟩
theorem all_mk {l : PySem.W.OpenLaw} {w : World} {K : PySem.W.Frag} {h : Heap} {mg : Str → Option Value} {fa : Addr} (X : K.In h) (G : h.Ns mainGlobals mg) (hfa : mg "law" = some (.ref fa))
    {f0 : Addr} {od0 an0 : Option Addr} {sl0 : Array (Option Value)} {oc0 kV0 dc0 pm0 cd0 ct0 : Value}
    (a0 : PySem.W.nsIn K mainGlobals "known" = some (some (.ref f0))) (l0 : K.lookup f0 = some ⟨oc0, od0, .func (PySem.W.fnOf "known" "known" (defArgs s_p_known) (defBody s_p_known) (defScope s_p_known) .none kV0 dc0 pm0 an0 cd0 ct0), sl0⟩) (c0 : PySem.W.codeIn K cd0 "known" = true) (k0 : PySem.W.keepIn K (.ref f0) = true)
    {f1 : Addr} {od1 an1 : Option Addr} {sl1 : Array (Option Value)} {oc1 kV1 dc1 pm1 cd1 ct1 : Value}
    (a1 : PySem.W.nsIn K mainGlobals "paid" = some (some (.ref f1))) (l1 : K.lookup f1 = some ⟨oc1, od1, .func (PySem.W.fnOf "paid" "paid" (defArgs s_p_paid) (defBody s_p_paid) (defScope s_p_paid) .none kV1 dc1 pm1 an1 cd1 ct1), sl1⟩) (c1 : PySem.W.codeIn K cd1 "paid" = true) (k1 : PySem.W.keepIn K (.ref f1) = true)
    {f2 : Addr} {od2 an2 : Option Addr} {sl2 : Array (Option Value)} {oc2 kV2 dc2 pm2 cd2 ct2 : Value}
    (a2 : PySem.W.nsIn K mainGlobals "cost" = some (some (.ref f2))) (l2 : K.lookup f2 = some ⟨oc2, od2, .func (PySem.W.fnOf "cost" "cost" (defArgs s_p_cost) (defBody s_p_cost) (defScope s_p_cost) .none kV2 dc2 pm2 an2 cd2 ct2), sl2⟩) (c2 : PySem.W.codeIn K cd2 "cost" = true) (k2 : PySem.W.keepIn K (.ref f2) = true)
    {f3 : Addr} {od3 an3 : Option Addr} {sl3 : Array (Option Value)} {oc3 kV3 dc3 pm3 cd3 ct3 : Value}
    (a3 : PySem.W.nsIn K mainGlobals "purse" = some (some (.ref f3))) (l3 : K.lookup f3 = some ⟨oc3, od3, .func (PySem.W.fnOf "purse" "purse" (defArgs s_p_purse) (defBody s_p_purse) (defScope s_p_purse) .none kV3 dc3 pm3 an3 cd3 ct3), sl3⟩) (c3 : PySem.W.codeIn K cd3 "purse" = true) (k3 : PySem.W.keepIn K (.ref f3) = true)
    {f4 : Addr} {od4 an4 : Option Addr} {sl4 : Array (Option Value)} {oc4 kV4 dc4 pm4 cd4 ct4 : Value}
    (a4 : PySem.W.nsIn K mainGlobals "_law_cell" = some (some (.ref f4))) (l4 : K.lookup f4 = some ⟨oc4, od4, .func (PySem.W.fnOf "_law_cell" "_law_cell" (defArgs s_l_cell) (defBody s_l_cell) (defScope s_l_cell) .none kV4 dc4 pm4 an4 cd4 ct4), sl4⟩) (c4 : PySem.W.codeIn K cd4 "_law_cell" = true) (k4 : PySem.W.keepIn K (.ref f4) = true)
    {f5 : Addr} {od5 an5 : Option Addr} {sl5 : Array (Option Value)} {oc5 kV5 dc5 pm5 cd5 ct5 : Value}
    (a5 : PySem.W.nsIn K mainGlobals "_law_int" = some (some (.ref f5))) (l5 : K.lookup f5 = some ⟨oc5, od5, .func (PySem.W.fnOf "_law_int" "_law_int" (defArgs s_l_int) (defBody s_l_int) (defScope s_l_int) .none kV5 dc5 pm5 an5 cd5 ct5), sl5⟩) (c5 : PySem.W.codeIn K cd5 "_law_int" = true) (k5 : PySem.W.keepIn K (.ref f5) = true)
    {f6 : Addr} {od6 an6 : Option Addr} {sl6 : Array (Option Value)} {oc6 kV6 dc6 pm6 cd6 ct6 : Value}
    (a6 : PySem.W.nsIn K mainGlobals "_law_next" = some (some (.ref f6))) (l6 : K.lookup f6 = some ⟨oc6, od6, .func (PySem.W.fnOf "_law_next" "_law_next" (defArgs s_l_next) (defBody s_l_next) (defScope s_l_next) .none kV6 dc6 pm6 an6 cd6 ct6), sl6⟩) (c6 : PySem.W.codeIn K cd6 "_law_next" = true) (k6 : PySem.W.keepIn K (.ref f6) = true)
    {f7 : Addr} {od7 an7 : Option Addr} {sl7 : Array (Option Value)} {oc7 kV7 dc7 pm7 cd7 ct7 : Value}
    (a7 : PySem.W.nsIn K mainGlobals "_law_shape" = some (some (.ref f7))) (l7 : K.lookup f7 = some ⟨oc7, od7, .func (PySem.W.fnOf "_law_shape" "_law_shape" (defArgs s_l_shape) (defBody s_l_shape) (defScope s_l_shape) .none kV7 dc7 pm7 an7 cd7 ct7), sl7⟩) (c7 : PySem.W.codeIn K cd7 "_law_shape" = true) (k7 : PySem.W.keepIn K (.ref f7) = true)
    {f8 : Addr} {od8 an8 : Option Addr} {sl8 : Array (Option Value)} {oc8 kV8 dc8 pm8 cd8 ct8 : Value}
    (a8 : PySem.W.nsIn K mainGlobals "_law_best" = some (some (.ref f8))) (l8 : K.lookup f8 = some ⟨oc8, od8, .func (PySem.W.fnOf "_law_best" "_law_best" (defArgs s_l_best) (defBody s_l_best) (defScope s_l_best) .none kV8 dc8 pm8 an8 cd8 ct8), sl8⟩) (c8 : PySem.W.codeIn K cd8 "_law_best" = true) (k8 : PySem.W.keepIn K (.ref f8) = true)
    {f9 : Addr} {od9 an9 : Option Addr} {sl9 : Array (Option Value)} {oc9 kV9 dc9 pm9 cd9 ct9 : Value}
    (a9 : PySem.W.nsIn K mainGlobals "_law_bought" = some (some (.ref f9))) (l9 : K.lookup f9 = some ⟨oc9, od9, .func (PySem.W.fnOf "_law_bought" "_law_bought" (defArgs s_l_bought) (defBody s_l_bought) (defScope s_l_bought) .none kV9 dc9 pm9 an9 cd9 ct9), sl9⟩) (c9 : PySem.W.codeIn K cd9 "_law_bought" = true) (k9 : PySem.W.keepIn K (.ref f9) = true)
    {f10 : Addr} {od10 an10 : Option Addr} {sl10 : Array (Option Value)} {oc10 kV10 dc10 pm10 cd10 ct10 : Value}
    (a10 : PySem.W.nsIn K mainGlobals "_law_price" = some (some (.ref f10))) (l10 : K.lookup f10 = some ⟨oc10, od10, .func (PySem.W.fnOf "_law_price" "_law_price" (defArgs s_l_price) (defBody s_l_price) (defScope s_l_price) .none kV10 dc10 pm10 an10 cd10 ct10), sl10⟩) (c10 : PySem.W.codeIn K cd10 "_law_price" = true) (k10 : PySem.W.keepIn K (.ref f10) = true)
    {f11 : Addr} {od11 an11 : Option Addr} {sl11 : Array (Option Value)} {oc11 kV11 dc11 pm11 cd11 ct11 : Value}
    (a11 : PySem.W.nsIn K mainGlobals "_law_day" = some (some (.ref f11))) (l11 : K.lookup f11 = some ⟨oc11, od11, .func (PySem.W.fnOf "_law_day" "_law_day" (defArgs s_l_day) (defBody s_l_day) (defScope s_l_day) .none kV11 dc11 pm11 an11 cd11 ct11), sl11⟩) (c11 : PySem.W.codeIn K cd11 "_law_day" = true) (k11 : PySem.W.keepIn K (.ref f11) = true)
    {f12 : Addr} {od12 an12 : Option Addr} {sl12 : Array (Option Value)} {oc12 kV12 dc12 pm12 cd12 ct12 : Value}
    (a12 : PySem.W.nsIn K mainGlobals "_law_book" = some (some (.ref f12))) (l12 : K.lookup f12 = some ⟨oc12, od12, .func (PySem.W.fnOf "_law_book" "_law_book" (defArgs s_l_book) (defBody s_l_book) (defScope s_l_book) .none kV12 dc12 pm12 an12 cd12 ct12), sl12⟩) (c12 : PySem.W.codeIn K cd12 "_law_book" = true) (k12 : PySem.W.keepIn K (.ref f12) = true)
    {f13 : Addr} {od13 an13 : Option Addr} {sl13 : Array (Option Value)} {oc13 kV13 dc13 pm13 cd13 ct13 : Value}
    (a13 : PySem.W.nsIn K mainGlobals "_law_cost" = some (some (.ref f13))) (l13 : K.lookup f13 = some ⟨oc13, od13, .func (PySem.W.fnOf "_law_cost" "_law_cost" (defArgs s_l_cost) (defBody s_l_cost) (defScope s_l_cost) .none kV13 dc13 pm13 an13 cd13 ct13), sl13⟩) (c13 : PySem.W.codeIn K cd13 "_law_cost" = true) (k13 : PySem.W.keepIn K (.ref f13) = true)
    {f14 : Addr} {od14 an14 : Option Addr} {sl14 : Array (Option Value)} {oc14 kV14 dc14 pm14 cd14 ct14 : Value}
    (a14 : PySem.W.nsIn K mainGlobals "_law_asked" = some (some (.ref f14))) (l14 : K.lookup f14 = some ⟨oc14, od14, .func (PySem.W.fnOf "_law_asked" "_law_asked" (defArgs s_l_asked) (defBody s_l_asked) (defScope s_l_asked) .none kV14 dc14 pm14 an14 cd14 ct14), sl14⟩) (c14 : PySem.W.codeIn K cd14 "_law_asked" = true) (k14 : PySem.W.keepIn K (.ref f14) = true)
    {f15 : Addr} {od15 an15 : Option Addr} {sl15 : Array (Option Value)} {oc15 kV15 dc15 pm15 cd15 ct15 : Value}
    (a15 : PySem.W.nsIn K mainGlobals "_law_refused" = some (some (.ref f15))) (l15 : K.lookup f15 = some ⟨oc15, od15, .func (PySem.W.fnOf "_law_refused" "_law_refused" (defArgs s_l_refused) (defBody s_l_refused) (defScope s_l_refused) .none kV15 dc15 pm15 an15 cd15 ct15), sl15⟩) (c15 : PySem.W.codeIn K cd15 "_law_refused" = true) (k15 : PySem.W.keepIn K (.ref f15) = true)
    {f16 : Addr} {od16 an16 : Option Addr} {sl16 : Array (Option Value)} {oc16 kV16 dc16 pm16 cd16 ct16 : Value}
    (a16 : PySem.W.nsIn K mainGlobals "law" = some (some (.ref f16))) (l16 : K.lookup f16 = some ⟨oc16, od16, .func (PySem.W.fnOf "law" "law" (defArgs s_law) (defBody s_law) (defScope s_law) .none kV16 dc16 pm16 an16 cd16 ct16), sl16⟩) (c16 : PySem.W.codeIn K cd16 "law" = true) (k16 : PySem.W.keepIn K (.ref f16) = true)
    (z_ValueError : PySem.W.nsIn K mainGlobals "ValueError" = some none)
    (z_bool : PySem.W.nsIn K mainGlobals "bool" = some none)
    (z_int : PySem.W.nsIn K mainGlobals "int" = some none)
    (z_isinstance : PySem.W.nsIn K mainGlobals "isinstance" = some none)
    (z_len : PySem.W.nsIn K mainGlobals "len" = some none)
    (z_min : PySem.W.nsIn K mainGlobals "min" = some none)
    (z_range : PySem.W.nsIn K mainGlobals "range" = some none)
    (z_sum : PySem.W.nsIn K mainGlobals "sum" = some none)
    (z_tuple : PySem.W.nsIn K mainGlobals "tuple" = some none)
    (z_zip : PySem.W.nsIn K mainGlobals "zip" = some none)
    {c_NoDay c_TasteError : Addr} (u_NoDay : PySem.W.nsIn K mainGlobals "NoDay" = some (some (.ref c_NoDay))) (u_TasteError : PySem.W.nsIn K mainGlobals "TasteError" = some (some (.ref c_TasteError)))
    (u1 : PySem.W.excIn K c_NoDay [.type "ValueError", .type "Exception", .type "BaseException", .type "object"] "ValueError.__new__" = true) (u2 : PySem.W.keepIn K (.ref c_NoDay) = true) (u3 : PySem.W.subIn K (.ref c_NoDay) (.type "BaseException") = some true) (u4 : PySem.W.typeIn K (.ref c_NoDay) = some (.type "type"))
    (x1 : PySem.W.findIn K (.ref c_NoDay) "__getattribute__" = some (some (.builtin "BaseException.__getattribute__"))) (x2 : PySem.W.findIn K (.ref c_NoDay) "__getattr__" = some none) (x3 : PySem.W.hasDictIn K c_NoDay = true) (x4 : PySem.W.findIn K (.ref c_NoDay) "__class__" = some (some (.builtin "object.__class__")))
    (x5 : PySem.W.specialIn K (.builtin "object.__class__") "__get__" = some (some (.builtin "getset_descriptor.__get__"))) (x6 : PySem.W.takesIn K (.builtin "object.__class__") = some true) (x7 : PySem.W.mroIn K c_NoDay (.type "object") = some true)
    (v1 : PySem.W.subIn K (.ref c_TasteError) (.type "BaseException") = some true) (v2 : PySem.W.hasDictIn K c_TasteError = true) (v3 : PySem.W.typeIn K (.ref c_TasteError) = some (.type "type")) (v4 : PySem.W.subIn K (.ref c_NoDay) (.ref c_TasteError) = some true) (v5 : PySem.W.subIn K (.ref c_NoDay) (.ref c_NoDay) = some true) (m3 : PySem.W.kitOne K (.ref c_NoDay) (.type "ValueError") = some true) :
    ∃ fd : FuncData, (∀ (s : Shared) (v : Value), BindsTo s fd ⟨[v], []⟩ [("_law_script", v)]) ∧ ∀ base : Heap, K.In base → base.Ns mainGlobals mg → FnOk l.prog w K mg base CX0 6 fa fd ["_law_script"] (sp_law K) := by
  have e := hfa.symm.trans (PySem.W.mg_of X G a16)
  cases e
  have B : Blt mg := ⟨PySem.W.mg_none_of X G z_ValueError, PySem.W.mg_none_of X G z_bool, PySem.W.mg_none_of X G z_int, PySem.W.mg_none_of X G z_isinstance, PySem.W.mg_none_of X G z_len, PySem.W.mg_none_of X G z_min, PySem.W.mg_none_of X G z_range, PySem.W.mg_none_of X G z_sum, PySem.W.mg_none_of X G z_tuple, PySem.W.mg_none_of X G z_zip⟩
  have T_NoDay : ExF K mg "NoDay" c_NoDay := ⟨PySem.W.mg_of X G u_NoDay, u1, u2, u3, u4⟩
  have G_TasteError : mg "TasteError" = some (.ref c_TasteError) := PySem.W.mg_of X G u_TasteError
  have XC : ExcC K c_NoDay := ⟨x1, x2, u3, x3, x4, x5, x6, x7⟩
  have KL : Kls K c_NoDay c_TasteError := ⟨PySem.W.exm_ref u3 x3 u4 v5, PySem.W.exm_ref v1 v2 v3 v4, m3⟩
  have H_p_known : Here K mg "known" s_p_known ["book", "day"] := here_of X G a0 l0 c0 k0 bd_p_known
  have H_p_paid : Here K mg "paid" s_p_paid ["prices", "amounts"] := here_of X G a1 l1 c1 k1 bd_p_paid
  have H_p_cost : Here K mg "cost" s_p_cost ["book", "day", "other"] := here_of X G a2 l2 c2 k2 bd_p_cost
  have H_p_purse : Here K mg "purse" s_p_purse ["book", "day"] := here_of X G a3 l3 c3 k3 bd_p_purse
  have H_l_cell : Here K mg "_law_cell" s_l_cell ["_law_script", "_law_k"] := here_of X G a4 l4 c4 k4 bd_l_cell
  have H_l_int : Here K mg "_law_int" s_l_int ["_law_found"] := here_of X G a5 l5 c5 k5 bd_l_int
  have H_l_next : Here K mg "_law_next" s_l_next ["_law_cell_here"] := here_of X G a6 l6 c6 k6 bd_l_next
  have H_l_shape : Here K mg "_law_shape" s_l_shape ["_law_cell_here", "_law_wares"] := here_of X G a7 l7 c7 k7 bd_l_shape
  have H_l_best : Here K mg "_law_best" s_l_best ["_law_prices", "_law_shape_here", "_law_j"] := here_of X G a8 l8 c8 k8 bd_l_best
  have H_l_bought : Here K mg "_law_bought" s_l_bought ["_law_way", "_law_prices", "_law_amounts", "_law_shape_here", "_law_times"] := here_of X G a9 l9 c9 k9 bd_l_bought
  have H_l_price : Here K mg "_law_price" s_l_price ["_law_way", "_law_high"] := here_of X G a10 l10 c10 k10 bd_l_price
  have H_l_day : Here K mg "_law_day" s_l_day ["_law_cell_here", "_law_way", "_law_shape_here"] := here_of X G a11 l11 c11 k11 bd_l_day
  have H_l_book : Here K mg "_law_book" s_l_book ["_law_script", "_law_start", "_law_most", "_law_wares"] := here_of X G a12 l12 c12 k12 bd_l_book
  have H_l_cost : Here K mg "_law_cost" s_l_cost ["_law_book_here", "_law_day_here", "_law_other"] := here_of X G a13 l13 c13 k13 bd_l_cost
  have H_l_asked : Here K mg "_law_asked" s_l_asked ["_law_way", "_law_book_here", "_law_day_here", "_law_other"] := here_of X G a14 l14 c14 k14 bd_l_asked
  have H_l_refused : Here K mg "_law_refused" s_l_refused ["_law_way", "_law_book_here", "_law_day_here", "_law_other"] := here_of X G a15 l15 c15 k15 bd_l_refused
  refine ⟨PySem.W.fnOf "law" "law" (defArgs s_law) (defBody s_law) (defScope s_law) .none kV16 dc16 pm16 an16 cd16 ct16, fun s v => .of_eq rfl, fun base _ _ => ?_⟩
  have D_p_known := ok_p_known (P := l.prog) (w := w) (base := base) H_p_known B T_NoDay
  have D_p_paid := ok_p_paid (P := l.prog) (w := w) (base := base) H_p_paid B
  have D_p_cost := ok_p_cost (P := l.prog) (w := w) (base := base) H_p_cost D_p_known D_p_paid
  have D_p_purse := ok_p_purse (P := l.prog) (w := w) (base := base) H_p_purse D_p_cost
  have D_l_cell := ok_l_cell (P := l.prog) (w := w) (base := base) H_l_cell B
  have D_l_int := ok_l_int (P := l.prog) (w := w) (base := base) H_l_int B
  have D_l_next := ok_l_next (P := l.prog) (w := w) (base := base) H_l_next
  have D_l_shape := ok_l_shape (P := l.prog) (w := w) (base := base) H_l_shape B D_l_next
  have D_l_best := ok_l_best (P := l.prog) (w := w) (base := base) H_l_best B
  have D_l_bought := ok_l_bought (P := l.prog) (w := w) (base := base) H_l_bought B D_l_best
  have D_l_price := ok_l_price (P := l.prog) (w := w) (base := base) H_l_price
  have D_l_day := ok_l_day (P := l.prog) (w := w) (base := base) H_l_day B D_l_next D_l_price D_l_bought
  have D_l_book := ok_l_book (P := l.prog) (w := w) (base := base) H_l_book B D_l_cell D_l_shape D_l_day
  have D_l_cost := ok_l_cost (P := l.prog) (w := w) (base := base) H_l_cost B
  have D_l_asked := ok_l_asked (P := l.prog) (w := w) (base := base) H_l_asked D_p_cost D_p_purse
  have D_l_refused := ok_l_refused (P := l.prog) (w := w) (base := base) H_l_refused B T_NoDay G_TasteError XC KL D_l_asked
  exact fn_law (P := l.prog) (w := w) (base := base) (fun_mk (st := s_law) l16 c16 k16) B D_l_book D_l_cell D_p_cost D_l_int D_l_cost D_p_purse D_l_refused
theorem walk {l : PySem.W.OpenLaw} {q : Program} {loose : List Str} {XP : (Str → Option Value) → Heap → Prop} {YP : World → Heap → Prop} {d : DefRec} {K : Params → PySem.W.Frag} (hn : l.most = some 63) (hdf : d.params.defaults = [])
    (hY : ∀ (w : World) (h : Heap), YP w h → (K w.params).In h)
    (F : ∀ (w : World) (mg : Str → Option Value) (fa : Addr) (h : Heap), (K w.params).In h → h.Ns mainGlobals mg → mg d.name = some (.ref fa) →
      ∃ fd : FuncData, (∀ (s : Shared) (u : Value), BindsTo s fd ⟨[u], []⟩ [("_law_script", u)]) ∧ ∀ base : Heap, (K w.params).In base → base.Ns mainGlobals mg → FnOk l.prog w (K w.params) mg base CX0 6 fa fd ["_law_script"] (sp_law (K w.params))) :
    PySem.W.WalkO q loose XP YP l.row.toRowW d [] (fun f vs => PySem.call f vs) :=
  L2.walk_ofB (n := 63) (k := 6) (x := "_law_script") (CX := fun _ => CX0) (sp := fun w => sp_law (K w.params)) hn (by decide) hdf ⟨rfl, by decide, by decide⟩ hY F (fun w H a ns hl hb _ hS =>
    ⟨H, ns, Same.refl H, .cons (.lst hS (Reps.of_ints ns)) .nil, Scr.of hl hb, fun r v H' hr _ hR => by
      subst hr
      exact ret_true hR⟩) fun _ _ _ _ _ z => z
end TB
open PySem PySem.W PyProof.Rows
set_option maxRecDepth 100000 in
set_option maxHeartbeats 0 in
theorem PySem.Challenge.cw_tastesbook_k04_costs_holds : PySem.Challenge.rw_tastesbook_k04_costs.Holds := by
  w_on; o_law; k_head; (case hw => w_witness2)
  k_fill
  refine TB.walk (l := PySem.Challenge.rw_tastesbook_k04_costs) rfl rfl (fun w h Y => PySem.W.kIn_of Y) ?F
  case F =>
    intro w mg fa h KX G hmg
    refine' TB.all_mk KX G hmg ?a0 ?l0 ?c0 ?k0 ?a1 ?l1 ?c1 ?k1 ?a2 ?l2 ?c2 ?k2 ?a3 ?l3 ?c3 ?k3 ?a4 ?l4 ?c4 ?k4 ?a5 ?l5 ?c5 ?k5 ?a6 ?l6 ?c6 ?k6 ?a7 ?l7 ?c7 ?k7 ?a8 ?l8 ?c8 ?k8 ?a9 ?l9 ?c9 ?k9 ?a10 ?l10 ?c10 ?k10 ?a11 ?l11 ?c11 ?k11 ?a12 ?l12 ?c12 ?k12 ?a13 ?l13 ?c13 ?k13 ?a14 ?l14 ?c14 ?k14 ?a15 ?l15 ?c15 ?k15 ?a16 ?l16 ?c16 ?k16 ?z_ValueError ?z_bool ?z_int ?z_isinstance ?z_len ?z_min ?z_range ?z_sum ?z_tuple ?z_zip ?u_NoDay ?u_TasteError ?u1 ?u2 ?u3 ?u4 ?x1 ?x2 ?x3 ?x4 ?x5 ?x6 ?x7 ?v1 ?v2 ?v3 ?v4 ?v5 ?m3
    (case a0 => k_is)
    (case l0 => k_is)
    (case c0 => k_is)
    (case k0 => k_is)
    (case a1 => k_is)
    (case l1 => k_is)
    (case c1 => k_is)
    (case k1 => k_is)
    (case a2 => k_is)
    (case l2 => k_is)
    (case c2 => k_is)
    (case k2 => k_is)
    (case a3 => k_is)
    (case l3 => k_is)
    (case c3 => k_is)
    (case k3 => k_is)
    (case a4 => k_is)
    (case l4 => k_is)
    (case c4 => k_is)
    (case k4 => k_is)
    (case a5 => k_is)
    (case l5 => k_is)
    (case c5 => k_is)
    (case k5 => k_is)
    (case a6 => k_is)
    (case l6 => k_is)
    (case c6 => k_is)
    (case k6 => k_is)
    (case a7 => k_is)
    (case l7 => k_is)
    (case c7 => k_is)
    (case k7 => k_is)
    (case a8 => k_is)
    (case l8 => k_is)
    (case c8 => k_is)
    (case k8 => k_is)
    (case a9 => k_is)
    (case l9 => k_is)
    (case c9 => k_is)
    (case k9 => k_is)
    (case a10 => k_is)
    (case l10 => k_is)
    (case c10 => k_is)
    (case k10 => k_is)
    (case a11 => k_is)
    (case l11 => k_is)
    (case c11 => k_is)
    (case k11 => k_is)
    (case a12 => k_is)
    (case l12 => k_is)
    (case c12 => k_is)
    (case k12 => k_is)
    (case a13 => k_is)
    (case l13 => k_is)
    (case c13 => k_is)
    (case k13 => k_is)
    (case a14 => k_is)
    (case l14 => k_is)
    (case c14 => k_is)
    (case k14 => k_is)
    (case a15 => k_is)
    (case l15 => k_is)
    (case c15 => k_is)
    (case k15 => k_is)
    (case a16 => k_is)
    (case l16 => k_is)
    (case c16 => k_is)
    (case k16 => k_is)
    (case z_ValueError => k_is)
    (case z_bool => k_is)
    (case z_int => k_is)
    (case z_isinstance => k_is)
    (case z_len => k_is)
    (case z_min => k_is)
    (case z_range => k_is)
    (case z_sum => k_is)
    (case z_tuple => k_is)
    (case z_zip => k_is)
    (case u_NoDay => k_is)
    (case u_TasteError => k_is)
    (case u1 => k_exc)
    (case u2 => k_is)
    (case u3 => k_is)
    (case u4 => k_is)
    (case x1 => k_is)
    (case x2 => k_is)
    (case x3 => k_is)
    (case x4 => k_is)
    (case x5 => k_is)
    (case x6 => k_is)
    (case x7 => k_is)
    (case v1 => k_is)
    (case v2 => k_is)
    (case v3 => k_is)
    (case v4 => k_is)
    (case v5 => first | rfl | k_is)
    (case m3 => kit_is)
